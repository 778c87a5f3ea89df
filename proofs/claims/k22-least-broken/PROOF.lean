import PyProof.Rows.All
import Wide.All
import OpenK.AllK
import Wide.FinOn
import KE.KStateDown
import Lean
import HandS.Base
import HandS.Call
import HandS.Ends
import HandS.More
import HandS.Words
import HandS.WordsExc
import HandS.Defaults
import HandS.ExcInit
import HandS.ExcField
import HandS.Head0
import HandS.Head1
import HandS.Head2
import HandS.HeadEnd
import HandS.HeadHook1
import HandS.HeadHook2
import HandS.HeadHook4
import HandS.HeadNt
import HandS.HeadWalk
import PySem.Challenge.RW_knownguards_k22_whole_least_broken_rules
import HandS.ForMost
import HandS.Exc
import HandS.Lambda
import HandS.Deep
import HandS.IsInst
import HandS.TupAny
import HandS.TupMul
import HandS.SetFor
import HandS.Conv
import HandS.NoneIn
import HandS.Codes
import HandS.List
import HandS.TupSets
import HandS.SetKeys
import HandS.Comp
import HandS.Iter
import HandS.DictComp
import HandS.Strs
import HandS.ExcOwn
import KE.SortKeyHeap
import HandS.SortKw
import KE.KSortKey
import KE.KeyNested
import KE.KDictList
import PyProof.ReprLen
import HandS.EndTab
set_option Elab.async false
set_option linter.all false
set_option maxRecDepth 100000
set_option maxHeartbeats 0
/-! The head: the top's run in the kernel, what it leaves told by literal addresses. Printed by gen_head.py. -/
namespace KG
open L2 PySem PyProof.Rows PySem.Spec
abbrev RW : PySem.W.OpenLaw := PySem.Challenge.rw_knownguards_k22_whole_least_broken_rules
def top (i : Nat) : Stmt := PySem.Challenge.pw_knownguards_k22_whole_least_broken_rules.main.body.getD i (.Pass ⟨0, 0, 0, 0⟩)
abbrev s_is_whole : Stmt := top 12
abbrev s_is_sequence : Stmt := top 13
abbrev s_is_ascending : Stmt := top 14
abbrev s_check_step : Stmt := top 17
abbrev s_last_pocket : Stmt := top 18
abbrev s_check_program : Stmt := top 20
abbrev s_checked_steps : Stmt := top 21
abbrev s_goes_by_adds : Stmt := top 22
abbrev s_function_shape : Stmt := top 23
abbrev s_has_unlike_names : Stmt := top 24
abbrev s_check_weaving : Stmt := top 27
abbrev s_power_of : Stmt := top 29
abbrev s_checked_table : Stmt := top 30
abbrev s_checked_name : Stmt := top 31
abbrev s_digits_number : Stmt := top 32
abbrev s_check_meaning : Stmt := top 33
abbrev s_all_stores : Stmt := top 34
abbrev s_check_store : Stmt := top 35
abbrev s_stepped_worth : Stmt := top 36
abbrev s_moments_from : Stmt := top 37
abbrev s_whole_end : Stmt := top 38
abbrev s_run_weaving : Stmt := top 39
abbrev s_run_moments : Stmt := top 40
abbrev s_run_program : Stmt := top 41
abbrev s_check_stores : Stmt := top 44
abbrev s_weaving_move : Stmt := top 45
abbrev s_moves_of : Stmt := top 46
abbrev s_closed_under : Stmt := top 47
abbrev s_first_leaving : Stmt := top 48
abbrev s_rule_fault : Stmt := top 49
abbrev s_check_kept : Stmt := top 50
abbrev s_right_fault : Stmt := top 51
abbrev s_in_rule_order : Stmt := top 52
abbrev s_holds_all : Stmt := top 53
abbrev s_least_broken : Stmt := top 54
abbrev s_L_hand : Stmt := top 56
abbrev s_L_mixed : Stmt := top 57
abbrev s_L_take : Stmt := top 58
abbrev s_L_power : Stmt := top 59
abbrev s_L_sizes : Stmt := top 60
abbrev s_L_shape : Stmt := top 61
abbrev s_L_steps : Stmt := top 62
abbrev s_L_lot : Stmt := top 63
abbrev s_L_weavings : Stmt := top 64
abbrev s_L_weaving : Stmt := top 65
abbrev s_L_woven : Stmt := top 66
abbrev s_L_unwoven : Stmt := top 67
abbrev s_L_entry : Stmt := top 68
abbrev s_L_meant : Stmt := top 69
abbrev s_L_stores : Stmt := top 70
abbrev s_L_worn_meaning : Stmt := top 71
abbrev s_L_small_world : Stmt := top 72
abbrev s_L_told_meaning : Stmt := top 73
abbrev s_L_program_moves : Stmt := top 74
abbrev s_L_move : Stmt := top 75
abbrev s_L_subsets : Stmt := top 76
abbrev s_L_by_size : Stmt := top 77
abbrev s_L_stays : Stmt := top 78
abbrev s_L_leaves : Stmt := top 79
abbrev s_L_all_kept : Stmt := top 80
abbrev s_L_holds : Stmt := top 81
abbrev s_L_some : Stmt := top 82
abbrev s_L_back_program : Stmt := top 83
abbrev s_L_world : Stmt := top 84
abbrev s_L_least_among : Stmt := top 85
abbrev s_L_broken : Stmt := top 86
abbrev s_L_breaking : Stmt := top 87
abbrev s_L_unkept : Stmt := top 88
abbrev s_law : Stmt := top 89
abbrev s_NotKept_init : Stmt := inClass (top 10) 0
abbrev s_Lot_init : Stmt := inClass (top 25) 0
abbrev s_Meaning_init : Stmt := inClass (top 42) 0
abbrev s_Meaning_table_of : Stmt := inClass (top 42) 2
/-! ### what is seen of the heap -/
def cvalB (K : PySem.W.Frag) (C : Addr) (mc : Value) (f : Str) (u : Value) : Bool := match PySem.W.findCls K (.ref C) mc f with
  | some (.val v) => decide (v = u)
  | _ => false
/-- the def at f runs the code object at c -/
def codB (K : PySem.W.Frag) (f c : Addr) : Bool := match K.lookup f with
  | some ⟨_, _, .func fd, _⟩ => decide (fd.code = .ref c)
  | _ => false
def keyS (e : DictEntry) : Option Str := match e.key with
  | .str x _ => some x
  | _ => none
def refA (e : DictEntry) : Option Addr := match e.val with
  | .ref a => some a
  | _ => none
def pairsIn (K : PySem.W.Frag) : List (Option Str × Option Addr) := match K.lookup mainGlobals with
  | some ⟨_, _, .dict es _, _⟩ => es.toList.map fun e => (keyS e, refA e)
  | _ => []
/-- a class whose instances are plain -/
def clsB (K : PySem.W.Frag) (C : Addr) : Bool := PySem.W.plainGet K C Str.empty && (PySem.W.hasDictIn K C && (PySem.W.plainOver K C && He.eqO (PySem.W.findIn K (.ref C) "__setattr__") (some (some (.builtin "object.__setattr__")))))
def methB (K : PySem.W.Frag) (C : Addr) (m : Str) (f : Addr) : Bool := He.eqO (PySem.W.findIn K (.ref C) m) (some (some (.ref f))) && (PySem.W.isFn K (.ref f) && PySem.W.keepIn K (.ref f))
def mkB (K : PySem.W.Frag) (C f : Addr) : Bool := PySem.W.makesIn K C && (He.eqO (PySem.W.findIn K (.ref C) "__init__") (some (some (.ref f))) && (PySem.W.isFn K (.ref f) && PySem.W.keepIn K (.ref C)))
def noB (K : PySem.W.Frag) (C : Addr) (f : Str) : Bool := He.eqO (PySem.W.findIn K (.ref C) f) (some none)
def tupB (K : PySem.W.Frag) (a : Addr) (vs : List He.Dv) : Bool := match K.lookup a with
  | some ⟨.type c, _, .seq its _, _⟩ => decide (c = "tuple") && (decide (its.size ≤ sizeLine) && He.relAll (vs.map (He.Dv.v K)) its.toList)
  | _ => false
/-- an exception's class of the text, over ValueError by way of a class of the text -/
def oexB (K : PySem.W.Frag) (C : Addr) : Bool := match K.lookup C with
  | some ⟨c, _, .cls cd, sl⟩ => (decide (c = .type "type") && (decide (sl.size = 6) && decide (sl[4]? = some (some (.builtin "ValueError.__new__"))))) && (PySem.HandSPX.refsVE (cd.mro.drop 1) && (decide (cd.mro.head? = some (.ref C)) && (cd.hasDict && (!cd.hasDel && (He.eqO (PySem.W.findIn K (.ref C) "__setattr__") (some (some (.builtin "object.__setattr__"))) &&
      (decide (PySem.W.subIn K (.ref C) (.type "BaseException") = some true) && (decide (PySem.W.typeIn K (.ref C) = some (.type "type")) && PySem.W.keepIn K (.ref C))))))))
  | _ => false
def as0 : List Addr := [mainGlobals, cStatics, 331, 330, 454, 453, 184, 183, 31, 30, 181, 180, 270, 269, 437, 436, 451, 450, 209, 187, 194, 193, 201, 200, 208, 207, 216, 215, 223, 222, 230, 229, 237, 236, 244, 243, 251, 250, 258, 257, 342, 341, 349, 348, 354, 353, 361, 360, 368, 367, 375, 374, 380, 379, 387, 386, 392, 391, 397, 396]
def as1 : List Addr := [404, 403, 411, 410, 418, 417, 425, 424, 465, 464, 470, 469, 475, 474, 482, 481, 489, 488, 496, 495, 503, 502, 510, 509, 517, 516, 524, 523, 529, 528, 536, 535, 543, 542, 550, 549, 557, 556, 564, 563, 571, 570, 576, 575, 581, 580, 586, 585, 591, 590, 598, 597, 603, 602, 610, 609, 615, 614, 620, 619]
def as2 : List Addr := [625, 624, 632, 631, 637, 636, 642, 641, 649, 648, 654, 653, 661, 660, 668, 667, 675, 674, 680, 679, 687, 686, 692, 691, 697, 696, 702, 701, 707, 706, 712, 711, 717, 716, 724, 723, 729, 728]
def asL : List Addr := as0 ++ as1 ++ as2
def gl0 : List (Option Str × Option Addr) := [(some "__name__", none), (some "__doc__", none), (some "__package__", none), (some "__loader__", none), (some "__spec__", none), (some "__annotations__", some 6), (some "__builtins__", some 4), (some "__file__", none), (some "__cached__", none), (some "_wall", some 21), (some "GuardError", some 31), (some "BadStep", some 51), (some "BadLot", some 70), (some "NoProgram", some 89), (some "BadWeaving", some 108), (some "BadMeaning", some 127), (some "BadStore", some 146), (some "BadStores", some 165), (some "NotKept", some 184), (some "is_whole", some 194), (some "is_sequence", some 201), (some "is_ascending", some 208), (some "KINDS", some 209), (some "check_step", some 216), (some "last_pocket", some 223), (some "check_program", some 230), (some "checked_steps", some 237), (some "goes_by_adds", some 244), (some "function_shape", some 251), (some "has_unlike_names", some 258)]
def gl1 : List (Option Str × Option Addr) := [(some "Lot", some 331), (some "check_weaving", some 342), (some "power_of", some 349), (some "checked_table", some 354), (some "checked_name", some 361), (some "digits_number", some 368), (some "check_meaning", some 375), (some "all_stores", some 380), (some "check_store", some 387), (some "stepped_worth", some 392), (some "moments_from", some 397), (some "whole_end", some 404), (some "run_weaving", some 411), (some "run_moments", some 418), (some "run_program", some 425), (some "Meaning", some 454), (some "check_stores", some 465), (some "weaving_move", some 470), (some "moves_of", some 475), (some "closed_under", some 482), (some "first_leaving", some 489), (some "rule_fault", some 496), (some "check_kept", some 503), (some "right_fault", some 510), (some "in_rule_order", some 517), (some "holds_all", some 524), (some "least_broken", some 529), (some "_law_hand", some 536), (some "_law_mixed", some 543), (some "_law_take", some 550)]
def gl2 : List (Option Str × Option Addr) := [(some "_law_power", some 557), (some "_law_sizes", some 564), (some "_law_shape", some 571), (some "_law_steps", some 576), (some "_law_lot", some 581), (some "_law_weavings", some 586), (some "_law_weaving", some 591), (some "_law_woven", some 598), (some "_law_unwoven", some 603), (some "_law_entry", some 610), (some "_law_meant", some 615), (some "_law_stores", some 620), (some "_law_worn_meaning", some 625), (some "_law_small_world", some 632), (some "_law_told_meaning", some 637), (some "_law_program_moves", some 642), (some "_law_move", some 649), (some "_law_subsets", some 654), (some "_law_by_size", some 661), (some "_law_stays", some 668), (some "_law_leaves", some 675), (some "_law_all_kept", some 680), (some "_law_holds", some 687), (some "_law_some", some 692), (some "_law_back_program", some 697), (some "_law_world", some 702), (some "_law_least_among", some 707), (some "_law_broken", some 712), (some "_law_breaking", some 717), (some "_law_unkept", some 724)]
def gl3 : List (Option Str × Option Addr) := [(some "law", some 729)]
def gl : List (Option Str × Option Addr) := gl0 ++ gl1 ++ gl2 ++ gl3
/-! ### the defs -/
def d_is_whole : He5.DefA := ⟨fun _ => 194, "is_whole", "is_whole", defArgs s_is_whole, defBody s_is_whole, defScope s_is_whole, [.non, .non], []⟩
def d_is_sequence : He5.DefA := ⟨fun _ => 201, "is_sequence", "is_sequence", defArgs s_is_sequence, defBody s_is_sequence, defScope s_is_sequence, [], []⟩
def d_is_ascending : He5.DefA := ⟨fun _ => 208, "is_ascending", "is_ascending", defArgs s_is_ascending, defBody s_is_ascending, defScope s_is_ascending, [], []⟩
def d_check_step : He5.DefA := ⟨fun _ => 216, "check_step", "check_step", defArgs s_check_step, defBody s_check_step, defScope s_check_step, [], []⟩
def d_last_pocket : He5.DefA := ⟨fun _ => 223, "last_pocket", "last_pocket", defArgs s_last_pocket, defBody s_last_pocket, defScope s_last_pocket, [], []⟩
def d_check_program : He5.DefA := ⟨fun _ => 230, "check_program", "check_program", defArgs s_check_program, defBody s_check_program, defScope s_check_program, [], []⟩
def d_checked_steps : He5.DefA := ⟨fun _ => 237, "checked_steps", "checked_steps", defArgs s_checked_steps, defBody s_checked_steps, defScope s_checked_steps, [], []⟩
def d_goes_by_adds : He5.DefA := ⟨fun _ => 244, "goes_by_adds", "goes_by_adds", defArgs s_goes_by_adds, defBody s_goes_by_adds, defScope s_goes_by_adds, [], []⟩
def d_function_shape : He5.DefA := ⟨fun _ => 251, "function_shape", "function_shape", defArgs s_function_shape, defBody s_function_shape, defScope s_function_shape, [], []⟩
def d_has_unlike_names : He5.DefA := ⟨fun _ => 258, "has_unlike_names", "has_unlike_names", defArgs s_has_unlike_names, defBody s_has_unlike_names, defScope s_has_unlike_names, [], []⟩
def d_check_weaving : He5.DefA := ⟨fun _ => 342, "check_weaving", "check_weaving", defArgs s_check_weaving, defBody s_check_weaving, defScope s_check_weaving, [], []⟩
def d_power_of : He5.DefA := ⟨fun _ => 349, "power_of", "power_of", defArgs s_power_of, defBody s_power_of, defScope s_power_of, [], []⟩
def d_checked_table : He5.DefA := ⟨fun _ => 354, "checked_table", "checked_table", defArgs s_checked_table, defBody s_checked_table, defScope s_checked_table, [], []⟩
def d_checked_name : He5.DefA := ⟨fun _ => 361, "checked_name", "checked_name", defArgs s_checked_name, defBody s_checked_name, defScope s_checked_name, [], []⟩
def d_digits_number : He5.DefA := ⟨fun _ => 368, "digits_number", "digits_number", defArgs s_digits_number, defBody s_digits_number, defScope s_digits_number, [], []⟩
def d_check_meaning : He5.DefA := ⟨fun _ => 375, "check_meaning", "check_meaning", defArgs s_check_meaning, defBody s_check_meaning, defScope s_check_meaning, [], []⟩
def d_all_stores : He5.DefA := ⟨fun _ => 380, "all_stores", "all_stores", defArgs s_all_stores, defBody s_all_stores, defScope s_all_stores, [], []⟩
def d_check_store : He5.DefA := ⟨fun _ => 387, "check_store", "check_store", defArgs s_check_store, defBody s_check_store, defScope s_check_store, [], []⟩
def d_stepped_worth : He5.DefA := ⟨fun _ => 392, "stepped_worth", "stepped_worth", defArgs s_stepped_worth, defBody s_stepped_worth, defScope s_stepped_worth, [], []⟩
def d_moments_from : He5.DefA := ⟨fun _ => 397, "moments_from", "moments_from", defArgs s_moments_from, defBody s_moments_from, defScope s_moments_from, [], []⟩
def d_whole_end : He5.DefA := ⟨fun _ => 404, "whole_end", "whole_end", defArgs s_whole_end, defBody s_whole_end, defScope s_whole_end, [], []⟩
def d_run_weaving : He5.DefA := ⟨fun _ => 411, "run_weaving", "run_weaving", defArgs s_run_weaving, defBody s_run_weaving, defScope s_run_weaving, [], []⟩
def d_run_moments : He5.DefA := ⟨fun _ => 418, "run_moments", "run_moments", defArgs s_run_moments, defBody s_run_moments, defScope s_run_moments, [], []⟩
def d_run_program : He5.DefA := ⟨fun _ => 425, "run_program", "run_program", defArgs s_run_program, defBody s_run_program, defScope s_run_program, [], []⟩
def d_check_stores : He5.DefA := ⟨fun _ => 465, "check_stores", "check_stores", defArgs s_check_stores, defBody s_check_stores, defScope s_check_stores, [], []⟩
def d_weaving_move : He5.DefA := ⟨fun _ => 470, "weaving_move", "weaving_move", defArgs s_weaving_move, defBody s_weaving_move, defScope s_weaving_move, [], []⟩
def d_moves_of : He5.DefA := ⟨fun _ => 475, "moves_of", "moves_of", defArgs s_moves_of, defBody s_moves_of, defScope s_moves_of, [], []⟩
def d_closed_under : He5.DefA := ⟨fun _ => 482, "closed_under", "closed_under", defArgs s_closed_under, defBody s_closed_under, defScope s_closed_under, [], []⟩
def d_first_leaving : He5.DefA := ⟨fun _ => 489, "first_leaving", "first_leaving", defArgs s_first_leaving, defBody s_first_leaving, defScope s_first_leaving, [], []⟩
def d_rule_fault : He5.DefA := ⟨fun _ => 496, "rule_fault", "rule_fault", defArgs s_rule_fault, defBody s_rule_fault, defScope s_rule_fault, [], []⟩
def d_check_kept : He5.DefA := ⟨fun _ => 503, "check_kept", "check_kept", defArgs s_check_kept, defBody s_check_kept, defScope s_check_kept, [], []⟩
def d_right_fault : He5.DefA := ⟨fun _ => 510, "right_fault", "right_fault", defArgs s_right_fault, defBody s_right_fault, defScope s_right_fault, [], []⟩
def d_in_rule_order : He5.DefA := ⟨fun _ => 517, "in_rule_order", "in_rule_order", defArgs s_in_rule_order, defBody s_in_rule_order, defScope s_in_rule_order, [], []⟩
def d_holds_all : He5.DefA := ⟨fun _ => 524, "holds_all", "holds_all", defArgs s_holds_all, defBody s_holds_all, defScope s_holds_all, [], []⟩
def d_least_broken : He5.DefA := ⟨fun _ => 529, "least_broken", "least_broken", defArgs s_least_broken, defBody s_least_broken, defScope s_least_broken, [], []⟩
def d_L_hand : He5.DefA := ⟨fun _ => 536, "_law_hand", "_law_hand", defArgs s_L_hand, defBody s_L_hand, defScope s_L_hand, [], []⟩
def d_L_mixed : He5.DefA := ⟨fun _ => 543, "_law_mixed", "_law_mixed", defArgs s_L_mixed, defBody s_L_mixed, defScope s_L_mixed, [], []⟩
def d_L_take : He5.DefA := ⟨fun _ => 550, "_law_take", "_law_take", defArgs s_L_take, defBody s_L_take, defScope s_L_take, [], []⟩
def d_L_power : He5.DefA := ⟨fun _ => 557, "_law_power", "_law_power", defArgs s_L_power, defBody s_L_power, defScope s_L_power, [], []⟩
def d_L_sizes : He5.DefA := ⟨fun _ => 564, "_law_sizes", "_law_sizes", defArgs s_L_sizes, defBody s_L_sizes, defScope s_L_sizes, [], []⟩
def d_L_shape : He5.DefA := ⟨fun _ => 571, "_law_shape", "_law_shape", defArgs s_L_shape, defBody s_L_shape, defScope s_L_shape, [], []⟩
def d_L_steps : He5.DefA := ⟨fun _ => 576, "_law_steps", "_law_steps", defArgs s_L_steps, defBody s_L_steps, defScope s_L_steps, [], []⟩
def d_L_lot : He5.DefA := ⟨fun _ => 581, "_law_lot", "_law_lot", defArgs s_L_lot, defBody s_L_lot, defScope s_L_lot, [], []⟩
def d_L_weavings : He5.DefA := ⟨fun _ => 586, "_law_weavings", "_law_weavings", defArgs s_L_weavings, defBody s_L_weavings, defScope s_L_weavings, [], []⟩
def d_L_weaving : He5.DefA := ⟨fun _ => 591, "_law_weaving", "_law_weaving", defArgs s_L_weaving, defBody s_L_weaving, defScope s_L_weaving, [], []⟩
def d_L_woven : He5.DefA := ⟨fun _ => 598, "_law_woven", "_law_woven", defArgs s_L_woven, defBody s_L_woven, defScope s_L_woven, [], []⟩
def d_L_unwoven : He5.DefA := ⟨fun _ => 603, "_law_unwoven", "_law_unwoven", defArgs s_L_unwoven, defBody s_L_unwoven, defScope s_L_unwoven, [], []⟩
def d_L_entry : He5.DefA := ⟨fun _ => 610, "_law_entry", "_law_entry", defArgs s_L_entry, defBody s_L_entry, defScope s_L_entry, [], []⟩
def d_L_meant : He5.DefA := ⟨fun _ => 615, "_law_meant", "_law_meant", defArgs s_L_meant, defBody s_L_meant, defScope s_L_meant, [], []⟩
def d_L_stores : He5.DefA := ⟨fun _ => 620, "_law_stores", "_law_stores", defArgs s_L_stores, defBody s_L_stores, defScope s_L_stores, [], []⟩
def d_L_worn_meaning : He5.DefA := ⟨fun _ => 625, "_law_worn_meaning", "_law_worn_meaning", defArgs s_L_worn_meaning, defBody s_L_worn_meaning, defScope s_L_worn_meaning, [], []⟩
def d_L_small_world : He5.DefA := ⟨fun _ => 632, "_law_small_world", "_law_small_world", defArgs s_L_small_world, defBody s_L_small_world, defScope s_L_small_world, [], []⟩
def d_L_told_meaning : He5.DefA := ⟨fun _ => 637, "_law_told_meaning", "_law_told_meaning", defArgs s_L_told_meaning, defBody s_L_told_meaning, defScope s_L_told_meaning, [], []⟩
def d_L_program_moves : He5.DefA := ⟨fun _ => 642, "_law_program_moves", "_law_program_moves", defArgs s_L_program_moves, defBody s_L_program_moves, defScope s_L_program_moves, [], []⟩
def d_L_move : He5.DefA := ⟨fun _ => 649, "_law_move", "_law_move", defArgs s_L_move, defBody s_L_move, defScope s_L_move, [], []⟩
def d_L_subsets : He5.DefA := ⟨fun _ => 654, "_law_subsets", "_law_subsets", defArgs s_L_subsets, defBody s_L_subsets, defScope s_L_subsets, [], []⟩
def d_L_by_size : He5.DefA := ⟨fun _ => 661, "_law_by_size", "_law_by_size", defArgs s_L_by_size, defBody s_L_by_size, defScope s_L_by_size, [], []⟩
def d_L_stays : He5.DefA := ⟨fun _ => 668, "_law_stays", "_law_stays", defArgs s_L_stays, defBody s_L_stays, defScope s_L_stays, [], []⟩
def d_L_leaves : He5.DefA := ⟨fun _ => 675, "_law_leaves", "_law_leaves", defArgs s_L_leaves, defBody s_L_leaves, defScope s_L_leaves, [], []⟩
def d_L_all_kept : He5.DefA := ⟨fun _ => 680, "_law_all_kept", "_law_all_kept", defArgs s_L_all_kept, defBody s_L_all_kept, defScope s_L_all_kept, [], []⟩
def d_L_holds : He5.DefA := ⟨fun _ => 687, "_law_holds", "_law_holds", defArgs s_L_holds, defBody s_L_holds, defScope s_L_holds, [], []⟩
def d_L_some : He5.DefA := ⟨fun _ => 692, "_law_some", "_law_some", defArgs s_L_some, defBody s_L_some, defScope s_L_some, [], []⟩
def d_L_back_program : He5.DefA := ⟨fun _ => 697, "_law_back_program", "_law_back_program", defArgs s_L_back_program, defBody s_L_back_program, defScope s_L_back_program, [], []⟩
def d_L_world : He5.DefA := ⟨fun _ => 702, "_law_world", "_law_world", defArgs s_L_world, defBody s_L_world, defScope s_L_world, [], []⟩
def d_L_least_among : He5.DefA := ⟨fun _ => 707, "_law_least_among", "_law_least_among", defArgs s_L_least_among, defBody s_L_least_among, defScope s_L_least_among, [], []⟩
def d_L_broken : He5.DefA := ⟨fun _ => 712, "_law_broken", "_law_broken", defArgs s_L_broken, defBody s_L_broken, defScope s_L_broken, [], []⟩
def d_L_breaking : He5.DefA := ⟨fun _ => 717, "_law_breaking", "_law_breaking", defArgs s_L_breaking, defBody s_L_breaking, defScope s_L_breaking, [], []⟩
def d_L_unkept : He5.DefA := ⟨fun _ => 724, "_law_unkept", "_law_unkept", defArgs s_L_unkept, defBody s_L_unkept, defScope s_L_unkept, [], []⟩
def d_law : He5.DefA := ⟨fun _ => 729, "law", "law", defArgs s_law, defBody s_law, defScope s_law, [], []⟩
def d_NotKept_init : He5.DefA := ⟨fun _ => 181, "__init__", "NotKept.__init__", defArgs s_NotKept_init, defBody s_NotKept_init, defScope s_NotKept_init, [], []⟩
def d_Lot_init : He5.DefA := ⟨fun _ => 270, "__init__", "Lot.__init__", defArgs s_Lot_init, defBody s_Lot_init, defScope s_Lot_init, [], []⟩
def d_Meaning_init : He5.DefA := ⟨fun _ => 437, "__init__", "Meaning.__init__", defArgs s_Meaning_init, defBody s_Meaning_init, defScope s_Meaning_init, [], []⟩
def d_Meaning_table_of : He5.DefA := ⟨fun _ => 451, "table_of", "Meaning.table_of", defArgs s_Meaning_table_of, defBody s_Meaning_table_of, defScope s_Meaning_table_of, [], []⟩
def fn0 : List He5.DefA := [d_is_whole, d_is_sequence, d_is_ascending, d_check_step, d_last_pocket, d_check_program, d_checked_steps, d_goes_by_adds, d_function_shape, d_has_unlike_names, d_check_weaving, d_power_of, d_checked_table, d_checked_name, d_digits_number, d_check_meaning, d_all_stores, d_check_store, d_stepped_worth, d_moments_from, d_whole_end, d_run_weaving, d_run_moments, d_run_program, d_check_stores, d_weaving_move, d_moves_of, d_closed_under, d_first_leaving, d_rule_fault]
def fn1 : List He5.DefA := [d_check_kept, d_right_fault, d_in_rule_order, d_holds_all, d_least_broken, d_L_hand, d_L_mixed, d_L_take, d_L_power, d_L_sizes, d_L_shape, d_L_steps, d_L_lot, d_L_weavings, d_L_weaving, d_L_woven, d_L_unwoven, d_L_entry, d_L_meant, d_L_stores, d_L_worn_meaning, d_L_small_world, d_L_told_meaning, d_L_program_moves, d_L_move, d_L_subsets, d_L_by_size, d_L_stays, d_L_leaves, d_L_all_kept]
def fn2 : List He5.DefA := [d_L_holds, d_L_some, d_L_back_program, d_L_world, d_L_least_among, d_L_broken, d_L_breaking, d_L_unkept, d_law, d_NotKept_init, d_Lot_init, d_Meaning_init, d_Meaning_table_of]
def fn : List He5.DefA := fn0 ++ fn1 ++ fn2
def exL (K : PySem.W.Frag) : List Bool := [clsB K 331,
  clsB K 454,
  mkB K 331 270,
  mkB K 454 437,
  methB K 454 "table_of" 451,
  noB K 331 "cells",
  noB K 331 "programs",
  noB K 454 "modulus",
  noB K 454 "tables",
  tupB K 209 [.str "any", .str "kept", .str "adds"],
  oexB K 184,
  noB K 184 "program",
  noB K 184 "store",
  methB K 184 "__init__" 181,
  decide (PySem.W.exmOne K (.ref 184) (.ref 184) = some true),
  He.eqO (PySem.W.findIn K (.ref 31) "__init__") (some (some (.builtin "ValueError.__init__"))),
  decide (PySem.W.typeIn K (.ref 31) = some (.type "type")),
  xfB K 184,
  PySem.W.readsIn K 31 (.type "type"),
  He.eqO (PySem.W.specialIn K (.ref 31) "__getattribute__") (some (some (.builtin "type.__getattribute__"))),
  cvalB K 31 (.type "type") "__init__" (.builtin "ValueError.__init__"),
  codB K 517 516,
  codB K 661 660]
def tfL : List (Addr × Addr) := [(516, 512), (660, 656)]
def tabsB (g : Addr → Option Obj) (K : PySem.W.Frag) : Bool := tfL.all fun p => PySem.W.codeHdIn K p.1 p.2 && ((match g p.2 with
  | some o => He.emptyTab o
  | none => false) && (match K.lookup p.2 with
  | none => true
  | some _ => false))
abbrev Al : Type := (Bool × List He.FnW) × (List (Option Str × Option Addr) × (List Bool × Bool))
def obsK (g : Addr → Option Obj) (K : PySem.W.Frag) : Al := ((fn.all fun d => d.ok K, fn.map fun d => He5.fnA K (d.at_ K)), (pairsIn K, (exL K, tabsB g K)))
def valK : Al := ((true, fn.map He5.DefA.val), (gl, (List.replicate 23 true, true)))
structure SaysK (h : Heap) (K : PySem.W.Frag) : Prop where
  ok : ∀ d ∈ fn, d.ok K = true
  fns : fn.map (fun d => He5.fnA K (d.at_ K)) = fn.map He5.DefA.val
  prs : pairsIn K = gl
  ex : exL K = List.replicate 23 true
  hd : ∀ p ∈ tfL, PySem.W.codeHdIn K p.1 p.2 = true
  out : ∀ p ∈ tfL, K.lookup p.2 = none
  empty : ∀ p ∈ tfL, h.get? p.2 = some { cls := .none, data := .fields #[] }
def obsG (g : Addr → Option Obj) : Al := obsK g (He.frG g asL)
theorem says_of {h : Heap} (e : obsG h.get? = valK) : SaysK h (He.frG h.get? asL) := by
  have e1 := congrArg (fun z : Al => z.1.1) e
  have e2 := congrArg (fun z : Al => z.1.2) e
  have e3 := congrArg (fun z : Al => z.2.1) e
  have e4 := congrArg (fun z : Al => z.2.2.1) e
  have e5 := congrArg (fun z : Al => z.2.2.2) e
  have key : ∀ p ∈ tfL, PySem.W.codeHdIn (He.frG h.get? asL) p.1 p.2 = true ∧ (He.frG h.get? asL).lookup p.2 = none ∧ h.get? p.2 = some { cls := .none, data := .fields #[] } := fun p hp => by
    obtain ⟨h1, h2⟩ := He.ba (List.all_eq_true.mp e5 p hp)
    obtain ⟨h3, h4⟩ := He.ba h2
    refine ⟨h1, ?_, ?_⟩
    · cases q : (He.frG h.get? asL).lookup p.2 with
      | none => rfl
      | some o =>
        rw [q] at h4
        cases h4
    · cases q : h.get? p.2 with
      | none =>
        rw [q] at h3
        cases h3
      | some o =>
        rw [q] at h3
        rw [He.emptyTab_eq h3]
  exact ⟨fun d hd => List.all_eq_true.mp e1 d hd, e2, e3, e4, fun p hp => (key p hp).1, fun p hp => (key p hp).2.1, fun p hp => (key p hp).2.2⟩
def hk : PySem.W.Hook where
  α := Al
  obs := fun s => obsG s.heap.get?
  val := fun _ => valK
  says := fun _ h => ∃ K : PySem.W.Frag, K.In h ∧ SaysK h K
  of := fun _ _ e => ⟨_, He.frG_in, says_of e⟩
  keeps := fun _ _ _ ⟨K, hK, c⟩ k => ⟨K, PySem.W.Frag.In.keeps hK k, ⟨c.ok, c.fns, c.prs, c.ex, c.hd, c.out, fun p hp => k _ _ (c.empty p hp)⟩⟩
def loose0 : List Str := ["_wall", "GuardError", "BadStep", "BadLot", "NoProgram", "BadWeaving", "BadMeaning", "BadStore", "BadStores", "NotKept", "is_whole", "is_sequence", "is_ascending", "KINDS", "check_step", "last_pocket", "check_program", "checked_steps", "goes_by_adds", "function_shape", "has_unlike_names", "Lot", "check_weaving", "power_of", "checked_table", "checked_name", "digits_number", "check_meaning", "all_stores", "check_store"]
def loose1 : List Str := ["stepped_worth", "moments_from", "whole_end", "run_weaving", "run_moments", "run_program", "Meaning", "check_stores", "weaving_move", "moves_of", "closed_under", "first_leaving", "rule_fault", "check_kept", "right_fault", "in_rule_order", "holds_all", "least_broken", "_law_hand", "_law_mixed", "_law_take", "_law_power", "_law_sizes", "_law_shape", "_law_steps", "_law_lot", "_law_weavings", "_law_weaving", "_law_woven", "_law_unwoven"]
def loose2 : List Str := ["_law_entry", "_law_meant", "_law_stores", "_law_worn_meaning", "_law_small_world", "_law_told_meaning", "_law_program_moves", "_law_move", "_law_subsets", "_law_by_size", "_law_stays", "_law_leaves", "_law_all_kept", "_law_holds", "_law_some", "_law_back_program", "_law_world", "_law_least_among", "_law_broken", "_law_breaking", "_law_unkept"]
abbrev loose : List Str := loose0 ++ loose1 ++ loose2
abbrev R : PySem.W.OpenRow := PySem.W.OpenLaw.row RW
def ob (s : PySem.W.SharedT) : Al := obsG (HandSHeadRun.getT s)
theorem ob_eq (s : PySem.W.SharedT) : ob s = hk.obs s.abs := by
  have e : HandSHeadRun.getT s = s.abs.heap.get? := funext (HandSHeadRun.getT_eq s)
  unfold ob
  rw [e] <;> rfl
theorem run (w : World) : HandSHeadRun.RunEq R (PySem.W.view R.prog [89]) hk ob 60000 loose w := by
  intro os
  kernel_rfl
end KG
/-! DA: data without addresses (D), what bears them (Rp), owned objects (Om), good states (Sat, SlE), readings over them (rE, rT, rA, rS). -/
namespace KG
open L2 PySem PyProof.Rows PySem.Spec

/-- data: what a value stands for; ptr: an object that is owned, or of no interest -/
inductive D where
  | non | bl (b : Bool) | int (i : Int) | str (x : Str) | ty (n : String) | ptr (a : Addr)
  | tup (xs : List D) | tuf (xs : List D) | lst (xs : List D) | lsq (xs : List D) | dk (kvs : List (Key × D)) | dt (kvs : List (List Key × D)) | ob (C : Addr) (fs : List (Str × D))

mutual
/-- in the heap G the value v bears d -/
inductive Rp (K : PySem.W.Frag) (G : Hp) : V → D → Prop
  | non : Rp K G .non .non
  | bl (b : Bool) : Rp K G (.bl b) (.bl b)
  | int (i : Int) : Rp K G (.int i) (.int i)
  | str (x : Str) : Rp K G (.str x) (.str x)
  | ty (n : String) : Rp K G (.ty n) (.ty n)
  | ptr (a : Addr) : Rp K G (.ref a) (.ptr a)
  | tup {a : Addr} {vs : List V} {ds : List D} : G a = some (.tup vs) → RpAll K G vs ds → Rp K G (.ref a) (.tup ds)
  | tuf {a : Addr} {o : Obj} {vs : List V} {ds : List D} : G a = some (.frz o (.tup vs)) → o.cls = .type "tuple" → o.dict = none → RpAll K G vs ds → Rp K G (.ref a) (.tuf ds)
  | lst {a : Addr} {vs : List V} {ds : List D} : G a = some (.lst vs) → RpAll K G vs ds → Rp K G (.ref a) (.lst ds)
  | lsq {a : Addr} {vs : List V} {ds : List D} : SqL K G a vs → RpAll K G vs ds → Rp K G (.ref a) (.lsq ds)
  | dk {a : Addr} {ks : List Key} {vs : List V} {ds : List D} : Rd G a (.dK (ks.zip vs)) → RpAll K G vs ds → ks.length = vs.length → Rp K G (.ref a) (.dk (ks.zip ds))
  | dt {a : Addr} {ks : List (List Key)} {vs : List V} {ds : List D} : Rd G a (.dT (ks.zip vs)) → RpAll K G vs ds → ks.length = vs.length → Rp K G (.ref a) (.dt (ks.zip ds))
  | ob {a C dx : Addr} {ks : List Str} {vs : List V} {ds : List D} : G a = some (.ins C dx (ks.zip vs)) → RpAll K G vs ds → ks.length = vs.length → Rp K G (.ref a) (.ob C (ks.zip ds))
inductive RpAll (K : PySem.W.Frag) (G : Hp) : List V → List D → Prop
  | nil : RpAll K G [] []
  | cons {v : V} {vs : List V} {d : D} {ds : List D} : Rp K G v d → RpAll K G vs ds → RpAll K G (v :: vs) (d :: ds)
end

def Ex (G H : Hp) : Prop := ∀ a o, G a = some o → H a = some o
theorem Ex.refl (H : Hp) : Ex H H := fun _ _ h => h
theorem Ex.trans {H H1 H2 : Hp} (a : Ex H H1) (b : Ex H1 H2) : Ex H H2 := fun x o h => b x o (a x o h)
theorem Ex.new {H : Hp} {p : Addr} {o : HO} (h : H p = none) : Ex H (upd H p o) := fun a u e => by
  rw [upd_ne (ne_of_none e h)]
  exact e
theorem Ex.rd {H H' : Hp} {a : Addr} {u : HO} (e : Ex H H') (h : Rd H a u) : Rd H' a u := by
  rcases h with h | ⟨o, h⟩
  · exact .inl (e a _ h)
  · exact .inr ⟨o, e a _ h⟩
theorem Ex.sqL {K : PySem.W.Frag} {H H' : Hp} {a : Addr} {xs : List V} (e : Ex H H') (h : SqL K H a xs) : SqL K H' a xs := by
  rcases h with h | h
  · exact .inl (e.rd h)
  · exact .inr h
theorem Ex.fresh {H H' : Hp} {p : Addr} (e : Ex H H') (h : H' p = none) : H p = none := by
  cases q : H p with
  | none => rfl
  | some o =>
    rw [e p o q] at h
    cases h
mutual
theorem Rp.ex {K : PySem.W.Frag} {G G' : Hp} (e : Ex G G') : ∀ {v : V} {d : D}, Rp K G v d → Rp K G' v d
  | _, _, .non => .non
  | _, _, .bl b => .bl b
  | _, _, .int i => .int i
  | _, _, .str x => .str x
  | _, _, .ty n => .ty n
  | _, _, .ptr a => .ptr a
  | _, _, .tup h r => .tup (e _ _ h) (RpAll.ex e r)
  | _, _, .tuf h c n r => .tuf (e _ _ h) c n (RpAll.ex e r)
  | _, _, .lst h r => .lst (e _ _ h) (RpAll.ex e r)
  | _, _, .lsq h r => .lsq (e.sqL h) (RpAll.ex e r)
  | _, _, .dk h r l => .dk (e.rd h) (RpAll.ex e r) l
  | _, _, .dt h r l => .dt (e.rd h) (RpAll.ex e r) l
  | _, _, .ob h r l => .ob (e _ _ h) (RpAll.ex e r) l
theorem RpAll.ex {K : PySem.W.Frag} {G G' : Hp} (e : Ex G G') : ∀ {vs : List V} {ds : List D}, RpAll K G vs ds → RpAll K G' vs ds
  | _, _, .nil => .nil
  | _, _, .cons h r => .cons (Rp.ex e h) (RpAll.ex e r)
end
/-- what is known of data in G is known in G' -/
def Le (K : PySem.W.Frag) (G G' : Hp) : Prop := ∀ v d, Rp K G v d → Rp K G' v d
theorem Le.refl (K : PySem.W.Frag) (G : Hp) : Le K G G := fun _ _ h => h
theorem Le.trans {K : PySem.W.Frag} {G G1 G2 : Hp} (a : Le K G G1) (b : Le K G1 G2) : Le K G G2 := fun v d h => b v d (a v d h)
theorem Ex.le {K : PySem.W.Frag} {G G' : Hp} (e : Ex G G') : Le K G G' := fun _ _ h => h.ex e
theorem Le.all {K : PySem.W.Frag} {G G' : Hp} (e : Le K G G') : ∀ {vs : List V} {ds : List D}, RpAll K G vs ds → RpAll K G' vs ds
  | _, _, .nil => .nil
  | _, _, .cons h r => .cons (e _ _ h) (Le.all e r)
theorem RpAll.length {K : PySem.W.Frag} {G : Hp} : ∀ {vs : List V} {ds : List D}, RpAll K G vs ds → vs.length = ds.length
  | _, _, .nil => rfl
  | _, _, .cons _ r => congrArg (· + 1) r.length
theorem RpAll.append {K : PySem.W.Frag} {G : Hp} : ∀ {vs ws : List V} {ds es : List D}, RpAll K G vs ds → RpAll K G ws es → RpAll K G (vs ++ ws) (ds ++ es)
  | _, _, _, _, .nil, s => s
  | _, _, _, _, .cons h r, s => .cons h (r.append s)
theorem RpAll.get {K : PySem.W.Frag} {G : Hp} : ∀ {vs : List V} {ds : List D} {i : Nat} {d : D}, RpAll K G vs ds → ds[i]? = some d → ∃ v, vs[i]? = some v ∧ Rp K G v d
  | _, _, _, _, .nil, e => by simp at e
  | _, _, 0, _, .cons h _, e => by simp at e; subst e; exact ⟨_, rfl, h⟩
  | _, _, i + 1, _, .cons _ r, e => by
    obtain ⟨v, h1, h2⟩ := RpAll.get (i := i) r (by simpa using e)
    exact ⟨v, by simpa using h1, h2⟩
theorem RpAll.getV {K : PySem.W.Frag} {G : Hp} : ∀ {vs : List V} {ds : List D} {i : Nat} {v : V}, RpAll K G vs ds → vs[i]? = some v → ∃ d, ds[i]? = some d ∧ Rp K G v d
  | _, _, _, _, .nil, e => by simp at e
  | _, _, 0, _, .cons h _, e => by simp at e; subst e; exact ⟨_, rfl, h⟩
  | _, _, i + 1, _, .cons _ r, e => by
    obtain ⟨v, h1, h2⟩ := RpAll.getV (i := i) r (by simpa using e)
    exact ⟨v, by simpa using h1, h2⟩
theorem RpAll.set {K : PySem.W.Frag} {G : Hp} {v : V} {d : D} (h : Rp K G v d) : ∀ {vs : List V} {ds : List D} (i : Nat), RpAll K G vs ds → RpAll K G (vs.set i v) (ds.set i d)
  | _, _, _, .nil => .nil
  | _, _, 0, .cons _ r => .cons h r
  | _, _, i + 1, .cons q r => .cons q (RpAll.set h i r)
theorem RpAll.dropLast {K : PySem.W.Frag} {G : Hp} : ∀ {vs : List V} {ds : List D}, RpAll K G vs ds → RpAll K G vs.dropLast ds.dropLast
  | _, _, .nil => .nil
  | _, _, .cons _ .nil => .nil
  | _, _, .cons h (.cons h' r) => .cons h (RpAll.dropLast (.cons h' r))

/-! ### owned objects -/
inductive Ob where
  | lst (xs : List D) | dk (kvs : List (Key × D)) | dt (kvs : List (List Key × D)) | ob (C dx : Addr) (fs : List (Str × D))
abbrev Om := Addr → Option Ob
def put (Ω : Om) (l : Addr) (o : Ob) : Om := fun b => if b = l then some o else Ω b
def del (Ω : Om) (l : Addr) : Om := fun b => if b = l then none else Ω b
theorem put_same {Ω : Om} {l : Addr} {o : Ob} : put Ω l o l = some o := if_pos rfl
theorem put_ne {Ω : Om} {l b : Addr} {o : Ob} (h : b ≠ l) : put Ω l o b = Ω b := if_neg h
theorem del_same {Ω : Om} {l : Addr} : del Ω l l = none := if_pos rfl
theorem del_ne {Ω : Om} {l b : Addr} (h : b ≠ l) : del Ω l b = Ω b := if_neg h
theorem put_put {Ω : Om} {l : Addr} {o u : Ob} : put (put Ω l o) l u = put Ω l u := by
  funext b; unfold put; split <;> rfl
theorem del_put {Ω : Om} {l : Addr} {o : Ob} (h : Ω l = none) : del (put Ω l o) l = Ω := by
  funext b; unfold del put; split
  · subst b; exact h.symm
  · rfl
/-- Ω' owns what Ω owns, and more -/
def Sub (Ω Ω' : Om) : Prop := ∀ l o, Ω l = some o → Ω' l = some o
theorem Sub.refl (Ω : Om) : Sub Ω Ω := fun _ _ h => h
theorem Sub.trans {a b c : Om} (x : Sub a b) (y : Sub b c) : Sub a c := fun l o h => y l o (x l o h)
theorem Sub.put {Ω : Om} {l : Addr} {o : Ob} (h : Ω l = none) : Sub Ω (put Ω l o) := fun b u e => by
  rw [put_ne (fun z => by rw [z, h] at e; cases e)]; exact e
theorem Sub.putR {Ω Ω' : Om} {l : Addr} {o : Ob} (s : Sub Ω Ω') (h : Ω l = none) : Sub Ω (KG.put Ω' l o) := fun b u e => by
  rw [put_ne (fun z => by rw [z, h] at e; cases e)]; exact s b u e
theorem Sub.delR {Ω Ω' : Om} {l : Addr} (s : Sub Ω Ω') (h : Ω l = none) : Sub Ω (KG.del Ω' l) := fun b u e => by
  rw [del_ne (fun z => by rw [z, h] at e; cases e)]; exact s b u e

/-- what stands at an owned address -/
def ObAt (K : PySem.W.Frag) (G H : Hp) (l : Addr) : Ob → Prop
  | .lst ds => ∃ vs, H l = some (.lst vs) ∧ RpAll K G vs ds
  | .dk kvs => ∃ (ks : List Key) (vs : List V) (ds : List D), H l = some (.dK (ks.zip vs)) ∧ RpAll K G vs ds ∧ ks.length = vs.length ∧ kvs = ks.zip ds
  | .dt kvs => ∃ (ks : List (List Key)) (vs : List V) (ds : List D), H l = some (.dT (ks.zip vs)) ∧ RpAll K G vs ds ∧ ks.length = vs.length ∧ kvs = ks.zip ds
  | .ob C dx fs => ∃ (ks : List Str) (vs : List V) (ds : List D), H l = some (.ins C dx (ks.zip vs)) ∧ RpAll K G vs ds ∧ ks.length = vs.length ∧ fs = ks.zip ds
theorem ObAt.le {K : PySem.W.Frag} {G G' H H' : Hp} {l : Addr} {o : Ob} (e : Le K G G') (k : H' l = H l) (h : ObAt K G H l o) : ObAt K G' H' l o := by
  cases o with
  | lst ds => obtain ⟨vs, h1, h2⟩ := h; exact ⟨vs, k.trans h1, e.all h2⟩
  | dk kvs => obtain ⟨ks, vs, ds, h1, h2, h3⟩ := h; exact ⟨ks, vs, ds, k.trans h1, e.all h2, h3⟩
  | dt kvs => obtain ⟨ks, vs, ds, h1, h2, h3⟩ := h; exact ⟨ks, vs, ds, k.trans h1, e.all h2, h3⟩
  | ob C dx fs => obtain ⟨ks, vs, ds, h1, h2, h3⟩ := h; exact ⟨ks, vs, ds, k.trans h1, e.all h2, h3⟩
/-- what may stand at an owned address is no table, no code object, no tuple -/
def Own : HO → Prop
  | .lst _ => True
  | .dK _ => True
  | .dT _ => True
  | .ins _ _ _ => True
  | _ => False
theorem ObAt.own {K : PySem.W.Frag} {G H : Hp} {l : Addr} {o : Ob} (h : ObAt K G H l o) : ∃ u, H l = some u ∧ Own u := by
  cases o with
  | lst ds => obtain ⟨vs, h1, _⟩ := h; exact ⟨_, h1, trivial⟩
  | dk kvs => obtain ⟨ks, vs, ds, h1, _⟩ := h; exact ⟨_, h1, trivial⟩
  | dt kvs => obtain ⟨ks, vs, ds, h1, _⟩ := h; exact ⟨_, h1, trivial⟩
  | ob C dx fs => obtain ⟨ks, vs, ds, h1, _⟩ := h; exact ⟨_, h1, trivial⟩

/-! ### good states -/
abbrev TabL := List (Addr × Str)
/-- G: what is frozen; Ω: what is owned; T: the tables of code objects; B: what was frozen at the entry -/
structure Sat (K : PySem.W.Frag) (T : TabL) (B G H : Hp) (Ω : Om) : Prop where
  ex : Ex G H
  own : ∀ l o, Ω l = some o → G l = none ∧ ObAt K G H l o
  tab : LamX.Tabs T H
  base : Le K B G
abbrev Dl := List (Option D)
structure SlE (K : PySem.W.Frag) (G : Hp) (σ : L2.St) (Δ : Dl) : Prop where
  len : σ.length = Δ.length
  at_ : ∀ (i : Nat) (d : D), Δ[i]? = some (some d) → ∃ v, σ[i]? = some (some v) ∧ Rp K G v d
section
variable {K : PySem.W.Frag} {T : TabL} {B G G' H H' : Hp} {Ω Ω' : Om} {σ : L2.St} {Δ : Dl}
theorem SlE.le (e : SlE K G σ Δ) (h : Le K G G') : SlE K G' σ Δ := ⟨e.len, fun i d q => by
  obtain ⟨v, h1, h2⟩ := e.at_ i d q
  exact ⟨v, h1, h _ _ h2⟩⟩
theorem SlE.set (e : SlE K G σ Δ) {i : Nat} {v : V} {d : D} (h : Rp K G v d) : SlE K G (σ.set i (some v)) (Δ.set i (some d)) := ⟨by simpa using e.len, fun j c q => by
  by_cases hj : i = j
  · subst hj
    have hl : i < Δ.length := by
      have := (List.getElem?_eq_some_iff.mp q).1
      simpa using this
    rw [List.getElem?_set_self hl] at q
    cases q
    exact ⟨v, by rw [List.getElem?_set_self (by rw [e.len]; exact hl)], h⟩
  · rw [List.getElem?_set_ne hj] at q ⊢
    exact e.at_ j c q⟩
theorem Sat.sub (s : Sat K T B G H Ω') (h : Sub Ω Ω') : Sat K T B G H Ω := ⟨s.ex, fun l o e => s.own l o (h l o e), s.tab, s.base⟩
theorem Sat.free (s : Sat K T B G H Ω) {p : Addr} (h : H p = none) : G p = none ∧ Ω p = none := by
  refine ⟨s.ex.fresh h, ?_⟩
  cases q : Ω p with
  | none => rfl
  | some o =>
    obtain ⟨u, e, _⟩ := (s.own p o q).2.own
    rw [h] at e; cases e
/-- a new object, frozen -/
theorem Sat.newG (s : Sat K T B G H Ω) {p : Addr} {o : HO} (h : H p = none) : Sat K T B (upd G p o) (upd H p o) Ω := by
  obtain ⟨hG, hO⟩ := s.free h
  refine ⟨fun a u e => ?_, fun l ob e => ?_, s.tab.ext fun b o e => Ex.new h b o e, s.base.trans (Ex.new hG).le⟩
  · by_cases hp : a = p
    · subst hp; rw [upd_same] at e ⊢; exact e
    · rw [upd_ne hp] at e ⊢; exact s.ex a u e
  · have hl : l ≠ p := fun z => by rw [z, hO] at e; cases e
    obtain ⟨h1, h2⟩ := s.own l ob e
    exact ⟨by rw [upd_ne hl]; exact h1, h2.le (Ex.new hG).le (upd_ne hl)⟩
/-- a new object, owned -/
theorem Sat.newO (s : Sat K T B G H Ω) {p : Addr} {o : HO} {ob : Ob} (h : H p = none) (hb : ObAt K G (upd H p o) p ob) : Sat K T B G (upd H p o) (put Ω p ob) := by
  obtain ⟨hG, hO⟩ := s.free h
  refine ⟨fun a u e => Ex.new h a u (s.ex a u e), fun l o' e => ?_, s.tab.ext fun b o e => Ex.new h b o e, s.base⟩
  by_cases hl : l = p
  · subst hl; rw [put_same] at e; cases e; exact ⟨hG, hb⟩
  · rw [put_ne hl] at e
    obtain ⟨h1, h2⟩ := s.own l o' e
    exact ⟨h1, h2.le (Le.refl K G) (upd_ne hl)⟩
theorem tabs_write {T : TabL} {H : Hp} {l : Addr} {u o : HO} (t : LamX.Tabs T H) (hl : H l = some u) (hu : Own u) : LamX.Tabs T (upd H l o) := fun p hp => by
  obtain ⟨ps, h1, h2, h3⟩ := t p hp
  have n1 : p.1 ≠ l := fun z => by rw [z, hl] at h1; cases h1; exact hu
  refine ⟨ps, by rw [upd_ne n1]; exact h1, h2, fun pos cv hc => ?_⟩
  obtain ⟨c, e1, e2⟩ := h3 pos cv hc
  refine ⟨c, e1, ?_⟩
  have n2 : c ≠ l := fun z => by
    rw [z, hl] at e2
    have e3 := Option.some.inj e2
    rw [e3] at hu
    exact hu
  rw [upd_ne n2]; exact e2
/-- an owned object is written -/
theorem Sat.write (s : Sat K T B G H Ω) {l : Addr} {ob ob' : Ob} {o : HO} (h : Ω l = some ob) (hb : ObAt K G (upd H l o) l ob') : Sat K T B G (upd H l o) (put Ω l ob') := by
  obtain ⟨hG, h2⟩ := s.own l ob h
  obtain ⟨u, hu, ho⟩ := h2.own
  refine ⟨fun a v e => ?_, fun m o' e => ?_, tabs_write s.tab hu ho, s.base⟩
  · have : a ≠ l := fun z => by rw [z, hG] at e; cases e
    rw [upd_ne this]; exact s.ex a v e
  · by_cases hm : m = l
    · subst hm; rw [put_same] at e; cases e; exact ⟨hG, hb⟩
    · rw [put_ne hm] at e
      obtain ⟨h1, h3⟩ := s.own m o' e
      exact ⟨h1, h3.le (Le.refl K G) (upd_ne hm)⟩
/-- an owned object is frozen -/
theorem Sat.freeze (s : Sat K T B G H Ω) {l : Addr} {ob : Ob} (h : Ω l = some ob) : ∃ G', Le K G G' ∧ Sat K T B G' H (del Ω l) ∧ ∃ u, H l = some u ∧ G' = upd G l u := by
  obtain ⟨hG, h2⟩ := s.own l ob h
  obtain ⟨u, hu, ho⟩ := h2.own
  refine ⟨upd G l u, (Ex.new hG).le, ⟨fun a v e => ?_, fun m o' e => ?_, s.tab, s.base.trans (Ex.new hG).le⟩, u, hu, rfl⟩
  · by_cases ha : a = l
    · subst ha; rw [upd_same] at e; cases e; exact hu
    · rw [upd_ne ha] at e; exact s.ex a v e
  · have hm : m ≠ l := fun z => by rw [z, del_same] at e; cases e
    rw [del_ne hm] at e
    obtain ⟨h1, h3⟩ := s.own m o' e
    exact ⟨by rw [upd_ne hm]; exact h1, h3.le (Ex.new hG).le rfl⟩
end
/-- an owned object as data -/
def Ob.d : Ob → D
  | .lst xs => .lst xs
  | .dk kvs => .dk kvs
  | .dt kvs => .dt kvs
  | .ob C _ fs => .ob C fs
theorem Sat.frozen {K : PySem.W.Frag} {T : TabL} {B G H : Hp} {Ω : Om} {l : Addr} {ob : Ob} (s : Sat K T B G H Ω) (h : Ω l = some ob) : ∃ G', Le K G G' ∧ Sat K T B G' H (del Ω l) ∧ Rp K G' (.ref l) ob.d := by
  obtain ⟨G', h1, h2, u, hu, rfl⟩ := s.freeze h
  refine ⟨_, h1, h2, ?_⟩
  have h3 := (s.own l ob h).2
  cases ob with
  | lst ds => obtain ⟨vs, e, r⟩ := h3; rw [hu] at e; cases e; exact .lst upd_same (h1.all r)
  | dk kvs => obtain ⟨ks, vs, ds, e, r, l, rfl⟩ := h3; rw [hu] at e; cases e; exact .dk (.inl upd_same) (h1.all r) l
  | dt kvs => obtain ⟨ks, vs, ds, e, r, l, rfl⟩ := h3; rw [hu] at e; cases e; exact .dt (.inl upd_same) (h1.all r) l
  | ob C dx fs => obtain ⟨ks, vs, ds, e, r, l, rfl⟩ := h3; rw [hu] at e; cases e; exact .ob upd_same (h1.all r) l

/-- a tuple that is in H is known -/
theorem Sat.know {K : PySem.W.Frag} {T : TabL} {B G H : Hp} {Ω : Om} {b : Addr} {vs : List V} (s : Sat K T B G H Ω) (h : H b = some (.tup vs)) : Sat K T B (upd G b (.tup vs)) H Ω ∧ Le K G (upd G b (.tup vs)) := by
  have e : Ex G (upd G b (.tup vs)) := fun a o q => by
    by_cases ha : a = b
    · subst ha
      have := s.ex a o q
      rw [h] at this
      rw [upd_same]; exact this
    · rw [upd_ne ha]; exact q
  refine ⟨⟨fun a o q => ?_, fun l o q => ?_, s.tab, s.base.trans e.le⟩, e.le⟩
  · by_cases ha : a = b
    · subst ha; rw [upd_same] at q; cases q; exact h
    · rw [upd_ne ha] at q; exact s.ex a o q
  · obtain ⟨h1, h2⟩ := s.own l o q
    have hl : l ≠ b := fun z => by
      obtain ⟨u, hu, ho⟩ := h2.own
      rw [z, h] at hu
      cases hu
      exact ho
    exact ⟨by rw [upd_ne hl]; exact h1, h2.le e.le rfl⟩

/-! ### readings -/
abbrev DK := D → Om → Prop
abbrev ME := Om → Dl → DK → Prop
abbrev MT := Om → Dl → (Bool → Om → Prop) → Prop
abbrev MA := Om → Dl → (List D → Om → Prop) → Prop
structure Ke where
  nx : Om → Dl → Prop
  rt : DK
  bk : Om → Dl → Prop := fun _ _ => False
  ct : Om → Dl → Prop := fun _ _ => False
abbrev MS := Om → Dl → Ke → Prop
section
variable (K : PySem.W.Frag) (T : TabL) (B : Hp)
/-- what is wanted of a value, said of data -/
def WK (G : Hp) (P : DK) (Q : VK) : Prop := ∀ v d Ω G' H, Le K G G' → Sat K T B G' H Ω → Rp K G' v d → P d Ω → Q v H
def rE (m : ME) : TE := fun σ H Q => ∃ G Ω Δ P, Sat K T B G H Ω ∧ SlE K G σ Δ ∧ m Ω Δ P ∧ WK K T B G P Q
def rT (m : MT) : TT := fun σ H Q => ∃ G Ω Δ P, Sat K T B G H Ω ∧ SlE K G σ Δ ∧ m Ω Δ P ∧ ∀ b Ω' G' H', Le K G G' → Sat K T B G' H' Ω' → P b Ω' → Q b H'
def rA (m : MA) : TA := fun σ H Q => ∃ G Ω Δ P, Sat K T B G H Ω ∧ SlE K G σ Δ ∧ m Ω Δ P ∧ ∀ vs ds Ω' G' H', Le K G G' → Sat K T B G' H' Ω' → RpAll K G' vs ds → P ds Ω' → Q vs H'
def WS (G : Hp) (P : Om → Dl → Prop) (Q : L2.St → Hp → Prop) : Prop := ∀ σ Δ Ω G' H, Le K G G' → Sat K T B G' H Ω → SlE K G' σ Δ → P Ω Δ → Q σ H
structure WEnds (G : Hp) (k : Ke) (E : Ends) : Prop where
  nx : WS K T B G k.nx E.nx
  rt : WK K T B G k.rt E.rt
  bk : WS K T B G k.bk E.bk
  ct : WS K T B G k.ct E.ct
def rS (m : MS) : TS := fun E σ H => ∃ G Ω Δ k, Sat K T B G H Ω ∧ SlE K G σ Δ ∧ m Ω Δ k ∧ WEnds K T B G k E
end
section
variable {X : Cx}
theorem peM {e : Expr} {t u : TE} (h : PE X e t) (i : ∀ σ H Q, u σ H Q → t σ H Q) : PE X e u := ⟨fun pins s σ H Q I q => h.run pins s σ H Q I (i σ H Q q)⟩
theorem ptM {e : Expr} {t u : TT} (h : PT X e t) (i : ∀ σ H Q, u σ H Q → t σ H Q) : PT X e u := ⟨fun pins s σ H Q I q => h.run pins s σ H Q I (i σ H Q q)⟩
theorem paM {e : List Expr} {t u : TA} (h : PA X e t) (i : ∀ σ H Q, u σ H Q → t σ H Q) : PA X e u := ⟨fun pos pins s σ H Q I q => h.run pos pins s σ H Q I (i σ H Q q)⟩
theorem psM {e : Stmt} {t u : TS} (h : PS X e t) (i : ∀ E σ H, u E σ H → t E σ H) : PS X e u := ⟨fun pins s σ H E I q => h.run pins s σ H E I (i E σ H q)⟩
theorem pssM {e : List Stmt} {t u : TS} (h : PSs X e t) (i : ∀ E σ H, u E σ H → t E σ H) : PSs X e u := ⟨fun pins s σ H E I q => h.run pins s σ H E I (i E σ H q)⟩
end
theorem WK.le {K : PySem.W.Frag} {T : TabL} {B G G' : Hp} {P : DK} {Q : VK} (w : WK K T B G P Q) (e : Le K G G') : WK K T B G' P Q := fun v d Ω G2 H l s r p => w v d Ω G2 H (e.trans l) s r p
theorem WS.le {K : PySem.W.Frag} {T : TabL} {B G G' : Hp} {P : Om → Dl → Prop} {Q : L2.St → Hp → Prop} (w : WS K T B G P Q) (e : Le K G G') : WS K T B G' P Q := fun σ Δ Ω G2 H l s r p => w σ Δ Ω G2 H (e.trans l) s r p
theorem WEnds.le {K : PySem.W.Frag} {T : TabL} {B G G' : Hp} {k : Ke} {E : Ends} (w : WEnds K T B G k E) (e : Le K G G') : WEnds K T B G' k E := ⟨w.nx.le e, w.rt.le e, w.bk.le e, w.ct.le e⟩
end KG
/-! DB: expressions over data: names, constants, operators, comparisons, subscripts, displays, calls of built-ins. -/
namespace KG
open L2 PySem PyProof.Rows PySem.Spec

/-! ### data as the library's data -/
mutual
def toPy : D → PyData
  | .bl b => .bool b
  | .int i => .int i
  | .str x => .str x
  | .tup xs => .tuple (toPys xs)
  | .lst xs => .list (toPys xs)
  | _ => .none
def toPys : List D → List PyData
  | [] => []
  | d :: ds => toPy d :: toPys ds
end
mutual
/-- None, truth values, numbers, texts, tuples and lists of these -/
def plainD : D → Bool
  | .non => true
  | .bl _ => true
  | .int _ => true
  | .str _ => true
  | .tup xs => plainDs xs
  | .lst xs => plainDs xs
  | _ => false
def plainDs : List D → Bool
  | [] => true
  | d :: ds => plainD d && plainDs ds
end
mutual
theorem Rp.dp {K : PySem.W.Frag} {G H : Hp} (e : Ex G H) : ∀ {v : V} {d : D}, Rp K G v d → plainD d = true → Dp K H v (toPy d)
  | _, _, .non, _ => by unfold toPy; exact .non
  | _, _, .bl b, _ => by unfold toPy; exact .bl b
  | _, _, .int i, _ => by unfold toPy; exact .int i
  | _, _, .str x, _ => by unfold toPy; exact .str x
  | _, _, .tup h r, p => by unfold toPy; exact .tup (SqT.of (e _ _ h)) (RpAll.dp e r (by unfold plainD at p; exact p))
  | _, _, .lst h r, p => by unfold toPy; exact .lst (SqL.of (e _ _ h)) (RpAll.dp e r (by unfold plainD at p; exact p))
  | _, _, .ty n, p => by unfold plainD at p; cases p
  | _, _, .tuf h c n r, p => by unfold plainD at p; cases p
  | _, _, .ptr a, p => by unfold plainD at p; cases p
  | _, _, .lsq h r, p => by unfold plainD at p; cases p
  | _, _, .dk h r l, p => by unfold plainD at p; cases p
  | _, _, .dt h r l, p => by unfold plainD at p; cases p
  | _, _, .ob h r l, p => by unfold plainD at p; cases p
theorem RpAll.dp {K : PySem.W.Frag} {G H : Hp} (e : Ex G H) : ∀ {vs : List V} {ds : List D}, RpAll K G vs ds → plainDs ds = true → DpAll K H vs (toPys ds)
  | _, _, .nil, _ => by unfold toPys; exact .nil
  | _, _, .cons h r, p => by
    unfold plainDs at p
    obtain ⟨p1, p2⟩ := Bool.and_eq_true_iff.mp p
    unfold toPys
    exact .cons (Rp.dp e h p1) (RpAll.dp e r p2)
end
def okD (d : D) : Bool := plainD d && SeqAt.shaped (toPy d)
def beqD (a b : D) : Bool := PyData.eqv (toPy a) (toPy b)
theorem toPys_map : ∀ ds : List D, toPys ds = ds.map toPy
  | [] => by unfold toPys; rfl
  | d :: ds => by unfold toPys; rw [toPys_map ds]; rfl
theorem plainDs_all : ∀ ds : List D, plainDs ds = ds.all plainD
  | [] => by unfold plainDs; rfl
  | d :: ds => by unfold plainDs; rw [plainDs_all ds]; rfl

/-! ### keys -/
def keyD : D → Option Key
  | .int i => some (.inl i)
  | .str x => some (.inr x)
  | _ => none
def keysD : List D → Option (List Key)
  | [] => some []
  | d :: ds => match keyD d, keysD ds with
    | some k, some ks => some (k :: ks)
    | _, _ => none
theorem keyD_rp {K : PySem.W.Frag} {G : Hp} {v : V} {d : D} {k : Key} (h : Rp K G v d) (e : keyD d = some k) : v = kV k := by
  cases h <;> first
    | (cases e; rfl)
    | cases e
theorem keysD_rp {K : PySem.W.Frag} {G : Hp} : ∀ {vs : List V} {ds : List D} {ks : List Key}, RpAll K G vs ds → keysD ds = some ks → vs = ks.map kV
  | _, _, _, .nil, e => by cases e; rfl
  | _, _, _, .cons (d := d) (ds := ds) h r, e => by
    unfold keysD at e
    split at e
    · rename_i k ks e1 e2
      cases e
      rw [keyD_rp h e1, keysD_rp r e2]
      rfl
    · cases e
section
variable {κ : Type} [DecidableEq κ]
def dget (kvs : List (κ × D)) (k : κ) : Option D := (kvs.find? fun kv => decide (kv.1 = k)).map (·.2)
def dput (kvs : List (κ × D)) (k : κ) (d : D) : List (κ × D) :=
  if (kvs.any fun kv => decide (kv.1 = k)) = true then kvs.map (fun kv => if kv.1 = k then (kv.1, d) else kv) else kvs ++ [(k, d)]
theorem dget_rel {K : PySem.W.Frag} {G : Hp} (k : κ) : ∀ {ks : List κ} {vs : List V} {ds : List D}, RpAll K G vs ds → ks.length = vs.length →
    (∀ d, dget (ks.zip ds) k = some d → ∃ v, valV (ks.zip vs) k = some v ∧ Rp K G v d) ∧ (dget (ks.zip ds) k = none → valV (ks.zip vs) k = none)
  | [], [], _, .nil, _ => ⟨fun d e => by simp [dget] at e, fun _ => rfl⟩
  | k' :: ks, _, _, .cons (v := v) (vs := vs) (d := d) (ds := ds) h r, l => by
    have ih := dget_rel k (ks := ks) r (by simpa using l)
    show (∀ d', dget ((k', d) :: ks.zip ds) k = some d' → ∃ v', valV ((k', v) :: ks.zip vs) k = some v' ∧ Rp K G v' d') ∧ (dget ((k', d) :: ks.zip ds) k = none → valV ((k', v) :: ks.zip vs) k = none)
    by_cases e : k' = k
    · have e1 : dget ((k', d) :: ks.zip ds) k = some d := by simp [dget, List.find?_cons, e]
      have e2 : valV ((k', v) :: ks.zip vs) k = some v := by simp [valV, List.find?_cons, e]
      rw [e1, e2]
      exact ⟨fun d' q => ⟨v, rfl, by cases q; exact h⟩, fun q => by cases q⟩
    · have e1 : dget ((k', d) :: ks.zip ds) k = dget (ks.zip ds) k := by simp [dget, List.find?_cons, e]
      have e2 : valV ((k', v) :: ks.zip vs) k = valV (ks.zip vs) k := by simp [valV, List.find?_cons, e]
      rw [e1, e2]
      exact ih
theorem any_zip {α : Type} (k : κ) : ∀ {ks : List κ} {xs : List α}, ks.length = xs.length → ((ks.zip xs).any fun kv => decide (kv.1 = k)) = ks.any fun j => decide (j = k)
  | [], _, _ => by simp
  | j :: ks, [], h => by cases h
  | j :: ks, x :: xs, h => by
    simp only [List.zip_cons_cons, List.any_cons]
    rw [any_zip k (ks := ks) (xs := xs) (by simpa using h)]
theorem map_zip {α : Type} (k : κ) (y : α) : ∀ {ks : List κ} {xs : List α}, ks.length = xs.length → (ks.zip xs).map (fun kv => if kv.1 = k then (kv.1, y) else kv) = ks.zip ((ks.zip xs).map fun kv => if kv.1 = k then y else kv.2)
  | [], _, _ => by simp
  | j :: ks, [], h => by cases h
  | j :: ks, x :: xs, h => by
    simp only [List.zip_cons_cons, List.map_cons]
    rw [map_zip k y (ks := ks) (xs := xs) (by simpa using h)]
    by_cases e : j = k
    · rw [if_pos e, if_pos e]
    · rw [if_neg e, if_neg e]
theorem repl_rel {K : PySem.W.Frag} {G : Hp} (k : κ) {v : V} {d : D} (h : Rp K G v d) : ∀ {ks : List κ} {vs : List V} {ds : List D}, RpAll K G vs ds → ks.length = vs.length →
    RpAll K G ((ks.zip vs).map fun kv => if kv.1 = k then v else kv.2) ((ks.zip ds).map fun kv => if kv.1 = k then d else kv.2)
  | [], [], _, .nil, _ => .nil
  | j :: ks, _, _, .cons q r, l => by
    simp only [List.zip_cons_cons, List.map_cons]
    refine .cons ?_ (repl_rel k h r (by simpa using l))
    by_cases e : j = k
    · rw [if_pos e, if_pos e]; exact h
    · rw [if_neg e, if_neg e]; exact q
theorem dput_rel {K : PySem.W.Frag} {G : Hp} (k : κ) {v : V} {d : D} (h : Rp K G v d) {ks : List κ} {vs : List V} {ds : List D} (r : RpAll K G vs ds) (l : ks.length = vs.length) :
    ∃ (ks' : List κ) (vs' : List V) (ds' : List D), putK (ks.zip vs) k v = ks'.zip vs' ∧ dput (ks.zip ds) k d = ks'.zip ds' ∧ RpAll K G vs' ds' ∧ ks'.length = vs'.length := by
  have l2 : ks.length = ds.length := l.trans r.length
  unfold putK dput
  rw [any_zip k l, any_zip k l2]
  by_cases e : (ks.any fun j => decide (j = k)) = true
  · rw [if_pos e, if_pos e, map_zip k v l, map_zip k d l2]
    exact ⟨ks, _, _, rfl, rfl, repl_rel k h r l, by rw [List.length_map, List.length_zip, ← l]; omega⟩
  · rw [if_neg e, if_neg e]
    refine ⟨ks ++ [k], vs ++ [v], ds ++ [d], ?_, ?_, r.append (.cons h .nil), by simp [l]⟩
    · rw [List.zip_append l]; rfl
    · rw [List.zip_append l2]; rfl
end

/-! ### combinators -/
def slot (Δ : Dl) (i : Nat) (P : D → Prop) : Prop := ∃ d, Δ[i]? = some (some d) ∧ P d
def mVar (i : Nat) : ME := fun Ω Δ P => slot Δ i fun d => P d Ω
def mC (d : D) : ME := fun Ω _ P => P d Ω
abbrev WOp := D → D → Om → DK → Prop
def mOp (w : WOp) (ma mb : ME) : ME := fun Ω Δ P => ma Ω Δ fun x Ω1 => mb Ω1 Δ fun y Ω2 => w x y Ω2 P
def mUn (w : D → Om → DK → Prop) (ma : ME) : ME := fun Ω Δ P => ma Ω Δ fun x Ω1 => w x Ω1 P
def mNil : MA := fun Ω _ P => P [] Ω
def mCons (ma : ME) (mr : MA) : MA := fun Ω Δ P => ma Ω Δ fun x Ω1 => mr Ω1 Δ fun xs Ω2 => P (x :: xs) Ω2
def mTup (ma : MA) : ME := fun Ω Δ P => ma Ω Δ fun ds Ω1 => ds.length ≤ 1000 ∧ P (.tup ds) Ω1
def mLst (ma : MA) : ME := fun Ω Δ P => ma Ω Δ fun ds Ω1 => ds.length ≤ 1000 ∧ P (.lst ds) Ω1
def mLstO (ma : MA) : ME := fun Ω Δ P => ma Ω Δ fun ds Ω1 => ds.length ≤ 1000 ∧ ∀ l, Ω1 l = none → P (.ptr l) (put Ω1 l (.lst ds))
def mCB (w : List D → Om → DK → Prop) (ma : MA) : ME := fun Ω Δ P => ma Ω Δ fun ds Ω1 => w ds Ω1 P
def mIf (mt : MT) (ma mb : ME) : ME := fun Ω Δ P => mt Ω Δ fun b Ω1 => (b = true → ma Ω1 Δ P) ∧ (b = false → mb Ω1 Δ P)
/-- the value is read off as data: an owned object is frozen -/
def mFrz (ma : ME) : ME := fun Ω Δ P => ma Ω Δ fun x Ω1 => ∃ l ob, x = .ptr l ∧ Ω1 l = some ob ∧ P ob.d (del Ω1 l)
def mB (ma : ME) : MT := fun Ω Δ P => ma Ω Δ fun x Ω1 => ∃ b, x = .bl b ∧ P b Ω1
def mAnd (a b : MT) : MT := fun Ω Δ P => a Ω Δ fun c Ω1 => (c = true → b Ω1 Δ P) ∧ (c = false → P false Ω1)
def mOr (a b : MT) : MT := fun Ω Δ P => a Ω Δ fun c Ω1 => (c = true → P true Ω1) ∧ (c = false → b Ω1 Δ P)
def mNot (a : MT) : MT := fun Ω Δ P => a Ω Δ fun c Ω1 => P (!c) Ω1
def mOrV (ma mb : ME) : ME := fun Ω Δ P => ma Ω Δ fun x Ω1 => ∃ c, x = .bl c ∧ (c = true → P (.bl true) Ω1) ∧ (c = false → mb Ω1 Δ P)
def mNotV (ma : ME) : ME := fun Ω Δ P => ma Ω Δ fun x Ω1 => ∃ c, x = .bl c ∧ P (.bl (!c)) Ω1

section
variable (X : Cx) (T : TabL) (B : Hp)
abbrev RE (e : Expr) (m : ME) : Prop := PE X e (rE X.K T B m)
abbrev RT (e : Expr) (m : MT) : Prop := PT X e (rT X.K T B m)
abbrev RW' (e : Expr) (m : MT) : Prop := PW X e (rT X.K T B m)
abbrev RA (es : List Expr) (m : MA) : Prop := PA X es (rA X.K T B m)
abbrev RS (st : Stmt) (m : MS) : Prop := PS X st (rS X.K T B m)
abbrev RSs (st : List Stmt) (m : MS) : Prop := PSs X st (rS X.K T B m)
end
/-- a two-place operation by values and its meaning on data -/
def DOp (K : PySem.W.Frag) (T : TabL) (B : Hp) (r : R2) (w : WOp) : Prop :=
  ∀ {G H : Hp} {Ω : Om} {x y : V} {dx dy : D} {P : DK} {Q : VK}, Sat K T B G H Ω → Rp K G x dx → Rp K G y dy → w dx dy Ω P → WK K T B G P Q → r x y H Q
def DUn (K : PySem.W.Frag) (T : TabL) (B : Hp) (r : V → Hp → VK → Prop) (w : D → Om → DK → Prop) : Prop :=
  ∀ {G H : Hp} {Ω : Om} {x : V} {dx : D} {P : DK} {Q : VK}, Sat K T B G H Ω → Rp K G x dx → w dx Ω P → WK K T B G P Q → r x H Q
def DCall (K : PySem.W.Frag) (T : TabL) (B : Hp) (r : List V → Hp → VK → Prop) (w : List D → Om → DK → Prop) : Prop :=
  ∀ {G H : Hp} {Ω : Om} {vs : List V} {ds : List D} {P : DK} {Q : VK}, Sat K T B G H Ω → RpAll K G vs ds → w ds Ω P → WK K T B G P Q → r vs H Q

section
variable {X : Cx} {T : TabL} {B : Hp} {a b e : Expr} {ma mb : ME} {pos : Pos} {K : PySem.W.Frag}
theorem WK.now {G H : Hp} {Ω : Om} {P : DK} {Q : VK} {v : V} {d : D} (w : WK K T B G P Q) (s : Sat K T B G H Ω) (r : Rp K G v d) (p : P d Ω) : Q v H := w v d Ω G H (Le.refl K G) s r p
/-- a new tuple, a new list, frozen; a new list, owned -/
theorem WK.tup {G H : Hp} {Ω : Om} {P : DK} {Q : VK} {vs : List V} {ds : List D} {p : Addr} (w : WK K T B G P Q) (s : Sat K T B G H Ω) (r : RpAll K G vs ds) (h : P (.tup ds) Ω) (hp : H p = none) : Q (.ref p) (upd H p (.tup vs)) :=
  w (.ref p) (.tup ds) Ω (upd G p (.tup vs)) _ (Ex.new (s.free hp).1).le (s.newG hp) (.tup upd_same ((Ex.new (s.free hp).1).le.all r)) h
theorem WK.lst {G H : Hp} {Ω : Om} {P : DK} {Q : VK} {vs : List V} {ds : List D} {p : Addr} (w : WK K T B G P Q) (s : Sat K T B G H Ω) (r : RpAll K G vs ds) (h : P (.lst ds) Ω) (hp : H p = none) : Q (.ref p) (upd H p (.lst vs)) :=
  w (.ref p) (.lst ds) Ω (upd G p (.lst vs)) _ (Ex.new (s.free hp).1).le (s.newG hp) (.lst upd_same ((Ex.new (s.free hp).1).le.all r)) h
theorem WK.lstO {G H : Hp} {Ω : Om} {P : DK} {Q : VK} {vs : List V} {ds : List D} {p : Addr} (w : WK K T B G P Q) (s : Sat K T B G H Ω) (r : RpAll K G vs ds) (h : ∀ l, Ω l = none → P (.ptr l) (put Ω l (.lst ds))) (hp : H p = none) : Q (.ref p) (upd H p (.lst vs)) :=
  w (.ref p) (.ptr p) (put Ω p (.lst ds)) G _ (Le.refl K G) (s.newO hp ⟨vs, upd_same, r⟩) (.ptr p) (h p (s.free hp).2)

theorem rv (i : Nat) {x : Str} {pos : Pos} (hN : X.N[i]? = some x := by rfl) (hv : Vis X.env.scope x := by first | exact Or.inl rfl | exact Or.inr (Or.inl rfl) | exact Or.inr (Or.inr rfl)) (hd : (x == ("__debug__" : Str)) = false := by decide)
    (hcd : (x == ("__classdict__" : Str)) = false := by decide) : RE X T B (.Name x pos) (mVar i) :=
  peM (pe_var hN hv hd hcd) fun σ H Q ⟨G, Ω, Δ, P, s, e, ⟨d, h1, h2⟩, w⟩ => by
    obtain ⟨v, q, r⟩ := e.at_ i d h1
    exact ⟨v, q, w.now s r h2⟩
theorem re_c {te : TE} {v : V} {d : D} (h : PE X a te) (ht : te = tC v) (r : ∀ G, Rp X.K G v d) : RE X T B a (mC d) := peM h fun σ H Q ⟨G, Ω, Δ, P, s, e, m, w⟩ => by
  rw [ht]
  exact w.now s (r G) m
theorem re_int {i : Int} {j : Nat} : RE X T B (.Constant (.int i) j pos) (mC (.int i)) := re_c pe_int rfl fun _ => .int i
theorem re_str {x : Str} {j : Nat} : RE X T B (.Constant (.str x) j pos) (mC (.str x)) := re_c pe_str rfl fun _ => .str x
theorem re_bl {x : Bool} {j : Nat} : RE X T B (.Constant (.bool x) j pos) (mC (.bl x)) := re_c pe_bl rfl fun _ => .bl x
theorem re_non {j : Nat} : RE X T B (.Constant .none j pos) (mC .non) := re_c pe_non rfl fun _ => .non
/-- a built-in type's name as a value -/
theorem re_ty {x : Str} {n : String} (hg : Gl X x) (hm : X.mg x = none) (hv : bootBuiltins x = some (.type n)) (hn : x ≠ "__name__" := by decide) (hd : (x == ("__debug__" : Str)) = false := by decide) : RE X T B (.Name x pos) (mC (.ty n)) :=
  re_c (pe_bltn hg hm hv (show RelV (.ty n) (.type n) from rfl) hn hd) rfl fun _ => .ty n
/-- a name of the module that is an object of no interest -/
theorem re_gl {x : Str} {f : Addr} (hg : Gl X x) (hm : X.mg x = some (.ref f)) (hd : (x == ("__debug__" : Str)) = false := by decide) : RE X T B (.Name x pos) (mC (.ptr f)) := re_c (pe_glob (v := .ref f) hg hm rfl hd) rfl fun _ => .ptr f
theorem tOp_of {r : R2} {w : WOp} (hr : DOp X.K T B r w) : ∀ σ H Q, rE X.K T B (mOp w ma mb) σ H Q → tOp r (rE X.K T B ma) (rE X.K T B mb) σ H Q := fun σ H Q ⟨G, Ω, Δ, P, s, e, m, wk⟩ =>
  ⟨G, Ω, Δ, _, s, e, m, fun v d Ω1 G1 H1 l1 s1 r1 m1 => ⟨G1, Ω1, Δ, _, s1, e.le l1, m1, fun v2 d2 Ω2 G2 H2 l2 s2 r2 m2 => hr s2 (l2 _ _ r1) r2 m2 (wk.le (l1.trans l2))⟩⟩
theorem re_op {op : Operator} {r : R2} {w : WOp} (ho : OpR X (binaryOp op) r) (hr : DOp X.K T B r w) (ha : RE X T B a ma) (hb : RE X T B b mb) : RE X T B (.BinOp a op b pos) (mOp w ma mb) := peM (pe_op ho ha hb) (tOp_of hr)
theorem re_cmp {op : CmpOp} {r : R2} {w : WOp} (ho : OpR X (compareOp op) r) (hr : DOp X.K T B r w) (hm : behindInMarks op b = false) (ha : RE X T B a ma) (hb : RE X T B b mb) : RE X T B (.Compare a [op] [b] pos) (mOp w ma mb) := peM (pe_cmpR ho ha hb hm) (tOp_of hr)
theorem re_ix {r : R2} {w : WOp} (hx : IxR X r) (hr : DOp X.K T B r w) (ha : RE X T B a ma) (hb : RE X T B b mb) (hs : PlainIx b := by exact fun _ _ => rfl) : RE X T B (.Subscript a b pos) (mOp w ma mb) := peM (pe_ix hx ha hb hs) (tOp_of hr)
theorem re_un {op : UnaryOp} {r : V → Hp → VK → Prop} {w : D → Om → DK → Prop} (ho : UnR X (unaryOp op) r) (hr : DUn X.K T B r w) (ha : RE X T B a ma) : RE X T B (.UnaryOp op a pos) (mUn w ma) := peM (pe_un ho ha) fun σ H Q ⟨G, Ω, Δ, P, s, e, m, wk⟩ =>
  ⟨G, Ω, Δ, _, s, e, m, fun v d Ω1 G1 H1 l1 s1 r1 m1 => hr s1 r1 m1 (wk.le l1)⟩
theorem ra_nil : RA X T B [] mNil := paM pa_nil fun σ H Q ⟨G, Ω, Δ, P, s, e, m, wk⟩ => wk [] [] Ω G H (Le.refl _ _) s .nil m
theorem ra_cons {es : List Expr} {mr : MA} (ha : RE X T B a ma) (hr : RA X T B es mr) (hs : starEach (a :: es) X.env = (false, eval a X.env) :: starEach es X.env := by rfl) : RA X T B (a :: es) (mCons ma mr) := paM (pa_cons ha hr hs) fun σ H Q ⟨G, Ω, Δ, P, s, e, m, wk⟩ =>
  ⟨G, Ω, Δ, _, s, e, m, fun v d Ω1 G1 H1 l1 s1 r1 m1 => ⟨G1, Ω1, Δ, _, s1, e.le l1, m1, fun vs ds Ω2 G2 H2 l2 s2 r2 m2 => wk (v :: vs) (d :: ds) Ω2 G2 H2 (l1.trans l2) s2 (.cons (l2 _ _ r1) r2) m2⟩⟩
theorem sz1000 {n : Nat} (h : n ≤ 1000) : n ≤ sizeLine := Nat.le_trans h (by decide)
theorem sz5 {n : Nat} (h : n ≤ 100000) : n ≤ sizeLine := Nat.le_trans h (by decide)
theorem re_tup {es : List Expr} {mr : MA} {x1} (h : RA X T B es mr) : RE X T B (.Tuple es x1 pos) (mTup mr) := peM (pe_tup h) fun σ H Q ⟨G, Ω, Δ, P, s, e, m, wk⟩ =>
  ⟨G, Ω, Δ, _, s, e, m, fun vs ds Ω1 G1 H1 l1 s1 r1 ⟨hl, m1⟩ => ⟨sz1000 (by rw [r1.length]; exact hl), fun p hp => (wk.le l1).tup s1 r1 m1 hp⟩⟩
theorem re_lst {es : List Expr} {mr : MA} (h : RA X T B es mr) : RE X T B (.List es pos) (mLst mr) := peM (pe_lst h) fun σ H Q ⟨G, Ω, Δ, P, s, e, m, wk⟩ =>
  ⟨G, Ω, Δ, _, s, e, m, fun vs ds Ω1 G1 H1 l1 s1 r1 ⟨hl, m1⟩ => ⟨sz1000 (by rw [r1.length]; exact hl), fun p hp => (wk.le l1).lst s1 r1 m1 hp⟩⟩
theorem re_lstO {es : List Expr} {mr : MA} (h : RA X T B es mr) : RE X T B (.List es pos) (mLstO mr) := peM (pe_lst h) fun σ H Q ⟨G, Ω, Δ, P, s, e, m, wk⟩ =>
  ⟨G, Ω, Δ, _, s, e, m, fun vs ds Ω1 G1 H1 l1 s1 r1 ⟨hl, m1⟩ => ⟨sz1000 (by rw [r1.length]; exact hl), fun p hp => (wk.le l1).lstO s1 r1 m1 hp⟩⟩
theorem re_frz (h : RE X T B a ma) : RE X T B a (mFrz ma) := peM h fun σ H Q ⟨G, Ω, Δ, P, s, e, m, wk⟩ =>
  ⟨G, Ω, Δ, _, s, e, m, fun v d Ω1 G1 H1 l1 s1 r1 ⟨l, ob, hd, ho, p⟩ => by
    subst hd
    cases r1
    obtain ⟨G2, l2, s2, r2⟩ := s1.frozen ho
    exact wk _ _ _ G2 _ (l1.trans l2) s2 r2 p⟩
theorem re_callB {x : Str} {id : String} {es : List Expr} {mr : MA} {r : List V → Hp → VK → Prop} {w : List D → Om → DK → Prop} {p : Pos} (hc : CallR X (.builtin id) r) (hr : DCall X.K T B r w) (hg : Gl X x) (hm : X.mg x = none) (hv : bootBuiltins x = some (.builtin id)) (ha : RA X T B (a :: es) mr)
    (hn : x ≠ "__name__" := by decide) (hdb : (x == ("__debug__" : Str)) = false := by decide) (he : starEach (a :: es) X.env = (false, eval a X.env) :: starEach es X.env := by rfl) (hpl : (backTo pos (starEach es X.env)).any (·.1) = false := by rfl) :
    RE X T B (.Call (.Name x p) (a :: es) [] pos) (mCB w mr) := peM (pe_callB hc hg hm hv ha hn hdb he hpl) fun σ H Q ⟨G, Ω, Δ, P, s, e, m, wk⟩ =>
  ⟨G, Ω, Δ, _, s, e, m, fun vs ds Ω1 G1 H1 l1 s1 r1 m1 => hr s1 r1 m1 (wk.le l1)⟩
theorem re_callTy {x : Str} {id : String} {es : List Expr} {mr : MA} {r : List V → Hp → VK → Prop} {w : List D → Om → DK → Prop} {p : Pos} (hc : CallR X (.type id) r) (hr : DCall X.K T B r w) (hg : Gl X x) (hm : X.mg x = none) (hv : bootBuiltins x = some (.type id)) (ha : RA X T B (a :: es) mr)
    (hn : x ≠ "__name__" := by decide) (hdb : (x == ("__debug__" : Str)) = false := by decide) (he : starEach (a :: es) X.env = (false, eval a X.env) :: starEach es X.env := by rfl) (hpl : (backTo pos (starEach es X.env)).any (·.1) = false := by rfl) :
    RE X T B (.Call (.Name x p) (a :: es) [] pos) (mCB w mr) := peM (pe_callTy hc hg hm hv ha hn hdb he hpl) fun σ H Q ⟨G, Ω, Δ, P, s, e, m, wk⟩ =>
  ⟨G, Ω, Δ, _, s, e, m, fun vs ds Ω1 G1 H1 l1 s1 r1 m1 => hr s1 r1 m1 (wk.le l1)⟩
/-! tests -/
theorem rt_val (h : RE X T B e ma) (he : ∀ whole, isTrue e X.env whole = (do let v ← whole; standAt e.pos; holding [v] (truthy v)) := by intro _; rfl) : RT X T B e (mB ma) := ptM (pt_val h he) fun σ H Q ⟨G, Ω, Δ, P, s, e, m, wk⟩ =>
  ⟨G, Ω, Δ, _, s, e, m, fun v d Ω1 G1 H1 l1 s1 r1 ⟨b, hb, p⟩ => by
    subst hb
    cases r1
    exact ⟨b, rfl, wk b Ω1 G1 H1 l1 s1 p⟩⟩
theorem rt_cmp {op : CmpOp} {r : R2} {w : WOp} (ho : OpR X (compareOp op) r) (hr : DOp X.K T B r w) (hm : behindInMarks op b = false) (ha : RE X T B a ma) (hb : RE X T B b mb) : RT X T B (.Compare a [op] [b] pos) (mB (mOp w ma mb)) := ptM (pt_cmpR ho ha hb hm) fun σ H Q ⟨G, Ω, Δ, P, s, e, m, wk⟩ =>
  tOp_of hr σ H _ ⟨G, Ω, Δ, _, s, e, m, fun v d Ω1 G1 H1 l1 s1 r1 ⟨b, hb, p⟩ => by
    subst hb
    cases r1
    exact ⟨b, rfl, wk b Ω1 G1 H1 l1 s1 p⟩⟩
theorem bsplit {b : Bool} {A C R : Prop} (h : (b = true → A) ∧ (b = false → C)) (f : A → R) (g : C → R) : R := by
  cases b with
  | true => exact f (h.1 rfl)
  | false => exact g (h.2 rfl)
theorem rw_and1 {mt : MT} (ha : RT X T B a mt) : RW' X T B (.BoolOp .And [a] pos) mt := pw_and1 ha
theorem rw_or1 {mt : MT} (ha : RT X T B a mt) : RW' X T B (.BoolOp .Or [a] pos) mt := pw_or1 ha
theorem pwM {e : Expr} {t u : TT} (h : PW X e t) (i : ∀ σ H Q, u σ H Q → t σ H Q) : PW X e u := ⟨fun whole pins s σ H Q I q => h.run whole pins s σ H Q I (i σ H Q q)⟩
theorem rw_and {rest : List Expr} {mt mu : MT} (ha : RT X T B a mt) (hb : RW' X T B (.BoolOp .And (b :: rest) pos) mu) : RW' X T B (.BoolOp .And (a :: b :: rest) pos) (mAnd mt mu) := pwM (pw_and ha hb) fun σ H Q ⟨G, Ω, Δ, P, s, e, m, wk⟩ =>
  ⟨G, Ω, Δ, _, s, e, m, fun c Ω1 G1 H1 l1 s1 p => by
    cases c with
    | true => rw [if_pos rfl]; exact ⟨G1, Ω1, Δ, _, s1, e.le l1, p.1 rfl, fun b Ω' G' H' l' => wk b Ω' G' H' (l1.trans l')⟩
    | false => rw [if_neg Bool.false_ne_true]; exact wk false Ω1 G1 H1 l1 s1 (p.2 rfl)⟩
theorem rw_or {rest : List Expr} {mt mu : MT} (ha : RT X T B a mt) (hb : RW' X T B (.BoolOp .Or (b :: rest) pos) mu) : RW' X T B (.BoolOp .Or (a :: b :: rest) pos) (mOr mt mu) := pwM (pw_or ha hb) fun σ H Q ⟨G, Ω, Δ, P, s, e, m, wk⟩ =>
  ⟨G, Ω, Δ, _, s, e, m, fun c Ω1 G1 H1 l1 s1 p => by
    cases c with
    | true => rw [if_pos rfl]; exact wk true Ω1 G1 H1 l1 s1 (p.1 rfl)
    | false => rw [if_neg Bool.false_ne_true]; exact ⟨G1, Ω1, Δ, _, s1, e.le l1, p.2 rfl, fun b Ω' G' H' l' => wk b Ω' G' H' (l1.trans l')⟩⟩
theorem rt_bool {mt : MT} (h : RW' X T B e mt) : RT X T B e mt := h.pt
theorem rt_not {mt : MT} (h : RT X T B a mt) : RT X T B (.UnaryOp .Not a pos) (mNot mt) := ptM (pt_not h) fun σ H Q ⟨G, Ω, Δ, P, s, e, m, wk⟩ =>
  ⟨G, Ω, Δ, _, s, e, m, fun c Ω1 G1 H1 l1 s1 p => wk (!c) Ω1 G1 H1 l1 s1 p⟩
theorem re_if {c : Expr} {mt : MT} (hc : RT X T B c mt) (ha : RE X T B a ma) (hb : RE X T B b mb) : RE X T B (.IfExp c a b pos) (mIf mt ma mb) := peM (pe_ifExp hc ha hb) fun σ H Q ⟨G, Ω, Δ, P, s, e, m, wk⟩ =>
  ⟨G, Ω, Δ, _, s, e, m, fun c Ω1 G1 H1 l1 s1 p => by
    cases c with
    | true => rw [if_pos rfl]; exact ⟨G1, Ω1, Δ, _, s1, e.le l1, p.1 rfl, wk.le l1⟩
    | false => rw [if_neg Bool.false_ne_true]; exact ⟨G1, Ω1, Δ, _, s1, e.le l1, p.2 rfl, wk.le l1⟩⟩
theorem re_one {op} (h : RE X T B a ma) : RE X T B (.BoolOp op [a] pos) ma := pe_one h
theorem re_or {rest : List Expr} (ha : RE X T B a ma) (hb : RE X T B (.BoolOp .Or (b :: rest) pos) mb) : RE X T B (.BoolOp .Or (a :: b :: rest) pos) (mOrV ma mb) := peM (pe_or ha hb) fun σ H Q ⟨G, Ω, Δ, P, s, e, m, wk⟩ =>
  ⟨G, Ω, Δ, _, s, e, m, fun v d Ω1 G1 H1 l1 s1 r1 ⟨c, hc, p⟩ => by
    subst hc
    cases r1
    refine ⟨c, rfl, ?_⟩
    cases c with
    | true => rw [if_pos rfl]; exact wk _ _ _ _ _ l1 s1 (.bl true) (p.1 rfl)
    | false => rw [if_neg Bool.false_ne_true]; exact ⟨G1, Ω1, Δ, _, s1, e.le l1, p.2 rfl, wk.le l1⟩⟩
theorem re_not (ha : RE X T B a ma) : RE X T B (.UnaryOp .Not a pos) (mNotV ma) := peM (pe_not ha) fun σ H Q ⟨G, Ω, Δ, P, s, e, m, wk⟩ =>
  ⟨G, Ω, Δ, _, s, e, m, fun v d Ω1 G1 H1 l1 s1 r1 ⟨c, hc, p⟩ => by
    subst hc
    cases r1
    exact ⟨c, rfl, wk _ _ _ _ _ l1 s1 (.bl _) p⟩⟩
end
end KG
/-! DC: the operators, subscripts and built-ins, by data. -/
namespace KG
open L2 PySem PyProof.Rows PySem.Spec
section
variable {K : PySem.W.Frag} {T : TabL} {B G H : Hp} {Ω : Om}
theorem rp_tup {v : V} {ds : List D} (e : Ex G H) (h : Rp K G v (.tup ds)) : ∃ a vs, v = .ref a ∧ H a = some (.tup vs) ∧ G a = some (.tup vs) ∧ RpAll K G vs ds := by
  cases h with
  | tup h r => exact ⟨_, _, rfl, e _ _ h, h, r⟩
theorem rp_lst {v : V} {ds : List D} (e : Ex G H) (h : Rp K G v (.lst ds)) : ∃ a vs, v = .ref a ∧ H a = some (.lst vs) ∧ G a = some (.lst vs) ∧ RpAll K G vs ds := by
  cases h with
  | lst h r => exact ⟨_, _, rfl, e _ _ h, h, r⟩
theorem rp_lsq {v : V} {ds : List D} (e : Ex G H) (h : Rp K G v (.lsq ds)) : ∃ a vs, v = .ref a ∧ SqL K H a vs ∧ RpAll K G vs ds := by
  cases h with
  | lsq h r => exact ⟨_, _, rfl, e.sqL h, r⟩
theorem rp_int {v : V} {i : Int} (h : Rp K G v (.int i)) : v = .int i := by cases h; rfl
theorem rp_str {v : V} {i : Str} (h : Rp K G v (.str i)) : v = .str i := by cases h; rfl
theorem rp_bl {v : V} {i : Bool} (h : Rp K G v (.bl i)) : v = .bl i := by cases h; rfl
theorem rp_non {v : V} (h : Rp K G v .non) : v = .non := by cases h; rfl
theorem rp_ptr {v : V} {a : Addr} (h : Rp K G v (.ptr a)) : v = .ref a := by cases h; rfl
theorem rp_ty {v : V} {a : String} (h : Rp K G v (.ty a)) : v = .ty a := by cases h; rfl
theorem own_lst (s : Sat K T B G H Ω) {l : Addr} {xs : List D} (h : Ω l = some (.lst xs)) : ∃ vs, H l = some (.lst vs) ∧ RpAll K G vs xs := (s.own l _ h).2
end

/-! ### arithmetic -/
def wInt2 (C : Int → Int → Prop) (g : Int → Int → D) : WOp := fun x y Ω P => ∃ i j, x = .int i ∧ y = .int j ∧ C i j ∧ P (g i j) Ω
theorem d_int2 {K : PySem.W.Frag} {T : TabL} {B : Hp} {C : Int → Int → Prop} {g : Int → Int → V} {g' : Int → Int → D} (h : ∀ G i j, Rp K G (g i j) (g' i j)) : DOp K T B (rI C g) (wInt2 C g') := by
  intro G H Ω x y dx dy P Q s rx ry ⟨i, j, h1, h2, hc, p⟩ wk
  subst h1 h2
  exact ⟨i, j, rp_int rx, rp_int ry, hc, wk.now s (h G i j) p⟩
theorem d_int0 {K : PySem.W.Frag} {T : TabL} {B : Hp} {g : Int → Int → V} {g' : Int → Int → D} (h : ∀ G i j, Rp K G (g i j) (g' i j)) : DOp K T B (rI0 g) (wInt2 (fun _ _ => True) g') := by
  intro G H Ω x y dx dy P Q s rx ry ⟨i, j, h1, h2, hc, p⟩ wk
  subst h1 h2
  exact ⟨i, j, rp_int rx, rp_int ry, wk.now s (h G i j) p⟩
section
variable {X : Cx} {T : TabL} {B : Hp} {a b : Expr} {ma mb : ME} {pos : Pos}
abbrev wSub : WOp := wInt2 (fun _ _ => True) fun i j => .int (i - j)
abbrev wMulI : WOp := wInt2 CMul fun i j => .int (i * j)
abbrev wMod : WOp := wInt2 (fun _ j => 0 < j) fun i j => .int (i % j)
abbrev wDiv : WOp := wInt2 CDiv fun i j => .int (i / j)
abbrev wPow : WOp := wInt2 CPow fun i j => .int (i ^ j.toNat)
abbrev wLt : WOp := wInt2 (fun _ _ => True) fun i j => .bl (decide (i < j))
abbrev wLe : WOp := wInt2 (fun _ _ => True) fun i j => .bl (decide (i ≤ j))
abbrev wGt : WOp := wInt2 (fun _ _ => True) fun i j => .bl (decide (j < i))
theorem re_sub (ha : RE X T B a ma) (hb : RE X T B b mb) : RE X T B (.BinOp a .Sub b pos) (mOp wSub ma mb) := re_op op_sub (d_int0 fun _ _ _ => .int _) ha hb
theorem re_mod (ha : RE X T B a ma) (hb : RE X T B b mb) : RE X T B (.BinOp a .Mod b pos) (mOp wMod ma mb) := re_op op_mod (d_int2 fun _ _ _ => .int _) ha hb
theorem re_div (ha : RE X T B a ma) (hb : RE X T B b mb) : RE X T B (.BinOp a .FloorDiv b pos) (mOp wDiv ma mb) := re_op op_fdiv (d_int2 fun _ _ _ => .int _) ha hb
theorem re_pow (ha : RE X T B a ma) (hb : RE X T B b mb) : RE X T B (.BinOp a .Pow b pos) (mOp wPow ma mb) := re_op op_pow (d_int2 fun _ _ _ => .int _) ha hb
abbrev wNeg : D → Om → DK → Prop := fun x Ω P => ∃ i, x = .int i ∧ P (.int (-i)) Ω
theorem re_neg (ha : RE X T B a ma) : RE X T B (.UnaryOp .USub a pos) (mUn wNeg ma) := re_un un_neg (fun s rx ⟨i, h, p⟩ wk => by
  subst h
  exact ⟨i, rp_int rx, wk.now s (.int _) p⟩) ha

/-! ### + -/
def wAdd : WOp := fun x y Ω P => (∃ i j, x = .int i ∧ y = .int j ∧ P (.int (i + j)) Ω) ∨ (∃ xs ys, x = .tup xs ∧ y = .tup ys ∧ xs.length + ys.length ≤ 100000 ∧ P (.tup (xs ++ ys)) Ω) ∨ (∃ xs ys, x = .lst xs ∧ y = .lst ys ∧ xs.length + ys.length ≤ 100000 ∧ P (.lst (xs ++ ys)) Ω)
theorem d_add {K : PySem.W.Frag} : DOp K T B (fun x y H Q => rI0 (fun i j => .int (i + j)) x y H Q ∨ (fun x y H Q => rCatA K x y H Q ∨ rCat x y H Q) x y H Q) wAdd := by
  intro G H Ω x y dx dy P Q s rx ry h wk
  rcases h with ⟨i, j, h1, h2, p⟩ | ⟨xs, ys, h1, h2, hl, p⟩ | ⟨xs, ys, h1, h2, hl, p⟩
  · subst h1 h2
    exact .inl ⟨i, j, rp_int rx, rp_int ry, wk.now s (.int _) p⟩
  · subst h1 h2
    obtain ⟨a, vs, rfl, ha, hga, ra⟩ := rp_tup s.ex rx
    obtain ⟨b, ws, rfl, hb, hgb, rb⟩ := rp_tup s.ex ry
    refine .inr (.inl ⟨a, b, vs, ws, rfl, rfl, SqT.of ha, SqT.of hb, sz5 (by rw [ra.length, rb.length]; exact hl), fun e => ?_, fun _ e => ?_, fun _ _ p' hp => wk.tup s (ra.append rb) p hp⟩)
    · subst e
      cases ra
      exact wk.now s (.tup hgb rb) p
    · subst e
      cases rb
      exact wk.now s (.tup hga ra) (by rw [List.append_nil] at p; exact p)
  · subst h1 h2
    obtain ⟨a, vs, rfl, ha, hga, ra⟩ := rp_lst s.ex rx
    obtain ⟨b, ws, rfl, hb, hgb, rb⟩ := rp_lst s.ex ry
    exact .inr (.inr ⟨a, b, vs, ws, rfl, rfl, ha, hb, sz5 (by rw [ra.length, rb.length]; exact hl), fun p' hp => wk.lst s (ra.append rb) p hp⟩)
theorem re_add (ha : RE X T B a ma) (hb : RE X T B b mb) : RE X T B (.BinOp a .Add b pos) (mOp wAdd ma mb) := re_op (op_add.or (op_catA.or op_cat)) d_add ha hb
/-- list + list, the new list owned -/
def wAddO : WOp := fun x y Ω P => ∃ xs ys, x = .lst xs ∧ y = .lst ys ∧ xs.length + ys.length ≤ 100000 ∧ ∀ l, Ω l = none → P (.ptr l) (put Ω l (.lst (xs ++ ys)))
theorem re_addO (ha : RE X T B a ma) (hb : RE X T B b mb) : RE X T B (.BinOp a .Add b pos) (mOp wAddO ma mb) := re_op op_cat (by
  intro G H Ω x y dx dy P Q s rx ry ⟨xs, ys, h1, h2, hl, p⟩ wk
  subst h1 h2
  obtain ⟨a, vs, rfl, ha, hga, ra⟩ := rp_lst s.ex rx
  obtain ⟨b, ws, rfl, hb, hgb, rb⟩ := rp_lst s.ex ry
  exact ⟨a, b, vs, ws, rfl, rfl, ha, hb, sz5 (by rw [ra.length, rb.length]; exact hl), fun p' hp => wk.lstO s (ra.append rb) p hp⟩) ha hb

/-! ### * -/
theorem tuple_mul1 (l : Addr) (items : Array Value) (n : Nat) (dd : Option Addr) (sl : Array (Option Value)) (u : Tok) :
    Meets (Builtin.«tuple.__mul__» ⟨[.ref l, .int 1 u], []⟩) (fun _ R s => s.heap.get? l = some { cls := .type "tuple", dict := dd, data := .seq items n, slots := sl } ∧ R (.ok (.ret (Value.ref l))) s) :=
  .of_wp fun prog w A R s h => by
    obtain ⟨hp, g, d, tk, os⟩ := s
    obtain ⟨hl, h⟩ := h
    have f1 := AutoSeq1.idx_int
    have c1 : (items.isEmpty || (1 : Int) == 1) = true := by simp
    wp_walk using wpAny_loadPart' hl
    repeat (first
      | (refine wpAny_ite_false (decide_eq_false (by decide)) ?_; wp_walk using wpAny_loadPart' hl)
      | (refine wpAny_ite_true (decide_eq_true c1) ?_; wp_walk using wpAny_loadPart' hl)
      | (refine wpAny_ite_true (by first | rfl | simp) ?_; wp_walk using wpAny_loadPart' hl))
    exact ⟨_, rfl, h⟩
def rRep1 (K : PySem.W.Frag) : R2 := fun x y H Q => ∃ l xs, x = .ref l ∧ y = .int 1 ∧ SqT K H l xs ∧ Q (.ref l) H
theorem op_rep1 : OpR X (binaryOp .Mult) (rRep1 X.K) := by
  intro pins s σ H x y v u Q I rx ry h
  obtain ⟨l, xs, rfl, rfl, hT, q⟩ := h
  cases rx
  obtain ⟨t, rfl⟩ := ry
  obtain ⟨its, r, ⟨⟨cls, dd, data, sl⟩, ho, hc, n, hd⟩, hs⟩ := I.tuple hT
  simp only at hc hd
  subst hc hd
  exact wpAny_binaryOp_repeat_ref (T := "tuple") (U := "int") (by decide) ⟨_, ho, rfl⟩ (fun s' => typeIs_int s' 1 t) noFill_tuple_mul F.fills_int_mul F.slot_int_rmul repeat_tuple F.slot_int_index.lookup
    (call_meets F.slot_int_rmul (typeIs_int s 1 t) F.entry_int_rmul (F.args_int_rmul_2 _ _) (int_rmul_tuple 1 t l its.toArray n dd sl)
      ⟨ho, rfl, ⟨_, ho, rfl⟩, call_meets F.slot_tuple_mul ⟨_, ho, rfl⟩ F.entry_tuple_mul (F.args_tuple_mul_2 _ _) (tuple_mul1 l its.toArray n dd sl t) ⟨ho, ⟨.ref l, H, I, rfl, q⟩⟩⟩)
theorem RpAll.rep {K : PySem.W.Frag} {G : Hp} {vs : List V} {ds : List D} (r : RpAll K G vs ds) : ∀ n, RpAll K G (List.replicate n vs).flatten (List.replicate n ds).flatten
  | 0 => .nil
  | n + 1 => by
    rw [List.replicate_succ, List.replicate_succ, List.flatten_cons, List.flatten_cons]
    exact r.append (r.rep n)
def wMul : WOp := fun x y Ω P => (∃ i j, x = .int i ∧ y = .int j ∧ CMul i j ∧ P (.int (i * j)) Ω) ∨ (∃ d k, x = .tup [d] ∧ y = .int k ∧ 1 ≤ k ∧ k ≤ 1000 ∧ P (.tup (List.replicate k.toNat [d]).flatten) Ω) ∨
  (∃ d k, x = .lst [d] ∧ y = .int k ∧ 0 ≤ k ∧ k ≤ 1000 ∧ P (.lst (List.replicate k.toNat [d]).flatten) Ω)
theorem d_mul {K : PySem.W.Frag} : DOp K T B (fun x y H Q => rI CMul (fun i j => .int (i * j)) x y H Q ∨ (fun x y H Q => rRepT K x y H Q ∨ (fun x y H Q => rRep1 K x y H Q ∨ rRep x y H Q) x y H Q) x y H Q) wMul := by
  intro G H Ω x y dx dy P Q s rx ry h wk
  rcases h with ⟨i, j, h1, h2, hc, p⟩ | ⟨d, k, h1, h2, hk1, hk2, p⟩ | ⟨d, k, h1, h2, hk1, hk2, p⟩
  · subst h1 h2
    exact .inl ⟨i, j, rp_int rx, rp_int ry, hc, wk.now s (.int _) p⟩
  · subst h1 h2
    obtain ⟨a, vs, rfl, ha, hga, ra⟩ := rp_tup s.ex rx
    have hvl : vs.length = 1 := ra.length
    by_cases e : k = 1
    · subst e
      refine .inr (.inr (.inl ⟨a, vs, rfl, rp_int ry, SqT.of ha, wk.now s (.tup hga ra) p⟩))
    · refine .inr (.inl ⟨a, k, vs, rfl, rp_int ry, SqT.of ha, (fun z => by rw [z] at hvl; cases hvl), by omega, hk2, by omega, fun p' hp => wk.tup s (ra.rep _) p hp⟩)
  · subst h1 h2
    obtain ⟨a, vs, rfl, ha, hga, ra⟩ := rp_lst s.ex rx
    have hvl : vs.length = 1 := ra.length
    exact .inr (.inr (.inr ⟨a, k, vs, rfl, rp_int ry, ha, by omega, by omega, sz5 (by rw [hvl]; omega), fun p' hp => wk.lst s (ra.rep _) p hp⟩))
theorem re_mul (ha : RE X T B a ma) (hb : RE X T B b mb) : RE X T B (.BinOp a .Mult b pos) (mOp wMul ma mb) := re_op (op_mul.or (op_repT.or (op_rep1.or op_rep))) d_mul ha hb

/-! ### comparisons -/
/-- a comparison that is covered -/
def CM (X : Cx) (T : TabL) (B : Hp) (op : CmpOp) (w : WOp) (b : Expr) : Prop := ∃ r : R2, OpR X (compareOp op) r ∧ DOp X.K T B r w ∧ behindInMarks op b = false
theorem CM.re {op : CmpOp} {w : WOp} (c : CM X T B op w b) (ha : RE X T B a ma) (hb : RE X T B b mb) : RE X T B (.Compare a [op] [b] pos) (mOp w ma mb) := let ⟨_, h1, h2, h3⟩ := c; re_cmp h1 h2 h3 ha hb
theorem CM.rt {op : CmpOp} {w : WOp} (c : CM X T B op w b) (ha : RE X T B a ma) (hb : RE X T B b mb) : RT X T B (.Compare a [op] [b] pos) (mB (mOp w ma mb)) := let ⟨_, h1, h2, h3⟩ := c; rt_cmp h1 h2 h3 ha hb
theorem cm_lt : CM X T B .Lt wLt b := ⟨_, op_lt, (d_int0 fun _ _ _ => .bl _), (nomark _)⟩
theorem cm_le : CM X T B .LtE wLe b := ⟨_, op_le, (d_int0 fun _ _ _ => .bl _), (nomark _)⟩
theorem cm_gt : CM X T B .Gt wGt b := ⟨_, op_gt, (d_int0 fun _ _ _ => .bl _), (nomark _)⟩
def wIs : WOp := fun x y Ω P => y = .non ∧ ((x = .non ∧ P (.bl true) Ω) ∨ (x ≠ .non ∧ P (.bl false) Ω))
def wIsN : WOp := fun x y Ω P => y = .non ∧ ((x = .non ∧ P (.bl false) Ω) ∨ (x ≠ .non ∧ P (.bl true) Ω))
theorem rp_nn {K : PySem.W.Frag} {G : Hp} {v : V} {d : D} (h : Rp K G v d) (n : d ≠ .non) : decide (v = .non) = false := by
  cases h <;> first
    | exact absurd rfl n
    | exact decide_eq_false (fun z => by cases z)
theorem cm_is : CM X T B .Is wIs b := ⟨_, op_isN, (by
  intro G H Ω x y dx dy P Q s rx ry ⟨h1, h⟩ wk
  subst h1
  refine ⟨rp_non ry, ?_⟩
  rcases h with ⟨h, p⟩ | ⟨h, p⟩
  · subst h
    rw [rp_non rx]
    exact wk.now s (.bl _) p
  · rw [rp_nn rx h]
    exact wk.now s (.bl _) p), (nomark _)⟩
theorem cm_isn : CM X T B .IsNot wIsN b := ⟨_, op_notN, (by
  intro G H Ω x y dx dy P Q s rx ry ⟨h1, h⟩ wk
  subst h1
  refine ⟨rp_non ry, ?_⟩
  rcases h with ⟨h, p⟩ | ⟨h, p⟩
  · subst h
    rw [rp_non rx]
    exact wk.now s (.bl _) p
  · rw [rp_nn rx h]
    exact wk.now s (.bl _) p), (nomark _)⟩
def eqB (x y : D) (r : Bool) : Prop := (∃ i j, x = .int i ∧ y = .int j ∧ r = decide (i = j)) ∨ (∃ i j, x = .str i ∧ y = .str j ∧ r = decide (i = j)) ∨ (okD x = true ∧ okD y = true ∧ r = beqD x y)
def wEq : WOp := fun x y Ω P => ∃ r, eqB x y r ∧ P (.bl r) Ω
def wNe : WOp := fun x y Ω P => ∃ r, eqB x y r ∧ P (.bl (!r)) Ω
theorem okD_s {d : D} (h : okD d = true) : plainD d = true ∧ SeqAt.shaped (toPy d) = true := Bool.and_eq_true_iff.mp h
theorem cm_eq {k : Nat} (hr : Room k X.A) : CM X T B .Eq wEq b := ⟨_, (op_eq.or (op_eqD hr.units)), (by
  intro G H Ω x y dx dy P Q s rx ry ⟨r, h, p⟩ wk
  rcases h with ⟨i, j, h1, h2, e⟩ | ⟨i, j, h1, h2, e⟩ | ⟨h1, h2, e⟩
  · subst h1 h2 e
    rw [rp_int rx, rp_int ry]
    refine .inl ⟨rfl, ?_⟩
    rw [show decide (V.int i = V.int j) = decide (i = j) by simp]
    exact wk.now s (.bl _) p
  · subst h1 h2 e
    rw [rp_str rx, rp_str ry]
    refine .inl ⟨rfl, ?_⟩
    rw [show decide (V.str i = V.str j) = decide (i = j) by simp]
    exact wk.now s (.bl _) p
  · subst e
    exact .inr ⟨toPy dx, toPy dy, rx.dp s.ex (okD_s h1).1, ry.dp s.ex (okD_s h2).1, (okD_s h1).2, (okD_s h2).2, wk.now s (.bl _) p⟩), (nomark _)⟩
theorem cm_ne {k : Nat} (hr : Room k X.A) : CM X T B .NotEq wNe b := ⟨_, (op_ne.or (op_neD hr.units)), (by
  intro G H Ω x y dx dy P Q s rx ry ⟨r, h, p⟩ wk
  rcases h with ⟨i, j, h1, h2, e⟩ | ⟨i, j, h1, h2, e⟩ | ⟨h1, h2, e⟩
  · subst h1 h2 e
    rw [rp_int rx, rp_int ry]
    refine .inl ⟨rfl, ?_⟩
    rw [show decide (V.int i = V.int j) = decide (i = j) by simp]
    exact wk.now s (.bl _) p
  · subst h1 h2 e
    rw [rp_str rx, rp_str ry]
    refine .inl ⟨rfl, ?_⟩
    rw [show decide (V.str i = V.str j) = decide (i = j) by simp]
    exact wk.now s (.bl _) p
  · subst e
    exact .inr ⟨toPy dx, toPy dy, rx.dp s.ex (okD_s h1).1, ry.dp s.ex (okD_s h2).1, (okD_s h1).2, (okD_s h2).2, wk.now s (.bl _) p⟩), (nomark _)⟩

/-! ### in, not in -/
def rInT (K : PySem.W.Frag) (neg : Bool) : R2 := fun x y H Q => ∃ d ds, Dp K H x d ∧ Dp K H y (.tuple ds) ∧ SeqAt.shaped d = true ∧ SeqAt.shaped (.tuple ds) = true ∧ Q (.bl (if neg then !ds.any fun z => PyData.eqv z d else ds.any fun z => PyData.eqv z d)) H
theorem room_in_t {A : Around} {d : PyData} {ds : List PyData} (sd : SeqAt.shaped d = true) (hu : A.units + 65 < cLine) : A.units + 1 + min (PyData.depthAll ds) d.depth < cLine := by
  have h1 := SeqAt.depth_of_shaped sd
  have h2 : min (PyData.depthAll ds) d.depth ≤ d.depth := Nat.min_le_right _ _
  omega
theorem op_inT (hu : X.A.units + 65 < cLine) : OpR X (compareOp .In) (rInT X.K false) := by
  intro pins s σ H x y v u Q I rx ry h
  obtain ⟨d, ds, hd, he, sd, se, q⟩ := h
  obtain ⟨as, r1⟩ := Dp.reads I d x v hd rx
  obtain ⟨bs, r2⟩ := Dp.reads I (.tuple ds) y u he ry
  exact SeqAt.in_tuple_reads r2 r1 (SeqAt.canLay_of_shaped se) (SeqAt.canLay_of_shaped sd) (room_in_t sd hu) ⟨.bl _, H, I, rfl, q⟩
theorem op_notInT (hu : X.A.units + 65 < cLine) : OpR X (compareOp .NotIn) (rInT X.K true) := by
  intro pins s σ H x y v u Q I rx ry h
  obtain ⟨d, ds, hd, he, sd, se, q⟩ := h
  obtain ⟨as, r1⟩ := Dp.reads I d x v hd rx
  obtain ⟨bs, r2⟩ := Dp.reads I (.tuple ds) y u he ry
  exact SeqAt.notIn_tuple_reads r2 r1 (SeqAt.canLay_of_shaped se) (SeqAt.canLay_of_shaped sd) (room_in_t sd hu) ⟨.bl _, H, I, rfl, q⟩
def rInDict (neg : Bool) : R2 := fun x y H Q => ∃ a o, y = .ref a ∧ DGet H a x o ∧ Q (.bl (if neg then !o.isSome else o.isSome)) H
theorem op_inDict (hu : X.A.units + 1 < cLine) : OpR X (compareOp .In) (rInDict false) := by
  intro pins s σ H x y v u Q I rx ry h
  obtain ⟨a, o, rfl, g, q⟩ := h
  cases ry
  exact d_in hu I g rx fun s' I' => ⟨.bl _, H, I', rfl, q⟩
theorem op_notInDict (hu : X.A.units + 1 < cLine) : OpR X (compareOp .NotIn) (rInDict true) := by
  intro pins s σ H x y v u Q I rx ry h
  obtain ⟨a, o, rfl, g, q⟩ := h
  cases ry
  exact d_notIn hu I g rx fun s' I' => ⟨.bl _, H, I', rfl, q⟩
/-- whether x is among ys -/
def memB (x : D) (ys : List D) : Bool := ys.any fun y => beqD y x
/-- the pairs of a dict told by data: of ints and texts, of tuples of these -/
def keyOk (x : D) (kd : D) (r : Bool) : Prop := (∃ kvs k, kd = .dk kvs ∧ keyD x = some k ∧ r = (dget kvs k).isSome) ∨ (∃ kvs ds k, kd = .dt kvs ∧ x = .tup ds ∧ keysD ds = some k ∧ r = (dget kvs k).isSome)
def wInB (neg : Bool) : WOp := fun x y Ω P =>
  (∃ ys, (y = .tup ys ∨ y = .lst ys ∨ ∃ l, y = .ptr l ∧ Ω l = some (.lst ys)) ∧ okD x = true ∧ okD (.tup ys) = true ∧ okD (.lst ys) = true ∧ P (.bl (if neg then !memB x ys else memB x ys)) Ω) ∨
  (∃ r, (keyOk x y r ∨ ∃ l ob, y = .ptr l ∧ Ω l = some ob ∧ keyOk x ob.d r) ∧ P (.bl (if neg then !r else r)) Ω)
theorem toPy_tup (ds : List D) : toPy (.tup ds) = .tuple (toPys ds) := by conv => lhs; unfold toPy
theorem toPy_lst (ds : List D) : toPy (.lst ds) = .list (toPys ds) := by conv => lhs; unfold toPy
theorem any_py (x : D) (ys : List D) : ((toPys ys).any fun z => PyData.eqv z (toPy x)) = memB x ys := by
  rw [toPys_map, List.any_map]
  rfl
theorem dk_get {K : PySem.W.Frag} {G H : Hp} {a : Addr} {ks : List Key} {vs : List V} {ds : List D} (hH : Rd H a (.dK (ks.zip vs))) (r : RpAll K G vs ds) (l : ks.length = vs.length) (k : Key) :
    ∃ o, DGet H a (kV k) o ∧ o.isSome = (dget (ks.zip ds) k).isSome ∧ ∀ d, dget (ks.zip ds) k = some d → ∃ v, o = some v ∧ Rp K G v d := by
  obtain ⟨h1, h2⟩ := dget_rel k r l
  refine ⟨valV (ks.zip vs) k, .inl ⟨_, k, hH, rfl, rfl⟩, ?_, h1⟩
  cases e : dget (ks.zip ds) k with
  | none => rw [h2 e]; rfl
  | some d => obtain ⟨v, hv, _⟩ := h1 d e; rw [hv]; rfl
theorem dt_get {K : PySem.W.Frag} {G H : Hp} {a b : Addr} {ks : List (List Key)} {vs : List V} {ds : List D} (hH : Rd H a (.dT (ks.zip vs))) (r : RpAll K G vs ds) (l : ks.length = vs.length) (k : List Key) (hb : H b = some (.tup (k.map kV))) :
    ∃ o, DGet H a (.ref b) o ∧ o.isSome = (dget (ks.zip ds) k).isSome ∧ ∀ d, dget (ks.zip ds) k = some d → ∃ v, o = some v ∧ Rp K G v d := by
  obtain ⟨h1, h2⟩ := dget_rel k r l
  refine ⟨valV (ks.zip vs) k, .inr ⟨_, k, b, hH, rfl, hb, rfl⟩, ?_, h1⟩
  cases e : dget (ks.zip ds) k with
  | none => rw [h2 e]; rfl
  | some d => obtain ⟨v, hv, _⟩ := h1 d e; rw [hv]; rfl
/-- a dict, frozen or owned, in the heap -/
theorem rp_dk {K : PySem.W.Frag} {G H : Hp} {v : V} {kvs : List (Key × D)} (e : Ex G H) (h : Rp K G v (.dk kvs)) : ∃ (a : Addr) (ks : List Key) (vs : List V) (ds : List D), v = .ref a ∧ Rd H a (.dK (ks.zip vs)) ∧ RpAll K G vs ds ∧ ks.length = vs.length ∧ kvs = ks.zip ds := by
  cases h with
  | dk h r l => exact ⟨_, _, _, _, rfl, e.rd h, r, l, rfl⟩
theorem rp_dt {K : PySem.W.Frag} {G H : Hp} {v : V} {kvs : List (List Key × D)} (e : Ex G H) (h : Rp K G v (.dt kvs)) : ∃ (a : Addr) (ks : List (List Key)) (vs : List V) (ds : List D), v = .ref a ∧ Rd H a (.dT (ks.zip vs)) ∧ RpAll K G vs ds ∧ ks.length = vs.length ∧ kvs = ks.zip ds := by
  cases h with
  | dt h r l => exact ⟨_, _, _, _, rfl, e.rd h, r, l, rfl⟩
/-- what a dict told by data (frozen, or owned) gives at a key -/
theorem key_get {K : PySem.W.Frag} {G H : Hp} {Ω : Om} {x y : V} {dx dy : D} (s : Sat K T B G H Ω) (rx : Rp K G x dx) (ry : Rp K G y dy) {od : D} (hy : dy = od ∨ ∃ l ob, dy = .ptr l ∧ Ω l = some ob ∧ od = ob.d) :
    (∀ kvs k, od = .dk kvs → keyD dx = some k → ∃ a o, y = .ref a ∧ DGet H a x o ∧ o.isSome = (dget kvs k).isSome ∧ ∀ d, dget kvs k = some d → ∃ v, o = some v ∧ Rp K G v d) ∧
    (∀ kvs ds k, od = .dt kvs → dx = .tup ds → keysD ds = some k → ∃ a o, y = .ref a ∧ DGet H a x o ∧ o.isSome = (dget kvs k).isSome ∧ ∀ d, dget kvs k = some d → ∃ v, o = some v ∧ Rp K G v d) := by
  constructor
  · intro kvs k e1 e2
    have ex := keyD_rp rx e2
    subst ex
    rcases hy with h | ⟨l, ob, h, ho, h2⟩
    · subst h
      rw [e1] at ry
      obtain ⟨a, ks, vs, ds, rfl, hd, r, ll, rfl⟩ := rp_dk s.ex ry
      obtain ⟨o, h1, h2, h3⟩ := dk_get hd r ll k
      exact ⟨a, o, rfl, h1, h2, h3⟩
    · subst h
      have hb := (s.own l ob ho).2
      cases ob with
      | dk kvs' =>
        have : kvs = kvs' := by
          rw [e1] at h2
          cases h2
          rfl
        subst this
        obtain ⟨ks, vs, ds, hd, r, ll, rfl⟩ := hb
        obtain ⟨o, h1, h2, h3⟩ := dk_get (.inl hd) r ll k
        exact ⟨l, o, rp_ptr ry, h1, h2, h3⟩
      | lst _ => rw [e1] at h2; cases h2
      | dt _ => rw [e1] at h2; cases h2
      | ob _ _ _ => rw [e1] at h2; cases h2
  · intro kvs ds k e1 e2 e3
    subst e2
    obtain ⟨b, ws, rfl, hb, _, rb⟩ := rp_tup s.ex rx
    rw [keysD_rp rb e3] at hb
    rcases hy with h | ⟨l, ob, h, ho, h2⟩
    · subst h
      rw [e1] at ry
      obtain ⟨a, ks, vs, ds, rfl, hd, r, ll, rfl⟩ := rp_dt s.ex ry
      obtain ⟨o, h1, h2, h3⟩ := dt_get hd r ll k hb
      exact ⟨a, o, rfl, h1, h2, h3⟩
    · subst h
      have hb2 := (s.own l ob ho).2
      cases ob with
      | dt kvs' =>
        have : kvs = kvs' := by
          rw [e1] at h2
          cases h2
          rfl
        subst this
        obtain ⟨ks, vs, ds, hd, r, ll, rfl⟩ := hb2
        obtain ⟨o, h1, h2, h3⟩ := dt_get (.inl hd) r ll k hb
        exact ⟨l, o, rp_ptr ry, h1, h2, h3⟩
      | lst _ => rw [e1] at h2; cases h2
      | dk _ => rw [e1] at h2; cases h2
      | ob _ _ _ => rw [e1] at h2; cases h2
theorem d_inB {neg : Bool} {K : PySem.W.Frag} {r0 : R2} (hl : ∀ x y H Q d ds, Dp K H x d → Dp K H y (.list ds) → SeqAt.shaped d = true → SeqAt.shaped (.list ds) = true → Q (V.bl (if neg then !ds.any fun z => PyData.eqv z d else ds.any fun z => PyData.eqv z d)) H → r0 x y H Q) :
    DOp K T B (fun x y H Q => r0 x y H Q ∨ (fun x y H Q => rInT K neg x y H Q ∨ rInDict neg x y H Q) x y H Q) (wInB neg) := by
  intro G H Ω x y dx dy P Q s rx ry h wk
  rcases h with ⟨ys, hy, h1, h2, h3, p⟩ | ⟨r, hk, p⟩
  · have go : ∀ b, (if neg then !((toPys ys).any fun z => PyData.eqv z (toPy dx)) else (toPys ys).any fun z => PyData.eqv z (toPy dx)) = b → Q (.bl b) H := fun b e => by
      rw [any_py] at e
      subst e
      exact wk.now s (.bl _) p
    rcases hy with e | e | ⟨l, e, ho⟩
    · subst e
      refine .inr (.inl ⟨toPy dx, toPys ys, rx.dp s.ex (okD_s h1).1, ?_, (okD_s h1).2, ?_, go _ rfl⟩)
      · have := ry.dp s.ex (okD_s h2).1
        rw [toPy_tup] at this
        exact this
      · have := (okD_s h2).2
        rw [toPy_tup] at this
        exact this
    · subst e
      have a1 := ry.dp s.ex (okD_s h3).1
      have a2 := (okD_s h3).2
      rw [toPy_lst] at a1 a2
      exact .inl (hl _ _ _ _ _ _ (rx.dp s.ex (okD_s h1).1) a1 (okD_s h1).2 a2 (go _ rfl))
    · subst e
      obtain ⟨vs, hv, rv⟩ := own_lst s ho
      have a2 := (okD_s h3).2
      rw [toPy_lst] at a2
      have a1 : Dp K H y (.list (toPys ys)) := by
        rw [rp_ptr ry]
        exact .lst (SqL.of hv) (RpAll.dp s.ex rv (by have := (okD_s h3).1; unfold plainD at this; exact this))
      exact .inl (hl _ _ _ _ _ _ (rx.dp s.ex (okD_s h1).1) a1 (okD_s h1).2 a2 (go _ rfl))
  · have fin : ∀ a o, y = .ref a → DGet H a x o → o.isSome = r → Q (.bl (if neg then !o.isSome else o.isSome)) H := fun a o _ _ e => by
      rw [e]
      exact wk.now s (.bl _) p
    have main : ∀ od, (dy = od ∨ ∃ l ob, dy = .ptr l ∧ Ω l = some ob ∧ od = ob.d) → keyOk dx od r → rInDict neg x y H Q := fun od hy hk => by
      obtain ⟨g1, g2⟩ := key_get s rx ry hy
      rcases hk with ⟨kvs, k, e1, e2, e3⟩ | ⟨kvs, ds, k, e1, e2, e3, e4⟩
      · obtain ⟨a, o, e, hd, hs, _⟩ := g1 kvs k e1 e2
        exact ⟨a, o, e, hd, fin a o e hd (hs.trans e3.symm)⟩
      · obtain ⟨a, o, e, hd, hs, _⟩ := g2 kvs ds k e1 e2 e3
        exact ⟨a, o, e, hd, fin a o e hd (hs.trans e4.symm)⟩
    rcases hk with hk | ⟨l, ob, e, ho, hk⟩
    · exact .inr (.inr (main dy (.inl rfl) hk))
    · exact .inr (.inr (main ob.d (.inr ⟨l, ob, e, ho, rfl⟩) hk))
theorem room65 {k : Nat} {A : Around} (hr : Room k A) : A.units + 65 < cLine := by have := hr.un; omega
theorem room1 {k : Nat} {A : Around} (hr : Room k A) : A.units + 1 < cLine := by have := hr.un; omega
theorem cm_in {k : Nat} (hr : Room k X.A) (hm : behindInMarks .In b = false := by rfl) : CM X T B .In (wInB false) b := ⟨_, ((op_inD (room65 hr)).or ((op_inT (room65 hr)).or (op_inDict (room1 hr)))), (d_inB (neg := false) (r0 := rInD X.K) fun x y H Q d ds h1 h2 h3 h4 q => ⟨d, ds, h1, h2, h3, h4, (by simpa using q)⟩), hm⟩
theorem cm_nin {k : Nat} (hr : Room k X.A) (hm : behindInMarks .NotIn b = false := by rfl) : CM X T B .NotIn (wInB true) b := ⟨_, ((op_notInD (room65 hr)).or ((op_notInT (room65 hr)).or (op_notInDict (room1 hr)))), (d_inB (neg := true) (r0 := rNotInD X.K) fun x y H Q d ds h1 h2 h3 h4 q => ⟨d, ds, h1, h2, h3, h4, (by simpa using q)⟩), hm⟩

/-! ### subscripts -/
theorem ix_dict (hu : X.A.units + 1 < cLine) : IxR X (fun x y H Q => ∃ a v, x = .ref a ∧ DGet H a y (some v) ∧ Q v H) := by
  intro value slice pins s σ H x y v u Q I rx ry h hs
  obtain ⟨a, z, rfl, g, q⟩ := h
  cases rx
  exact tail_any (dict_typeIs I g) slot_dict_getitem.lookup (d_getItem hu I g ry fun w' s' I' rw' => ⟨z, H, I', rw', q⟩) hs
def ixD (x y d : D) : Prop := (∃ xs i, (x = .tup xs ∨ x = .lst xs) ∧ y = .int i ∧ atI xs i = some d) ∨ (∃ kvs k, x = .dk kvs ∧ keyD y = some k ∧ dget kvs k = some d) ∨ (∃ kvs ds k, x = .dt kvs ∧ y = .tup ds ∧ keysD ds = some k ∧ dget kvs k = some d)
def wIx : WOp := fun x y Ω P => ∃ d, (ixD x y d ∨ ∃ l ob, x = .ptr l ∧ Ω l = some ob ∧ ixD ob.d y d) ∧ P d Ω
theorem atI_rel {K : PySem.W.Frag} {G : Hp} {vs : List V} {ds : List D} (r : RpAll K G vs ds) {i : Int} {d : D} (h : atI ds i = some d) : ∃ v, atI vs i = some v ∧ Rp K G v d := by
  unfold atI at h ⊢
  rw [r.length]
  cases e : ixN ds.length i with
  | none => rw [e] at h; cases h
  | some j =>
    rw [e] at h
    exact r.get h
theorem d_ix {K : PySem.W.Frag} : DOp K T B (fun x y H Q => rIxL K x y H Q ∨ (fun x y H Q => rIxT K x y H Q ∨ (fun x y H Q => ∃ a v, x = .ref a ∧ DGet H a y (some v) ∧ Q v H) x y H Q) x y H Q) wIx := by
  intro G H Ω x y dx dy P Q s rx ry ⟨d, h, p⟩ wk
  have main : ∀ od, (dx = od ∨ ∃ l ob, dx = .ptr l ∧ Ω l = some ob ∧ od = ob.d) → ixD od dy d → rIxL K x y H Q ∨ (rIxT K x y H Q ∨ ∃ a v, x = .ref a ∧ DGet H a y (some v) ∧ Q v H) := fun od hx hi => by
    obtain ⟨g1, g2⟩ := key_get s ry rx hx
    rcases hi with ⟨xs, i, hxs, hy, ha⟩ | ⟨kvs, k, e1, e2, e3⟩ | ⟨kvs, ds, k, e1, e2, e3, e4⟩
    · subst hy
      rcases hx with e | ⟨l, ob, e, ho, e2⟩
      · rcases hxs with e' | e'
        · rw [e, e'] at rx
          obtain ⟨a, vs, rfl, h1, _, r⟩ := rp_tup s.ex rx
          obtain ⟨v, hv, rv⟩ := atI_rel r ha
          exact .inr (.inl ⟨a, vs, i, v, rfl, rp_int ry, SqT.of h1, hv, wk.now s rv p⟩)
        · rw [e, e'] at rx
          obtain ⟨a, vs, rfl, h1, _, r⟩ := rp_lst s.ex rx
          obtain ⟨v, hv, rv⟩ := atI_rel r ha
          exact .inl ⟨a, vs, i, v, rfl, rp_int ry, SqL.of h1, hv, wk.now s rv p⟩
      · subst e
        rcases hxs with e' | e'
        · rw [e'] at e2
          cases ob <;> cases e2
        · rw [e'] at e2
          cases ob with
          | lst ys =>
            have e3 : xs = ys := by cases e2; rfl
            subst e3
            obtain ⟨vs, h1, r⟩ := own_lst s ho
            obtain ⟨v, hv, rv⟩ := atI_rel r ha
            exact .inl ⟨l, vs, i, v, rp_ptr rx, rp_int ry, SqL.of h1, hv, wk.now s rv p⟩
          | _ => cases e2
    · obtain ⟨a, o, e, hd, _, hg⟩ := g1 kvs k e1 e2
      obtain ⟨v, ev, rv⟩ := hg d e3
      subst ev
      exact .inr (.inr ⟨a, v, e, hd, wk.now s rv p⟩)
    · obtain ⟨a, o, e, hd, _, hg⟩ := g2 kvs ds k e1 e2 e3
      obtain ⟨v, ev, rv⟩ := hg d e4
      subst ev
      exact .inr (.inr ⟨a, v, e, hd, wk.now s rv p⟩)
  rcases h with h | ⟨l, ob, e, ho, h⟩
  · exact main dx (.inl rfl) h
  · exact main ob.d (.inr ⟨l, ob, e, ho, rfl⟩) h
theorem re_sb {k : Nat} (hr : Room k X.A) (ha : RE X T B a ma) (hb : RE X T B b mb) (hs : PlainIx b := by exact fun _ _ => rfl) : RE X T B (.Subscript a b pos) (mOp wIx ma mb) := re_ix (ix_list.or (ix_tup.or (ix_dict (room1 hr)))) d_ix ha hb hs
end
end KG
/-! DD: statements, loops, comprehensions, calls of defs, over data. -/
namespace KG
open L2 PySem PyProof.Rows PySem.Spec

/-! ### statements -/
def mNext : MS := fun Ω Δ k => k.nx Ω Δ
def mSeq (a b : MS) : MS := fun Ω Δ k => a Ω Δ { k with nx := fun Ω' Δ' => b Ω' Δ' k }
/-- .. what follows is shown once, from M -/
def mCut (a b : MS) : MS := fun Ω Δ k => ∃ M : Om → Dl → Prop, a Ω Δ { k with nx := M } ∧ ∀ Ω' Δ', M Ω' Δ' → b Ω' Δ' k
def mAsg (ma : ME) (i : Nat) : MS := fun Ω Δ k => ma Ω Δ fun d Ω1 => k.nx Ω1 (Δ.set i (some d))
def mDrop (ma : ME) : MS := fun Ω Δ k => ma Ω Δ fun _ Ω1 => k.nx Ω1 Δ
def mRet (ma : ME) : MS := fun Ω Δ k => ma Ω Δ k.rt
def mRetN : MS := fun Ω _ k => k.rt .non Ω
def mIfS (mt : MT) (a b : MS) : MS := fun Ω Δ k => mt Ω Δ fun c Ω1 => (c = true → a Ω1 Δ k) ∧ (c = false → b Ω1 Δ k)
def mCont : MS := fun Ω Δ k => k.ct Ω Δ
def mNever : MS := fun _ _ _ => False
/-- targets -/
abbrev MG := D → Om → Dl → (Om → Dl → Prop) → Prop
abbrev MGs := List D → Om → Dl → (Om → Dl → Prop) → Prop
def gN (i : Nat) : MG := fun d Ω Δ R => R Ω (Δ.set i (some d))
def gNil' : MGs := fun ds Ω Δ R => ds = [] ∧ R Ω Δ
def gCons' (g : MG) (gs : MGs) : MGs := fun ds Ω Δ R => ∃ d r, ds = d :: r ∧ g d Ω Δ fun Ω1 Δ1 => gs r Ω1 Δ1 R
def gT (n : Nat) (gs : MGs) : MG := fun d Ω Δ R => ∃ ds, (d = .tup ds ∨ d = .lst ds) ∧ ds.length = n ∧ gs ds Ω Δ R
def mAsgG (ma : ME) (g : MG) : MS := fun Ω Δ k => ma Ω Δ fun d Ω1 => g d Ω1 Δ k.nx
/-- o[y] = d on data -/
def wSet (o y d : D) (Ω : Om) (R : Om → Prop) : Prop := ∃ l, o = .ptr l ∧
  ((∃ xs i j, Ω l = some (.lst xs) ∧ y = .int i ∧ ixN xs.length i = some j ∧ R (put Ω l (.lst (xs.set j d)))) ∨
   (∃ kvs k, Ω l = some (.dk kvs) ∧ keyD y = some k ∧ kvs.length < 100000 ∧ R (put Ω l (.dk (dput kvs k d)))) ∨
   (∃ kvs ds k, Ω l = some (.dt kvs) ∧ y = .tup ds ∧ keysD ds = some k ∧ kvs.length < 100000 ∧ R (put Ω l (.dt (dput kvs k d)))))
def mSet (mv mo my : ME) : MS := fun Ω Δ k => mv Ω Δ fun d Ω1 => mo Ω1 Δ fun o Ω2 => my Ω2 Δ fun y Ω3 => wSet o y d Ω3 fun Ω4 => k.nx Ω4 Δ

section
variable (X : Cx) (T : TabL) (B : Hp)
def rG (K : PySem.W.Frag) (m : MG) : TG := fun v σ H Q => ∃ G Ω Δ d R, Sat K T B G H Ω ∧ SlE K G σ Δ ∧ Rp K G v d ∧ m d Ω Δ R ∧ WS K T B G R Q
def rGs (K : PySem.W.Frag) (m : MGs) : TGs := fun vs σ H Q => ∃ G Ω Δ ds R, Sat K T B G H Ω ∧ SlE K G σ Δ ∧ RpAll K G vs ds ∧ m ds Ω Δ R ∧ WS K T B G R Q
abbrev RG (e : Expr) (m : MG) : Prop := PG X e (rG T B X.K m)
abbrev RGs (es : List Expr) (m : MGs) : Prop := PGs X es (rGs T B X.K m)
end
section
variable {X : Cx} {T : TabL} {B : Hp} {a b e : Expr} {ma mb : ME} {pos : Pos} {K : PySem.W.Frag} {st : Stmt} {rest : List Stmt} {m u : MS}
theorem pgM {e : Expr} {t u : TG} (h : PG X e t) (i : ∀ v σ H Q, u v σ H Q → t v σ H Q) : PG X e u := ⟨fun pins s σ H v w Q I r q => h.run pins s σ H v w Q I r (i v σ H Q q)⟩
theorem pgsM {e : List Expr} {t u : TGs} (h : PGs X e t) (i : ∀ v σ H Q, u v σ H Q → t v σ H Q) : PGs X e u := ⟨fun pins s σ H v w Q I r q => h.run pins s σ H v w Q I r (i v σ H Q q)⟩
theorem PG.or {e : Expr} {t u : TG} (h : PG X e t) (h' : PG X e u) : PG X e fun v σ H Q => t v σ H Q ∨ u v σ H Q := ⟨fun pins s σ H v w Q I r q => q.elim (h.run pins s σ H v w Q I r) (h'.run pins s σ H v w Q I r)⟩
theorem WS.now {G H : Hp} {σ : L2.St} {Δ : Dl} {Ω : Om} {P : Om → Dl → Prop} {Q : L2.St → Hp → Prop} (w : WS K T B G P Q) (s : Sat K T B G H Ω) (e : SlE K G σ Δ) (p : P Ω Δ) : Q σ H := w σ Δ Ω G H (Le.refl K G) s e p
theorem rg_n {i : Nat} {x : Str} (hN : X.N.Nodup) (hi : X.N[i]? = some x) (hx : Loc X.env.scope x) (hf : X.fn x = true ∨ X.env.scope.names.lookup x = some .local := by first | exact .inl rfl | exact .inr rfl | assumption) : RG X T B (.Name x pos) (gN i) :=
  pgM (pg_name hN hi hx hf) fun v σ H Q ⟨G, Ω, Δ, d, R, s, e, r, m, w⟩ => w.now s (e.set r) m
theorem rgs_nil : RGs X T B [] gNil' := pgsM pgs_nil fun v σ H Q ⟨G, Ω, Δ, d, R, s, e, r, ⟨hd, m⟩, w⟩ => by
  subst hd
  cases r
  exact ⟨rfl, w.now s e m⟩
theorem rgs_cons {es : List Expr} {g : MG} {gs : MGs} (h1 : RG X T B e g) (h2 : RGs X T B es gs) (hs : (assignEach (e :: es) X.env).map (·.2) = assign e X.env :: (assignEach es X.env).map (·.2) := by rfl) : RGs X T B (e :: es) (gCons' g gs) :=
  pgsM (pgs_cons h1 h2 hs) fun v σ H Q ⟨G, Ω, Δ, d, R, s, e, r, ⟨d0, r0, hd, m⟩, w⟩ => by
    subst hd
    cases r with
    | cons ra rb =>
      exact ⟨_, _, rfl, G, Ω, Δ, d0, _, s, e, ra, m, fun σ' Δ' Ω' G' H' l' s' e' m' => ⟨G', Ω', Δ', r0, R, s', e', l'.all rb, m', w.le l'⟩⟩
theorem rg_t {es : List Expr} {k : Nat} {gs : MGs} {n : Nat} (hc : X.calm = true) (h : RGs X T B es gs) (hn : (assignEach es X.env).length = n := by rfl) (hst : (assignEach es X.env).findIdx? (·.1) = none := by rfl) : RG X T B (.Tuple es k pos) (gT n gs) :=
  pgM (PG.or (pg_tup hc h hn hst) (pg_unl hc h hn hst)) fun v σ H Q ⟨G, Ω, Δ, d, R, s, e, r, ⟨ds, hd, hl, m⟩, w⟩ => by
    rcases hd with hd | hd
    · subst hd
      obtain ⟨a, vs, rfl, ha, _, ra⟩ := rp_tup s.ex r
      exact .inl ⟨a, vs, rfl, SqT.of ha, ra.length.trans hl, G, Ω, Δ, ds, R, s, e, ra, m, w⟩
    · subst hd
      obtain ⟨a, vs, rfl, ha, _, ra⟩ := rp_lst s.ex r
      exact .inr ⟨a, vs, rfl, SqL.of ha, ra.length.trans hl, G, Ω, Δ, ds, R, s, e, ra, m, w⟩

theorem rss_nil : RSs X T B [] mNext := pssM pss_nil fun E σ H ⟨G, Ω, Δ, k, s, e, m, w⟩ => w.nx.now s e m
theorem rss_cons (h1 : RS X T B st m) (h2 : RSs X T B rest u) : RSs X T B (st :: rest) (mSeq m u) := pssM (pss_cons h1 h2) fun E σ H ⟨G, Ω, Δ, k, s, e, m, w⟩ =>
  ⟨G, Ω, Δ, _, s, e, m, ⟨fun σ' Δ' Ω' G' H' l' s' e' m' => ⟨G', Ω', Δ', k, s', e', m', w.le l'⟩, w.rt, w.bk, w.ct⟩⟩
theorem rss_one (h1 : RS X T B st m) : RSs X T B [st] m := pssM (pss_one h1) fun E σ H h => h
theorem rss_cut (h1 : RS X T B st m) (h2 : RSs X T B rest u) : RSs X T B (st :: rest) (mCut m u) := pssM (pss_cons h1 h2) fun E σ H ⟨G, Ω, Δ, k, s, e, ⟨M, m, f⟩, w⟩ =>
  ⟨G, Ω, Δ, _, s, e, m, ⟨fun σ' Δ' Ω' G' H' l' s' e' m' => ⟨G', Ω', Δ', k, s', e', f _ _ m', w.le l'⟩, w.rt, w.bk, w.ct⟩⟩
theorem rs_set {i : Nat} {x : Str} {pos' : Pos} (hN : X.N.Nodup) (hi : X.N[i]? = some x) (hx : Loc X.env.scope x) (he : RE X T B e ma) (hs : swapsWith e (some (.Name x pos')) pos.line X.env = pure false := by rfl) (hf : X.fn x = true ∨ X.env.scope.names.lookup x = some .local := by first | exact .inl rfl | exact .inr rfl | assumption) :
    RS X T B (.Assign [.Name x pos'] e pos) (mAsg ma i) := psM (ps_set hN hi hx he hs hf) fun E σ H ⟨G, Ω, Δ, k, s, e, m, w⟩ =>
  ⟨G, Ω, Δ, _, s, e, m, fun v d Ω1 G1 H1 l1 s1 r1 m1 => w.nx _ _ _ _ _ l1 s1 ((e.le l1).set r1) m1⟩
theorem rs_asg {tg : Expr} {g : MG} (he : RE X T B e ma) (hg : RG X T B tg g) (hs : swapsWithSole [tg] e pos.line X.env = pure false := by rfl) (hw : swappedStores [tg] e X.env = pure none := by rfl)
    (h1 : (assignEach [tg] X.env).map (·.2) = [assign tg X.env] := by rfl) : RS X T B (.Assign [tg] e pos) (mAsgG ma g) := psM (ps_asg he hg hs hw h1) fun E σ H ⟨G, Ω, Δ, k, s, e, m, w⟩ =>
  ⟨G, Ω, Δ, _, s, e, m, fun v d Ω1 G1 H1 l1 s1 r1 m1 => ⟨G1, Ω1, Δ, d, _, s1, e.le l1, r1, m1, w.nx.le l1⟩⟩
theorem rs_expr (he : RE X T B e ma) (hs : swapsWith e none pos.line X.env = pure false := by rfl) : RS X T B (.Expr e pos) (mDrop ma) := psM (ps_expr he hs) fun E σ H ⟨G, Ω, Δ, k, s, e, m, w⟩ =>
  ⟨G, Ω, Δ, _, s, e, m, fun v d Ω1 G1 H1 l1 s1 r1 m1 => w.nx _ _ _ _ _ l1 s1 (e.le l1) m1⟩
theorem rs_ret (he : RE X T B e ma) : RS X T B (.Return (some e) pos) (mRet ma) := psM (ps_ret he) fun E σ H ⟨G, Ω, Δ, k, s, e, m, w⟩ => ⟨G, Ω, Δ, _, s, e, m, w.rt⟩
theorem rs_if {c : Expr} {sa sb : List Stmt} {mt : MT} {mu : MS} (hc : RT X T B c mt) (ha : RSs X T B sa m) (hb : RSs X T B sb mu) : RS X T B (.If c sa sb pos) (mIfS mt m mu) := psM (ps_if hc ha hb) fun E σ H ⟨G, Ω, Δ, k, s, e, m, w⟩ =>
  ⟨G, Ω, Δ, _, s, e, m, fun c Ω1 G1 H1 l1 s1 p => by
    cases c with
    | true => rw [if_pos rfl]; exact ⟨G1, Ω1, Δ, k, s1, e.le l1, p.1 rfl, w.le l1⟩
    | false => rw [if_neg Bool.false_ne_true]; exact ⟨G1, Ω1, Δ, k, s1, e.le l1, p.2 rfl, w.le l1⟩⟩
theorem rs_cont : RS X T B (.Continue pos) mCont := psM ps_continue fun E σ H ⟨G, Ω, Δ, k, s, e, m, w⟩ => w.ct.now s e m
theorem rs_never : RS X T B st mNever := psM ps_never fun E σ H ⟨G, Ω, Δ, k, s, e, m, w⟩ => m.elim
theorem rss_never {sts : List Stmt} : RSs X T B sts mNever := pssM pss_never fun E σ H ⟨G, Ω, Δ, k, s, e, m, w⟩ => m.elim
/-! ### o[y] = e -/
theorem set_dict (hu : X.A.units + 1 < cLine) : PSet X (fun o i v H Q => ∃ a H', o = .ref a ∧ DPut H a i v H' ∧ Q H') := by
  intro pins s σ H o i v ov iv u Q I ro ri rv ⟨a, H', e, g, q⟩
  subst e
  cases ro
  exact d_setItem hu I g ri rv fun s' I' => ⟨H', I', q⟩
theorem PSet.or {t u : TSet} (h : PSet X t) (h' : PSet X u) : PSet X fun o i v H Q => t o i v H Q ∨ u o i v H Q := by
  intro pins s σ H o i v ov iv w Q I ro ri rv q
  exact q.elim (h pins s σ H o i v ov iv w Q I ro ri rv) (h' pins s σ H o i v ov iv w Q I ro ri rv)
theorem d_set {G H : Hp} {Ω : Om} {vo vy vd : V} {o y d : D} {R : Om → Prop} {Q : Hp → Prop} (s : Sat K T B G H Ω) (ro : Rp K G vo o) (ry : Rp K G vy y) (rd : Rp K G vd d) (h : wSet o y d Ω R)
    (w : ∀ Ω' H', Sat K T B G H' Ω' → R Ω' → Q H') : rSetL vo vy vd H Q ∨ ∃ a H', vo = .ref a ∧ DPut H a vy vd H' ∧ Q H' := by
  obtain ⟨l, rfl, h⟩ := h
  rw [rp_ptr ro]
  rcases h with ⟨xs, i, j, ho, rfl, hj, r⟩ | ⟨kvs, k, ho, hk, hl, r⟩ | ⟨kvs, ds, k, ho, rfl, hk, hl, r⟩
  · obtain ⟨vs, hv, rv⟩ := own_lst s ho
    exact .inl ⟨l, vs, i, j, rfl, rp_int ry, hv, by rw [rv.length]; exact hj, w _ _ (s.write (ob' := .lst (xs.set j d)) ho ⟨_, upd_same, rv.set rd j⟩) r⟩
  · obtain ⟨ks, vs, ds, hv, rv, ll, rfl⟩ := (s.own l _ ho).2
    rw [keyD_rp ry hk]
    obtain ⟨ks', vs', ds', e1, e2, r', l'⟩ := dput_rel k rd rv ll
    refine .inr ⟨l, _, rfl, DPut.k hv ?_, w _ _ (s.write (ob' := .dk (dput (ks.zip ds) k d)) ho ⟨ks', vs', ds', by rw [upd_same, e1], r', l', e2⟩) r⟩
    have h1 : (ks.zip vs).length = (ks.zip ds).length := by rw [List.length_zip, List.length_zip, rv.length]
    rw [h1]
    exact Nat.lt_of_lt_of_le hl (by decide)
  · obtain ⟨ks, vs, es, hv, rv, ll, rfl⟩ := (s.own l _ ho).2
    obtain ⟨b, ws, rfl, hb, _, rb⟩ := rp_tup s.ex ry
    rw [keysD_rp rb hk] at hb
    obtain ⟨ks', vs', ds', e1, e2, r', l'⟩ := dput_rel k rd rv ll
    refine .inr ⟨l, _, rfl, DPut.t hv hb ?_, w _ _ (s.write (ob' := .dt (dput (ks.zip es) k d)) ho ⟨ks', vs', ds', by rw [upd_same, e1], r', l', e2⟩) r⟩
    have h1 : (ks.zip vs).length = (ks.zip es).length := by rw [List.length_zip, List.length_zip, rv.length]
    rw [h1]
    exact Nat.lt_of_lt_of_le hl (by decide)
def gSet (mo my : ME) : MG := fun d Ω Δ R => mo Ω Δ fun o Ω2 => my Ω2 Δ fun y Ω3 => wSet o y d Ω3 fun Ω4 => R Ω4 Δ
theorem rg_s {k : Nat} {o i : Expr} {mo mi : ME} (hr : Room k X.A) (ho : RE X T B o mo) (hi : RE X T B i mi) (ha : ∀ v, assign (.Subscript o i pos) X.env v = (do
      let ov ← holding [v] (eval o X.env)
      let iv ← holding [v, ov] (eval i X.env)
      standAt pos
      holding [v, ov, iv] (setItem ov iv v)
      release [v, ov, iv] []) := by intro _; rfl) : RG X T B (.Subscript o i pos) (gSet mo mi) :=
  pgM (pg_sub ho hi (PSet.or set_list (set_dict (room1 hr))) ha) fun v σ H Q ⟨G, Ω, Δ, d, R, s, e, r, m, w⟩ =>
    ⟨G, Ω, Δ, _, s, e, m, fun vo o Ω1 G1 H1 l1 s1 r1 m1 => ⟨G1, Ω1, Δ, _, s1, e.le l1, m1, fun vy y Ω2 G2 H2 l2 s2 r2 m2 =>
      d_set s2 (l2 _ _ r1) r2 ((l1.trans l2) _ _ r) m2 fun Ω' H' s' p => w _ _ _ _ _ (l1.trans l2) s' ((e.le l1).le l2) p⟩⟩

/-! ### loops -/
/-- what is walked: a tuple or a list that stands, or an owned list (told through the loop) -/
def srcOk (d : D) (xs : List D) (I : Nat → Om → Prop) : Prop := d = .tup xs ∨ d = .tuf xs ∨ d = .lst xs ∨ d = .lsq xs ∨ ∃ l, d = .ptr l ∧ ∀ i Ω, I i Ω → Ω l = some (.lst xs)
def tpD : D → Bool
  | .tup _ => true
  | .tuf _ => true
  | _ => false
def mFor (ma : ME) (g : MG) (tb : MS) : MS := fun Ω Δ k => ma Ω Δ fun d Ω1 => ∃ (xs : List D) (W : Nat → Om → Dl → Prop), srcOk d xs (fun i Ω' => ∃ Δ', W i Ω' Δ') ∧ W 0 Ω1 Δ ∧
  (∀ i x Ω' Δ', xs[i]? = some x → W i Ω' Δ' → g x Ω' Δ' fun Ω2 Δ2 => tb Ω2 Δ2 { k with nx := W (i + 1), ct := W (i + 1), bk := k.nx }) ∧ ∀ Ω' Δ', W xs.length Ω' Δ' → k.nx Ω' Δ'
/-- for j in range(..) -/
def mForR (ma : MA) (j : Nat) (tb : MS) : MS := fun Ω Δ k => ma Ω Δ fun ds Ω1 => ∃ (hi : Int) (W : Nat → Om → Dl → Prop), ds = [.int hi] ∧ (-1000000 ≤ hi ∧ hi ≤ 1000000) ∧ W 0 Ω1 Δ ∧
  (∀ (i : Nat) Ω' Δ', (i : Int) < hi → W i Ω' Δ' → tb Ω' (Δ'.set j (some (.int i))) { k with nx := W (i + 1), ct := W (i + 1), bk := k.nx }) ∧ ∀ Ω' Δ', W hi.toNat Ω' Δ' → k.nx Ω' Δ'
/-- any list or tuple -/
def iSeq (K : PySem.W.Frag) (tl : TE) : TI := fun σ H R => tl σ H fun x H1 => ∃ a, x = .ref a ∧ (((∃ xs, SqL K H1 a xs) ∧ R (Itl K a) H1) ∨ ((∃ xs, SqT K H1 a xs) ∧ R (Itt K a) H1))
theorem pi_seq {tg l : Expr} {tl : TE} (hl : PE X l tl) : PI X tg l (iSeq X.K tl) := by
  constructor
  intro pins s σ H R I h
  refine thn (hl.run pins s σ H _ I h) fun v s1 ⟨x, H1, I1, r1, a, e, q⟩ => ?_
  subst e
  cases r1
  have kp : ∀ (ob : Obj), Inv X pins σ H1 { s1 with heap := s1.heap.push ob } := fun ob => I1.kept (t' := s1.toks) fun b o e => Heap.get?_push_of_some _ e
  have fp : ∀ b ∈ [s1.heap.objs.size], FpOk X pins H1 b := fun b hb => by
    rw [List.mem_singleton.mp hb]
    exact I1.fpOk (Nat.le_refl _) (I1.hok.fresh (Nat.le_refl _))
  rcases q with ⟨⟨xs, hq⟩, q⟩ | ⟨⟨xs, hq⟩, q⟩
  · obtain ⟨its, rv, p, hz⟩ := I1.list hq
    exact wpAny_pyIter_list p.isList ⟨_, _, _, _, H1, rfl, kp _, turn_list a _, ⟨_, Heap.get?_push_size _ rfl, rfl, rfl⟩, fp, q⟩
  · obtain ⟨its, rv, p, hz⟩ := I1.tuple hq
    exact wpAny_pyIter_tuple (show s1.heap.IsTuple a its.toArray from p) ⟨_, _, _, _, H1, rfl, kp _, turn_tuple a _, ⟨_, Heap.get?_push_size _ rfl, rfl, rfl⟩, fp, q⟩
/-- what stands of the source at a turn -/
theorem src_at {G H : Hp} {Ω : Om} {v : V} {d : D} {xs : List D} {I : Nat → Om → Prop} {i : Nat} (h : srcOk d xs I) (s : Sat K T B G H Ω) (r : Rp K G v d) (hi : I i Ω) :
    ∃ a vs, v = .ref a ∧ RpAll K G vs xs ∧ ((tpD d = true ∧ SqT K H a vs) ∨ (tpD d = false ∧ SqL K H a vs)) := by
  rcases h with e | e | e | e | ⟨l, e, f⟩
  · subst e
    obtain ⟨a, vs, rfl, ha, _, ra⟩ := rp_tup s.ex r
    exact ⟨a, vs, rfl, ra, .inl ⟨rfl, SqT.of ha⟩⟩
  · subst e
    cases r with
    | @tuf a o vs ds h c n ra => exact ⟨a, vs, rfl, ra, .inl ⟨rfl, .inl (.inr ⟨o, s.ex _ _ h⟩)⟩⟩
  · subst e
    obtain ⟨a, vs, rfl, ha, _, ra⟩ := rp_lst s.ex r
    exact ⟨a, vs, rfl, ra, .inr ⟨rfl, SqL.of ha⟩⟩
  · subst e
    obtain ⟨a, vs, rfl, ha, ra⟩ := rp_lsq s.ex r
    exact ⟨a, vs, rfl, ra, .inr ⟨rfl, ha⟩⟩
  · subst e
    obtain ⟨vs, hv, rv⟩ := own_lst s (f i Ω hi)
    exact ⟨l, vs, rp_ptr r, rv, .inr ⟨rfl, SqL.of hv⟩⟩
theorem rs_for {iter tg : Expr} {body : List Stmt} {g : MG} {tb : MS} (hp : PassesOwn (model X.prog X.w) X.A X.env X.xe) (hc : X.calm = true) (hi : RE X T B iter ma) (hg : RG X T B tg g) (hb : RSs X T B body tb)
    (hs : ∀ x, foldedSetIterable iter X.env x = pure x := by intro _; rfl) : RS X T B (.For tg iter body [] pos) (mFor ma g tb) := psM (ps_for hp hc (pi_seq hi) hg hb hs) fun E σ H ⟨G, Ω, Δ, k, s, e, m, w⟩ =>
  ⟨G, Ω, Δ, _, s, e, m, fun v d Ω1 G1 H1 l1 s1 r1 ⟨xs, W, hsrc, w0, turn, fin⟩ => by
    have key : ∀ (J : It) (a : Addr), v = .ref a → (∀ i (Gi : Hp) Hi Ωi Δi, Le X.K G1 Gi → Sat X.K T B Gi Hi Ωi → W i Ωi Δi → ∃ vs, RpAll X.K Gi vs xs ∧ (i < xs.length → J.go i Hi) ∧ (xs.length ≤ i → J.stop i Hi) ∧ ∀ x H', J.yld i Hi x H' → H' = Hi ∧ vs[i]? = some x) →
        ∃ Wl : Nat → Nat → L2.St → Hp → Prop, (∃ m, Wl 0 m σ H1) ∧ ∀ i m σ H, Wl i m σ H → (J.stop i H ∧ E.nx σ H) ∨ (J.go i H ∧ ∃ N : L2.St → Hp → Prop, (∀ σ' H', N σ' H' → ∃ m', m' < m ∧ Wl (i + 1) m' σ' H') ∧
          ∀ x H', J.yld i H x H' → rG T B X.K g x σ H' fun σ2 H2 => rS X.K T B tb { E with nx := N, ct := N, bk := E.nx } σ2 H2) := fun J a hv hJ => by
      refine ⟨fun i m σ' H' => m = xs.length - i ∧ i ≤ xs.length ∧ ∃ Gi Ωi Δi, Le X.K G1 Gi ∧ Sat X.K T B Gi H' Ωi ∧ SlE X.K Gi σ' Δi ∧ W i Ωi Δi, ⟨_, rfl, Nat.zero_le _, G1, Ω1, Δ, Le.refl _ _, s1, e.le l1, w0⟩, ?_⟩
      rintro i m σ' H' ⟨rfl, hi, Gi, Ωi, Δi, li, si, ei, wi⟩
      obtain ⟨vs, ra, hgo, hstop, hy⟩ := hJ i Gi H' Ωi Δi li si wi
      by_cases hlt : i < xs.length
      · refine .inr ⟨hgo hlt, fun σ2 H2 => ∃ G2 Ω2 Δ2, Le X.K G1 G2 ∧ Sat X.K T B G2 H2 Ω2 ∧ SlE X.K G2 σ2 Δ2 ∧ W (i + 1) Ω2 Δ2, fun σ2 H2 ⟨G2, Ω2, Δ2, l2, s2, e2, w2⟩ => ⟨xs.length - (i + 1), by omega, rfl, hlt, G2, Ω2, Δ2, l2, s2, e2, w2⟩, fun x H2 y => ?_⟩
        obtain ⟨rfl, hx⟩ := hy x H2 y
        obtain ⟨dx, hdx, rx⟩ := ra.getV hx
        refine ⟨Gi, Ωi, Δi, dx, _, si, ei, rx, turn i dx Ωi Δi hdx wi, fun σ3 Δ3 Ω3 G3 H3 l3 s3 e3 m3 => ⟨G3, Ω3, Δ3, _, s3, e3, m3, ?_⟩⟩
        have lx : Le X.K G1 G3 := li.trans l3
        refine ⟨fun σ4 Δ4 Ω4 G4 H4 l4 s4 e4 m4 => ⟨G4, Ω4, Δ4, lx.trans l4, s4, e4, m4⟩, w.rt.le (l1.trans lx), w.nx.le (l1.trans lx), fun σ4 Δ4 Ω4 G4 H4 l4 s4 e4 m4 => ⟨G4, Ω4, Δ4, lx.trans l4, s4, e4, m4⟩⟩
      · have hlast : i = xs.length := by omega
        subst hlast
        exact .inl ⟨hstop (Nat.le_refl _), w.nx _ _ _ _ _ (l1.trans li) si ei (fin _ _ wi)⟩
    obtain ⟨a, vs0, hv, _, hk⟩ := src_at hsrc s1 r1 ⟨Δ, w0⟩
    refine ⟨a, hv, ?_⟩
    rcases hk with ⟨hd, hq⟩ | ⟨hd, hq⟩
    · refine .inr ⟨⟨vs0, hq⟩, key (Itt X.K a) a hv fun i Gi Hi Ωi Δi li si wi => ?_⟩
      obtain ⟨a', vs, hv', ra, hk⟩ := src_at hsrc si (li _ _ r1) ⟨Δi, wi⟩
      have ha : a' = a := by rw [hv] at hv'; cases hv'; rfl
      subst ha
      rcases hk with ⟨_, hq⟩ | ⟨hn, _⟩
      · have hl := ra.length
        refine ⟨vs, ra, fun h => ⟨vs, vs[i]'(by omega), hq, by simp⟩, fun h => ⟨vs, hq, by omega⟩, fun x H' ⟨e1, e2⟩ => ⟨e1, e2 vs hq⟩⟩
      · rw [hd] at hn; cases hn
    · refine .inl ⟨⟨vs0, hq⟩, key (Itl X.K a) a hv fun i Gi Hi Ωi Δi li si wi => ?_⟩
      obtain ⟨a', vs, hv', ra, hk⟩ := src_at hsrc si (li _ _ r1) ⟨Δi, wi⟩
      have ha : a' = a := by rw [hv] at hv'; cases hv'; rfl
      subst ha
      rcases hk with ⟨hn, _⟩ | ⟨_, hq⟩
      · rw [hd] at hn; cases hn
      · have hl := ra.length
        refine ⟨vs, ra, fun h => ⟨vs, vs[i]'(by omega), hq, by simp⟩, fun h => ⟨vs, hq, by omega⟩, fun x H' ⟨e1, e2⟩ => ⟨e1, e2 vs hq⟩⟩⟩
/-- a range's turns -/
theorem forR_of {j : Nat} {tb : MS} {k : Ke} {E : Ends} {G G1 H1 : Hp} {σ : L2.St} {Δ : Dl} {Ω1 : Om} {lo hi : Int} {W : Nat → Om → Dl → Prop} (w : WEnds K T B G k E) (l1 : Le K G G1) (s1 : Sat K T B G1 H1 Ω1) (e : SlE K G1 σ Δ) (w0 : W 0 Ω1 Δ)
    (turn : ∀ (i : Nat) Ω' Δ', lo + (i : Int) < hi → W i Ω' Δ' → tb Ω' (Δ'.set j (some (.int (lo + i)))) { k with nx := W (i + 1), ct := W (i + 1), bk := k.nx }) (fin : ∀ Ω' Δ', W (hi - lo).toNat Ω' Δ' → k.nx Ω' Δ') :
    ∃ Wl : Nat → Nat → L2.St → Hp → Prop, (∃ m, Wl 0 m σ H1) ∧ ∀ i m σ H, Wl i m σ H → ((Itr lo (hi - lo).toNat).stop i H ∧ E.nx σ H) ∨ ((Itr lo (hi - lo).toNat).go i H ∧ ∃ N : L2.St → Hp → Prop, (∀ σ' H', N σ' H' → ∃ m', m' < m ∧ Wl (i + 1) m' σ' H') ∧
      ∀ x H', (Itr lo (hi - lo).toNat).yld i H x H' → gName j x σ H' fun σ2 H2 => rS K T B tb { E with nx := N, ct := N, bk := E.nx } σ2 H2) := by
  refine for_range (lo := lo) (n := (hi - lo).toNat) (fun i σ' H' => ∃ Gi Ωi Δi, Le K G1 Gi ∧ Sat K T B Gi H' Ωi ∧ SlE K Gi σ' Δi ∧ W i Ωi Δi) ⟨G1, Ω1, Δ, Le.refl _ _, s1, e, w0⟩ (fun i σ' H' hi ⟨Gi, Ωi, Δi, li, si, ei, wi⟩ => ?_) fun σ' H' ⟨Gi, Ωi, Δi, li, si, ei, wi⟩ => w.nx _ _ _ _ _ (l1.trans li) si ei (fin _ _ wi)
  refine ⟨Gi, Ωi, _, _, si, ei.set (.int _), turn i Ωi Δi (by omega) wi, ?_⟩
  exact ⟨fun σ4 Δ4 Ω4 G4 H4 l4 s4 e4 m4 => ⟨G4, Ω4, Δ4, li.trans l4, s4, e4, m4⟩, w.rt.le (l1.trans li), w.nx.le (l1.trans li), fun σ4 Δ4 Ω4 G4 H4 l4 s4 e4 m4 => ⟨G4, Ω4, Δ4, li.trans l4, s4, e4, m4⟩⟩
theorem rs_forR1 {x : Str} {p p' : Pos} {body : List Stmt} {j : Nat} {tb : MS} {mr : MA} (hp : PassesOwn (model X.prog X.w) X.A X.env X.xe) (hc : X.calm = true) (hgr : Gl X "range") (hmr : X.mg "range" = none) (ha : RA X T B [a] mr) (hN : X.N.Nodup) (hi : X.N[j]? = some x) (hx : Loc X.env.scope x) (hb : RSs X T B body tb)
    (hse : starEach [a] X.env = [(false, eval a X.env)] := by rfl) (hs : ∀ z, foldedSetIterable (.Call (.Name "range" p) [a] [] p') X.env z = pure z := by intro _; rfl) (hf : X.fn x = true ∨ X.env.scope.names.lookup x = some .local := by first | exact .inl rfl | exact .inr rfl | assumption) {px : Pos} :
    RS X T B (.For (.Name x px) (.Call (.Name "range" p) [a] [] p') body [] pos) (mForR mr j tb) := psM (ps_for hp hc (pi_range1 hgr hmr ha hse) (pg_name hN hi hx hf) hb hs) fun E σ H ⟨G, Ω, Δ, k, s, e, m, w⟩ =>
  ⟨G, Ω, Δ, _, s, e, m, fun vs ds Ω1 G1 H1 l1 s1 r1 ⟨hi, W, hd, hb, w0, turn, fin⟩ => by
    subst hd
    cases r1 with
    | cons ra rb =>
      cases rb
      rw [rp_int ra]
      refine ⟨hi, rfl, by omega, by omega, ?_⟩
      have q := forR_of (K := X.K) (j := j) (tb := tb) (lo := 0) (hi := hi) w l1 s1 (e.le l1) w0 (fun i Ω' Δ' h wi => by rw [Int.zero_add]; exact turn i Ω' Δ' (by omega) wi) (by rw [Int.sub_zero]; exact fin)
      rw [Int.sub_zero] at q
      exact q⟩
/-- for j in range(lo, hi) -/
def mForR2 (ma : MA) (j : Nat) (tb : MS) : MS := fun Ω Δ k => ma Ω Δ fun ds Ω1 => ∃ (lo hi : Int) (W : Nat → Om → Dl → Prop), ds = [.int lo, .int hi] ∧ (-1000000 ≤ lo ∧ lo ≤ 1000000 ∧ -1000000 ≤ hi ∧ hi ≤ 1000000) ∧ W 0 Ω1 Δ ∧
  (∀ (i : Nat) Ω' Δ', lo + (i : Int) < hi → W i Ω' Δ' → tb Ω' (Δ'.set j (some (.int (lo + i)))) { k with nx := W (i + 1), ct := W (i + 1), bk := k.nx }) ∧ ∀ Ω' Δ', W (hi - lo).toNat Ω' Δ' → k.nx Ω' Δ'
end
end KG
/-! DE: calls of defs, methods, instances, built-ins, over data. -/
namespace KG
open L2 PySem PyProof.Rows PySem.Spec

/-! ### promises -/
abbrev FD := List D → Om → DK → Prop
def spO (K : PySem.W.Frag) (T : TabL) (F : FD) : Sp := fun vs H Q _ => ∃ G Ω ds P, Sat K T G G H Ω ∧ RpAll K G vs ds ∧ F ds Ω P ∧ WK K T G G P Q
/-- a def of the module by its name, its promise on data -/
structure Fn (P : Program) (w : World) (K : PySem.W.Frag) (mg : Str → Option Value) (base : Heap) (T : TabL) (k : Nat) (x : Str) (F : FD) : Prop where
  ex : ∃ (f : Addr) (fd : FuncData) (ps : List Str), FnOk P w K mg base C8.CX0 k f fd ps (spO K T F) ∧ mg x = some (.ref f) ∧ PySem.W.keepIn K (.ref f) = true ∧ Binds K fd ps []
/-- what may lie behind the end: less is owned, or the object that is handed back is frozen -/
def Fin (P : DK) : DK := fun d Ω => (∃ Ω', Sub Ω' Ω ∧ P d Ω') ∨ ∃ l ob Ω', d = .ptr l ∧ Ω l = some ob ∧ Sub Ω' (del Ω l) ∧ P ob.d Ω'
def endK (P : DK) : Ke := { nx := fun Ω _ => Fin P .non Ω, rt := Fin P }
theorem Fin.now {P : DK} {d : D} {Ω : Om} (h : P d Ω) : Fin P d Ω := .inl ⟨Ω, Sub.refl _, h⟩
theorem Fin.sub {P : DK} {d : D} {Ω Ω' : Om} (s : Sub Ω' Ω) (h : P d Ω') : Fin P d Ω := .inl ⟨Ω', s, h⟩
theorem Fin.frz {P : DK} {l : Addr} {ob : Ob} {Ω Ω' : Om} (e : Ω l = some ob) (s : Sub Ω' (del Ω l)) (h : P ob.d Ω') : Fin P (.ptr l) Ω := .inr ⟨l, ob, Ω', rfl, e, s, h⟩
def startD (N : Nat) (ds : List D) : Dl := ds.map some ++ List.replicate (N - ds.length) none
section
variable {K : PySem.W.Frag} {T : TabL} {B : Hp}
theorem RpAll.slots {G : Hp} : ∀ {vs : List V} {ds : List D} (n : Nat), RpAll K G vs ds → SlE K G (vs.map some ++ List.replicate n none) (ds.map some ++ List.replicate n none)
  | _, _, n, .nil => ⟨by simp, fun i d q => by
    rw [List.map_nil, List.nil_append, List.getElem?_replicate] at q
    split at q <;> cases q⟩
  | _, _, n, .cons h r => by
    have ih := RpAll.slots n r
    refine ⟨by simpa using ih.len, fun i d q => ?_⟩
    cases i with
    | zero =>
      simp only [List.map_cons, List.cons_append, List.getElem?_cons_zero, Option.some.injEq] at q
      subst q
      exact ⟨_, rfl, h⟩
    | succ i => exact ih.at_ i d q
theorem Sat.reb {G H : Hp} {Ω : Om} (s : Sat K T B G H Ω) : Sat K T G G H Ω := ⟨s.ex, s.own, s.tab, Le.refl K G⟩
theorem WK.reb {G : Hp} {P : DK} {Q : VK} (s : Le K B G) (w : WK K T B G P Q) : WK K T G G P Q := fun v d Ω G' H l s' r p => w v d Ω G' H l ⟨s'.ex, s'.own, s'.tab, s.trans s'.base⟩ r p
theorem WK.fin {G : Hp} {P : DK} {Q : VK} (w : WK K T B G P Q) : WK K T B G (Fin P) Q := fun v d Ω G' H l s r p => by
  rcases p with ⟨Ω', h, p⟩ | ⟨a, ob, Ω', rfl, ho, h, p⟩
  · exact w v d Ω' G' H l (s.sub h) r p
  · cases r
    obtain ⟨G2, l2, s2, r2⟩ := s.frozen ho
    exact w _ _ Ω' G2 H (l.trans l2) (s2.sub h) r2 p
theorem endK_ok {G : Hp} {P : DK} {Q : VK} {N : List Str} (w : WK K T G G P Q) : WEnds K T G G (endK P) { nx := fun _ H' => Q .non H', rt := Q } :=
  ⟨fun σ Δ Ω G' H l s e p => w.fin .non .non Ω G' H l s .non p, w.fin, fun _ _ _ _ _ _ _ _ p => p.elim, fun _ _ _ _ _ _ _ _ p => p.elim⟩
end
/-- the context of a def's body -/
abbrev CD (P : Program) (w : World) (K : PySem.W.Frag) (mg : Str → Option Value) (base : Heap) (N : List Str) (x : Str) (sc : Scope) (f : Addr) (cdv : Value) (A : Around) (outer : List Env) (s : Shared) (H : Hp) (E : XK) : Cx :=
  (cxOf C8.CX0 P w K mg base N x sc f cdv A outer s H E).nox
section
variable {P : Program} {w : World} {K : PySem.W.Frag} {mg : Str → Option Value} {base : Heap} {T : TabL} {x qual : Str} {params : Arguments} {body : List Stmt} {sc : Scope} {dvs : List V} {kws : List (Str × V)} {f : Addr} {fd : FuncData} {N ps : List Str} {k : Nat} {F : FD} {m : MS}
/-- a def's promise, by its body's reading m and what m does to data -/
theorem fnOk (Fd : FunD K x qual params body sc dvs kws f fd) (S : FnScope N ps sc) (len : ∀ ds Ω P, F ds Ω P → ds.length = ps.length)
    (hb : ∀ (cdv : Value) (A : Around) (outer : List Env) (s : Shared) (H B : Hp) (E : XK), Room k (A.deeper (envOfC qual sc s.heap.objs.size f cdv)) → RSs (CD P w K mg base N qual sc f cdv A outer s H E) T B body m)
    (goal : ∀ ds Ω P, F ds Ω P → m Ω (startD N.length ds) (endK P)) : FnOk P w K mg base C8.CX0 (k + 1) f fd ps (spO K T F) := by
  refine Fd.ok S (fun vs H Q E h => ?_) fun cdv A outer s H vs Q E hr h => ?_
  · obtain ⟨G, Ω, ds, P', _, r, h, _⟩ := h
    rw [r.length]
    exact len _ _ _ h
  · obtain ⟨G, Ω, ds, P', st, r, h, wk⟩ := h
    refine ⟨_, (hb cdv A outer s H G E hr).nox, G, Ω, startD N.length ds, endK P', st, ?_, goal ds Ω P' h, endK_ok (N := N) wk⟩
    unfold startD L2.start
    rw [← r.length]
    exact r.slots _
end
section
variable {X : Cx} {T : TabL} {B : Hp} {a b e o : Expr} {ma mb mo : ME} {es : List Expr} {mr : MA} {pos p apos : Pos} {k j : Nat} {x m : Str} {F : FD}
theorem tCall_of {t : TA} (dvs : List V) (dd : List D) (hd : ∀ G, RpAll X.K G dvs dd) : ∀ σ H Q, rE X.K T B (mCB (fun ds => F (ds ++ dd)) mr) σ H Q → tCall (spO X.K T F) dvs C8.E0 (rA X.K T B mr) σ H Q := fun σ H Q ⟨G, Ω, Δ, P, s, e, m, wk⟩ =>
  ⟨G, Ω, Δ, _, s, e, m, fun vs ds Ω1 G1 H1 l1 s1 r1 m1 => ⟨G1, Ω1, ds ++ dd, P, s1.reb, r1.append (hd G1), m1, (wk.le l1).reb s1.base⟩⟩
theorem re_def (c : Fn X.prog X.w X.K X.mg X.base T k x F) (hr : Room j X.A) (hk : k ≤ j) (hg : Gl X x) (ha : RA X T B (a :: es) mr)
    (hdb : (x == ("__debug__" : Str)) = false := by decide) (he : starEach (a :: es) X.env = (false, eval a X.env) :: starEach es X.env := by rfl) (hpl : (backTo pos (starEach es X.env)).any (·.1) = false := by rfl) :
    RE X T B (.Call (.Name x p) (a :: es) [] pos) (mCB F mr) := by
  obtain ⟨f, fd, ps, h1, h2, h3, h4⟩ := c.ex
  refine peM (pe_call h1 (hr.mono hk) hg h2 h3 h4 .nil (C8.pass0 (E := C8.E0)) ha hdb he hpl) fun σ H Q h => ?_
  refine tCall_of (t := rA X.K T B mr) [] [] (fun _ => .nil) σ H Q ?_
  obtain ⟨G, Ω, Δ, P, s, e, m, wk⟩ := h
  refine ⟨G, Ω, Δ, P, s, e, ?_, wk⟩
  show mr Ω Δ fun ds Ω1 => F (ds ++ []) Ω1 P
  have e0 : (fun (ds : List D) (Ω1 : Om) => F (ds ++ []) Ω1 P) = fun ds Ω1 => F ds Ω1 P := by
    funext ds Ω1
    rw [List.append_nil]
  rw [e0]
  exact m
/-- C(..) -/
def mMake (C : Addr) (F : FD) (ma : MA) : ME := fun Ω Δ P => ma Ω Δ fun ds Ω1 => ∀ x dx, Ω1 x = none → F (.ptr x :: ds) (put Ω1 x (.ob C dx [])) fun d Ω2 => d = .non ∧ P (.ptr x) Ω2
structure FnMk (P : Program) (w : World) (K : PySem.W.Frag) (mg : Str → Option Value) (base : Heap) (T : TabL) (k : Nat) (x : Str) (C : Addr) (F : FD) : Prop where
  ex : ∃ (f : Addr) (fd : FuncData) (ps : List Str), Mk K C f ∧ FnOk P w K mg base C8.CX0 k f fd ps (spO K T F) ∧ mg x = some (.ref C) ∧ Binds K fd ps []
theorem re_make {C : Addr} (c : FnMk X.prog X.w X.K X.mg X.base T k x C F) (hr : Room j X.A) (hk : k + 1 ≤ j) (hg : Gl X x) (ha : RA X T B (a :: es) mr)
    (hdb : (x == ("__debug__" : Str)) = false := by decide) (he : starEach (a :: es) X.env = (false, eval a X.env) :: starEach es X.env := by rfl) (hpl : (backTo pos (starEach es X.env)).any (·.1) = false := by rfl) :
    RE X T B (.Call (.Name x p) (a :: es) [] pos) (mMake C F mr) := by
  obtain ⟨f, fd, ps, h1, h2, h3, h4⟩ := c.ex
  refine peM (pe_make h1 h2 (hr.mono hk) hg h3 h4 .nil (C8.pass0 (E := C8.E0)) ha hdb he hpl) fun σ H Q ⟨G, Ω, Δ, P, s, e, m, wk⟩ => ?_
  refine ⟨G, Ω, Δ, _, s, e, m, fun vs ds Ω1 G1 H1 l1 s1 r1 m1 x dx hx hdx hn => ?_⟩
  obtain ⟨hG, hO⟩ := s1.free hx
  rw [List.append_nil]
  have s2 : Sat X.K T B (upd G1 dx (.own x)) (upd H1 dx (.own x)) Ω1 := s1.newG hdx
  have hx2 : upd H1 dx (.own x) x = none := by rw [upd_ne (Ne.symm hn)]; exact hx
  have l2 : Le X.K G1 (upd G1 dx (.own x)) := (Ex.new (s1.free hdx).1).le
  have s3 := s2.newO (p := x) (o := .ins C dx []) (ob := .ob C dx []) hx2 ⟨[], [], [], upd_same, .nil, rfl, rfl⟩
  exact ⟨_, _, .ptr x :: ds, _, s3.reb, .cons (.ptr x) (l2.all r1), m1 x dx hO, fun v d Ω' G' H' l' s' r' ⟨hd, p'⟩ => by
    subst hd
    cases r'
    exact ⟨rfl, wk _ _ Ω' G' H' ((l1.trans l2).trans l') ⟨s'.ex, s'.own, s'.tab, (s2.base.trans s'.base)⟩ (.ptr x) p'⟩⟩
/-- o.f -/
def fldOk (d : D) (Ω : Om) (f : Str) (C : Addr) (y : D) : Prop := (∃ fs, d = .ob C fs ∧ fs.lookup f = some y) ∨ ∃ l dx fs, d = .ptr l ∧ Ω l = some (.ob C dx fs) ∧ fs.lookup f = some y
def mFld (C : Addr) (ma : ME) (f : Str) : ME := fun Ω Δ P => ma Ω Δ fun d Ω1 => ∃ y, fldOk d Ω1 f C y ∧ P y Ω1
theorem lookup_rel {K : PySem.W.Frag} {G : Hp} {f : Str} {y : D} : ∀ {ks : List Str} {vs : List V} {ds : List D}, RpAll K G vs ds → (ks.zip ds).lookup f = some y → ∃ v, (ks.zip vs).lookup f = some v ∧ Rp K G v y
  | [], _, _, _, h => by simp at h
  | k :: ks, _, _, .nil, h => by simp at h
  | k :: ks, _, _, .cons q r, h => by
    rw [List.zip_cons_cons, List.lookup_cons] at h ⊢
    split at h
    · cases h
      exact ⟨_, rfl, q⟩
    · exact lookup_rel r h
theorem re_fld {C : Addr} {f : Str} (he : RE X T B e ma) (c : Cls X.K C) (n : NoAttr X.K C f) (hb : attributeBase e f X.env (eval e X.env) = eval e X.env := by rfl) : RE X T B (.Attribute e f pos) (mFld C ma f) := peM (pe_fld he hb) fun σ H Q ⟨G, Ω, Δ, P, s, e, m, wk⟩ =>
  ⟨G, Ω, Δ, _, s, e, m, fun v d Ω1 G1 H1 l1 s1 r1 ⟨y, hy, p⟩ => by
    rcases hy with ⟨fs, rfl, hl⟩ | ⟨l, dx, fs, rfl, ho, hl⟩
    · cases r1 with
      | @ob a C dx ks vs ds h r l2 =>
        obtain ⟨v, hv, rv⟩ := lookup_rel r hl
        exact ⟨a, C, dx, _, v, rfl, s1.ex _ _ h, c, n, hv, wk _ _ Ω1 G1 H1 l1 s1 rv p⟩
    · cases r1
      obtain ⟨ks, vs, ds, h, r, l2, rfl⟩ := (s1.own l _ ho).2
      obtain ⟨v, hv, rv⟩ := lookup_rel r hl
      exact ⟨l, C, dx, _, v, rfl, h, c, n, hv, wk _ _ Ω1 G1 H1 l1 s1 rv p⟩⟩
/-- o.f = e, o owned, the name not yet there -/
def mSetF (C : Addr) (mv mo : ME) (f : Str) : MS := fun Ω Δ k => mv Ω Δ fun y Ω1 => mo Ω1 Δ fun d Ω2 => ∃ l dx fs, d = .ptr l ∧ Ω2 l = some (.ob C dx fs) ∧ fs.lookup f = none ∧ fs.length < 100 ∧ k.nx (put Ω2 l (.ob C dx (fs ++ [(f, y)]))) Δ
theorem lookup_none {f : Str} {α β : Type} : ∀ {ks : List Str} {xs : List α} {ys : List β}, ks.length = xs.length → ks.length = ys.length → (ks.zip xs).lookup f = none → (ks.zip ys).lookup f = none
  | [], _, _, _, _, _ => rfl
  | k :: ks, x :: xs, y :: ys, h1, h2, h => by
    rw [List.zip_cons_cons, List.lookup_cons] at h ⊢
    split at h
    · cases h
    · exact lookup_none (by simpa using h1) (by simpa using h2) h
  | k :: ks, [], _, h, _, _ => by cases h
  | k :: ks, _ :: _, [], _, h, _ => by cases h
theorem putF_new (f : Str) (v : V) : ∀ fs : List (Str × V), fs.lookup f = none → putF f v fs = fs ++ [(f, v)]
  | [], _ => rfl
  | (g, w) :: fs, h => by
    rw [List.lookup_cons] at h
    split at h
    · cases h
    · rename_i hne
      have ih := putF_new f v fs h
      unfold putF
      have hg : ¬ (g = f) := fun z => by rw [z] at hne; simp at hne
      first
        | (rw [if_neg hg, ih]; rfl)
        | (simp only [hg, if_false, ih, List.cons_append])
        | simp [hg, ih]
theorem rs_setF {C : Addr} {f : Str} {pos' : Pos} (ho : RE X T B o mo) (hv : RE X T B e ma) (c : Cls X.K C) (n : NoAttr X.K C f) (hs : swapsWith e (some (.Attribute o f pos')) pos.line X.env = pure false := by rfl) : RS X T B (.Assign [.Attribute o f pos'] e pos) (mSetF C ma mo f) := psM (ps_fld ho hv hs) fun E σ H ⟨G, Ω, Δ, k, s, e, m, w⟩ =>
  ⟨G, Ω, Δ, _, s, e, m, fun v y Ω1 G1 H1 l1 s1 r1 m1 => ⟨G1, Ω1, Δ, _, s1, e.le l1, m1, fun v2 d Ω2 G2 H2 l2 s2 r2 ⟨l, dx, fs, hd, ho, hl, hn, m2⟩ => by
    subst hd
    cases r2
    obtain ⟨ks, vs, ds, h, r, ll, rfl⟩ := (s2.own l _ ho).2
    have hlen : (ks.zip vs).length = (ks.zip ds).length := by rw [List.length_zip, List.length_zip, r.length]
    refine ⟨l, C, dx, ks.zip vs, rfl, h, c, n, by rw [hlen]; omega, ?_⟩
    rw [putF_new f v _ (lookup_none (by rw [ll, r.length]) ll hl)]
    refine w.nx σ Δ _ G2 _ (l1.trans l2) (s2.write (ob' := .ob C dx (ks.zip ds ++ [(f, y)])) ho ⟨ks ++ [f], vs ++ [v], ds ++ [y], ?_, r.append (.cons (l2 _ _ r1) .nil), by simp [ll], ?_⟩) (e.le (l1.trans l2)) m2
    · rw [upd_same, List.zip_append ll] <;> rfl
    · rw [List.zip_append (by rw [ll, r.length])] <;> rfl⟩⟩
/-- o.m(..), a method of the text; o an instance that stands -/
structure FnMt (P : Program) (w : World) (K : PySem.W.Frag) (mg : Str → Option Value) (base : Heap) (T : TabL) (k : Nat) (C : Addr) (m : Str) (F : FD) : Prop where
  ex : ∃ (f : Addr) (fd : FuncData) (ps : List Str), Cls K C ∧ Meth K C m f ∧ FnOk P w K mg base C8.CX0 k f fd ps (spO K T F) ∧ Binds K fd ps []
def mMeth (C : Addr) (m : Str) (F : FD) (mo : ME) (ma : MA) : ME := fun Ω Δ P => mo Ω Δ fun d Ω1 => ∃ fs, d = .ob C fs ∧ fs.lookup m = none ∧ ma Ω1 Δ fun ds Ω2 => F (d :: ds) Ω2 P
theorem re_meth {C : Addr} {pl : Sem Bool} (c : FnMt X.prog X.w X.K X.mg X.base T k C m F) (hr : Room j X.A) (hk : k ≤ j) (ho : RE X T B o mo) (ha : RA X T B (a :: es) mr)
    (hst : starEach (a :: es) X.env = (false, eval a X.env) :: starEach es X.env := by rfl) (hpl : (backTo pos (starEach es X.env)).any (·.1) = false := by rfl)
    (ht : eval (.Call (.Attribute o m apos) (a :: es) [] pos) X.env = (do
      let ov ← eval o X.env
      standAt apos.atName
      let (f, first) ← holding [ov] (getMethod ov m pl)
      callWith pos f first (backTo pos (starEach (a :: es) X.env)) (backToKw pos (keywordEach [] X.env))) := by rfl) :
    RE X T B (.Call (.Attribute o m apos) (a :: es) [] pos) (mMeth C m F mo mr) := by
  obtain ⟨f, fd, ps, h0, h1, h2, h3⟩ := c.ex
  refine peM (pe_meth ho h0 h1 h2 (hr.mono hk) h3 .nil (C8.pass0 (E := C8.E0)) ha hst hpl ht) fun σ H Q ⟨G, Ω, Δ, P, s, e, m, wk⟩ => ?_
  refine ⟨G, Ω, Δ, _, s, e, m, fun v d Ω1 G1 H1 l1 s1 r1 ⟨fs, hd, hn, m1⟩ => ?_⟩
  subst hd
  cases r1 with
  | @ob l C dx ks vs ds h r ll =>
    refine ⟨l, dx, _, rfl, s1.ex _ _ h, lookup_none (by rw [ll, r.length]) ll hn, G1, Ω1, Δ, _, s1, e.le l1, m1, fun ws es Ω2 G2 H2 l2 s2 r2 m2 => ?_⟩
    show spO X.K T F (V.ref l :: (ws ++ [])) H2 Q C8.E0
    rw [List.append_nil]
    exact ⟨G2, Ω2, _, P, s2.reb, .cons (l2 _ _ (.ob h r ll)) r2, m2, (wk.le (l1.trans l2)).reb s2.base⟩

/-! ### built-ins -/
def lenD (d : D) (Ω : Om) (n : Nat) : Prop := (∃ xs, (d = .tup xs ∨ d = .tuf xs ∨ d = .lst xs ∨ d = .lsq xs) ∧ n = xs.length) ∨ ∃ l xs, d = .ptr l ∧ Ω l = some (.lst xs) ∧ n = xs.length
def wLen : FD := fun ds Ω P => ∃ d n, ds = [d] ∧ lenD d Ω n ∧ P (.int n) Ω
theorem d_len {K : PySem.W.Frag} : DCall K T B (fun xs H Q => ∃ x n, xs = [x] ∧ LenV K x H n ∧ Q (.int n) H) wLen := by
  intro G H Ω vs ds P Q s r h wk
  obtain ⟨d, n, rfl, hl, p⟩ := h
  cases r with
  | cons r r' =>
    cases r'
    rcases hl with ⟨xs, hd, rfl⟩ | ⟨l, xs, rfl, ho, rfl⟩
    · rcases hd with rfl | rfl | rfl | rfl
      · obtain ⟨a, vs, rfl, ha, _, ra⟩ := rp_tup s.ex r
        exact ⟨_, _, rfl, .inr ⟨vs, SqT.of ha, ra.length.symm⟩, wk.now s (.int _) p⟩
      · cases r with
        | @tuf a o vs ds h c n ra => exact ⟨_, _, rfl, .inr ⟨vs, .inl (.inr ⟨o, s.ex _ _ h⟩), ra.length.symm⟩, wk.now s (.int _) p⟩
      · obtain ⟨a, vs, rfl, ha, _, ra⟩ := rp_lst s.ex r
        exact ⟨_, _, rfl, .inl ⟨vs, SqL.of ha, ra.length.symm⟩, wk.now s (.int _) p⟩
      · obtain ⟨a, vs, rfl, ha, ra⟩ := rp_lsq s.ex r
        exact ⟨_, _, rfl, .inl ⟨vs, ha, ra.length.symm⟩, wk.now s (.int _) p⟩
    · cases r
      obtain ⟨vs, hv, rv⟩ := own_lst s ho
      exact ⟨_, _, rfl, .inl ⟨vs, SqL.of hv, rv.length.symm⟩, wk.now s (.int _) p⟩
theorem re_len (hg : Gl X "len") (hm : X.mg "len" = none) (ha : RA X T B (a :: es) mr) (he : starEach (a :: es) X.env = (false, eval a X.env) :: starEach es X.env := by rfl) (hpl : (backTo pos (starEach es X.env)).any (·.1) = false := by rfl) :
    RE X T B (.Call (.Name "len" p) (a :: es) [] pos) (mCB wLen mr) := re_callB call_len d_len hg hm rfl ha (by decide) (by decide) he hpl
end
end KG
/-! DF: more built-ins and the built-in methods, over data. -/
namespace KG
open L2 PySem PyProof.Rows PySem.Spec

/-- a sequence's items -/
def seqD (d : D) (Ω : Om) (xs : List D) : Prop := d = .tup xs ∨ d = .tuf xs ∨ d = .lst xs ∨ d = .lsq xs ∨ ∃ l, d = .ptr l ∧ Ω l = some (.lst xs)
/-- .. of a list -/
def lstD (d : D) (Ω : Om) (xs : List D) : Prop := d = .lst xs ∨ d = .lsq xs ∨ ∃ l, d = .ptr l ∧ Ω l = some (.lst xs)
section
variable {K : PySem.W.Frag} {T : TabL} {B G H : Hp} {Ω : Om}
theorem lst_at {v : V} {d : D} {xs : List D} (s : Sat K T B G H Ω) (r : Rp K G v d) (h : lstD d Ω xs) : ∃ a vs, v = .ref a ∧ SqL K H a vs ∧ RpAll K G vs xs := by
  rcases h with rfl | rfl | ⟨l, rfl, ho⟩
  · obtain ⟨a, vs, rfl, ha, _, ra⟩ := rp_lst s.ex r
    exact ⟨a, vs, rfl, SqL.of ha, ra⟩
  · obtain ⟨a, vs, rfl, ha, ra⟩ := rp_lsq s.ex r
    exact ⟨a, vs, rfl, ha, ra⟩
  · obtain ⟨vs, hv, rv⟩ := own_lst s ho
    cases r
    exact ⟨l, vs, rfl, SqL.of hv, rv⟩
theorem seq_at {v : V} {d : D} {xs : List D} (s : Sat K T B G H Ω) (r : Rp K G v d) (h : seqD d Ω xs) : ∃ a vs, v = .ref a ∧ (SqL K H a vs ∨ SqT K H a vs) ∧ RpAll K G vs xs := by
  rcases h with rfl | rfl | h
  · obtain ⟨a, vs, rfl, ha, _, ra⟩ := rp_tup s.ex r
    exact ⟨a, vs, rfl, .inr (SqT.of ha), ra⟩
  · cases r with
    | @tuf a o vs ds h c n ra => exact ⟨a, vs, rfl, .inr (.inl (.inr ⟨o, s.ex _ _ h⟩)), ra⟩
  · obtain ⟨a, vs, h1, h2, h3⟩ := lst_at s r h
    exact ⟨a, vs, h1, .inl h2, h3⟩
def dkD (d : D) (Ω : Om) (kvs : List (Key × D)) : Prop := d = .dk kvs ∨ ∃ l, d = .ptr l ∧ Ω l = some (.dk kvs)
def dtD (d : D) (Ω : Om) (kvs : List (List Key × D)) : Prop := d = .dt kvs ∨ ∃ l, d = .ptr l ∧ Ω l = some (.dt kvs)
theorem dk_at {v : V} {d : D} {kvs : List (Key × D)} (s : Sat K T B G H Ω) (r : Rp K G v d) (h : dkD d Ω kvs) : ∃ (a : Addr) (ks : List Key) (xs : List V) (es : List D), v = .ref a ∧ Rd H a (.dK (ks.zip xs)) ∧ RpAll K G xs es ∧ ks.length = xs.length ∧ kvs = ks.zip es := by
  rcases h with rfl | ⟨l, rfl, ho⟩
  · exact rp_dk s.ex r
  · obtain ⟨ks, vs, es, h1, h2, h3, h4⟩ := (s.own l _ ho).2
    cases r
    exact ⟨l, ks, vs, es, rfl, .inl h1, h2, h3, h4⟩
theorem dt_at {v : V} {d : D} {kvs : List (List Key × D)} (s : Sat K T B G H Ω) (r : Rp K G v d) (h : dtD d Ω kvs) : ∃ (a : Addr) (ks : List (List Key)) (xs : List V) (es : List D), v = .ref a ∧ Rd H a (.dT (ks.zip xs)) ∧ RpAll K G xs es ∧ ks.length = xs.length ∧ kvs = ks.zip es := by
  rcases h with rfl | ⟨l, rfl, ho⟩
  · exact rp_dt s.ex r
  · obtain ⟨ks, vs, es, h1, h2, h3, h4⟩ := (s.own l _ ho).2
    cases r
    exact ⟨l, ks, vs, es, rfl, .inl h1, h2, h3, h4⟩
theorem ints_of : ∀ {vs : List V} {ns : List Int}, RpAll K G vs (ns.map .int) → vs = ns.map V.int
  | _, [], .nil => rfl
  | _, n :: ns, .cons h r => by rw [rp_int h, ints_of r]; rfl
theorem ints_rp : ∀ (ns : List Int), RpAll K G (ns.map V.int) (ns.map .int)
  | [] => .nil
  | n :: ns => .cons (.int n) (ints_rp ns)
theorem bls_of : ∀ {vs : List V} {ns : List Bool}, RpAll K G vs (ns.map .bl) → vs = ns.map V.bl
  | _, [], .nil => rfl
  | _, n :: ns, .cons h r => by rw [rp_bl h, bls_of r]; rfl

/-! ### list, tuple -/
def wListO : FD := fun ds Ω P => ∃ d xs, ds = [d] ∧ seqD d Ω xs ∧ ∀ l, Ω l = none → P (.ptr l) (put Ω l (.lst xs))
def wList : FD := fun ds Ω P => ∃ d xs, ds = [d] ∧ seqD d Ω xs ∧ P (.lst xs) Ω
def kD : Key → D
  | .inl i => .int i
  | .inr x => .str x
/-- list(d), d a dict with tuple keys -/
def wListK : FD := fun ds Ω P => ∃ d kvs, ds = [d] ∧ dtD d Ω kvs ∧ P (.lst (kvs.map fun kv => .tup (kv.1.map kD))) Ω
def wTuple : FD := fun ds Ω P => ∃ d xs, ds = [d] ∧ ((d = .tup xs ∧ P (.tup xs) Ω) ∨ (d = .tuf xs ∧ P (.tuf xs) Ω) ∨ (lstD d Ω xs ∧ P (.tup xs) Ω))
theorem kD_rp : ∀ (ks : List Key), RpAll K G (ks.map kV) (ks.map kD)
  | [] => .nil
  | .inl i :: ks => .cons (.int i) (kD_rp ks)
  | .inr x :: ks => .cons (.str x) (kD_rp ks)
theorem know_keys {kvs : List (List Key × V)} : ∀ {ks : List (List Key)} {xs : List V} {bs : List Addr} {G : Hp}, ks.length = xs.length → IsKeys H (ks.zip xs) bs → Sat K T B G H Ω →
    ∃ G', Le K G G' ∧ Sat K T B G' H Ω ∧ RpAll K G' (bs.map V.ref) (ks.map fun k => .tup (k.map kD))
  | [], _, bs, G, _, h, s => by
    cases h
    exact ⟨G, Le.refl K G, s, .nil⟩
  | k :: ks, [], _, _, l, _, _ => by cases l
  | k :: ks, x :: xs, bs, G, l, h, s => by
    cases h with
    | cons h1 h2 =>
      obtain ⟨s1, l1⟩ := s.know h1
      obtain ⟨G2, l2, s2, r2⟩ := know_keys (kvs := kvs) (by simpa using l) h2 s1
      exact ⟨G2, l1.trans l2, s2, .cons (l2 _ _ (.tup upd_same (kD_rp k))) r2⟩
theorem map_zip1 {α β γ : Type} (f : α → γ) : ∀ {ks : List α} {ds : List β}, ks.length = ds.length → (ks.zip ds).map (fun kv => f kv.1) = ks.map f
  | [], _, _ => rfl
  | k :: ks, [], h => by cases h
  | k :: ks, d :: ds, h => by
    rw [List.zip_cons_cons, List.map_cons, List.map_cons, map_zip1 f (by simpa using h)]
theorem d_listO : DCall K T B (fun xs H Q => ∃ p ys, xs = [.ref p] ∧ (SqL K H p ys ∨ SqT K H p ys) ∧ ∀ l, H l = none → Q (.ref l) (upd H l (.lst ys))) wListO := by
  intro G H Ω vs ds P Q s r h wk
  obtain ⟨d, xs, rfl, hl, p⟩ := h
  cases r with
  | cons r r' =>
    cases r'
    obtain ⟨a, vs, rfl, h2, h3⟩ := seq_at s r hl
    exact ⟨a, vs, rfl, h2, fun l hl => wk.lstO s h3 p hl⟩
theorem d_list : DCall K T B (fun xs H Q => ∃ p ys, xs = [.ref p] ∧ (SqL K H p ys ∨ SqT K H p ys) ∧ ∀ l, H l = none → Q (.ref l) (upd H l (.lst ys))) wList := by
  intro G H Ω vs ds P Q s r h wk
  obtain ⟨d, xs, rfl, hl, p⟩ := h
  cases r with
  | cons r r' =>
    cases r'
    obtain ⟨a, vs, rfl, h2, h3⟩ := seq_at s r hl
    exact ⟨a, vs, rfl, h2, fun l hl => wk.lst s h3 p hl⟩
theorem d_listK : DCall K T B (fun xs H Q => ∃ d kvs, xs = [V.ref d] ∧ Rd H d (.dT kvs) ∧ ∀ p bs, H p = none → IsKeys H kvs bs → Q (.ref p) (upd H p (.lst (bs.map V.ref)))) wListK := by
  intro G H Ω vs ds P Q s r h wk
  obtain ⟨d, kvs, rfl, hd, p⟩ := h
  cases r with
  | cons r r' =>
    cases r'
    obtain ⟨a, ks, xs, es, rfl, h1, h2, h3, rfl⟩ := dt_at s r hd
    refine ⟨a, _, rfl, h1, fun q bs hq hk => ?_⟩
    obtain ⟨G', l', s', r'⟩ := know_keys (kvs := ks.zip xs) h3 hk s
    rw [map_zip1 (fun k : List Key => D.tup (k.map kD)) (h3.trans h2.length)] at p
    exact (wk.le l').lst s' r' p hq
theorem d_tuple : DCall K T B (fun xs H Q => ∃ p ys, xs = [.ref p] ∧ ((SqL K H p ys ∧ ∀ l, H l = none → Q (.ref l) (upd H l (.tup ys))) ∨ (SqT K H p ys ∧ Q (.ref p) H))) wTuple := by
  intro G H Ω vs ds P Q s r h wk
  obtain ⟨d, xs, rfl, h⟩ := h
  cases r with
  | cons r r' =>
    cases r'
    rcases h with ⟨rfl, p⟩ | ⟨rfl, p⟩ | ⟨h, p⟩
    · obtain ⟨a, vs, rfl, ha, _, ra⟩ := rp_tup s.ex r
      exact ⟨a, vs, rfl, .inr ⟨SqT.of ha, wk.now s r p⟩⟩
    · obtain ⟨a, vs, rfl, ha, _⟩ := seq_at s r (.inr (.inl rfl))
      cases r with
      | @tuf a o vs ds h c n ra => exact ⟨a, vs, rfl, .inr ⟨.inl (.inr ⟨o, s.ex _ _ h⟩), wk.now s (.tuf h c n ra) p⟩⟩
    · obtain ⟨a, vs, rfl, ha, ra⟩ := lst_at s r h
      exact ⟨a, vs, rfl, .inl ⟨ha, fun l hl => wk.tup s ra p hl⟩⟩

/-! ### numbers -/
def wInt : FD := fun ds Ω P => ∃ i, ds = [.int i] ∧ P (.int i) Ω
def wAbs : FD := fun ds Ω P => ∃ i, ds = [.int i] ∧ P (.int (if i < 0 then -i else i)) Ω
theorem one_int {vs : List V} {i : Int} (r : RpAll K G vs [.int i]) : vs = [.int i] := by
  cases r with
  | cons r r' => cases r'; rw [rp_int r]
theorem d_int : DCall K T B (fun xs H Q => (∃ i, xs = [.int i] ∧ Q (.int i) H) ∨ ∃ k, xs = [.bl k] ∧ Q (.int (if k then 1 else 0)) H) wInt := by
  intro G H Ω vs ds P Q s r h wk
  obtain ⟨i, rfl, p⟩ := h
  exact .inl ⟨i, one_int r, wk.now s (.int i) p⟩
theorem d_abs : DCall K T B (fun xs H Q => ∃ i, xs = [.int i] ∧ Q (.int (if i < 0 then -i else i)) H) wAbs := by
  intro G H Ω vs ds P Q s r h wk
  obtain ⟨i, rfl, p⟩ := h
  exact ⟨i, one_int r, wk.now s (.int _) p⟩
/-! ### sum, any -/
def wSum : FD := fun ds Ω P => ∃ (d : D) (ns : List Int), ds = [d] ∧ lstD d Ω (ns.map .int) ∧ P (.int ns.sum) Ω
def wAny : FD := fun ds Ω P => ∃ (d : D) (bs : List Bool), ds = [d] ∧ lstD d Ω (bs.map .bl) ∧ P (.bl (bs.any id)) Ω
theorem d_sum : DCall K T B (rSum K) wSum := by
  intro G H Ω vs ds P Q s r h wk
  obtain ⟨d, ns, rfl, hl, p⟩ := h
  cases r with
  | cons r r' =>
    cases r'
    obtain ⟨a, vs, rfl, ha, ra⟩ := lst_at s r hl
    rw [ints_of ra] at ha
    exact ⟨a, ns, rfl, ha, wk.now s (.int _) p⟩
theorem d_any : DCall K T B (rAny K) wAny := by
  intro G H Ω vs ds P Q s r h wk
  obtain ⟨d, ns, rfl, hl, p⟩ := h
  cases r with
  | cons r r' =>
    cases r'
    obtain ⟨a, vs, rfl, ha, ra⟩ := lst_at s r hl
    rw [bls_of ra] at ha
    exact ⟨a, ns, rfl, ha, wk.now s (.bl _) p⟩
/-! ### isinstance -/
def tyN (d : D) (Ω : Om) (t : String) : Prop := (d = .non ∧ t = "NoneType") ∨ (∃ b, d = .bl b ∧ t = "bool") ∨ (∃ i, d = .int i ∧ t = "int") ∨ (∃ x, d = .str x ∧ t = "str") ∨ (∃ xs, (d = .tup xs ∨ d = .tuf xs) ∧ t = "tuple") ∨ (∃ xs, d = .lst xs ∧ t = "list") ∨ ∃ l xs, d = .ptr l ∧ Ω l = some (.lst xs) ∧ t = "list"
theorem ty_at {v : V} {d : D} {t : String} (s : Sat K T B G H Ω) (r : Rp K G v d) (h : tyN d Ω t) : TyX K H v (.type t) := by
  rcases h with ⟨rfl, rfl⟩ | ⟨b, rfl, rfl⟩ | ⟨i, rfl, rfl⟩ | ⟨x, rfl, rfl⟩ | ⟨xs, rfl | rfl, rfl⟩ | ⟨xs, rfl, rfl⟩ | ⟨l, xs, rfl, ho, rfl⟩
  · cases r; exact .base .non
  · cases r; exact .base (.bl _)
  · cases r; exact .base (.int _)
  · cases r; exact .base (.str _)
  · obtain ⟨a, vs, rfl, ha, _, ra⟩ := rp_tup s.ex r
    exact .base (.tup ha)
  · cases r with
    | @tuf a o vs ds h c n ra => exact .fTuple (s.ex _ _ h)
  · obtain ⟨a, vs, rfl, ha, _, ra⟩ := rp_lst s.ex r
    exact .base (.lst ha)
  · obtain ⟨vs, hv, rv⟩ := own_lst s ho
    cases r
    exact .base (.lst hv)
def wIsi : FD := fun ds Ω P => ∃ d t c b, ds = [d, .ty c] ∧ tyN d Ω t ∧ kitB t c = some b ∧ P (.bl b) Ω
/-- .. a list or a tuple? -/
def wIsiS : FD := fun ds Ω P => ∃ d t, ds = [d, .tup [.ty "list", .ty "tuple"]] ∧ tyN d Ω t ∧ (t = "list" ∨ t = "tuple") ∧ P (.bl true) Ω
theorem d_isi : DCall K T B (rIsi K) wIsi := by
  intro G H Ω vs ds P Q s r h wk
  obtain ⟨d, t, c, b, rfl, ht, hk, p⟩ := h
  cases r with
  | cons r r' =>
    cases r' with
    | cons r2 r' =>
      cases r'
      rw [rp_ty r2]
      exact ⟨_, .ty c, .type t, .type c, b, rfl, .ty c, ty_at s r ht, kit_ty hk, wk.now s (.bl b) p⟩
theorem kit_seq (t : String) (h : t = "list" ∨ t = "tuple") : PySem.W.kitAny K (.type t) [.type "list", .type "tuple"] = some true := by
  rcases h with rfl | rfl
  · exact kitAny_cons (b := true) (kit_ty (by decide +kernel)) (fun z => by cases z) fun _ => rfl
  · exact kitAny_cons (b := false) (kit_ty (by decide +kernel)) (fun _ => kitAny_cons (b := true) (kit_ty (by decide +kernel)) (fun z => by cases z) fun _ => rfl) fun z => by cases z
theorem d_isiS : DCall K T B (rIsiT K) wIsiS := by
  intro G H Ω vs ds P Q s r h wk
  obtain ⟨d, t, rfl, ht, hs, p⟩ := h
  cases r with
  | cons r r' =>
    cases r' with
    | cons r2 r' =>
      cases r'
      obtain ⟨a, ws, rfl, ha, _, ra⟩ := rp_tup s.ex r2
      cases ra with
      | cons q1 q' =>
        cases q' with
        | cons q2 q' =>
          cases q'
          rw [rp_ty q1, rp_ty q2] at ha
          exact ⟨_, a, _, _, _, true, rfl, ha, .cons (.ty _) (.cons (.ty _) .nil), ty_at s r ht, kit_seq t hs, wk.now s (.bl true) p⟩
/-! ### sorted -/
/-- sorted(d), the keys are numbers -/
def wSortK : FD := fun ds Ω P => ∃ (d : D) (kvs : List (Key × D)) (ns : List Int), ds = [d] ∧ dkD d Ω kvs ∧ kvs.map (·.1) = ns.map Sum.inl ∧ ns.length < 64 ∧ ∀ ms : List Int, ms.Perm ns → ms.Pairwise (· ≤ ·) → P (.lst (ms.map .int)) Ω
theorem d_sortK : DCall K T B (fun xs H Q => ∃ (a : Addr) (kvs : List (Key × V)) (ks : List Int), xs = [.ref a] ∧ Rd H a (.dK kvs) ∧ kvs.map (·.1) = ks.map Sum.inl ∧ ks.length < 64 ∧
    ∀ (ys : List Int) (p : Addr), ys.Perm ks → ys.Pairwise (· ≤ ·) → H p = none → Q (.ref p) (upd H p (.lst (ys.map V.int)))) wSortK := by
  intro G H Ω vs ds P Q s r h wk
  obtain ⟨d, kvs, ns, rfl, hd, hk, hl, p⟩ := h
  cases r with
  | cons r r' =>
    cases r'
    obtain ⟨a, ks, xs, es, rfl, h1, h2, h3, rfl⟩ := dk_at s r hd
    have hk2 : (ks.zip xs).map (·.1) = ns.map Sum.inl := by
      rw [map_zip1 (fun k => k) h3]
      rw [map_zip1 (fun k => k) (h3.trans h2.length)] at hk
      exact hk
    exact ⟨a, _, ns, rfl, h1, hk2, hl, fun ys q hp hpw hq => wk.lst s (ints_rp ys) (p ys hp hpw) hq⟩
theorem perm_map {α β : Type} {f : α → β} : ∀ {a b : List β}, a.Perm b → ∀ L : List α, b = L.map f → ∃ L' : List α, L'.Perm L ∧ a = L'.map f := by
  intro a b h
  induction h with
  | nil =>
    intro L hL
    cases L with
    | nil => exact ⟨[], List.Perm.refl _, rfl⟩
    | cons x l => cases hL
  | cons x _ ih =>
    intro L hL
    cases L with
    | nil => cases hL
    | cons y L =>
      rw [List.map_cons] at hL
      cases hL
      obtain ⟨L', h1, rfl⟩ := ih L rfl
      exact ⟨y :: L', h1.cons y, rfl⟩
  | swap x y l =>
    intro L hL
    cases L with
    | nil => cases hL
    | cons z L =>
      cases L with
      | nil => rw [List.map_cons] at hL; cases hL
      | cons z2 L =>
        rw [List.map_cons, List.map_cons] at hL
        cases hL
        exact ⟨z2 :: z :: L, .swap _ _ _, rfl⟩
  | trans _ _ ih1 ih2 =>
    intro L hL
    obtain ⟨L1, h1, e1⟩ := ih2 L hL
    obtain ⟨L2, h2, e2⟩ := ih1 L1 e1
    exact ⟨L2, h2.trans h1, e2⟩
theorem RpAll.perm {vs : List V} {ds : List D} (r : RpAll K G vs ds) : ∀ {ws : List V}, ws.Perm vs → ∃ es, es.Perm ds ∧ RpAll K G ws es := by
  intro ws h
  have key : ∃ L : List (V × D), vs = L.map (·.1) ∧ ds = L.map (·.2) ∧ ∀ p ∈ L, Rp K G p.1 p.2 := by
    clear h
    suffices h : ∀ (vs : List V) (ds : List D), RpAll K G vs ds → ∃ L : List (V × D), vs = L.map (·.1) ∧ ds = L.map (·.2) ∧ ∀ p ∈ L, Rp K G p.1 p.2 from h vs ds r
    intro vs
    induction vs with
    | nil => intro ds r; cases r; exact ⟨[], rfl, rfl, fun p hp => by cases hp⟩
    | cons v vs ih =>
      intro ds r
      cases r with
      | @cons _ _ d ds q r =>
        obtain ⟨L, h1, h2, h3⟩ := ih ds r
        exact ⟨(v, d) :: L, by rw [h1]; rfl, by rw [h2]; rfl, fun p hp => by
          rcases List.mem_cons.mp hp with rfl | hp
          · exact q
          · exact h3 p hp⟩
  obtain ⟨L, rfl, rfl, hL⟩ := key
  obtain ⟨L', h1, rfl⟩ := perm_map h L rfl
  refine ⟨L'.map (·.2), h1.map _, ?_⟩
  have hL' : ∀ p ∈ L', Rp K G p.1 p.2 := fun p hp => hL p (h1.mem_iff.mp hp)
  clear h h1 hL r
  induction L' with
  | nil => exact .nil
  | cons p L' ih => exact .cons (hL' p List.mem_cons_self) (ih fun q hq => hL' q (List.mem_cons_of_mem _ hq))
/-- a tuple of numbers -/
abbrev tI (ns : List Int) : D := .tup (ns.map .int)
/-- sorted(xs), fewer than 64 tuples of k numbers in [0, b) -/
def wSortT (k : Nat) (b : Int) : FD := fun ds Ω P => ∃ (d : D) (L : List (List Int)), ds = [d] ∧ lstD d Ω (L.map tI) ∧ L.length < 64 ∧ (∀ ns ∈ L, ns.length = k ∧ TS.Bd b ns) ∧ ∀ L' : List (List Int), L'.Perm L → L'.Pairwise (fun n m => TS.code b n ≤ TS.code b m) → P (.lst (L'.map tI)) Ω
theorem tI_at {v : V} {ns : List Int} (s : Sat K T B G H Ω) (r : Rp K G v (tI ns)) : TupI K H v ns := by
  obtain ⟨a, vs, rfl, ha, _, ra⟩ := rp_tup s.ex r
  rw [ints_of ra] at ha
  exact ⟨a, rfl, SqT.of ha⟩
theorem pw_rp {R : List Int → List Int → Prop} (s : Sat K T B G H Ω) : ∀ {ws : List V} {L : List (List Int)}, RpAll K G ws (L.map tI) → ws.Pairwise (fun x y => ∀ n m, TupI K H x n → TupI K H y m → R n m) → L.Pairwise R
  | _, [], _, _ => .nil
  | _, n :: L, .cons q r, h => by
    cases h with
    | cons h1 h2 =>
      refine .cons (fun m hm => ?_) (pw_rp s r h2)
      obtain ⟨i, hi⟩ := List.getElem?_of_mem hm
      obtain ⟨v, hv, rv⟩ := r.get (i := i) (d := tI m) (by rw [List.getElem?_map, hi]; rfl)
      exact h1 v (List.mem_of_getElem? hv) n m (tI_at s q) (tI_at s rv)
theorem d_sortT {k : Nat} {b : Int} : DCall K T B (rSortU K k b) (wSortT k b) := by
  intro G H Ω vs ds P Q s r h wk
  obtain ⟨d, L, rfl, hd, hl, hL, p⟩ := h
  cases r with
  | cons r r' =>
    cases r'
    obtain ⟨a, ws, rfl, ha, ra⟩ := lst_at s r hd
    refine ⟨a, ws, rfl, ha, by rw [ra.length, List.length_map]; exact hl, fun x hx => ?_, fun ys q hp hpw hq => ?_⟩
    · obtain ⟨i, hi⟩ := List.getElem?_of_mem hx
      obtain ⟨d, hd, rx⟩ := ra.getV hi
      rw [List.getElem?_map] at hd
      cases e : L[i]? with
      | none => rw [e] at hd; cases hd
      | some ns =>
        rw [e] at hd
        cases hd
        exact ⟨ns, tI_at s rx, hL ns (List.mem_of_getElem? e)⟩
    · obtain ⟨es, he, re⟩ := ra.perm hp
      obtain ⟨L', h1, rfl⟩ := perm_map he L rfl
      exact wk.lst s re (p L' h1 (pw_rp s re hpw)) hq
/-! ### methods -/
def isL (d : D) (Ω : Om) : Prop := ∃ xs, lstD d Ω xs
def mBM (w : D → List D → Om → DK → Prop) (mo : ME) (ma : MA) : ME := fun Ω Δ P => mo Ω Δ fun d Ω1 => isL d Ω1 ∧ ma Ω1 Δ fun ds Ω2 => w d ds Ω2 P
def wApp : D → List D → Om → DK → Prop := fun d ds Ω P => ∃ l xs y, d = .ptr l ∧ ds = [y] ∧ Ω l = some (.lst xs) ∧ xs.length < 100000 ∧ P .non (put Ω l (.lst (xs ++ [y])))
def wPop : D → List D → Om → DK → Prop := fun d ds Ω P => ∃ l xs y, d = .ptr l ∧ ds = [] ∧ Ω l = some (.lst xs) ∧ xs[xs.length - 1]? = some y ∧ P y (put Ω l (.lst xs.dropLast))
def wCnt : D → List D → Om → DK → Prop := fun d ds Ω P => ∃ (ns : List Int) (k : Int), lstD d Ω (ns.map .int) ∧ ds = [.int k] ∧ P (.int (ns.count k : Nat)) Ω
def wInd : D → List D → Om → DK → Prop := fun d ds Ω P => ∃ (ns : List Int) (k : Int) (j : Nat), lstD d Ω (ns.map .int) ∧ ds = [.int k] ∧ ns[j]? = some k ∧ (∀ m z, m < j → ns[m]? = some z → z ≠ k) ∧ P (.int j) Ω
def DMt (K : PySem.W.Frag) (T : TabL) (B : Hp) (r : V → List V → Hp → VK → Prop) (w : D → List D → Om → DK → Prop) : Prop :=
  ∀ {G H : Hp} {Ω : Om} {v : V} {d : D} {vs : List V} {ds : List D} {P : DK} {Q : VK}, Sat K T B G H Ω → Rp K G v d → RpAll K G vs ds → w d ds Ω P → WK K T B G P Q → r v vs H Q
theorem d_app : DMt K T B rAppend wApp := by
  intro G H Ω v d vs ds P Q s r rs h wk
  obtain ⟨l, xs, y, rfl, rfl, ho, hl, p⟩ := h
  cases r
  cases rs with
  | cons ry rs =>
    cases rs
    obtain ⟨vs, hv, rv⟩ := own_lst s ho
    exact ⟨l, vs, _, rfl, rfl, hv, by rw [rv.length]; exact Nat.lt_of_lt_of_le hl (by decide), wk _ _ _ G _ (Le.refl K G) (s.write (ob' := .lst (xs ++ [y])) ho ⟨_, upd_same, rv.append (.cons ry .nil)⟩) .non p⟩
theorem d_pop : DMt K T B rPop wPop := by
  intro G H Ω v d vs ds P Q s r rs h wk
  obtain ⟨l, xs, y, rfl, rfl, ho, hy, p⟩ := h
  cases r
  cases rs
  obtain ⟨vs, hv, rv⟩ := own_lst s ho
  obtain ⟨u, hu, ru⟩ := rv.get hy
  exact ⟨l, vs, u, rfl, rfl, hv, by rw [rv.length]; exact hu, wk _ _ _ G _ (Le.refl K G) (s.write (ob' := .lst xs.dropLast) ho ⟨_, upd_same, rv.dropLast⟩) ru p⟩
theorem d_cnt : DMt K T B (rCntI K) wCnt := by
  intro G H Ω v d vs ds P Q s r rs h wk
  obtain ⟨ns, k, hl, rfl, p⟩ := h
  obtain ⟨a, ws, rfl, ha, ra⟩ := lst_at s r hl
  rw [ints_of ra] at ha
  rw [one_int rs]
  exact ⟨a, ns, k, rfl, rfl, ha, wk.now s (.int _) p⟩
theorem d_ind : DMt K T B (rIndex K) wInd := by
  intro G H Ω v d vs ds P Q s r rs h wk
  obtain ⟨ns, k, j, hl, rfl, hj, hn, p⟩ := h
  obtain ⟨a, ws, rfl, ha, ra⟩ := lst_at s r hl
  rw [ints_of ra] at ha
  rw [one_int rs]
  refine ⟨a, _, .int k, j, .int k, rfl, rfl, ha, rfl, ?_, by rw [List.getElem?_map, hj]; rfl, ?_, fun m z hm hz => ?_, wk.now s (.int _) p⟩
  · rw [List.all_eq_true]
    intro x hx
    obtain ⟨n, _, rfl⟩ := List.mem_map.mp hx
    rfl
  · first
      | exact decide_eq_true rfl
      | simp [eqV]
  · rw [List.getElem?_map] at hz
    cases e : ns[m]? with
    | none => rw [e] at hz; cases hz
    | some n =>
      rw [e] at hz
      cases hz
      have := hn m n hm e
      first
        | exact decide_eq_false this
        | simp [eqV, this]
theorem ty_lst {v : V} {d : D} (s : Sat K T B G H Ω) (r : Rp K G v d) (h : isL d Ω) : tyV K "list" v H := by
  obtain ⟨xs, h⟩ := h
  obtain ⟨a, vs, rfl, ha, _⟩ := lst_at s r h
  exact .inl ⟨rfl, vs, ha⟩
/-- d.setdefault(k, e) -/
def mSetd (mo mk mv : ME) : ME := fun Ω Δ P => mo Ω Δ fun d Ω1 => (∃ l kvs, d = .ptr l ∧ Ω1 l = some (.dk kvs)) ∧ mk Ω1 Δ fun y Ω2 => mv Ω2 Δ fun z Ω3 => ∃ l kvs k, d = .ptr l ∧ Ω3 l = some (.dk kvs) ∧ keyD y = some k ∧ kvs.length < 100000 ∧
  (∀ u, dget kvs k = some u → P u Ω3) ∧ (dget kvs k = none → P z (put Ω3 l (.dk (dput kvs k z))))
end
section
variable {X : Cx} {T : TabL} {B : Hp} {a b e o : Expr} {ma mb mo : ME} {es : List Expr} {mr : MA} {pos p apos : Pos} {k : Nat}
theorem bm_of {r : V → List V → Hp → VK → Prop} {w : D → List D → Om → DK → Prop} (hr : DMt X.K T B r w) : ∀ σ H Q, rE X.K T B (mBM w mo mr) σ H Q → tBM X.K "list" r (rE X.K T B mo) (rA X.K T B mr) σ H Q := fun σ H Q ⟨G, Ω, Δ, P, s, e, m, wk⟩ =>
  ⟨G, Ω, Δ, _, s, e, m, fun v d Ω1 G1 H1 l1 s1 r1 ⟨h1, m1⟩ => ⟨ty_lst s1 r1 h1, G1, Ω1, Δ, _, s1, e.le l1, m1, fun vs ds Ω2 G2 H2 l2 s2 r2 m2 => hr s2 (l2 _ _ r1) r2 m2 (wk.le (l1.trans l2))⟩⟩
theorem bm0_of {r : V → List V → Hp → VK → Prop} {w : D → List D → Om → DK → Prop} (hr : DMt X.K T B r w) : ∀ σ H Q, rE X.K T B (mBM w mo mNil) σ H Q → tBM0 X.K "list" r (rE X.K T B mo) σ H Q := fun σ H Q ⟨G, Ω, Δ, P, s, e, m, wk⟩ =>
  ⟨G, Ω, Δ, _, s, e, m, fun v d Ω1 G1 H1 l1 s1 r1 ⟨h1, m1⟩ => ⟨ty_lst s1 r1 h1, hr s1 r1 .nil m1 (wk.le l1)⟩⟩
theorem re_app (ho : RE X T B o mo) (ha : RA X T B (a :: es) mr) (hbase : attributeBase o "append" X.env (eval o X.env) = eval o X.env := by rfl)
    (hfew : ((backTo pos (starEach (a :: es) X.env)).all (fun x => !x.1) && (backToKw pos (keywordEach [] X.env)).all (fun x => x.1.isSome) && decide ((a :: es).length + ([] : List Keyword).length + (if ([] : List Keyword).isEmpty then 0 else 1) < 30)) = true := by rfl)
    (hline : (apos.endLine == pos.line) = true := by rfl) (hs : starEach (a :: es) X.env = (false, eval a X.env) :: starEach es X.env := by rfl) (hplain : (backTo pos (starEach es X.env)).any (·.1) = false := by rfl) :
    RE X T B (.Call (.Attribute o "append" apos) (a :: es) [] pos) (mBM wApp mo mr) := peM (pe_bm F.plainAttrs_list F.slot_list_append F.type_list_append mt_append ho ha hbase hfew hline hs hplain) (bm_of d_app)
theorem re_cnt (ho : RE X T B o mo) (ha : RA X T B (a :: es) mr) (hbase : attributeBase o "count" X.env (eval o X.env) = eval o X.env := by rfl)
    (hfew : ((backTo pos (starEach (a :: es) X.env)).all (fun x => !x.1) && (backToKw pos (keywordEach [] X.env)).all (fun x => x.1.isSome) && decide ((a :: es).length + ([] : List Keyword).length + (if ([] : List Keyword).isEmpty then 0 else 1) < 30)) = true := by rfl)
    (hline : (apos.endLine == pos.line) = true := by rfl) (hs : starEach (a :: es) X.env = (false, eval a X.env) :: starEach es X.env := by rfl) (hplain : (backTo pos (starEach es X.env)).any (·.1) = false := by rfl) :
    RE X T B (.Call (.Attribute o "count" apos) (a :: es) [] pos) (mBM wCnt mo mr) := peM (pe_bm F.plainAttrs_list F.slot_list_count F.type_list_count mt_lcount ho ha hbase hfew hline hs hplain) (bm_of d_cnt)
theorem re_ind (ho : RE X T B o mo) (ha : RA X T B (a :: es) mr) (hbase : attributeBase o "index" X.env (eval o X.env) = eval o X.env := by rfl)
    (hfew : ((backTo pos (starEach (a :: es) X.env)).all (fun x => !x.1) && (backToKw pos (keywordEach [] X.env)).all (fun x => x.1.isSome) && decide ((a :: es).length + ([] : List Keyword).length + (if ([] : List Keyword).isEmpty then 0 else 1) < 30)) = true := by rfl)
    (hline : (apos.endLine == pos.line) = true := by rfl) (hs : starEach (a :: es) X.env = (false, eval a X.env) :: starEach es X.env := by rfl) (hplain : (backTo pos (starEach es X.env)).any (·.1) = false := by rfl) :
    RE X T B (.Call (.Attribute o "index" apos) (a :: es) [] pos) (mBM wInd mo mr) := peM (pe_bm F.plainAttrs_list F.slot_list_index F.type_list_index mt_index ho ha hbase hfew hline hs hplain) (bm_of d_ind)
theorem re_pop (ho : RE X T B o mo) (hbase : attributeBase o "pop" X.env (eval o X.env) = eval o X.env := by rfl) (hline : (apos.endLine == pos.line) = true := by rfl) :
    RE X T B (.Call (.Attribute o "pop" apos) [] [] pos) (mBM wPop mo mNil) := peM (pe_bm0 F.plainAttrs_list F.slot_list_pop F.type_list_pop mt_pop ho hbase hline) (bm0_of d_pop)
theorem re_setd {f : Expr} {mk mv : ME} (ho : RE X T B o mo) (he : RE X T B e mk) (hf : RE X T B f mv) (m : M2 X o "setdefault" apos e f pos := by exact ⟨rfl, rfl, rfl, rfl⟩) : RE X T B (.Call (.Attribute o "setdefault" apos) [e, f] [] pos) (mSetd mo mk mv) := peM (pe_dsetd ho he hf m) fun σ H Q ⟨G, Ω, Δ, P, s, e, m, wk⟩ =>
  ⟨G, Ω, Δ, _, s, e, m, fun v d Ω1 G1 H1 l1 s1 r1 ⟨⟨l, kvs, hd, ho⟩, m1⟩ => by
    subst hd
    cases r1
    obtain ⟨ks, xs, es, h1, h2, h3, h4⟩ := (s1.own l _ ho).2
    refine ⟨l, rfl, .inl ⟨_, .inl h1⟩, G1, Ω1, Δ, _, s1, e.le l1, m1, fun v2 y Ω2 G2 H2 l2 s2 r2 m2 => ⟨G2, Ω2, Δ, _, s2, (e.le l1).le l2, m2, fun v3 z Ω3 G3 H3 l3 s3 r3 ⟨l', kvs', k', hd', ho', hk', hl', p1, p2⟩ => ?_⟩⟩
    cases hd'
    obtain ⟨ks', xs', es', h1', h2', h3', rfl⟩ := (s3.own l _ ho').2
    obtain ⟨g1, g2⟩ := dget_rel k' h2' h3'
    have hlen : (ks'.zip xs').length = (ks'.zip es').length := by rw [List.length_zip, List.length_zip, h2'.length]
    refine ⟨_, k', h1', keyD_rp (l3 _ _ r2) hk', by rw [hlen]; exact Nat.lt_of_lt_of_le hl' (by decide), fun v hv => ?_, fun hv => ?_⟩
    · cases q : dget (ks'.zip es') k' with
      | none =>
        rw [g2 q] at hv
        cases hv
      | some u =>
        obtain ⟨v', hv', rv⟩ := g1 u q
        rw [hv] at hv'
        cases hv'
        exact wk v u Ω3 G3 H3 ((l1.trans l2).trans l3) s3 rv (p1 u q)
    · have q : dget (ks'.zip es') k' = none := by
        cases q : dget (ks'.zip es') k' with
        | none => rfl
        | some u =>
          obtain ⟨v', hv', _⟩ := g1 u q
          rw [hv] at hv'
          cases hv'
      obtain ⟨ks2, vs2, ds2, e1, e2, e3, e4⟩ := dput_rel k' r3 h2' h3'
      rw [e1]
      exact wk _ _ _ G3 _ ((l1.trans l2).trans l3) (s3.write (ob' := .dk (dput (ks'.zip es') k' z)) ho' ⟨ks2, vs2, ds2, upd_same, e3, e4, e2⟩) r3 (p2 q)⟩
theorem re_listO (hg : Gl X "list") (hm : X.mg "list" = none) (ha : RA X T B (a :: es) mr) (he : starEach (a :: es) X.env = (false, eval a X.env) :: starEach es X.env := by rfl) (hpl : (backTo pos (starEach es X.env)).any (·.1) = false := by rfl) :
    RE X T B (.Call (.Name "list" p) (a :: es) [] pos) (mCB wListO mr) := re_callTy call_list_of d_listO hg hm rfl ha (by decide) (by decide) he hpl
theorem re_list (hg : Gl X "list") (hm : X.mg "list" = none) (ha : RA X T B (a :: es) mr) (he : starEach (a :: es) X.env = (false, eval a X.env) :: starEach es X.env := by rfl) (hpl : (backTo pos (starEach es X.env)).any (·.1) = false := by rfl) :
    RE X T B (.Call (.Name "list" p) (a :: es) [] pos) (mCB wList mr) := re_callTy call_list_of d_list hg hm rfl ha (by decide) (by decide) he hpl
theorem re_listK (hc : X.calm = true) (hg : Gl X "list") (hm : X.mg "list" = none) (ha : RA X T B (a :: es) mr) (he : starEach (a :: es) X.env = (false, eval a X.env) :: starEach es X.env := by rfl) (hpl : (backTo pos (starEach es X.env)).any (·.1) = false := by rfl) :
    RE X T B (.Call (.Name "list" p) (a :: es) [] pos) (mCB wListK mr) := re_callTy (call_list_dT hc) d_listK hg hm rfl ha (by decide) (by decide) he hpl
theorem re_tuple (hg : Gl X "tuple") (hm : X.mg "tuple" = none) (ha : RA X T B (a :: es) mr) (he : starEach (a :: es) X.env = (false, eval a X.env) :: starEach es X.env := by rfl) (hpl : (backTo pos (starEach es X.env)).any (·.1) = false := by rfl) :
    RE X T B (.Call (.Name "tuple" p) (a :: es) [] pos) (mCB wTuple mr) := re_callTy call_tuple_of d_tuple hg hm rfl ha (by decide) (by decide) he hpl
theorem re_intc (hg : Gl X "int") (hm : X.mg "int" = none) (ha : RA X T B (a :: es) mr) (he : starEach (a :: es) X.env = (false, eval a X.env) :: starEach es X.env := by rfl) (hpl : (backTo pos (starEach es X.env)).any (·.1) = false := by rfl) :
    RE X T B (.Call (.Name "int" p) (a :: es) [] pos) (mCB wInt mr) := re_callTy call_int1 d_int hg hm rfl ha (by decide) (by decide) he hpl
theorem re_abs (hg : Gl X "abs") (hm : X.mg "abs" = none) (ha : RA X T B (a :: es) mr) (he : starEach (a :: es) X.env = (false, eval a X.env) :: starEach es X.env := by rfl) (hpl : (backTo pos (starEach es X.env)).any (·.1) = false := by rfl) :
    RE X T B (.Call (.Name "abs" p) (a :: es) [] pos) (mCB wAbs mr) := re_callB call_abs d_abs hg hm rfl ha (by decide) (by decide) he hpl
theorem re_sum (hc : X.calm = true) (hg : Gl X "sum") (hm : X.mg "sum" = none) (ha : RA X T B (a :: es) mr) (he : starEach (a :: es) X.env = (false, eval a X.env) :: starEach es X.env := by rfl) (hpl : (backTo pos (starEach es X.env)).any (·.1) = false := by rfl) :
    RE X T B (.Call (.Name "sum" p) (a :: es) [] pos) (mCB wSum mr) := re_callB (cr_sum hc) d_sum hg hm rfl ha (by decide) (by decide) he hpl
theorem re_any (hc : X.calm = true) (hg : Gl X "any") (hm : X.mg "any" = none) (ha : RA X T B (a :: es) mr) (he : starEach (a :: es) X.env = (false, eval a X.env) :: starEach es X.env := by rfl) (hpl : (backTo pos (starEach es X.env)).any (·.1) = false := by rfl) :
    RE X T B (.Call (.Name "any" p) (a :: es) [] pos) (mCB wAny mr) := re_callB (cr_any hc) d_any hg hm rfl ha (by decide) (by decide) he hpl
theorem re_isi (hg : Gl X "isinstance") (hm : X.mg "isinstance" = none) (ha : RA X T B (a :: es) mr) (he : starEach (a :: es) X.env = (false, eval a X.env) :: starEach es X.env := by rfl) (hpl : (backTo pos (starEach es X.env)).any (·.1) = false := by rfl) :
    RE X T B (.Call (.Name "isinstance" p) (a :: es) [] pos) (mCB wIsi mr) := re_callB call_isi d_isi hg hm rfl ha (by decide) (by decide) he hpl
theorem re_isiS (hg : Gl X "isinstance") (hm : X.mg "isinstance" = none) (ha : RA X T B (a :: es) mr) (he : starEach (a :: es) X.env = (false, eval a X.env) :: starEach es X.env := by rfl) (hpl : (backTo pos (starEach es X.env)).any (·.1) = false := by rfl) :
    RE X T B (.Call (.Name "isinstance" p) (a :: es) [] pos) (mCB wIsiS mr) := re_callB call_isiT d_isiS hg hm rfl ha (by decide) (by decide) he hpl
theorem re_sortK (hc : X.calm = true) (hg : Gl X "sorted") (hm : X.mg "sorted" = none) (ha : RA X T B (a :: es) mr) (he : starEach (a :: es) X.env = (false, eval a X.env) :: starEach es X.env := by rfl) (hpl : (backTo pos (starEach es X.env)).any (·.1) = false := by rfl) :
    RE X T B (.Call (.Name "sorted" p) (a :: es) [] pos) (mCB wSortK mr) := re_callB (call_sortedDI hc) d_sortK hg hm rfl ha (by decide) (by decide) he hpl
theorem re_sortT {b : Int} (h1 : 1 ≤ k) (hg : Gl X "sorted") (hm : X.mg "sorted" = none) (ha : RA X T B (a :: es) mr) (he : starEach (a :: es) X.env = (false, eval a X.env) :: starEach es X.env := by rfl) (hpl : (backTo pos (starEach es X.env)).any (·.1) = false := by rfl) :
    RE X T B (.Call (.Name "sorted" p) (a :: es) [] pos) (mCB (wSortT k b) mr) := re_callB (cr_sortT h1) d_sortT hg hm rfl ha (by decide) (by decide) he hpl
end
end KG
/-! DG: sources of loops; for, list comprehensions, while, over data. -/
namespace KG
open L2 PySem PyProof.Rows PySem.Spec

abbrev MI := Om → Dl → (Nat → (Nat → D) → (Om → Prop) → Om → Prop) → Prop
def keepD (d : D) (xs : List D) : Om → Prop := fun Ω => ∀ l, d = .ptr l → Ω l = some (.lst xs)
/-- a tuple or a list -/
def iSq (ma : ME) : MI := fun Ω Δ P => ma Ω Δ fun d Ω1 => ∃ xs, seqD d Ω1 xs ∧ P xs.length (fun i => xs.getD i .non) (keepD d xs) Ω1
def iRg1 (ma : MA) : MI := fun Ω Δ P => ma Ω Δ fun ds Ω1 => ∃ hi : Int, ds = [.int hi] ∧ (-1000000 ≤ hi ∧ hi ≤ 1000000) ∧ P hi.toNat (fun i => .int i) (fun _ => True) Ω1
def iRg2 (ma : MA) : MI := fun Ω Δ P => ma Ω Δ fun ds Ω1 => ∃ lo hi : Int, ds = [.int lo, .int hi] ∧ (-1000000 ≤ lo ∧ lo ≤ 1000000 ∧ -1000000 ≤ hi ∧ hi ≤ 1000000) ∧ P (hi - lo).toNat (fun i => .int (lo + i)) (fun _ => True) Ω1
def JOk (K : PySem.W.Frag) (T : TabL) (B : Hp) (G1 : Hp) (J : It) (n : Nat) (item : Nat → D) (keep : Om → Prop) : Prop :=
  ∀ i Gi Hi Ωi, Le K G1 Gi → Sat K T B Gi Hi Ωi → keep Ωi → (i < n → J.go i Hi ∧ ∀ x H', J.yld i Hi x H' → H' = Hi ∧ Rp K Gi x (item i)) ∧ (n ≤ i → J.stop i Hi)
section
variable (X : Cx) (T : TabL) (B : Hp)
def rI (K : PySem.W.Frag) (m : MI) : TI := fun σ H R => ∃ G Ω Δ P, Sat K T B G H Ω ∧ SlE K G σ Δ ∧ m Ω Δ P ∧
  ∀ J n item keep Ω1 G1 H1, Le K G G1 → Sat K T B G1 H1 Ω1 → P n item keep Ω1 → JOk K T B G1 J n item keep → R J H1
abbrev RI (tg e : Expr) (m : MI) : Prop := PI X tg e (rI T B X.K m)
end
section
variable {X : Cx} {T : TabL} {B : Hp} {a b e tg : Expr} {ma mb : ME} {pos : Pos} {K : PySem.W.Frag} {mi : MI}
theorem piM {tg e : Expr} {t u : TI} (h : PI X tg e t) (i : ∀ σ H R, u σ H R → t σ H R) : PI X tg e u := ⟨fun pins s σ H R I q => h.run pins s σ H R I (i σ H R q)⟩
theorem ri_seq (he : RE X T B e ma) : RI X T B tg e (iSq ma) := piM (pi_seq he) fun σ H R ⟨G, Ω, Δ, P, s, e, m, w⟩ =>
  ⟨G, Ω, Δ, _, s, e, m, fun v d Ω1 G1 H1 l1 s1 r1 ⟨xs, hs, p⟩ => by
    have src : ∀ (Gi : Hp) (Hi : Hp) (Ωi : Om), Le X.K G1 Gi → Sat X.K T B Gi Hi Ωi → keepD d xs Ωi → ∃ a vs, v = .ref a ∧ RpAll X.K Gi vs xs ∧ ((tpD d = true ∧ SqT X.K Hi a vs) ∨ (tpD d = false ∧ SqL X.K Hi a vs)) := fun Gi Hi Ωi li si ki => by
      have hs' : srcOk d xs (fun (_ : Nat) Ω => Ω = Ωi) := by
        rcases hs with h | h | h | h | ⟨l, h, _⟩
        · exact .inl h
        · exact .inr (.inl h)
        · exact .inr (.inr (.inl h))
        · exact .inr (.inr (.inr (.inl h)))
        · exact .inr (.inr (.inr (.inr ⟨l, h, fun i Ω e => by rw [e]; exact ki l h⟩)))
      exact src_at (i := 0) hs' si (li _ _ r1) rfl
    have k1 : keepD d xs Ω1 := fun l hl => by
      rcases hs with h | h | h | h | ⟨l', h, ho⟩
      · rw [hl] at h; cases h
      · rw [hl] at h; cases h
      · rw [hl] at h; cases h
      · rw [hl] at h; cases h
      · rw [hl] at h; cases h; exact ho
    obtain ⟨a, vs0, hv, _, hk⟩ := src G1 H1 Ω1 (Le.refl _ _) s1 k1
    refine ⟨a, hv, ?_⟩
    rcases hk with ⟨hd, hq⟩ | ⟨hd, hq⟩
    · refine .inr ⟨⟨vs0, hq⟩, w _ _ _ _ Ω1 G1 H1 l1 s1 p fun i Gi Hi Ωi li si ki => ?_⟩
      obtain ⟨a', vs, hv', ra, hk⟩ := src Gi Hi Ωi li si ki
      have ha : a' = a := by rw [hv] at hv'; cases hv'; rfl
      subst ha
      rcases hk with ⟨_, hq⟩ | ⟨hn, _⟩
      · have hl := ra.length
        refine ⟨fun h => ⟨⟨vs, vs[i]'(by omega), hq, by simp⟩, fun x H' ⟨e1, e2⟩ => ⟨e1, ?_⟩⟩, fun h => ⟨vs, hq, by omega⟩⟩
        obtain ⟨dx, hdx, rx⟩ := ra.getV (e2 vs hq)
        rw [List.getD_eq_getElem?_getD, hdx]
        exact rx
      · rw [hd] at hn; cases hn
    · refine .inl ⟨⟨vs0, hq⟩, w _ _ _ _ Ω1 G1 H1 l1 s1 p fun i Gi Hi Ωi li si ki => ?_⟩
      obtain ⟨a', vs, hv', ra, hk⟩ := src Gi Hi Ωi li si ki
      have ha : a' = a := by rw [hv] at hv'; cases hv'; rfl
      subst ha
      rcases hk with ⟨hn, _⟩ | ⟨_, hq⟩
      · rw [hd] at hn; cases hn
      · have hl := ra.length
        refine ⟨fun h => ⟨⟨vs, vs[i]'(by omega), hq, by simp⟩, fun x H' ⟨e1, e2⟩ => ⟨e1, ?_⟩⟩, fun h => ⟨vs, hq, by omega⟩⟩
        obtain ⟨dx, hdx, rx⟩ := ra.getV (e2 vs hq)
        rw [List.getD_eq_getElem?_getD, hdx]
        exact rx⟩
theorem jok_range {G1 : Hp} (lo : Int) (n : Nat) : JOk K T B G1 (Itr lo n) n (fun i => .int (lo + i)) (fun _ => True) := fun i Gi Hi Ωi li si ki =>
  ⟨fun h => ⟨h, fun x H' ⟨e1, e2⟩ => ⟨e1, by rw [e2]; exact .int _⟩⟩, fun h => h⟩
theorem ri_range1 {p : Pos} {mr : MA} (hg : Gl X "range") (hm : X.mg "range" = none) (ha : RA X T B [a] mr) (hs : starEach [a] X.env = [(false, eval a X.env)] := by rfl) : RI X T B tg (.Call (.Name "range" p) [a] [] pos) (iRg1 mr) := piM (pi_range1 hg hm ha hs) fun σ H R ⟨G, Ω, Δ, P, s, e, m, w⟩ =>
  ⟨G, Ω, Δ, _, s, e, m, fun vs ds Ω1 G1 H1 l1 s1 r1 ⟨hi, hd, hb, p⟩ => by
    subst hd
    refine ⟨hi, one_int r1, by omega, by omega, w _ _ _ _ Ω1 G1 H1 l1 s1 p ?_⟩
    have q := jok_range (K := X.K) (T := T) (B := B) (G1 := G1) 0 hi.toNat
    simp only [Int.zero_add] at q
    exact q⟩
theorem ri_range2 {p : Pos} {mr : MA} (hg : Gl X "range") (hm : X.mg "range" = none) (ha : RA X T B [a, b] mr) (hs : starEach [a, b] X.env = [(false, eval a X.env), (false, eval b X.env)] := by rfl) (hs2 : starEach [b] X.env = [(false, eval b X.env)] := by rfl) :
    RI X T B tg (.Call (.Name "range" p) [a, b] [] pos) (iRg2 mr) := piM (pi_range2 hg hm ha hs hs2) fun σ H R ⟨G, Ω, Δ, P, s, e, m, w⟩ =>
  ⟨G, Ω, Δ, _, s, e, m, fun vs ds Ω1 G1 H1 l1 s1 r1 ⟨lo, hi, hd, hb, p⟩ => by
    subst hd
    cases r1 with
    | cons ra rb =>
      rw [rp_int ra, one_int rb]
      exact ⟨lo, hi, rfl, ⟨by omega, by omega, by omega, by omega⟩, w _ _ _ _ Ω1 G1 H1 l1 s1 p (jok_range lo _)⟩⟩

/-! ### for -/
def mForI (mi : MI) (g : MG) (tb : MS) : MS := fun Ω Δ k => mi Ω Δ fun n item keep Ω1 => ∃ W : Nat → Om → Dl → Prop, W 0 Ω1 Δ ∧ (∀ i Ω' Δ', i ≤ n → W i Ω' Δ' → keep Ω') ∧
  (∀ i Ω' Δ', i < n → W i Ω' Δ' → g (item i) Ω' Δ' fun Ω2 Δ2 => tb Ω2 Δ2 { k with nx := W (i + 1), ct := W (i + 1), bk := k.nx }) ∧ ∀ Ω' Δ', W n Ω' Δ' → k.nx Ω' Δ'
theorem rs_forI {iter : Expr} {body : List Stmt} {g : MG} {tb : MS} (hp : PassesOwn (model X.prog X.w) X.A X.env X.xe) (hc : X.calm = true) (hi : RI X T B tg iter mi) (hg : RG X T B tg g) (hb : RSs X T B body tb)
    (hs : ∀ x, foldedSetIterable iter X.env x = pure x := by intro _; rfl) : RS X T B (.For tg iter body [] pos) (mForI mi g tb) := psM (ps_for hp hc hi hg hb hs) fun E σ H ⟨G, Ω, Δ, k, s, e, m, w⟩ =>
  ⟨G, Ω, Δ, _, s, e, m, fun J n item keep Ω1 G1 H1 l1 s1 ⟨W, w0, wk, turn, fin⟩ hJ => by
    refine ⟨fun i m σ' H' => m = n - i ∧ i ≤ n ∧ ∃ Gi Ωi Δi, Le X.K G1 Gi ∧ Sat X.K T B Gi H' Ωi ∧ SlE X.K Gi σ' Δi ∧ W i Ωi Δi, ⟨_, rfl, Nat.zero_le _, G1, Ω1, Δ, Le.refl _ _, s1, e.le l1, w0⟩, ?_⟩
    rintro i m σ' H' ⟨rfl, hi, Gi, Ωi, Δi, li, si, ei, wi⟩
    obtain ⟨hgo, hstop⟩ := hJ i Gi H' Ωi li si (wk i Ωi Δi hi wi)
    by_cases hlt : i < n
    · obtain ⟨h1, h2⟩ := hgo hlt
      refine .inr ⟨h1, fun σ2 H2 => ∃ G2 Ω2 Δ2, Le X.K G1 G2 ∧ Sat X.K T B G2 H2 Ω2 ∧ SlE X.K G2 σ2 Δ2 ∧ W (i + 1) Ω2 Δ2, fun σ2 H2 ⟨G2, Ω2, Δ2, l2, s2, e2, w2⟩ => ⟨n - (i + 1), by omega, rfl, hlt, G2, Ω2, Δ2, l2, s2, e2, w2⟩, fun x H2 y => ?_⟩
      obtain ⟨rfl, rx⟩ := h2 x H2 y
      refine ⟨Gi, Ωi, Δi, _, _, si, ei, rx, turn i Ωi Δi hlt wi, fun σ3 Δ3 Ω3 G3 H3 l3 s3 e3 m3 => ⟨G3, Ω3, Δ3, _, s3, e3, m3, ?_⟩⟩
      have lx : Le X.K G1 G3 := li.trans l3
      refine ⟨fun σ4 Δ4 Ω4 G4 H4 l4 s4 e4 m4 => ⟨G4, Ω4, Δ4, lx.trans l4, s4, e4, m4⟩, w.rt.le (l1.trans lx), w.nx.le (l1.trans lx), fun σ4 Δ4 Ω4 G4 H4 l4 s4 e4 m4 => ⟨G4, Ω4, Δ4, lx.trans l4, s4, e4, m4⟩⟩
    · have hlast : i = n := by omega
      subst hlast
      exact .inl ⟨hstop (Nat.le_refl _), w.nx _ _ _ _ _ (l1.trans li) si ei (fin _ _ wi)⟩⟩

/-! ### while, the test of a list -/
/-- a list's truth -/
def mTruL (ma : ME) : MT := fun Ω Δ P => ma Ω Δ fun d Ω1 => ∃ xs, lstD d Ω1 xs ∧ P (!xs.isEmpty) Ω1
theorem rt_list (h : RE X T B e ma) (he : ∀ whole, isTrue e X.env whole = (do let v ← whole; standAt e.pos; holding [v] (truthy v)) := by intro _; rfl) : RT X T B e (mTruL ma) := ptM (pt_truth h he) fun σ H Q ⟨G, Ω, Δ, P, s, e, m, wk⟩ =>
  ⟨G, Ω, Δ, _, s, e, m, fun v d Ω1 G1 H1 l1 s1 r1 ⟨xs, hl, p⟩ => by
    obtain ⟨a, vs, rfl, ha, ra⟩ := lst_at s1 r1 hl
    have e1 : (!vs.isEmpty) = !xs.isEmpty := by
      cases ra <;> rfl
    exact ⟨_, .inl ⟨vs, ha, rfl⟩, by rw [e1]; exact wk _ Ω1 G1 H1 l1 s1 p⟩⟩
def mWhile (mt : MT) (tb : MS) : MS := fun Ω Δ k => ∃ W : Nat → Om → Dl → Prop, (∃ n, W n Ω Δ) ∧ ∀ n Ω' Δ', W n Ω' Δ' → mt Ω' Δ' fun c Ω1 =>
  (c = false → k.nx Ω1 Δ') ∧ (c = true → tb Ω1 Δ' { k with nx := fun Ω2 Δ2 => ∃ j, j < n ∧ W j Ω2 Δ2, ct := fun Ω2 Δ2 => ∃ j, j < n ∧ W j Ω2 Δ2, bk := k.nx })

/-! ### list comprehensions, one name -/
theorem SlE.wipe {G : Hp} {σ : L2.St} {Δ : Dl} (e : SlE K G σ Δ) (j : Nat) : SlE K G (σ.set j none) (Δ.set j none) := ⟨by simpa using e.len, fun i d q => by
  by_cases hj : j = i
  · subst hj
    by_cases hl : j < Δ.length
    · rw [List.getElem?_set_self hl] at q; cases q
    · rw [List.getElem?_eq_none (by simpa using hl)] at q; cases q
  · rw [List.getElem?_set_ne hj] at q ⊢
    exact e.at_ i d q⟩
def mLc (mi : MI) (j : Nat) (mt : MT) (me : ME) : ME := fun Ω Δ P => mi Ω Δ fun n item keep Ω1 => ∀ l, Ω1 l = none → ∃ W : Nat → Om → Prop, W 0 (put Ω1 l (.lst [])) ∧ (∀ i Ω', i ≤ n → W i Ω' → keep Ω') ∧
  (∀ i Ω', i < n → W i Ω' → mt Ω' (Δ.set j (some (item i))) fun b Ω3 => (b = true → me Ω3 (Δ.set j (some (item i))) fun y Ω4 => ∃ acc, Ω4 l = some (.lst acc) ∧ acc.length < 100000 ∧ W (i + 1) (put Ω4 l (.lst (acc ++ [y])))) ∧ (b = false → W (i + 1) Ω3)) ∧
  ∀ Ω', W n Ω' → P (.ptr l) Ω'
def mYes : MT := fun Ω _ P => P true Ω
theorem tLc_of {j : Nat} {mt : MT} {me : ME} : ∀ σ H Q, rE X.K T B (mLc mi j mt me) σ H Q → tLc (rI T B X.K mi) (gName j) (rT X.K T B mt) (rE X.K T B me) [j] σ H Q := fun σ H Q ⟨G, Ω, Δ, P, s, e, m, wk⟩ =>
  ⟨G, Ω, Δ, _, s, e, m, fun J n item keep Ω1 G1 H1 l1 s1 hW hJ D hD => by
    obtain ⟨hG, hO⟩ := s1.free hD
    obtain ⟨W, w0, wkp, turn, fin⟩ := hW D hO
    refine ⟨fun i m H' => m = n - i ∧ i ≤ n ∧ ∃ Gi Ωi, Le X.K G1 Gi ∧ Sat X.K T B Gi H' Ωi ∧ W i Ωi, ⟨_, rfl, Nat.zero_le _, G1, _, Le.refl _ _, s1.newO (ob := .lst []) hD ⟨[], upd_same, .nil⟩, w0⟩, ?_⟩
    rintro i m H' ⟨rfl, hi, Gi, Ωi, li, si, wi⟩
    obtain ⟨hgo, hstop⟩ := hJ i Gi H' Ωi li si (wkp i Ωi hi wi)
    by_cases hlt : i < n
    · obtain ⟨h1, h2⟩ := hgo hlt
      refine .inr ⟨h1, fun H2 => ∃ G2 Ω2, Le X.K G1 G2 ∧ Sat X.K T B G2 H2 Ω2 ∧ W (i + 1) Ω2, fun H2 ⟨G2, Ω2, l2, s2, w2⟩ => ⟨n - (i + 1), by omega, rfl, hlt, G2, Ω2, l2, s2, w2⟩, fun x H2 y => ?_⟩
      obtain ⟨rfl, rx⟩ := h2 x H2 y
      show L2.wipe (((L2.wipe σ [j])).set j (some x)) [j] = L2.wipe σ [j] ∧ _
      have hw : L2.wipe σ [j] = σ.set j none := rfl
      have hw2 : ∀ τ : L2.St, L2.wipe τ [j] = τ.set j none := fun _ => rfl
      rw [hw, hw2, List.set_set, List.set_set]
      refine ⟨rfl, ?_⟩
      have ei : SlE X.K Gi (σ.set j (some x)) (Δ.set j (some (item i))) := (e.le (l1.trans li)).set rx
      have hss : (σ.set j none).set j (some x) = σ.set j (some x) := List.set_set ..
      rw [hss]
      refine ⟨Gi, Ωi, _, _, si, ei, turn i Ωi hlt wi, fun b Ω3 G3 H3 l3 s3 p3 => ?_⟩
      cases b with
      | true =>
        rw [if_pos rfl]
        refine ⟨G3, Ω3, _, _, s3, ei.le l3, p3.1 rfl, fun v y Ω4 G4 H4 l4 s4 r4 ⟨acc, ha, hz, w4⟩ => ?_⟩
        obtain ⟨vs, hv, rv⟩ := own_lst s4 ha
        exact ⟨vs, hv, by rw [rv.length]; exact Nat.lt_of_lt_of_le hz (by decide), G4, _, (li.trans l3).trans l4, s4.write (ob' := .lst (acc ++ [y])) ha ⟨_, upd_same, rv.append (.cons r4 .nil)⟩, w4⟩
      | false =>
        rw [if_neg Bool.false_ne_true]
        exact ⟨G3, Ω3, li.trans l3, s3, p3.2 rfl⟩
    · have hlast : i = n := by omega
      subst hlast
      exact .inl ⟨hstop (Nat.le_refl _), wk (.ref D) (.ptr D) Ωi Gi H' (l1.trans li) si (.ptr D) (fin Ωi wi)⟩⟩
theorem rts_nil : PTs X [] (rT X.K T B mYes) := by
  have h : PTs X [] tYes := pts_nil
  exact ⟨fun pins s σ H Q I ⟨G, Ω, Δ, P, s', e, m, wk⟩ => h.run pins s σ H Q I (wk true Ω G H (Le.refl _ _) s' m)⟩
theorem rts_one {c : Expr} {mt : MT} (h : RT X T B c mt) : PTs X [c] (rT X.K T B mt) := pts_one h
theorem re_lc {elt iter : Expr} {ifs : List Expr} {scope : Scope} {x : Str} {j : Nat} {px : Pos} {mt : MT} {me : ME} (hc : X.calm = true) (hN : X.N.Nodup) (hx : X.N[j]? = some x) (ok : blkC X.N X.env.scope scope [(x, j)] = true) (hl : ∀ (C : Addr) (cl : List (Str × Addr)), (compEnvC scope cl C X.env).scope.names.lookup x = some .local) (hi : RI X T B (.Name x px) iter mi)
    (ht : ∀ (s : Shared) (H : Hp) (C : Addr) (cl : List (Str × Addr)) (fp : List Addr), PTs (X.blk s H scope (compEnvC scope cl C X.env) fp) ifs (rT X.K T B mt))
    (he : ∀ (s : Shared) (H : Hp) (C : Addr) (cl : List (Str × Addr)) (fp : List Addr), RE (X.blk s H scope (compEnvC scope cl C X.env) fp) T B elt me) (hs : ∀ x, foldedSetIterable iter X.env x = pure x := by intro _; rfl) :
    RE X T B (.ListComp elt [⟨.Name x px, iter, ifs, 0⟩] scope pos) (mLc mi j mt me) :=
  peM (pe_lc (g := gName j) hc hN hi (blkOk_by ok) (fun s H C cl fp => pg_name hN hx (.inl (hl C cl)) (.inr (hl C cl))) ht he hs) tLc_of
theorem rs_setLc {i : Nat} {y : Str} {py : Pos} {spos : Pos} {elt iter : Expr} {ifs : List Expr} {scope : Scope} {x : Str} {j : Nat} {px : Pos} {mt : MT} {me : ME} (hc : X.calm = true) (hN : X.N.Nodup) (hy : X.N[i]? = some y) (hyl : X.env.scope.names.lookup y = some .local)
    (hsw : swapsWith (.ListComp elt [⟨.Name x px, iter, ifs, 0⟩] scope pos) (some (.Name y py)) spos.line X.env = pure true) (hx : X.N[j]? = some x) (ok : blkC X.N X.env.scope scope [(x, j)] = true) (hl : ∀ (C : Addr) (cl : List (Str × Addr)), (compEnvC scope cl C X.env).scope.names.lookup x = some .local) (hi : RI X T B (.Name x px) iter mi)
    (ht : ∀ (s : Shared) (H : Hp) (C : Addr) (cl : List (Str × Addr)) (fp : List Addr), PTs (X.blk s H scope (compEnvC scope cl C X.env) fp) ifs (rT X.K T B mt))
    (he : ∀ (s : Shared) (H : Hp) (C : Addr) (cl : List (Str × Addr)) (fp : List Addr), RE (X.blk s H scope (compEnvC scope cl C X.env) fp) T B elt me) (hs : ∀ x, foldedSetIterable iter X.env x = pure x := by intro _; rfl) :
    RS X T B (.Assign [.Name y py] (.ListComp elt [⟨.Name x px, iter, ifs, 0⟩] scope pos) spos) (mAsg (mLc mi j mt me) i) :=
  psM (ps_setLc (g := gName j) hc hN hy hyl hsw hi (blkOk_by ok) (fun s H C cl fp => pg_name hN hx (.inl (hl C cl)) (.inr (hl C cl))) ht he hs) fun E σ H ⟨G, Ω, Δ, k, s, e, m, w⟩ =>
    tLc_of σ H _ ⟨G, Ω, Δ, _, s, e, m, fun v d Ω1 G1 H1 l1 s1 r1 m1 => w.nx _ _ _ _ _ l1 s1 ((e.le l1).set r1) m1⟩
/-- .. and the new list is frozen -/
theorem rs_setLcF {i : Nat} {y : Str} {py : Pos} {spos : Pos} {elt iter : Expr} {ifs : List Expr} {scope : Scope} {x : Str} {j : Nat} {px : Pos} {mt : MT} {me : ME} (hc : X.calm = true) (hN : X.N.Nodup) (hy : X.N[i]? = some y) (hyl : X.env.scope.names.lookup y = some .local)
    (hsw : swapsWith (.ListComp elt [⟨.Name x px, iter, ifs, 0⟩] scope pos) (some (.Name y py)) spos.line X.env = pure true) (hx : X.N[j]? = some x) (ok : blkC X.N X.env.scope scope [(x, j)] = true) (hl : ∀ (C : Addr) (cl : List (Str × Addr)), (compEnvC scope cl C X.env).scope.names.lookup x = some .local) (hi : RI X T B (.Name x px) iter mi)
    (ht : ∀ (s : Shared) (H : Hp) (C : Addr) (cl : List (Str × Addr)) (fp : List Addr), PTs (X.blk s H scope (compEnvC scope cl C X.env) fp) ifs (rT X.K T B mt))
    (he : ∀ (s : Shared) (H : Hp) (C : Addr) (cl : List (Str × Addr)) (fp : List Addr), RE (X.blk s H scope (compEnvC scope cl C X.env) fp) T B elt me) (hs : ∀ x, foldedSetIterable iter X.env x = pure x := by intro _; rfl) :
    RS X T B (.Assign [.Name y py] (.ListComp elt [⟨.Name x px, iter, ifs, 0⟩] scope pos) spos) (mAsg (mFrz (mLc mi j mt me)) i) :=
  psM (ps_setLc (g := gName j) hc hN hy hyl hsw hi (blkOk_by ok) (fun s H C cl fp => pg_name hN hx (.inl (hl C cl)) (.inr (hl C cl))) ht he hs) fun E σ H ⟨G, Ω, Δ, k, s, e, m, w⟩ => by
    have q : mLc mi j mt me Ω Δ (fun x Ω1 => ∃ l ob, x = .ptr l ∧ Ω1 l = some ob ∧ k.nx (del Ω1 l) (Δ.set i (some ob.d))) := m
    exact tLc_of (me := me) σ H _ ⟨G, Ω, Δ, _, s, e, q, fun v d Ω1 G1 H1 l1 s1 r1 ⟨l, ob, hd, ho, m1⟩ => by
      subst hd
      cases r1
      obtain ⟨G2, l2, s2, r2⟩ := s1.frozen ho
      exact w.nx _ _ _ _ _ (l1.trans l2) s2 ((e.le (l1.trans l2)).set r2) m1⟩
end
end KG
/-! DH: while, new dicts, tuple(range(..)), comprehensions of two, tuples that are known to the object. -/
namespace KG
open L2 PySem PyProof.Rows PySem.Spec
section
variable {X : Cx} {T : TabL} {B : Hp} {a b e o tg : Expr} {ma mb mo : ME} {es : List Expr} {mr : MA} {pos p apos : Pos} {K : PySem.W.Frag} {mi : MI} {k : Nat}
theorem rs_retN : RS X T B (.Return none pos) mRetN := psM ps_retN fun E σ H ⟨G, Ω, Δ, k, s, e, m, w⟩ => w.rt .non .non Ω G H (Le.refl _ _) s .non m
theorem rs_while {c : Expr} {body : List Stmt} {mt : MT} {tb : MS} (hp : PassesOwn (model X.prog X.w) X.A X.env X.xe) (hc : RT X T B c mt) (hb : RSs X T B body tb) : RS X T B (.While c body [] pos) (mWhile mt tb) := psM (ps_while hp hc hb) fun E σ H ⟨G, Ω, Δ, k, s, e, ⟨W, ⟨n, w0⟩, turn⟩, w⟩ => by
  refine ⟨fun m σ' H' => ∃ Gi Ωi Δi, Le X.K G Gi ∧ Sat X.K T B Gi H' Ωi ∧ SlE X.K Gi σ' Δi ∧ W m Ωi Δi, ⟨n, G, Ω, Δ, Le.refl _ _, s, e, w0⟩, ?_⟩
  rintro m σ' H' ⟨Gi, Ωi, Δi, li, si, ei, wi⟩
  refine ⟨Gi, Ωi, Δi, _, si, ei, turn m Ωi Δi wi, fun c Ω1 G1 H1 l1 s1 h => ?_⟩
  cases c with
  | false =>
    rw [if_neg Bool.false_ne_true]
    exact w.nx _ _ _ _ _ (li.trans l1) s1 (ei.le l1) (h.1 rfl)
  | true =>
    rw [if_pos rfl]
    refine ⟨fun σ2 H2 => ∃ j, j < m ∧ ∃ G2 Ω2 Δ2, Le X.K G G2 ∧ Sat X.K T B G2 H2 Ω2 ∧ SlE X.K G2 σ2 Δ2 ∧ W j Ω2 Δ2, fun σ2 H2 ⟨j, hj, h2⟩ => ⟨j, hj, h2⟩, G1, Ω1, Δi, _, s1, ei.le l1, h.2 rfl, ?_⟩
    have lx := li.trans l1
    exact ⟨fun σ4 Δ4 Ω4 G4 H4 l4 s4 e4 ⟨j, hj, w4⟩ => ⟨j, hj, G4, Ω4, Δ4, lx.trans l4, s4, e4, w4⟩, w.rt.le lx, w.nx.le lx, fun σ4 Δ4 Ω4 G4 H4 l4 s4 e4 ⟨j, hj, w4⟩ => ⟨j, hj, G4, Ω4, Δ4, lx.trans l4, s4, e4, w4⟩⟩
/-- {} -/
def mNewK : ME := fun Ω _ P => ∀ l, Ω l = none → P (.ptr l) (put Ω l (.dk []))
def mNewT : ME := fun Ω _ P => ∀ l, Ω l = none → P (.ptr l) (put Ω l (.dt []))
theorem re_newK : RE X T B (.Dict [] [] pos) mNewK := peM pe_dnewK fun σ H Q ⟨G, Ω, Δ, P, s, e, m, wk⟩ p hp =>
  wk _ _ _ G _ (Le.refl _ _) (s.newO (ob := .dk []) hp ⟨[], [], [], upd_same, .nil, rfl, rfl⟩) (.ptr p) (m p (s.free hp).2)
theorem re_newT : RE X T B (.Dict [] [] pos) mNewT := peM pe_dnewT fun σ H Q ⟨G, Ω, Δ, P, s, e, m, wk⟩ p hp =>
  wk _ _ _ G _ (Le.refl _ _) (s.newO (ob := .dt []) hp ⟨[], [], [], upd_same, .nil, rfl, rfl⟩) (.ptr p) (m p (s.free hp).2)
/-- tuple(range(n)) -/
def rgL (n : Int) : List Int := (List.range n.toNat).map fun i : Nat => (i : Int)
def mTupRg (ma : ME) : ME := fun Ω Δ P => ma Ω Δ fun d Ω1 => ∃ n : Int, d = .int n ∧ 0 ≤ n ∧ n ≤ 1000 ∧ P (tI (rgL n)) Ω1
theorem rg_eq (n : Int) : rgV 0 n = (rgL n).map V.int := by
  unfold rgV rgL
  rw [List.map_map, Int.sub_zero]
  refine List.map_congr_left fun i _ => ?_
  show V.int (0 + (i : Int)) = V.int (i : Int)
  rw [Int.zero_add]
theorem re_tupRg {p2 pos2 : Pos} (hc : X.calm = true) (hg : Gl X "tuple") (hm : X.mg "tuple" = none) (hg2 : Gl X "range") (hm2 : X.mg "range" = none) (ha : RE X T B a ma) (na2 : starEach [a] X.env = (false, eval a X.env) :: starEach [] X.env := by rfl)
    (na : starEach [.Call (.Name "range" p2) [a] [] pos2] X.env = (false, eval (.Call (.Name "range" p2) [a] [] pos2) X.env) :: starEach [] X.env := by rfl) : RE X T B (.Call (.Name "tuple" p) [.Call (.Name "range" p2) [a] [] pos2] [] pos) (mTupRg ma) :=
  peM (pe_tupRg hc hg hm (prg_1 hg2 hm2 ha na2) na) fun σ H Q ⟨G, Ω, Δ, P, s, e, m, wk⟩ =>
  ⟨G, Ω, Δ, _, s, e, m, fun v d Ω1 G1 H1 l1 s1 r1 ⟨n, hd, h0, h1, q⟩ => by
    subst hd
    refine ⟨n, rp_int r1, ⟨by omega, by omega, by omega, by omega, by omega⟩, fun l hl => ?_⟩
    rw [rg_eq]
    exact (wk.le l1).tup s1 (ints_rp _) q hl⟩

/-! ### comprehensions of two -/
def mLc2 (mi : MI) (j : Nat) (mi1 : MI) (j1 : Nat) (me : ME) : ME := fun Ω Δ P => mi Ω Δ fun n item keep Ω1 => ∀ l, Ω1 l = none → ∃ W : Nat → Om → Prop, W 0 (put Ω1 l (.lst [])) ∧ (∀ i Ω', i ≤ n → W i Ω' → keep Ω') ∧
  (∀ i Ω', i < n → W i Ω' → mi1 Ω' ((Δ.set j1 none).set j (some (item i))) fun n1 item1 keep1 Ω2 => ∃ W1 : Nat → Om → Prop, W1 0 Ω2 ∧ (∀ i1 Ω', i1 ≤ n1 → W1 i1 Ω' → keep1 Ω') ∧
    (∀ i1 Ω', i1 < n1 → W1 i1 Ω' → me Ω' (((Δ.set j1 none).set j (some (item i))).set j1 (some (item1 i1))) fun y Ω4 => ∃ acc, Ω4 l = some (.lst acc) ∧ acc.length < 100000 ∧ W1 (i1 + 1) (put Ω4 l (.lst (acc ++ [y])))) ∧
    ∀ Ω', W1 n1 Ω' → W (i + 1) Ω') ∧ ∀ Ω', W n Ω' → P (.ptr l) Ω'
theorem tLc2_of {mi1 : MI} {j j1 : Nat} {me : ME} (hne : j ≠ j1) : ∀ σ H Q, rE X.K T B (mLc2 mi j mi1 j1 me) σ H Q → tLc2 (rI T B X.K mi) (gName j) (rT X.K T B mYes) (rI T B X.K mi1) (gName j1) (rT X.K T B mYes) (rE X.K T B me) [j, j1] [j1] σ H Q := fun σ H Q ⟨G, Ω, Δ, P, s, e, m, wk⟩ =>
  ⟨G, Ω, Δ, _, s, e, m, fun J n item keep Ω1 G1 H1 l1 s1 hW hJ D hD => by
    obtain ⟨hG, hO⟩ := s1.free hD
    obtain ⟨W, w0, wkp, turn, fin⟩ := hW D hO
    refine ⟨fun i m H' => m = n - i ∧ i ≤ n ∧ ∃ Gi Ωi, Le X.K G1 Gi ∧ Sat X.K T B Gi H' Ωi ∧ W i Ωi, ⟨_, rfl, Nat.zero_le _, G1, _, Le.refl _ _, s1.newO (ob := .lst []) hD ⟨[], upd_same, .nil⟩, w0⟩, ?_⟩
    rintro i m H' ⟨rfl, hi, Gi, Ωi, li, si, wi⟩
    obtain ⟨hgo, hstop⟩ := hJ i Gi H' Ωi li si (wkp i Ωi hi wi)
    by_cases hlt : i < n
    · obtain ⟨h1, h2⟩ := hgo hlt
      refine .inr ⟨h1, fun H2 => ∃ G2 Ω2, Le X.K G1 G2 ∧ Sat X.K T B G2 H2 Ω2 ∧ W (i + 1) Ω2, fun H2 ⟨G2, Ω2, l2, s2, w2⟩ => ⟨n - (i + 1), by omega, rfl, hlt, G2, Ω2, l2, s2, w2⟩, fun x H2 y => ?_⟩
      obtain ⟨rfl, rx⟩ := h2 x H2 y
      have wp2 : ∀ τ : L2.St, L2.wipe τ [j, j1] = (τ.set j1 none).set j none := fun _ => rfl
      have wp1 : ∀ τ : L2.St, L2.wipe τ [j1] = τ.set j1 none := fun _ => rfl
      show L2.wipe ((L2.wipe σ [j, j1]).set j (some x)) [j, j1] = L2.wipe σ [j, j1] ∧ _
      simp only [wp2, wp1]
      have hs1 : (((σ.set j1 none).set j none).set j (some x)) = (σ.set j1 none).set j (some x) := List.set_set ..
      rw [hs1]
      refine ⟨?_, ?_⟩
      · rw [List.set_comm _ _ hne, List.set_set, List.set_set]
      have ei : SlE X.K Gi ((σ.set j1 none).set j (some x)) ((Δ.set j1 none).set j (some (item i))) := ((e.le (l1.trans li)).wipe j1).set rx
      refine ⟨Gi, Ωi, _, fun b Ω' => b = true ∧ Ω' = Ωi, si, ei, ⟨rfl, rfl⟩, fun b Ω3 G3 H3 l3 s3 p3 => ?_⟩
      obtain ⟨rfl, rfl⟩ := p3
      rw [if_pos rfl]
      refine ⟨G3, Ω3, _, _, s3, ei.le l3, turn i Ω3 hlt wi, fun J1 n1 item1 keep1 Ω4 G4 H4 l4 s4 ⟨W1, w10, wk1, turn1, fin1⟩ hJ1 => ?_⟩
      refine ⟨fun i1 m H' => m = n1 - i1 ∧ i1 ≤ n1 ∧ ∃ Gi Ωi, Le X.K G4 Gi ∧ Sat X.K T B Gi H' Ωi ∧ W1 i1 Ωi, ⟨_, rfl, Nat.zero_le _, G4, Ω4, Le.refl _ _, s4, w10⟩, ?_⟩
      rintro i1 m H' ⟨rfl, hi1, G5, Ω5, l5, s5, w5⟩
      obtain ⟨hgo1, hstop1⟩ := hJ1 i1 G5 H' Ω5 l5 s5 (wk1 i1 Ω5 hi1 w5)
      have lx : Le X.K G1 G5 := ((li.trans l3).trans l4).trans l5
      by_cases hlt1 : i1 < n1
      · obtain ⟨h3, h4⟩ := hgo1 hlt1
        refine .inr ⟨h3, fun H2 => ∃ G2 Ω2, Le X.K G4 G2 ∧ Sat X.K T B G2 H2 Ω2 ∧ W1 (i1 + 1) Ω2, fun H2 ⟨G2, Ω2, l2, s2, w2⟩ => ⟨n1 - (i1 + 1), by omega, rfl, hlt1, G2, Ω2, l2, s2, w2⟩, fun x1 H2 y1 => ?_⟩
        obtain ⟨rfl, rx1⟩ := h4 x1 H2 y1
        show L2.wipe ((L2.wipe _ [j1]).set j1 (some x1)) [j1] = L2.wipe _ [j1] ∧ _
        simp only [wp1]
        have hs2 : (((σ.set j1 none).set j (some x)).set j1 none).set j1 (some x1) = ((σ.set j1 none).set j (some x)).set j1 (some x1) := List.set_set ..
        rw [hs2]
        refine ⟨by rw [List.set_set], ?_⟩
        have e5 : SlE X.K G5 (((σ.set j1 none).set j (some x)).set j1 (some x1)) (((Δ.set j1 none).set j (some (item i))).set j1 (some (item1 i1))) := (ei.le ((l3.trans l4).trans l5)).set rx1
        refine ⟨G5, Ω5, _, fun b Ω' => b = true ∧ Ω' = Ω5, s5, e5, ⟨rfl, rfl⟩, fun b Ω6 G6 H6 l6 s6 p6 => ?_⟩
        obtain ⟨rfl, rfl⟩ := p6
        rw [if_pos rfl]
        refine ⟨G6, Ω6, _, _, s6, e5.le l6, turn1 i1 Ω6 hlt1 w5, fun v y Ω7 G7 H7 l7 s7 r7 ⟨acc, ha, hz, w7⟩ => ?_⟩
        obtain ⟨vs, hv, rv⟩ := own_lst s7 ha
        exact ⟨vs, hv, by rw [rv.length]; exact Nat.lt_of_lt_of_le hz (by decide), G7, _, (l5.trans l6).trans l7, s7.write (ob' := .lst (acc ++ [y])) ha ⟨_, upd_same, rv.append (.cons r7 .nil)⟩, w7⟩
      · have hlast : i1 = n1 := by omega
        subst hlast
        exact .inl ⟨hstop1 (Nat.le_refl _), G5, Ω5, lx, s5, fin1 Ω5 w5⟩
    · have hlast : i = n := by omega
      subst hlast
      exact .inl ⟨hstop (Nat.le_refl _), wk (.ref D) (.ptr D) Ωi Gi H' (l1.trans li) si (.ptr D) (fin Ωi wi)⟩⟩
theorem rs_setLc2F {i : Nat} {y : Str} {py : Pos} {spos : Pos} {elt iter iter1 : Expr} {scope : Scope} {x x1 : Str} {j j1 : Nat} {px px1 : Pos} {mi1 : MI} {me : ME} (hne : j ≠ j1) (hc : X.calm = true) (hN : X.N.Nodup) (hy : X.N[i]? = some y) (hyl : X.env.scope.names.lookup y = some .local)
    (hsw : swapsWith (.ListComp elt [⟨.Name x px, iter, [], 0⟩, ⟨.Name x1 px1, iter1, [], 0⟩] scope pos) (some (.Name y py)) spos.line X.env = pure true) (hx : X.N[j]? = some x) (hx1 : X.N[j1]? = some x1) (ok : blkC X.N X.env.scope scope [(x, j), (x1, j1)] = true)
    (hl : ∀ (C : Addr) (cl : List (Str × Addr)), (compEnvC scope cl C X.env).scope.names.lookup x = some .local) (hl1 : ∀ (C : Addr) (cl : List (Str × Addr)), (compEnvC scope cl C X.env).scope.names.lookup x1 = some .local) (hi : RI X T B (.Name x px) iter mi)
    (hi1 : ∀ (s : Shared) (H : Hp) (C : Addr) (cl : List (Str × Addr)) (fp : List Addr), RI (X.blk s H scope (compEnvC scope cl C X.env) fp) T B (.Name x1 px1) iter1 mi1)
    (he : ∀ (s : Shared) (H : Hp) (C : Addr) (cl : List (Str × Addr)) (fp : List Addr), RE (X.blk s H scope (compEnvC scope cl C X.env) fp) T B elt me) (hs : ∀ x, foldedSetIterable iter X.env x = pure x := by intro _; rfl) (hs1 : ∀ env x, foldedSetIterable iter1 env x = pure x := by intro _ _; rfl) :
    RS X T B (.Assign [.Name y py] (.ListComp elt [⟨.Name x px, iter, [], 0⟩, ⟨.Name x1 px1, iter1, [], 0⟩] scope pos) spos) (mAsg (mFrz (mLc2 mi j mi1 j1 me)) i) :=
  psM (ps_setLc2 (g := gName j) (g1 := gName j1) (vs1 := [j1]) hc hN hy hyl hsw hi (blkOk_by ok) (by simp) (fun s H C cl fp => pg_name hN hx (.inl (hl C cl)) (.inr (hl C cl))) (fun s H C cl fp => rts_nil) hi1 (fun s H C cl fp => pg_name hN hx1 (.inl (hl1 C cl)) (.inr (hl1 C cl))) (fun s H C cl fp => rts_nil) he hs hs1) fun E σ H ⟨G, Ω, Δ, k, s, e, m, w⟩ => by
    have q : mLc2 mi j mi1 j1 me Ω Δ (fun x Ω1 => ∃ l ob, x = .ptr l ∧ Ω1 l = some ob ∧ k.nx (del Ω1 l) (Δ.set i (some ob.d))) := m
    exact tLc2_of (me := me) hne σ H _ ⟨G, Ω, Δ, _, s, e, q, fun v d Ω1 G1 H1 l1 s1 r1 ⟨l, ob, hd, ho, m1⟩ => by
      subst hd
      cases r1
      obtain ⟨G2, l2, s2, r2⟩ := s1.frozen ho
      exact w.nx _ _ _ _ _ (l1.trans l2) s2 ((e.le (l1.trans l2)).set r2) m1⟩

/-! ### tuples known to the object -/
theorem WK.tuf {G H : Hp} {Ω : Om} {P : DK} {Q : VK} {vs : List V} {ds : List D} {p : Addr} {o : Obj} (w : WK K T B G P Q) (s : Sat K T B G H Ω) (r : RpAll K G vs ds) (hc : o.cls = .type "tuple") (hn : o.dict = none) (h : P (.tuf ds) Ω) (hp : H p = none) : Q (.ref p) (upd H p (.frz o (.tup vs))) :=
  w (.ref p) (.tuf ds) Ω (upd G p (.frz o (.tup vs))) _ (Ex.new (s.free hp).1).le (s.newG hp) (.tuf upd_same hc hn ((Ex.new (s.free hp).1).le.all r)) h
def tTuF (t : TA) : TE := fun σ H Q => t σ H fun xs H1 => xs.length ≤ sizeLine ∧ ∀ p o, o.cls = .type "tuple" → o.dict = none → H1 p = none → Q (.ref p) (upd H1 p (.frz o (.tup xs)))
theorem pe_tuF {t : TA} {x1} (h : PA X es t) : PE X (.Tuple es x1 pos) (tTuF t) := ⟨fun pins s σ H Q I hq =>
  wpAny_Tuple_spliced (thn (h.run pos pins s σ H _ I hq) fun us s1 ⟨xs, H1, I1, r, z, q⟩ => ⟨by rw [← r.length]; exact z, by
    have free1 : H1 s1.heap.objs.size = none := I1.hok.fresh (Nat.le_refl _)
    have there : (s1.heap.push { cls := .type "tuple", data := .seq us.toArray }).get? s1.heap.objs.size = some { cls := .type "tuple", data := .seq us.toArray } := Heap.get?_push_size _ rfl
    exact ⟨.ref s1.heap.objs.size, _, I1.laid (t' := s1.toks) (o := .frz { cls := .type "tuple", data := .seq us.toArray } (.tup xs)) (fun b u e => Heap.get?_push_of_some _ e) (Nat.le_refl _) ⟨there, z, us, r, ⟨_, there, rfl, _, rfl⟩⟩, rfl, q _ _ rfl rfl free1⟩⟩)⟩
def mTuF (ma : MA) : ME := fun Ω Δ P => ma Ω Δ fun ds Ω1 => ds.length ≤ 1000 ∧ P (.tuf ds) Ω1
theorem re_tuF {x1} (h : RA X T B es mr) : RE X T B (.Tuple es x1 pos) (mTuF mr) := peM (pe_tuF h) fun σ H Q ⟨G, Ω, Δ, P, s, e, m, wk⟩ =>
  ⟨G, Ω, Δ, _, s, e, m, fun vs ds Ω1 G1 H1 l1 s1 r1 ⟨hl, m1⟩ => ⟨sz1000 (by rw [r1.length]; exact hl), fun p o hc hn hp => (wk.le l1).tuf s1 r1 hc hn m1 hp⟩⟩
/-- t + u of such tuples -/
def isF (H : Hp) (a : Addr) (xs : List V) : Prop := ∃ o, H a = some (.frz o (.tup xs)) ∧ o.cls = .type "tuple" ∧ o.dict = none
def rCatF : R2 := fun x y H Q => ∃ a b xs ys, x = .ref a ∧ y = .ref b ∧ isF H a xs ∧ isF H b ys ∧ xs.length + ys.length ≤ sizeLine ∧
  (xs = [] → Q (.ref b) H) ∧ (xs ≠ [] → ys = [] → Q (.ref a) H) ∧ (xs ≠ [] → ys ≠ [] → ∀ p o, o.cls = .type "tuple" → o.dict = none → H p = none → Q (.ref p) (upd H p (.frz o (.tup (xs ++ ys)))))
theorem op_catF : OpR X (binaryOp .Add) rCatF := by
  intro pins s σ H x y v u Q I rx ry ⟨a, b, xs, ys, hx, hy, ha, hb, hz, q0, q1, q2⟩
  subst hx hy
  cases rx
  cases ry
  have sa : SqT X.K H a xs := .inl (.inr (let ⟨o, h, _⟩ := ha; ⟨o, h⟩))
  have sb : SqT X.K H b ys := .inl (.inr (let ⟨o, h, _⟩ := hb; ⟨o, h⟩))
  obtain ⟨its, r1, p1, _⟩ := I.tuple sa
  obtain ⟨its2, r2, p2, _⟩ := I.tuple sb
  by_cases hx : xs = []
  · subst hx
    cases r1
    exact cat_tup0 p1 p2 ⟨.ref b, H, I, rfl, q0 rfl⟩
  · refine HT.cat_tup p1 p2 (fun z => hx (r1.nil_iff.mp z)) (fun z => ⟨.ref a, H, I, rfl, q1 hx (r2.nil_iff.mp z)⟩) (fun z => ?_) (by rw [← r1.length, ← r2.length]; exact hz)
    have there : (s.heap.push { cls := .type "tuple", data := .seq (its ++ its2).toArray }).get? s.heap.objs.size = some { cls := .type "tuple", data := .seq (its ++ its2).toArray } := Heap.get?_push_size _ rfl
    exact ⟨.ref s.heap.objs.size, _, I.laid (t' := s.toks) (o := .frz { cls := .type "tuple", data := .seq (its ++ its2).toArray } (.tup (xs ++ ys))) (fun b ob q => Heap.get?_push_of_some _ q) (Nat.le_refl _)
      ⟨there, by rw [List.length_append]; exact hz, _, r1.append r2, ⟨_, there, rfl, _, rfl⟩⟩, rfl, q2 hx (fun w => z (r2.nil_iff.mpr w)) _ _ rfl rfl (I.hok.fresh (Nat.le_refl _))⟩
def wCatF : WOp := fun x y Ω P => ∃ xs ys, x = .tuf xs ∧ y = .tuf ys ∧ xs.length + ys.length ≤ 1000 ∧ P (.tuf (xs ++ ys)) Ω
theorem re_catF (ha : RE X T B a ma) (hb : RE X T B b mb) : RE X T B (.BinOp a .Add b pos) (mOp wCatF ma mb) := re_op op_catF (by
  intro G H Ω x y dx dy P Q s rx ry ⟨xs, ys, hx, hy, hz, p⟩ wk
  subst hx hy
  cases rx with
  | @tuf a o vs _ h1 h2 h3 r1 =>
    cases ry with
    | @tuf b o2 ws _ k1 k2 k3 r2 =>
      refine ⟨a, b, vs, ws, rfl, rfl, ⟨o, s.ex _ _ h1, h2, h3⟩, ⟨o2, s.ex _ _ k1, k2, k3⟩, sz1000 (by rw [r1.length, r2.length]; exact hz), fun e => ?_, fun e e2 => ?_, fun e e2 p' o' c' n' hp => wk.tuf s (r1.append r2) c' n' p hp⟩
      · subst e
        cases r1
        exact wk.now s (.tuf k1 k2 k3 r2) p
      · subst e2
        cases r2
        rw [List.append_nil] at p
        exact wk.now s (.tuf h1 h2 h3 r1) p) ha hb
/-- t.count(i) -/
def tCntF (to : TE) (t : TA) : TE := fun σ H Q => to σ H fun x H1 => (∃ a xs, x = .ref a ∧ isF H1 a xs) ∧ t σ H1 fun vs H2 => ∃ (a : Addr) (ns : List Int) (k : Int), x = .ref a ∧ vs = [.int k] ∧ SqT X.K H2 a (ns.map V.int) ∧ Q (.int (ns.count k : Nat)) H2
theorem pe_cntF {to : TE} {t : TA} (ho : PE X o to) (ha : PA X (e :: es) t) (hbase : attributeBase o "count" X.env (eval o X.env) = eval o X.env := by rfl)
    (hfew : ((backTo pos (starEach (e :: es) X.env)).all (fun x => !x.1) && (backToKw pos (keywordEach [] X.env)).all (fun x => x.1.isSome) && decide ((e :: es).length + ([] : List Keyword).length + (if ([] : List Keyword).isEmpty then 0 else 1) < 30)) = true := by rfl)
    (hline : (apos.endLine == pos.line) = true := by rfl) (hs : starEach (e :: es) X.env = (false, eval e X.env) :: starEach es X.env := by rfl) (hplain : (backTo pos (starEach es X.env)).any (·.1) = false := by rfl) :
    PE X (.Call (.Attribute o "count" apos) (e :: es) [] pos) (tCntF (X := X) to t) := ⟨fun pins s σ H Q I h =>
  wpAny_Call_method_late hbase hfew hline rfl (thn (ho.run pins s σ H _ I h) fun v s1 ⟨x, H1, I1, r1, ⟨a, xs, hx, o', hf, hc, hn⟩, q1⟩ => by
    subst hx
    obtain rfl : v = Value.ref a := r1
    obtain ⟨hget, _⟩ := I1.hok a _ hf
    refine ⟨"tuple", "tuple.count", F.plainAttrs_tuple, F.slot_tuple_count, F.type_tuple_count, ⟨o', hget, hc⟩, fun b eb => by cases eb; exact ⟨o', hget, hn⟩, ?_⟩
    have hA := ha.run pos pins s1 σ H1 _ I1 q1
    rw [hs] at hA ⊢
    refine Calls.callWith_builtin (by show (false || (backTo pos (starEach es X.env)).any (·.1)) = false; rw [hplain] <;> rfl) (Calls.evalArgs_plain (thn hA fun us s2 ⟨vs, H2, I2, r2, a', ns, k, ea, ev, hq, q2⟩ => ?_))
    cases ea
    subst ev
    obtain ⟨u, rfl, ru⟩ := r2.one
    obtain ⟨t, rfl⟩ := ru
    obtain ⟨its, rv, ⟨⟨cls, dd, data, sl⟩, ho2, hc2, n2, hd2⟩, _⟩ := I2.tuple hq
    simp only at hc2 hd2
    subst hc2 hd2
    have hi := ints_of_vals rv
    refine call_meets PySem.F.slot_tuple_count ⟨_, ho2, rfl⟩ PySem.F.entry_tuple_count (PySem.F.args_tuple_count_2 _ _) (SeqAt.tuple_countAt a its.toArray n2 dd sl (.int k t) (eqk k)) ⟨ho2, fun y hy => (eqk_gives hi y (by simpa using hy)).at _ _, ?_⟩
    have ec : its.toArray.toList.countP (eqk k) = ns.count k := eqk_count hi
    refine ⟨.int (ns.count k : Nat), H2, I2.tok _, ⟨s2.toks, ?_⟩, q2⟩
    show Value.int ((its.toArray.toList.countP (eqk k) : Nat) : Int) s2.toks = Value.int ((ns.count k : Nat) : Int) s2.toks
    rw [ec])⟩
def mCntF (mo : ME) (ma : MA) : ME := fun Ω Δ P => mo Ω Δ fun d Ω1 => ∃ ns : List Int, d = .tuf (ns.map .int) ∧ ma Ω1 Δ fun ds Ω2 => ∃ k : Int, ds = [.int k] ∧ P (.int (ns.count k : Nat)) Ω2
theorem re_cntF (ho : RE X T B o mo) (ha : RA X T B (e :: es) mr) (hbase : attributeBase o "count" X.env (eval o X.env) = eval o X.env := by rfl)
    (hfew : ((backTo pos (starEach (e :: es) X.env)).all (fun x => !x.1) && (backToKw pos (keywordEach [] X.env)).all (fun x => x.1.isSome) && decide ((e :: es).length + ([] : List Keyword).length + (if ([] : List Keyword).isEmpty then 0 else 1) < 30)) = true := by rfl)
    (hline : (apos.endLine == pos.line) = true := by rfl) (hs : starEach (e :: es) X.env = (false, eval e X.env) :: starEach es X.env := by rfl) (hplain : (backTo pos (starEach es X.env)).any (·.1) = false := by rfl) :
    RE X T B (.Call (.Attribute o "count" apos) (e :: es) [] pos) (mCntF mo mr) := peM (pe_cntF ho ha hbase hfew hline hs hplain) fun σ H Q ⟨G, Ω, Δ, P, s, e, m, wk⟩ =>
  ⟨G, Ω, Δ, _, s, e, m, fun v d Ω1 G1 H1 l1 s1 r1 ⟨ns, hd, m1⟩ => by
    subst hd
    cases r1 with
    | @tuf a o vs _ h1 h2 h3 ra =>
      refine ⟨⟨a, vs, rfl, o, s1.ex _ _ h1, h2, h3⟩, G1, Ω1, Δ, _, s1, e.le l1, m1, fun vs2 ds Ω2 G2 H2 l2 s2 r2 ⟨k, hk, p⟩ => ?_⟩
      subst hk
      obtain ⟨a', ws, ha', hq, rw'⟩ := seq_at s2 (l2 _ _ (.tuf h1 h2 h3 ra)) (.inr (.inl rfl))
      cases ha'
      have hq' : SqT X.K H2 a (ns.map V.int) := by
        cases l2 _ _ (Rp.tuf h1 h2 h3 ra) with
        | @tuf _ o5 vs5 _ g1 g2 g3 g4 =>
          rw [ints_of g4] at g1
          exact .inl (.inr ⟨o5, s2.ex _ _ g1⟩)
      exact ⟨a, ns, k, rfl, one_int r2, hq', wk _ _ Ω2 G2 H2 (l1.trans l2) s2 (.int _) p⟩⟩
end
end KG
/-! DI: sorted of tuples of any one length, KINDS, repr. -/
namespace KG
open L2 PySem PyProof.Rows PySem.Spec
section
variable {X : Cx} {T : TabL} {B : Hp} {a b e o tg : Expr} {ma mb mo : ME} {es : List Expr} {mr : MA} {pos p apos : Pos} {K : PySem.W.Frag} {mi : MI} {k : Nat}
def wSortA : FD := fun ds Ω P => ∃ (k : Nat) (b : Int), 1 ≤ k ∧ wSortT k b ds Ω P
theorem re_sortA (hg : Gl X "sorted") (hm : X.mg "sorted" = none) (ha : RA X T B (a :: es) mr) (he : starEach (a :: es) X.env = (false, eval a X.env) :: starEach es X.env := by rfl) (hpl : (backTo pos (starEach es X.env)).any (·.1) = false := by rfl) :
    RE X T B (.Call (.Name "sorted" p) (a :: es) [] pos) (mCB wSortA mr) :=
  re_callB (r := fun xs H Q => ∃ (k : Nat) (b : Int), 1 ≤ k ∧ rSortU X.K k b xs H Q) (fun pins s σ H xs us Q I r ⟨k, b, h1, h⟩ => cr_sortT h1 pins s σ H xs us Q I r h)
    (by intro G H Ω vs ds P Q s r ⟨k, b, h1, h⟩ wk; exact ⟨k, b, h1, d_sortT s r h wk⟩) hg hm rfl ha (by decide) (by decide) he hpl
/-! ### e not in KINDS -/
def kindL : List Str := ["any", "kept", "adds"]
def KindsAt (K : PySem.W.Frag) : Prop := ∀ H, SqT K H 209 (kindL.map V.str)
def wKinds : WOp := fun x y Ω P => ∃ z : Str, x = .str z ∧ y = .ptr 209 ∧ z ∈ kindL ∧ P (.bl false) Ω
theorem kinds_ok : ∀ z ∈ kindL, PyData.strOk z = true := by decide +kernel
theorem dp_strs {H : Hp} : ∀ xs : List Str, DpAll K H (xs.map V.str) (xs.map PyData.str)
  | [] => .nil
  | x :: xs => .cons (.str x) (dp_strs xs)
theorem cm_kinds (hr : Room k X.A) (hk : KindsAt X.K) (hm : behindInMarks .NotIn b = false := by rfl) : CM X T B .NotIn wKinds b := ⟨_, op_notInT (room65 hr), (by
  intro G H Ω x y dx dy P Q s rx ry ⟨z, h1, h2, hz, p⟩ wk
  subst h1 h2
  rw [rp_str rx, rp_ptr ry]
  refine ⟨.str z, kindL.map .str, .str z, .tup (hk H) (dp_strs _), by simp [SeqAt.shaped, PyData.canLay0, PyData.depth, kinds_ok z hz], by
    have h1 := kinds_ok "any" (by decide +kernel)
    have h2 := kinds_ok "kept" (by decide +kernel)
    have h3 := kinds_ok "adds" (by decide +kernel)
    simp [SeqAt.shaped, PyData.canLay0, PyData.canLayAll0, PyData.depth, PyData.depthAll, kindL, h1, h2, h3], ?_⟩
  have e : ((kindL.map PyData.str).any fun y => PyData.eqv y (.str z)) = decide (z ∈ kindL) := by
    rw [List.any_map]
    have : ∀ l : List Str, (l.any ((fun y => PyData.eqv y (.str z)) ∘ PyData.str)) = decide (z ∈ l) := by
      intro l
      induction l with
      | nil => rfl
      | cons w l ih =>
        rw [List.any_cons, ih]
        have e1 : ((fun y => PyData.eqv y (.str z)) ∘ PyData.str) w = decide (w = z) := by
          show PyData.eqv (.str w) (.str z) = decide (w = z)
          show (w == z) = decide (w = z)
          exact (Bool.beq_eq_decide_eq w z)
        rw [e1]
        by_cases h : w = z
        · simp [h]
        · simp [h, Ne.symm h]
    exact this kindL
  rw [if_pos rfl, e, decide_eq_true hz]
  exact wk.now s (.bl _) p), hm⟩
/-! ### repr -/
def wRepr : FD := fun ds Ω P => ∃ d, ds = [d] ∧ plainD d = true ∧ (d = .non ∨ (∃ xs, d = .tup xs) ∨ ∃ xs, d = .lst xs) ∧ (toPy d).showable = true ∧ (toPy d).hasDict = false ∧ (toPy d).depth ≤ 100 ∧ (toPy d).shown.length ≤ sizeLine ∧ P (.str (toPy d).shown) Ω
def rRepr (K : PySem.W.Frag) : List V → Hp → VK → Prop := fun xs H Q => ∃ v d, xs = [v] ∧ Dp K H v d ∧ (d = .none ∨ ∃ a, v = .ref a) ∧ d.showable = true ∧ d.hasDict = false ∧ d.depth ≤ 100 ∧ d.shown.length ≤ sizeLine ∧ Q (.str d.shown) H
theorem call_repr (hr : Room k X.A) (hG : X.A.guards = some []) : CallR X (.builtin "repr") (rRepr X.K) := by
  intro pins s σ H xs us Q I r ⟨v, d, h1, hd, hv, hs, hdict, hdep, hl, q⟩
  subst h1
  obtain ⟨u, rfl, ru⟩ := r.one
  rcases hv with rfl | ⟨a, rfl⟩
  · cases hd
    cases ru
    exact PySem.P.repr_of_none ⟨.str "None", H, I.tok _, ⟨_, rfl⟩, q⟩
  · cases ru
    obtain ⟨as, rd⟩ := Dp.reads I d _ _ hd rfl
    refine repr_of_reads' rd hs (PyData.noDict_hsm hdict) hG (by have := hr.un; omega) (fun _ _ e => e) (fun h' u tk hk => ?_) hl
    exact ⟨.str d.shown, H, I.kept hk, ⟨u, rfl⟩, q⟩
theorem d_repr : DCall K T B (rRepr K) wRepr := by
  intro G H Ω vs ds P Q s r ⟨d, h1, hp, hd, hs, hh, hdep, hl, p⟩ wk
  subst h1
  cases r with
  | cons r r' =>
    cases r'
    refine ⟨_, toPy d, rfl, r.dp s.ex hp, ?_, hs, hh, hdep, hl, wk.now s (.str _) p⟩
    rcases hd with rfl | ⟨xs, rfl⟩ | ⟨xs, rfl⟩
    · exact .inl (by unfold toPy; rfl)
    · cases r; exact .inr ⟨_, rfl⟩
    · cases r; exact .inr ⟨_, rfl⟩
theorem re_repr (hr : Room k X.A) (hG : X.A.guards = some []) (hg : Gl X "repr") (hm : X.mg "repr" = none) (ha : RA X T B (a :: es) mr) (he : starEach (a :: es) X.env = (false, eval a X.env) :: starEach es X.env := by rfl) (hpl : (backTo pos (starEach es X.env)).any (·.1) = false := by rfl) :
    RE X T B (.Call (.Name "repr" p) (a :: es) [] pos) (mCB wRepr mr) := re_callB (call_repr hr hG) d_repr hg hm rfl ha (by decide) (by decide) he hpl
end
end KG
/-! KT: what the top left, as facts for the defs. -/
namespace KG
open L2 PySem PyProof.Rows PySem.Spec
def glFind (x : Str) : Option (Option Addr) := (gl.find? fun p => decide (p.1 = some x)).map (·.2)
theorem isStr_key (e : DictEntry) (x : Str) : e.key.isStr x = decide (keyS e = some x) := by
  unfold keyS Value.isStr
  cases e.key with
  | str s t =>
    simp only [Option.some.injEq]
    by_cases h : s = x
    · simp [h]
    · simp [h]
  | _ => simp
theorem refKey_key {e : DictEntry} {x : Str} (h : keyS e = some x) : e.refKey = false := by
  unfold keyS at h
  unfold DictEntry.refKey
  cases q : e.key with
  | str s t => rfl
  | _ => simp [q] at h
theorem find_gl (x : Str) : ∀ L : List DictEntry, (L.find? fun e => e.key.isStr x).map refA = ((L.map fun e => (keyS e, refA e)).find? fun p => decide (p.1 = some x)).map (·.2)
  | [] => rfl
  | e :: L => by
    rw [List.map_cons, List.find?_cons, List.find?_cons, isStr_key]
    by_cases h : keyS e = some x
    · simp [h]
    · simp only [h, decide_false]
      exact find_gl x L
theorem all_keys : gl.all (fun p => p.1.isSome) = true := by decide +kernel
theorem nsIn_gl {K : PySem.W.Frag} (hp : pairsIn K = gl) (x : Str) : (∀ a, glFind x = some (some a) → PySem.W.nsIn K mainGlobals x = some (some (.ref a))) ∧ (glFind x = none → PySem.W.nsIn K mainGlobals x = some none) := by
  have ak := all_keys
  unfold pairsIn at hp
  unfold glFind PySem.W.nsIn
  split at hp
  · rename_i c d es n' sl q
    have key := find_gl x es.toList
    rw [hp] at key
    refine ⟨fun a h => ?_, fun h => ?_⟩
    · rw [h] at key
      cases e : es.toList.find? fun e => e.key.isStr x with
      | none => rw [e] at key; cases key
      | some en =>
        rw [e] at key
        have k2 : refA en = some a := Option.some.inj key
        have k3 : en.val = .ref a := by
          unfold refA at k2
          cases ev : en.val with
          | ref b => rw [ev] at k2; cases k2; rfl
          | _ => rw [ev] at k2; cases k2
        simp only [q, e, k3]
    · rw [h] at key
      cases e : es.toList.find? fun e => e.key.isStr x with
      | some en => rw [e] at key; cases key
      | none =>
        have nr : es.toList.any (·.refKey) = false := by
          rw [List.any_eq_false]
          intro en hen
          rw [← hp, List.all_map, List.all_eq_true] at ak
          have := ak en hen
          obtain ⟨y, hy⟩ := Option.isSome_iff_exists.mp (show (keyS en).isSome = true from this)
          rw [refKey_key hy]
          exact Bool.false_ne_true
        simp only [q, e, nr, Bool.false_eq_true, if_false]
  · have : gl ≠ [] := by decide +kernel
    exact absurd hp.symm this
/-- the module's facts -/
structure Top (K : PySem.W.Frag) (mg : Str → Option Value) : Prop where
  fns : ∀ (i : Nat) (d : He5.DefA), fn[i]? = some d → ∃ fd, FunD K d.name d.qual d.params d.body d.scope (d.dvs K) (d.kws K) (d.at_ K) fd
  at_ : ∀ x a, glFind x = some (some a) → mg x = some (.ref a)
  no : ∀ x, glFind x = none → mg x = none
  ex : exL K = List.replicate 23 true
theorem top_of {h : Heap} {K : PySem.W.Frag} {mg : Str → Option Value} (X : K.In h) (N : h.Ns mainGlobals mg) (S : SaysK h K) : Top K mg := by
  refine ⟨fun i d hd => ?_, fun x a e => PySem.W.mg_of X N ((nsIn_gl S.prs x).1 a e), fun x e => PySem.W.mg_none_of X N ((nsIn_gl S.prs x).2 e), S.ex⟩
  refine He5.DefA.funD ?_ (S.ok d (List.mem_of_getElem? hd))
  have e := S.fns
  have e2 : (fn.map fun d => He5.fnA K (d.at_ K))[i]? = (fn.map He5.DefA.val)[i]? := by rw [e]
  rw [List.getElem?_map, List.getElem?_map, hd] at e2
  exact Option.some.inj e2
abbrev T0 : TabL := [(512, "in_rule_order.<locals>.<lambda>"), (656, "_law_by_size.<locals>.<lambda>")]
/-- a def's fact and its name's -/
theorem Top.fd {K : PySem.W.Frag} {mg : Str → Option Value} (t : Top K mg) (i : Nat) (d : He5.DefA) (h : fn[i]? = some d) (x : Str) (a : Addr) (hg : glFind x = some (some a)) (ha : d.at_ K = a) : ∃ fd, FunD K d.name d.qual d.params d.body d.scope (d.dvs K) (d.kws K) a fd ∧ mg x = some (.ref a) := by
  obtain ⟨fd, F⟩ := t.fns i d h
  rw [ha] at F
  exact ⟨fd, F, t.at_ x a hg⟩
section
variable {K : PySem.W.Frag} {mg : Str → Option Value} (t : Top K mg)
include t
theorem Top.n_len : mg "len" = none := t.no _ (by decide +kernel)
theorem Top.n_range : mg "range" = none := t.no _ (by decide +kernel)
theorem Top.n_int : mg "int" = none := t.no _ (by decide +kernel)
theorem Top.n_abs : mg "abs" = none := t.no _ (by decide +kernel)
theorem Top.n_list : mg "list" = none := t.no _ (by decide +kernel)
theorem Top.n_tuple : mg "tuple" = none := t.no _ (by decide +kernel)
theorem Top.n_sum : mg "sum" = none := t.no _ (by decide +kernel)
theorem Top.n_any : mg "any" = none := t.no _ (by decide +kernel)
theorem Top.n_isinstance : mg "isinstance" = none := t.no _ (by decide +kernel)
theorem Top.n_sorted : mg "sorted" = none := t.no _ (by decide +kernel)
theorem Top.n_repr : mg "repr" = none := t.no _ (by decide +kernel)
theorem Top.n_set : mg "set" = none := t.no _ (by decide +kernel)
theorem Top.n_bool : mg "bool" = none := t.no _ (by decide +kernel)
theorem Top.n_str : mg "str" = none := t.no _ (by decide +kernel)
end
section
variable {K : PySem.W.Frag} {mg : Str → Option Value} (t : Top K mg)
include t
theorem Top.exi (i : Nat) (f : PySem.W.Frag → Bool) (h : ∀ K, (exL K)[i]? = some (f K)) (hi : i < 23) : f K = true := by
  have e := t.ex
  have e2 : (exL K)[i]? = (List.replicate 23 true)[i]? := by rw [e]
  rw [h K, List.getElem?_replicate, if_pos hi] at e2
  exact Option.some.inj e2
theorem clsB_ok {C : Addr} (h : clsB K C = true) : Cls K C := by
  obtain ⟨h1, h⟩ := He.ba h
  obtain ⟨h2, h⟩ := He.ba h
  obtain ⟨h3, h4⟩ := He.ba h
  exact ⟨h1, h2, h3, He.eqO_ok h4⟩
theorem methB_ok {C f : Addr} {m : Str} (h : methB K C m f = true) : Meth K C m f := by
  obtain ⟨h1, h⟩ := He.ba h
  obtain ⟨h2, h3⟩ := He.ba h
  exact ⟨He.eqO_ok h1, h2, h3⟩
theorem mkB_ok {C f : Addr} (h : mkB K C f = true) : Mk K C f := by
  obtain ⟨h1, h⟩ := He.ba h
  obtain ⟨h2, h⟩ := He.ba h
  obtain ⟨h3, h4⟩ := He.ba h
  exact ⟨h1, He.eqO_ok h2, h3, h4⟩
theorem Top.cls_Lot : Cls K 331 := clsB_ok t (t.exi 0 (fun K => clsB K 331) (fun _ => rfl) (by decide))
theorem Top.cls_Meaning : Cls K 454 := clsB_ok t (t.exi 1 (fun K => clsB K 454) (fun _ => rfl) (by decide))
theorem Top.mk_Lot : Mk K 331 270 := mkB_ok t (t.exi 2 (fun K => mkB K 331 270) (fun _ => rfl) (by decide))
theorem Top.mk_Meaning : Mk K 454 437 := mkB_ok t (t.exi 3 (fun K => mkB K 454 437) (fun _ => rfl) (by decide))
theorem Top.mt_table_of : Meth K 454 "table_of" 451 := methB_ok t (t.exi 4 (fun K => methB K 454 "table_of" 451) (fun _ => rfl) (by decide))
theorem Top.no_cells : NoAttr K 331 "cells" := He.eqO_ok (t.exi 5 (fun K => noB K 331 "cells") (fun _ => rfl) (by decide))
theorem Top.no_programs : NoAttr K 331 "programs" := He.eqO_ok (t.exi 6 (fun K => noB K 331 "programs") (fun _ => rfl) (by decide))
theorem Top.no_modulus : NoAttr K 454 "modulus" := He.eqO_ok (t.exi 7 (fun K => noB K 454 "modulus") (fun _ => rfl) (by decide))
theorem Top.no_tables : NoAttr K 454 "tables" := He.eqO_ok (t.exi 8 (fun K => noB K 454 "tables") (fun _ => rfl) (by decide))
theorem Top.oex : OexC K 184 := by
  have h := t.exi 10 (fun K => oexB K 184) (fun _ => rfl) (by decide)
  have h : oexB K 184 = true := h
  unfold oexB at h
  split at h
  · rename_i c dd cd sl q
    obtain ⟨h0, h⟩ := He.ba h
    obtain ⟨a1, a2⟩ := He.ba h0
    obtain ⟨a2, a3⟩ := He.ba a2
    obtain ⟨h1, h⟩ := He.ba h
    obtain ⟨h2, h⟩ := He.ba h
    obtain ⟨h3, h⟩ := He.ba h
    obtain ⟨h4, h⟩ := He.ba h
    obtain ⟨h5, h⟩ := He.ba h
    obtain ⟨h6, h⟩ := He.ba h
    obtain ⟨h7, h8⟩ := He.ba h
    have a1 := of_decide_eq_true a1
    have a2 := of_decide_eq_true a2
    have a3 := of_decide_eq_true a3
    have h2 := of_decide_eq_true h2
    refine ⟨?_, He.eqO_ok h5, of_decide_eq_true h6, of_decide_eq_true h7, h8⟩
    obtain ⟨nm, bs, mro, ns, qn, hd, sn, sub, ab, col, del⟩ := cd
    obtain ⟨sl⟩ := sl
    match sl, a2 with
    | [k0, k1, k2, k3, k4, k5], _ =>
      have a3 : k4 = some (.builtin "ValueError.__new__") := by simpa using a3
      match mro, h2 with
      | m0 :: bm, h2 =>
        have e2 : m0 = .ref 184 := by simpa using h2
        have e3 : hd = true := h3
        have e4 : del = false := by simpa using h4
        subst e4
        subst e3
        subst e2
        subst a3
        subst a1
        exact ⟨nm, qn, ns, bs, bm, sn, sub, ab, col, dd, k0, k1, k2, k3, k5, q, h1⟩
  · cases h
theorem Top.no_program : NoAttr K 184 "program" := He.eqO_ok (t.exi 11 (fun K => noB K 184 "program") (fun _ => rfl) (by decide))
theorem Top.no_store : NoAttr K 184 "store" := He.eqO_ok (t.exi 12 (fun K => noB K 184 "store") (fun _ => rfl) (by decide))
theorem Top.mt_init : Meth K 184 "__init__" 181 := methB_ok t (t.exi 13 (fun K => methB K 184 "__init__" 181) (fun _ => rfl) (by decide))
theorem Top.exm : PySem.W.exmOne K (.ref 184) (.ref 184) = some true := of_decide_eq_true (t.exi 14 (fun K => decide (PySem.W.exmOne K (.ref 184) (.ref 184) = some true)) (fun _ => rfl) (by decide))
theorem Top.xf : XfC K 184 := xfB_ok (t.exi 17 (fun K => xfB K 184) (fun _ => rfl) (by decide))
theorem Top.rd : PySem.W.readsIn K 31 (.type "type") = true := t.exi 18 (fun K => PySem.W.readsIn K 31 (.type "type")) (fun _ => rfl) (by decide)
theorem Top.ga : PySem.W.specialIn K (.ref 31) "__getattribute__" = some (some (.builtin "type.__getattribute__")) := He.eqO_ok (t.exi 19 (fun K => He.eqO (PySem.W.specialIn K (.ref 31) "__getattribute__") (some (some (.builtin "type.__getattribute__")))) (fun _ => rfl) (by decide))
theorem Top.gi : PySem.W.findCls K (.ref 31) (.type "type") "__init__" = some (.val (.builtin "ValueError.__init__")) := by
  have h := t.exi 20 (fun K => cvalB K 31 (.type "type") "__init__" (.builtin "ValueError.__init__")) (fun _ => rfl) (by decide)
  have h : cvalB K 31 (.type "type") "__init__" (.builtin "ValueError.__init__") = true := h
  unfold cvalB at h
  split at h
  · rename_i v q
    rw [q, of_decide_eq_true h]
  · cases h
theorem codB_ok {f c : Addr} (h : codB K f c = true) {oc : Value} {od : Option Addr} {fd : FuncData} {osl : Array (Option Value)} (lk : K.lookup f = some ⟨oc, od, .func fd, osl⟩) : fd.code = .ref c := by
  unfold codB at h
  rw [lk] at h
  exact of_decide_eq_true h
theorem Top.cod1 : codB K 517 516 = true := t.exi 21 (fun K => codB K 517 516) (fun _ => rfl) (by decide)
theorem Top.cod2 : codB K 661 660 = true := t.exi 22 (fun K => codB K 661 660) (fun _ => rfl) (by decide)
theorem Top.kinds : KindsAt K := fun H => by
  have h := t.exi 9 (fun K => tupB K 209 [.str "any", .str "kept", .str "adds"]) (fun _ => rfl) (by decide)
  have h : tupB K 209 [.str "any", .str "kept", .str "adds"] = true := h
  unfold tupB at h
  split at h
  · rename_i c dd its n sl q
    obtain ⟨h1, h2⟩ := He.ba h
    obtain ⟨h2, h3⟩ := He.ba h2
    have h1 := of_decide_eq_true h1
    subst h1
    exact .inr ⟨_, its, n, q, rfl, rfl, of_decide_eq_true h2, He.relAll_ok h3⟩
  · cases h
end
/-- a def's promise under its name -/
theorem mkFn {P : Program} {w : World} {K : PySem.W.Frag} {mg : Str → Option Value} {base : Heap} (t : Top K mg) (i : Nat) (d : He5.DefA) (h : fn[i]? = some d) (a : Addr) (hg : glFind d.name = some (some a)) (ha : d.at_ K = a) (hq : d.qual = d.name) (hd : d.dvs K = []) {N ps : List Str} {k : Nat} {F : FD} {m : MS}
    (S : C8.scC N ps d.scope = true) (hb : ∀ (kV doc pm : Value) (an : Option Addr) (cdv ct : Value) (us : List Value), us.length = ps.length → bindArgs (PySem.W.fnOf d.name d.name d.params d.body d.scope .none kV doc pm an cdv ct) ⟨us, []⟩ = pure (ps.zip us))
    (len : ∀ ds Ω P, F ds Ω P → ds.length = ps.length)
    (hm : ∀ (cdv : Value) (A : Around) (outer : List Env) (s : Shared) (H B : Hp) (E : XK), Room k (A.deeper (envOfC d.name d.scope s.heap.objs.size a cdv)) → RSs (CD P w K mg base N d.name d.scope a cdv A outer s H E) T0 B d.body m)
    (goal : ∀ ds Ω P, F ds Ω P → m Ω (startD N.length ds) (endK P)) : Fn P w K mg base T0 (k + 1) d.name F := by
  obtain ⟨fd, F1, hmg⟩ := t.fd i d h d.name a hg ha
  rw [hd, hq] at F1
  exact ⟨a, fd, ps, fnOk F1 (C8.fnScope_by S) len hm goal, hmg, F1.kp, F1.bindsN hb⟩
end KG
/-! DJ: loops and comprehensions, the forms one uses at the level of data. -/
namespace KG
open L2 PySem PyProof.Rows PySem.Spec
section
variable {ma : ME} {mr : MA} {g : MG} {tb : MS} {Ω Ω1 : Om} {Δ : Dl} {k : Ke}
theorem forR1 (hi : Int) (hm : ∀ P : List D → Om → Prop, P [.int hi] Ω1 → mr Ω Δ P) (h1 : -1000000 ≤ hi) (h2 : hi ≤ 1000000) (W : Nat → Om → Dl → Prop) (w0 : W 0 Ω1 Δ)
    (ws : ∀ (i : Nat) Ω' Δ', (i : Int) < hi → W i Ω' Δ' → g (.int i) Ω' Δ' fun Ω2 Δ2 => tb Ω2 Δ2 { k with nx := W (i + 1), ct := W (i + 1), bk := k.nx }) (wf : ∀ Ω' Δ', W hi.toNat Ω' Δ' → k.nx Ω' Δ') : mForI (iRg1 mr) g tb Ω Δ k :=
  hm _ ⟨hi, rfl, ⟨h1, h2⟩, W, w0, fun _ _ _ _ _ => trivial, fun i Ω' Δ' hi' w => ws i Ω' Δ' (by omega) w, wf⟩
theorem forR2 (lo hi : Int) (hm : ∀ P : List D → Om → Prop, P [.int lo, .int hi] Ω1 → mr Ω Δ P) (h1 : -1000000 ≤ lo ∧ lo ≤ 1000000) (h2 : -1000000 ≤ hi ∧ hi ≤ 1000000) (W : Nat → Om → Dl → Prop) (w0 : W 0 Ω1 Δ)
    (ws : ∀ (i : Nat) Ω' Δ', lo + (i : Int) < hi → W i Ω' Δ' → g (.int (lo + i)) Ω' Δ' fun Ω2 Δ2 => tb Ω2 Δ2 { k with nx := W (i + 1), ct := W (i + 1), bk := k.nx }) (wf : ∀ Ω' Δ', W (hi - lo).toNat Ω' Δ' → k.nx Ω' Δ') : mForI (iRg2 mr) g tb Ω Δ k :=
  hm _ ⟨lo, hi, rfl, ⟨h1.1, h1.2, h2.1, h2.2⟩, W, w0, fun _ _ _ _ _ => trivial, fun i Ω' Δ' hi' w => ws i Ω' Δ' (by omega) w, wf⟩
theorem getD_of {xs : List D} {i : Nat} {x : D} (h : xs[i]? = some x) : xs.getD i .non = x := by rw [List.getD_eq_getElem?_getD, h]; rfl
/-- over what stands: no owned list -/
theorem forS {d : D} {xs : List D} (hm : ∀ P : D → Om → Prop, P d Ω1 → ma Ω Δ P) (hs : seqD d Ω1 xs) (W : Nat → Om → Dl → Prop) (w0 : W 0 Ω1 Δ) (wk : ∀ i Ω' Δ', i ≤ xs.length → W i Ω' Δ' → keepD d xs Ω')
    (ws : ∀ i x Ω' Δ', xs[i]? = some x → W i Ω' Δ' → g x Ω' Δ' fun Ω2 Δ2 => tb Ω2 Δ2 { k with nx := W (i + 1), ct := W (i + 1), bk := k.nx }) (wf : ∀ Ω' Δ', W xs.length Ω' Δ' → k.nx Ω' Δ') : mForI (iSq ma) g tb Ω Δ k :=
  hm _ ⟨xs, hs, W, w0, wk, fun i Ω' Δ' hi w => by
    have e := List.getElem?_eq_getElem hi
    have e2 : xs.getD i .non = xs[i] := getD_of e
    show g (xs.getD i .non) Ω' Δ' _
    rw [e2]
    exact ws i _ Ω' Δ' e w, wf⟩
theorem keep_tup {xs ys : List D} {Ω' : Om} : keepD (.tup xs) ys Ω' := fun l h => by cases h
theorem keep_tuf {xs ys : List D} {Ω' : Om} : keepD (.tuf xs) ys Ω' := fun l h => by cases h
theorem keep_lst {xs ys : List D} {Ω' : Om} : keepD (.lst xs) ys Ω' := fun l h => by cases h
theorem keep_lsq {xs ys : List D} {Ω' : Om} : keepD (.lsq xs) ys Ω' := fun l h => by cases h
theorem keep_ptr {l : Addr} {ys : List D} {Ω' : Om} (h : Ω' l = some (.lst ys)) : keepD (.ptr l) ys Ω' := fun l' e => by cases e; exact h
theorem forT {xs : List D} (hm : ∀ P : D → Om → Prop, P (.tup xs) Ω1 → ma Ω Δ P) (W : Nat → Om → Dl → Prop) (w0 : W 0 Ω1 Δ)
    (ws : ∀ i x Ω' Δ', xs[i]? = some x → W i Ω' Δ' → g x Ω' Δ' fun Ω2 Δ2 => tb Ω2 Δ2 { k with nx := W (i + 1), ct := W (i + 1), bk := k.nx }) (wf : ∀ Ω' Δ', W xs.length Ω' Δ' → k.nx Ω' Δ') : mForI (iSq ma) g tb Ω Δ k :=
  forS hm (.inl rfl) W w0 (fun _ _ _ _ _ => keep_tup) ws wf
theorem forL {xs : List D} (hm : ∀ P : D → Om → Prop, P (.lst xs) Ω1 → ma Ω Δ P) (W : Nat → Om → Dl → Prop) (w0 : W 0 Ω1 Δ)
    (ws : ∀ i x Ω' Δ', xs[i]? = some x → W i Ω' Δ' → g x Ω' Δ' fun Ω2 Δ2 => tb Ω2 Δ2 { k with nx := W (i + 1), ct := W (i + 1), bk := k.nx }) (wf : ∀ Ω' Δ', W xs.length Ω' Δ' → k.nx Ω' Δ') : mForI (iSq ma) g tb Ω Δ k :=
  forS hm (.inr (.inr (.inl rfl))) W w0 (fun _ _ _ _ _ => keep_lst) ws wf
/-- a sequence of any of the three standing kinds -/
def std (d : D) (xs : List D) : Prop := d = .tup xs ∨ d = .tuf xs ∨ d = .lst xs
theorem std.seq {d : D} {xs : List D} {Ω : Om} (h : std d xs) : seqD d Ω xs := by
  rcases h with h | h | h
  · exact .inl h
  · exact .inr (.inl h)
  · exact .inr (.inr (.inl h))
theorem std.keep {d : D} {xs ys : List D} {Ω : Om} (h : std d xs) : keepD d ys Ω := by
  rcases h with rfl | rfl | rfl
  · exact keep_tup
  · exact keep_tuf
  · exact keep_lst
theorem forD {d : D} {xs : List D} (hd : std d xs) (hm : ∀ P : D → Om → Prop, P d Ω1 → ma Ω Δ P) (W : Nat → Om → Dl → Prop) (w0 : W 0 Ω1 Δ)
    (ws : ∀ i x Ω' Δ', xs[i]? = some x → W i Ω' Δ' → g x Ω' Δ' fun Ω2 Δ2 => tb Ω2 Δ2 { k with nx := W (i + 1), ct := W (i + 1), bk := k.nx }) (wf : ∀ Ω' Δ', W xs.length Ω' Δ' → k.nx Ω' Δ') : mForI (iSq ma) g tb Ω Δ k :=
  forS hm hd.seq W w0 (fun _ _ _ _ _ => hd.keep) ws wf
end
/-! ### comprehensions -/
section
variable {mi : MI} {ma : ME} {mr : MA} {j : Nat} {mt : MT} {me : ME} {Ω Ω1 : Om} {Δ : Dl} {P : DK}
/-- one turn of a comprehension -/
def lcT (mt : MT) (me : ME) (Ω : Om) (Δ : Dl) (R : Option D → Om → Prop) : Prop := mt Ω Δ fun b Ω3 => (b = true → me Ω3 Δ fun y Ω4 => R (some y) Ω4) ∧ (b = false → R none Ω3)
theorem lcT_mono_true {R R' : Option D → Om → Prop} (h : me Ω Δ fun y Ω4 => R (some y) Ω4) : lcT mYes me Ω Δ R := ⟨fun _ => h, fun z => by cases z⟩
def src (mi : MI) (Ω Ω1 : Om) (Δ : Dl) (n : Nat) (item : Nat → D) (keep : Om → Prop) : Prop := ∀ P : Nat → (Nat → D) → (Om → Prop) → Om → Prop, P n item keep Ω1 → mi Ω Δ P
theorem src_r1 (hi : Int) (hm : ∀ P : List D → Om → Prop, P [.int hi] Ω1 → mr Ω Δ P) (h1 : -1000000 ≤ hi) (h2 : hi ≤ 1000000) : src (iRg1 mr) Ω Ω1 Δ hi.toNat (fun i => .int i) (fun _ => True) := fun P p => hm _ ⟨hi, rfl, ⟨h1, h2⟩, p⟩
theorem src_r2 (lo hi : Int) (hm : ∀ P : List D → Om → Prop, P [.int lo, .int hi] Ω1 → mr Ω Δ P) (h1 : -1000000 ≤ lo ∧ lo ≤ 1000000) (h2 : -1000000 ≤ hi ∧ hi ≤ 1000000) : src (iRg2 mr) Ω Ω1 Δ (hi - lo).toNat (fun i => .int (lo + i)) (fun _ => True) := fun P p => hm _ ⟨lo, hi, rfl, ⟨h1.1, h1.2, h2.1, h2.2⟩, p⟩
theorem src_s {d : D} {xs : List D} (hm : ∀ P : D → Om → Prop, P d Ω1 → ma Ω Δ P) (hs : seqD d Ω1 xs) : src (iSq ma) Ω Ω1 Δ xs.length (fun i => xs.getD i .non) (keepD d xs) := fun P p => hm _ ⟨xs, hs, p⟩
/-- owned, what happens to the rest told by W (turn, what is kept so far, the rest) -/
def InvW (W : Nat → List D → Om → Prop) (l : Addr) (i : Nat) (Ω' : Om) : Prop := ∃ acc Ω3, Ω3 l = none ∧ Ω' = put Ω3 l (.lst acc) ∧ acc.length ≤ i ∧ W i acc Ω3
def nextW (W : Nat → List D → Om → Prop) (l : Addr) (i : Nat) : Option D → Om → Prop
  | some y, Ω2 => ∃ acc, Ω2 l = some (.lst acc) ∧ acc.length < 100000 ∧ InvW W l (i + 1) (put Ω2 l (.lst (acc ++ [y])))
  | none, Ω2 => InvW W l (i + 1) Ω2
theorem nextW_some {W : Nat → List D → Om → Prop} {l : Addr} {i : Nat} {y : D} {acc : List D} {Ω3 : Om} (h3 : Ω3 l = none) (ha : acc.length ≤ i) (hi : i < 99999) (w : W (i + 1) (acc ++ [y]) Ω3) : nextW W l i (some y) (put Ω3 l (.lst acc)) :=
  ⟨acc, put_same, by omega, acc ++ [y], Ω3, h3, put_put, by rw [List.length_append, List.length_singleton]; omega, w⟩
theorem nextW_none {W : Nat → List D → Om → Prop} {l : Addr} {i : Nat} {acc : List D} {Ω3 : Om} (h3 : Ω3 l = none) (ha : acc.length ≤ i) (w : W (i + 1) acc Ω3) : nextW W l i none (put Ω3 l (.lst acc)) := ⟨acc, Ω3, h3, rfl, by omega, w⟩
theorem lcW {n : Nat} {item : Nat → D} {keep : Om → Prop} (hi : src mi Ω Ω1 Δ n item keep) (hn : n ≤ 99999) (W : Nat → List D → Om → Prop) (w0 : W 0 [] Ω1) (wk : ∀ l i acc Ω', Ω1 l = none → i ≤ n → W i acc Ω' → keep (put Ω' l (.lst acc)))
    (ws : ∀ l i acc Ω', Ω1 l = none → Ω' l = none → i < n → acc.length ≤ i → W i acc Ω' → lcT mt me (put Ω' l (.lst acc)) (Δ.set j (some (item i))) (nextW W l i))
    (wf : ∀ l acc Ω', Ω1 l = none → Ω' l = none → acc.length ≤ n → W n acc Ω' → P (.ptr l) (put Ω' l (.lst acc))) : mLc mi j mt me Ω Δ P := by
  refine hi _ fun l hl => ⟨InvW W l, ⟨[], Ω1, hl, rfl, Nat.le_refl _, w0⟩, ?_, ?_, ?_⟩
  · rintro i Ω' hi' ⟨acc, Ω3, h3, rfl, ha, w⟩
    exact wk l i acc Ω3 hl hi' w
  · rintro i Ω' hi' ⟨acc, Ω3, h3, rfl, ha, w⟩
    exact ws l i acc Ω3 hl h3 hi' ha w
  · rintro Ω' ⟨acc, Ω3, h3, rfl, ha, w⟩
    exact wf l acc Ω3 hl h3 ha w
theorem lcWF {n : Nat} {item : Nat → D} {keep : Om → Prop} (hi : src mi Ω Ω1 Δ n item keep) (hn : n ≤ 99999) (W : Nat → List D → Om → Prop) (w0 : W 0 [] Ω1) (wk : ∀ l i acc Ω', Ω1 l = none → i ≤ n → W i acc Ω' → keep (put Ω' l (.lst acc)))
    (ws : ∀ l i acc Ω', Ω1 l = none → Ω' l = none → i < n → acc.length ≤ i → W i acc Ω' → lcT mt me (put Ω' l (.lst acc)) (Δ.set j (some (item i))) (nextW W l i))
    (wf : ∀ acc Ω', acc.length ≤ n → W n acc Ω' → P (.lst acc) Ω') : mFrz (mLc mi j mt me) Ω Δ P :=
  lcW hi hn W w0 wk ws fun l acc Ω' _ h3 ha w => ⟨l, _, rfl, put_same, by rw [del_put h3]; exact wf acc Ω' ha w⟩
/-- nothing else happens: each turn gives f i -/
theorem lcP {n : Nat} {item : Nat → D} {keep : Om → Prop} (f : Nat → Option D) (hi : src mi Ω Ω1 Δ n item keep) (hn : n ≤ 99999) (wk : ∀ l acc, Ω1 l = none → keep (put Ω1 l (.lst acc)))
    (ws : ∀ l i acc, Ω1 l = none → i < n → ∀ R : Option D → Om → Prop, R (f i) (put Ω1 l (.lst acc)) → lcT mt me (put Ω1 l (.lst acc)) (Δ.set j (some (item i))) R)
    (wf : ∀ l, Ω1 l = none → P (.ptr l) (put Ω1 l (.lst ((List.range n).filterMap f)))) : mLc mi j mt me Ω Δ P := by
  refine hi _ fun l hl => ⟨fun i Ω' => Ω' = put Ω1 l (.lst ((List.range i).filterMap f)), rfl, ?_, ?_, ?_⟩
  · rintro i Ω' hi' rfl
    exact wk l _ hl
  · rintro i Ω' hi' rfl
    refine ws l i _ hl hi' (fun o Ω2 => match o with | some y => ∃ acc, Ω2 l = some (.lst acc) ∧ acc.length < 100000 ∧ put Ω2 l (.lst (acc ++ [y])) = put Ω1 l (.lst ((List.range (i + 1)).filterMap f)) | none => Ω2 = put Ω1 l (.lst ((List.range (i + 1)).filterMap f))) ?_
    have e : (List.range (i + 1)).filterMap f = (List.range i).filterMap f ++ (match f i with | some y => [y] | none => []) := by
      rw [List.range_succ, List.filterMap_append]
      cases q : f i with
      | none => simp [q]
      | some y => simp [q]
    cases q : f i with
    | none =>
      rw [q] at e
      show put Ω1 l _ = put Ω1 l _
      rw [e, List.append_nil]
    | some y =>
      rw [q] at e
      refine ⟨_, put_same, ?_, ?_⟩
      · have h1 := List.length_filterMap_le f (List.range i)
        rw [List.length_range] at h1
        omega
      · rw [e, put_put]
  · rintro Ω' rfl
    exact wf l hl
theorem lcPF {n : Nat} {item : Nat → D} {keep : Om → Prop} (f : Nat → Option D) (hi : src mi Ω Ω1 Δ n item keep) (hn : n ≤ 99999) (wk : ∀ l acc, Ω1 l = none → keep (put Ω1 l (.lst acc)))
    (ws : ∀ l i acc, Ω1 l = none → i < n → ∀ R : Option D → Om → Prop, R (f i) (put Ω1 l (.lst acc)) → lcT mt me (put Ω1 l (.lst acc)) (Δ.set j (some (item i))) R)
    (wf : P (.lst ((List.range n).filterMap f)) Ω1) : mFrz (mLc mi j mt me) Ω Δ P :=
  lcP f hi hn wk ws fun l hl => ⟨l, _, rfl, put_same, by rw [del_put hl]; exact wf⟩
end
/-- the list that is read off by turns -/
theorem range_getD {α : Type} (d : α) : ∀ xs : List α, (List.range xs.length).map (fun i => xs.getD i d) = xs := by
  intro xs
  apply List.ext_getElem?
  intro i
  rw [List.getElem?_map]
  by_cases h : i < xs.length
  · rw [List.getElem?_range h, List.getElem?_eq_getElem h]
    simp [List.getD_eq_getElem?_getD, List.getElem?_eq_getElem h]
  · rw [List.getElem?_eq_none (by simpa using h), List.getElem?_eq_none (by omega)]
    rfl
theorem range_filterMap {α β : Type} (d : α) (f : α → Option β) (xs : List α) : (List.range xs.length).filterMap (fun i => f (xs.getD i d)) = xs.filterMap f := by
  conv => rhs; rw [← range_getD d xs]
  rw [List.filterMap_map]
  rfl
/-! ### Om -/
theorem put_none {Ω : Om} {l b : Addr} {o : Ob} : put Ω l o b = none ↔ b ≠ l ∧ Ω b = none := by
  by_cases h : b = l
  · subst h; simp [put_same]
  · simp [put_ne h, h]
theorem put_comm {Ω : Om} {l b : Addr} {o u : Ob} (h : l ≠ b) : put (put Ω l o) b u = put (put Ω b u) l o := by
  funext a; unfold put; split
  · rename_i e
    subst e
    rw [if_neg (Ne.symm h)]
  · rfl
end KG
namespace KG
open L2 PySem PyProof.Rows PySem.Spec
section
variable {Ω : Om} {P : DK} {i : Int} {z : Str} {xs : List D} {b : Bool}
theorem isi_ii : wIsi [.int i, .ty "int"] Ω P = P (.bl true) Ω := by
  refine propext ⟨fun ⟨d, t, c, b, h, ht, hk, p⟩ => ?_, fun p => ⟨_, "int", _, true, rfl, .inr (.inr (.inl ⟨i, rfl, rfl⟩)), by decide +kernel, p⟩⟩
  cases h
  have e : t = "int" := by simpa [tyN] using ht
  subst e
  have : kitB "int" "int" = some true := by decide +kernel
  rw [this] at hk
  cases hk
  exact p
theorem isi_ib : wIsi [.int i, .ty "bool"] Ω P = P (.bl false) Ω := by
  refine propext ⟨fun ⟨d, t, c, b, h, ht, hk, p⟩ => ?_, fun p => ⟨_, "int", _, false, rfl, .inr (.inr (.inl ⟨i, rfl, rfl⟩)), by decide +kernel, p⟩⟩
  cases h
  have e : t = "int" := by simpa [tyN] using ht
  subst e
  have : kitB "int" "bool" = some false := by decide +kernel
  rw [this] at hk
  cases hk
  exact p
theorem isi_ss : wIsi [.str z, .ty "str"] Ω P = P (.bl true) Ω := by
  refine propext ⟨fun ⟨d, t, c, b, h, ht, hk, p⟩ => ?_, fun p => ⟨_, "str", _, true, rfl, .inr (.inr (.inr (.inl ⟨z, rfl, rfl⟩))), by decide +kernel, p⟩⟩
  cases h
  have e : t = "str" := by simpa [tyN] using ht
  subst e
  have : kitB "str" "str" = some true := by decide +kernel
  rw [this] at hk
  cases hk
  exact p
theorem isiS_t : wIsiS [.tup xs, .tup [.ty "list", .ty "tuple"]] Ω P = P (.bl true) Ω :=
  propext ⟨fun ⟨d, t, h, ht, hk, p⟩ => by cases h; exact p, fun p => ⟨_, "tuple", rfl, .inr (.inr (.inr (.inr (.inl ⟨xs, .inl rfl, rfl⟩)))), .inr rfl, p⟩⟩
theorem isiS_f : wIsiS [.tuf xs, .tup [.ty "list", .ty "tuple"]] Ω P = P (.bl true) Ω :=
  propext ⟨fun ⟨d, t, h, ht, hk, p⟩ => by cases h; exact p, fun p => ⟨_, "tuple", rfl, .inr (.inr (.inr (.inr (.inl ⟨xs, .inr rfl, rfl⟩)))), .inr rfl, p⟩⟩
theorem isiS_l : wIsiS [.lst xs, .tup [.ty "list", .ty "tuple"]] Ω P = P (.bl true) Ω :=
  propext ⟨fun ⟨d, t, h, ht, hk, p⟩ => by cases h; exact p, fun p => ⟨_, "list", rfl, .inr (.inr (.inr (.inr (.inr (.inl ⟨xs, rfl, rfl⟩))))), .inl rfl, p⟩⟩
theorem isiS_d {d : D} (h : std d xs) : wIsiS [d, .tup [.ty "list", .ty "tuple"]] Ω P = P (.bl true) Ω := by
  rcases h with rfl | rfl | rfl
  · exact isiS_t
  · exact isiS_f
  · exact isiS_l
theorem len_t : wLen [.tup xs] Ω P = P (.int xs.length) Ω := propext ⟨fun ⟨d, n, h, hl, p⟩ => by
  cases h
  rcases hl with ⟨ys, h | h | h | h, rfl⟩ | ⟨l, ys, h, _⟩ <;> cases h
  exact p, fun p => ⟨_, _, rfl, .inl ⟨xs, .inl rfl, rfl⟩, p⟩⟩
theorem len_f : wLen [.tuf xs] Ω P = P (.int xs.length) Ω := propext ⟨fun ⟨d, n, h, hl, p⟩ => by
  cases h
  rcases hl with ⟨ys, h | h | h | h, rfl⟩ | ⟨l, ys, h, _⟩ <;> cases h
  exact p, fun p => ⟨_, _, rfl, .inl ⟨xs, .inr (.inl rfl), rfl⟩, p⟩⟩
theorem len_l : wLen [.lst xs] Ω P = P (.int xs.length) Ω := propext ⟨fun ⟨d, n, h, hl, p⟩ => by
  cases h
  rcases hl with ⟨ys, h | h | h | h, rfl⟩ | ⟨l, ys, h, _⟩ <;> cases h
  exact p, fun p => ⟨_, _, rfl, .inl ⟨xs, .inr (.inr (.inl rfl)), rfl⟩, p⟩⟩
theorem len_q : wLen [.lsq xs] Ω P = P (.int xs.length) Ω := propext ⟨fun ⟨d, n, h, hl, p⟩ => by
  cases h
  rcases hl with ⟨ys, h | h | h | h, rfl⟩ | ⟨l, ys, h, _⟩ <;> cases h
  exact p, fun p => ⟨_, _, rfl, .inl ⟨xs, .inr (.inr (.inr rfl)), rfl⟩, p⟩⟩
theorem len_p {l : Addr} (ho : Ω l = some (.lst xs)) : wLen [.ptr l] Ω P = P (.int xs.length) Ω := propext ⟨fun ⟨d, n, h, hl, p⟩ => by
  cases h
  rcases hl with ⟨ys, h | h | h | h, rfl⟩ | ⟨l', ys, h, h2, rfl⟩ <;> cases h
  rw [ho] at h2
  cases h2
  exact p, fun p => ⟨_, _, rfl, .inr ⟨l, xs, rfl, ho, rfl⟩, p⟩⟩
theorem tuple_t : wTuple [.tup xs] Ω P = P (.tup xs) Ω := propext ⟨fun ⟨d, ys, h, hl⟩ => by
  cases h
  rcases hl with ⟨h, p⟩ | ⟨h, p⟩ | ⟨h | h | ⟨_, h, _⟩, p⟩ <;> cases h
  exact p, fun p => ⟨_, xs, rfl, .inl ⟨rfl, p⟩⟩⟩
theorem tuple_f : wTuple [.tuf xs] Ω P = P (.tuf xs) Ω := propext ⟨fun ⟨d, ys, h, hl⟩ => by
  cases h
  rcases hl with ⟨h, p⟩ | ⟨h, p⟩ | ⟨h | h | ⟨_, h, _⟩, p⟩ <;> cases h
  exact p, fun p => ⟨_, xs, rfl, .inr (.inl ⟨rfl, p⟩)⟩⟩
theorem tuple_l : wTuple [.lst xs] Ω P = P (.tup xs) Ω := propext ⟨fun ⟨d, ys, h, hl⟩ => by
  cases h
  rcases hl with ⟨h, p⟩ | ⟨h, p⟩ | ⟨h | h | ⟨_, h, _⟩, p⟩ <;> cases h
  exact p, fun p => ⟨_, xs, rfl, .inr (.inr ⟨.inl rfl, p⟩)⟩⟩
theorem tuple_p {l : Addr} (ho : Ω l = some (.lst xs)) : wTuple [.ptr l] Ω P = P (.tup xs) Ω := propext ⟨fun ⟨d, ys, h, hl⟩ => by
  cases h
  rcases hl with ⟨h, p⟩ | ⟨h, p⟩ | ⟨h | h | ⟨_, h, h2⟩, p⟩ <;> cases h
  rw [ho] at h2
  cases h2
  exact p, fun p => ⟨_, xs, rfl, .inr (.inr ⟨.inr (.inr ⟨l, rfl, ho⟩), p⟩)⟩⟩
/-! ### subscripts, == -/
theorem ix_t {i : Int} {d : D} (h : atI xs i = some d) : wIx (.tup xs) (.int i) Ω P = P d Ω := propext ⟨fun ⟨y, hy, p⟩ => by
  rcases hy with (⟨ys, j, h1, h2, h3⟩ | ⟨_, _, h1, _⟩ | ⟨_, _, _, h1, _⟩) | ⟨_, _, h1, _⟩
  · rcases h1 with h1 | h1 <;> cases h1
    cases h2
    rw [h] at h3
    cases h3
    exact p
  all_goals (cases h1), fun p => ⟨d, .inl (.inl ⟨xs, i, .inl rfl, rfl, h⟩), p⟩⟩
theorem ix_l {i : Int} {d : D} (h : atI xs i = some d) : wIx (.lst xs) (.int i) Ω P = P d Ω := propext ⟨fun ⟨y, hy, p⟩ => by
  rcases hy with (⟨ys, j, h1, h2, h3⟩ | ⟨_, _, h1, _⟩ | ⟨_, _, _, h1, _⟩) | ⟨_, _, h1, _⟩
  · rcases h1 with h1 | h1 <;> cases h1
    cases h2
    rw [h] at h3
    cases h3
    exact p
  all_goals (cases h1), fun p => ⟨d, .inl (.inl ⟨xs, i, .inr rfl, rfl, h⟩), p⟩⟩
theorem ix_p {l : Addr} {i : Int} {d : D} (ho : Ω l = some (.lst xs)) (h : atI xs i = some d) : wIx (.ptr l) (.int i) Ω P = P d Ω := propext ⟨fun ⟨y, hy, p⟩ => by
  rcases hy with (⟨ys, j, h1, _⟩ | ⟨_, _, h1, _⟩ | ⟨_, _, _, h1, _⟩) | ⟨l', ob, h1, h2, hy⟩
  · rcases h1 with h1 | h1 <;> cases h1
  · cases h1
  · cases h1
  · cases h1
    rw [ho] at h2
    cases h2
    rcases hy with ⟨ys, j, h1, h2, h3⟩ | ⟨_, _, h1, _⟩ | ⟨_, _, _, h1, _⟩
    · rcases h1 with h1 | h1 <;> cases h1
      cases h2
      rw [h] at h3
      cases h3
      exact p
    all_goals (cases h1), fun p => ⟨d, .inr ⟨l, _, rfl, ho, .inl ⟨xs, i, .inr rfl, rfl, h⟩⟩, p⟩⟩
theorem ix_dk {kvs : List (Key × D)} {i : Int} {d : D} (h : dget kvs (.inl i) = some d) : wIx (.dk kvs) (.int i) Ω P = P d Ω := propext ⟨fun ⟨y, hy, p⟩ => by
  rcases hy with (⟨ys, j, h1, h2, h3⟩ | ⟨_, k, h1, h2, h3⟩ | ⟨_, _, _, h1, _⟩) | ⟨_, _, h1, _⟩
  · rcases h1 with h1 | h1 <;> cases h1
  · cases h1
    cases h2
    rw [h] at h3
    cases h3
    exact p
  all_goals (cases h1), fun p => ⟨d, .inl (.inr (.inl ⟨kvs, .inl i, rfl, rfl, h⟩)), p⟩⟩
theorem keysD_tI : ∀ ns : List Int, keysD (ns.map .int) = some (ns.map Sum.inl)
  | [] => rfl
  | n :: ns => by
    rw [List.map_cons]
    unfold keysD
    rw [keysD_tI ns]
    rfl
theorem ix_dt {kvs : List (List Key × D)} {ns : List Int} {d : D} (h : dget kvs (ns.map Sum.inl) = some d) : wIx (.dt kvs) (tI ns) Ω P = P d Ω := propext ⟨fun ⟨y, hy, p⟩ => by
  rcases hy with (⟨ys, j, h1, h2, h3⟩ | ⟨_, k, h1, h2, h3⟩ | ⟨_, es, k, h1, h2, h3, h4⟩) | ⟨_, _, h1, _⟩
  · rcases h1 with h1 | h1 <;> cases h1
  · cases h1
  · cases h1
    cases h2
    rw [keysD_tI] at h3
    cases h3
    rw [h] at h4
    cases h4
    exact p
  all_goals (cases h1), fun p => ⟨d, .inl (.inr (.inr ⟨kvs, ns.map .int, _, rfl, rfl, keysD_tI ns, h⟩)), p⟩⟩
theorem not_okInt {x y : D} {r : Bool} (i j : Int) (h : eqB (.int i) (.int j) r) : r = decide (i = j) := by
  rcases h with ⟨a, b, h1, h2, h3⟩ | ⟨a, b, h1, _⟩ | ⟨_, _, h3⟩
  · cases h1; cases h2; exact h3
  · cases h1
  · rw [h3]
    unfold beqD toPy
    show (i == j) = decide (i = j)
    exact Bool.beq_eq_decide_eq i j
theorem eq_ii {i j : Int} : wEq (.int i) (.int j) Ω P = P (.bl (decide (i = j))) Ω := propext ⟨fun ⟨r, h, p⟩ => by rw [not_okInt (x := .non) (y := .non) i j h] at p; exact p, fun p => ⟨_, .inl ⟨i, j, rfl, rfl, rfl⟩, p⟩⟩
theorem ne_ii {i j : Int} : wNe (.int i) (.int j) Ω P = P (.bl (!decide (i = j))) Ω := propext ⟨fun ⟨r, h, p⟩ => by rw [not_okInt (x := .non) (y := .non) i j h] at p; exact p, fun p => ⟨_, .inl ⟨i, j, rfl, rfl, rfl⟩, p⟩⟩
theorem not_okStr {r : Bool} (i j : Str) (h : eqB (.str i) (.str j) r) : r = decide (i = j) := by
  rcases h with ⟨a, b, h1, _⟩ | ⟨a, b, h1, h2, h3⟩ | ⟨_, _, h3⟩
  · cases h1
  · cases h1; cases h2; exact h3
  · rw [h3]
    unfold beqD toPy
    show (i == j) = decide (i = j)
    exact Bool.beq_eq_decide_eq i j
theorem eq_ss {i j : Str} : wEq (.str i) (.str j) Ω P = P (.bl (decide (i = j))) Ω := propext ⟨fun ⟨r, h, p⟩ => by rw [not_okStr i j h] at p; exact p, fun p => ⟨_, .inr (.inl ⟨i, j, rfl, rfl, rfl⟩), p⟩⟩
theorem ne_ss {i j : Str} : wNe (.str i) (.str j) Ω P = P (.bl (!decide (i = j))) Ω := propext ⟨fun ⟨r, h, p⟩ => by rw [not_okStr i j h] at p; exact p, fun p => ⟨_, .inr (.inl ⟨i, j, rfl, rfl, rfl⟩), p⟩⟩
theorem add_ii {i j : Int} : wAdd (.int i) (.int j) Ω P = P (.int (i + j)) Ω := by simp [wAdd]
theorem add_tt {xs ys : List D} : wAdd (.tup xs) (.tup ys) Ω P = (xs.length + ys.length ≤ 100000 ∧ P (.tup (xs ++ ys)) Ω) := by simp [wAdd]
theorem add_ll {xs ys : List D} : wAdd (.lst xs) (.lst ys) Ω P = (xs.length + ys.length ≤ 100000 ∧ P (.lst (xs ++ ys)) Ω) := by simp [wAdd]
theorem mul_ii {i j : Int} : wMul (.int i) (.int j) Ω P = (CMul i j ∧ P (.int (i * j)) Ω) := by simp [wMul]
end
/-- places -/
theorem atI_nat {α : Type} {xs : List α} {i : Nat} {x : α} (h : xs[i]? = some x) : atI xs (i : Int) = some x := by
  have hi : i < xs.length := (List.getElem?_eq_some_iff.mp h).1
  unfold atI ixN
  rw [if_pos (by omega), if_pos (by omega)]
  simpa using h
theorem atI_of {α : Type} {xs : List α} {i : Int} {x : α} (h0 : 0 ≤ i) (h : xs[i.toNat]? = some x) : atI xs i = some x := by
  have := atI_nat h
  rwa [Int.toNat_of_nonneg h0] at this
theorem atI_last {α : Type} {xs : List α} {x : α} : atI (xs ++ [x]) (-1) = some x := by
  unfold atI ixN
  rw [if_neg (by omega), if_pos (by simp; omega)]
  have e : (-1 + ((xs ++ [x]).length : Int)).toNat = xs.length := by simp; omega
  show (xs ++ [x])[(-1 + ((xs ++ [x]).length : Int)).toNat]? = some x
  rw [e]
  simp
end KG
/-! SP: the plain things the defs compute, and their promises. -/
namespace KG
open L2 PySem PyProof.Rows PySem.Spec

/-! ### worlds -/
structure Stp where
  cell : Int
  kind : Str
  by_ : List Int
  name : Int
def Stp.d (s : Stp) : D := .tup [.int s.cell, .str s.kind, tI s.by_, .int s.name]
abbrev progD (p : List Stp) : D := .tup (p.map Stp.d)
abbrev progsD (ps : List (List Stp)) : D := .tup (ps.map progD)
structure Wld where
  c : Int
  m : Int
  ps : List (List Stp)
  tb : List (Int × List Int)
def Wld.here (W : Wld) : D := .tup [.int W.c, progsD W.ps]
def Wld.lot (W : Wld) : D := .ob 331 [("cells", .int W.c), ("programs", progsD W.ps)]
abbrev pairD (p : Int × List Int) : D := .tup [.int p.1, tI p.2]
def tabsD (tb : List (Int × List Int)) : D := .dk (tb.map fun p => (.inl p.1, tI p.2))
def look (tb : List (Int × List Int)) (n : Int) : Option (List Int) := (tb.find? fun p => decide (p.1 = n)).map (·.2)
/-- the meaning: the tables in some order -/
def Wld.mean (W : Wld) (d : D) : Prop := ∃ st : List (Int × List Int), st.Perm W.tb ∧ d = .ob 454 [("modulus", .int W.m), ("tables", .tup (st.map pairD))]
abbrev kAny : Str := "any"
abbrev kKept : Str := "kept"
abbrev kAdds : Str := "adds"
def lastP (k : Str) (pl : Int) : Int := if k = kAny then pl else if k = kAdds then pl - 1 else -1
def TabOk (m : Int) (t : List Int) (k : Nat) : Prop := (t.length : Int) = m ^ k ∧ ∀ e ∈ t, 0 ≤ e ∧ e < m
structure StpOk (W : Wld) (p : List Stp) (i : Nat) (s : Stp) : Prop where
  cell : 0 ≤ s.cell ∧ s.cell < W.c
  kind : s.kind = kAny ∨ s.kind = kKept ∨ s.kind = kAdds
  asc : s.by_.Pairwise (· < ·)
  rng : ∀ b ∈ s.by_, 0 ≤ b ∧ b ≤ lastP s.kind i
  plain : ∀ b ∈ s.by_, ∀ r, p[b.toNat]? = some r → r.kind ≠ kAdds
  kept : s.kind = kKept → s.name = -1
  tab : s.kind ≠ kKept → 0 ≤ s.name ∧ s.name ≤ 99 ∧ ∃ t, look W.tb s.name = some t ∧ TabOk W.m t s.by_.length
def shapeS (s : Stp) : Str × Nat × Int := (s.kind, s.by_.length, if s.kind = kAdds then s.cell else -1)
structure Wd (W : Wld) : Prop where
  c : 1 ≤ W.c ∧ W.c ≤ 3
  m : 2 ≤ W.m ∧ W.m ≤ 3
  small : W.c ≤ 2 ∨ W.m = 2
  many : 1 ≤ W.ps.length ∧ W.ps.length ≤ 3
  len : ∀ p ∈ W.ps, 1 ≤ p.length ∧ p.length ≤ 4
  sum : (W.ps.map List.length).sum ≤ 7
  step : ∀ p ∈ W.ps, ∀ i s, p[i]? = some s → StpOk W p i s
  shape : ∀ p ∈ W.ps, ∀ s ∈ p, ∀ q ∈ W.ps, ∀ r ∈ q, s.kind ≠ kKept → r.kind ≠ kKept → s.name = r.name → shapeS s = shapeS r
  nd : (W.tb.map (·.1)).Nodup
  tabs : ∀ q ∈ W.tb, 0 ≤ q.1 ∧ q.1 ≤ 99 ∧ ∃ k, k < 5 ∧ TabOk W.m q.2 k
  few : W.tb.length ≤ 20
/-! ### stores, moves -/
def allS (m : Int) : Nat → List (List Int)
  | 0 => [[]]
  | c + 1 => (allS m c).flatMap fun r => (rgL m).map fun w => r ++ [w]
def Wld.S (W : Wld) : List (List Int) := allS W.m W.c.toNat
def StoreOk (W : Wld) (s : List Int) : Prop := (s.length : Int) = W.c ∧ ∀ w ∈ s, 0 ≤ w ∧ w < W.m
def entryF (m : Int) (ws : List Int) : Int := ws.foldl (fun a w => a * m + w) 0
def at_ (l : List Int) (i : Int) : Int := l.getD i.toNat 0
/-- a step's new worth: own is the cell's, mine the pocket with it -/
def worth (W : Wld) (s : Stp) (mine : List Int) : Int :=
  let own := mine.getLastD 0
  if s.kind = kKept then own else
  let e := at_ ((look W.tb s.name).getD []) (entryF W.m (s.by_.map (at_ mine)))
  if s.kind = kAny then e else (own + e) % W.m
abbrev RunSt := List Int × List (List Int)
def stepAt (W : Wld) (p : Nat) (k : Nat) : Stp := ((W.ps.getD p []).getD k ⟨0, "", [], 0⟩)
def turnF (W : Wld) (st : RunSt) (p : Int) : RunSt :=
  let mine := st.2.getD p.toNat []
  let s := stepAt W p.toNat mine.length
  let mine' := mine ++ [at_ st.1 s.cell]
  (st.1.set s.cell.toNat (worth W s mine'), st.2.set p.toNat mine')
def Wld.start (W : Wld) (s : List Int) : RunSt := (s, W.ps.map fun _ => [])
def Wld.run (W : Wld) (row : List Int) (s : List Int) : List Int := (row.foldl (turnF W) (W.start s)).1
def Wld.mom (W : Wld) : List Int → RunSt → List (List Int)
  | [], _ => []
  | p :: row, st => (turnF W st p).1 :: Wld.mom W row (turnF W st p)
/-- the row runs no program beyond its end -/
def RowOk (W : Wld) (row : List Int) : Prop := row.length ≤ 7 ∧ ∀ p ∈ row, 0 ≤ p ∧ p < W.ps.length ∧ row.count p ≤ (W.ps.getD p.toNat []).length
/-- a weaving: each program whole -/
def WeavOk (W : Wld) (row : List Int) : Prop := row.length ≤ 7 ∧ (∀ p ∈ row, 0 ≤ p ∧ p < W.ps.length) ∧ ∀ i : Nat, i < W.ps.length → row.count (i : Int) = (W.ps.getD i []).length
abbrev Mv := List Int → List Int
def mvD (S : List (List Int)) (f : Mv) : D := .dt (S.map fun s => (s.map Sum.inl, tI (f s)))
def Wld.own (W : Wld) (p : Nat) : Mv := W.run (List.replicate (W.ps.getD p []).length (p : Int))
def Wld.moves (W : Wld) : List Mv := (List.range W.ps.length).map W.own
abbrev Rule := List (List Int)
abbrev ruleD (R : Rule) : D := .tup (R.map tI)
/-- a rule: a part of the stores, in their order -/
def IsRule (S : List (List Int)) (R : Rule) : Prop := R.Sublist S
def Kept (fs : List Mv) (R : Rule) : Prop := ∀ f ∈ fs, ∀ s ∈ R, f s ∈ R
instance (fs : List Mv) (R : Rule) : Decidable (Kept fs R) := by unfold Kept; infer_instance
/-- the first store that a move takes out -/
def leave1 (f : Mv) (R : Rule) : Option (List Int) := R.find? fun s => decide (f s ∉ R)
def leave (fs : List Mv) (R : Rule) : Option (Nat × List Int) := (List.range fs.length).findSome? fun i => (leave1 (fs.getD i id) R).map fun s => (i, s)
def leaveD : Option (Nat × List Int) → D
  | none => .non
  | some (i, s) => .tup [.int i, tI s]
/-! ### sizes -/
def seqOf (d : D) (xs : List D) : Prop := d = .tup xs ∨ d = .tuf xs ∨ d = .lst xs
end KG
/-! TM: the defs' readings and TERMs. Printed by gen_defs.py. -/
namespace KG
open L2 PySem PyProof.Rows PySem.Spec
section
variable {P : Program} {w : World} {K : PySem.W.Frag} {mg : Str → Option Value} {base : Heap}
abbrev N_is_whole : List Str := ["thing", "low", "high"]
def m_is_whole : MS := (mSeq (mIfS (mOr (mNot (mB (mCB wIsi (mCons (mVar 0) (mCons (mC (.ty "int")) mNil))))) (mB (mCB wIsi (mCons (mVar 0) (mCons (mC (.ty "bool")) mNil))))) (mRet (mC (.bl false))) mNext)
    (mSeq (mIfS (mAnd (mB (mOp wIsN (mVar 1) (mC .non))) (mB (mOp wLt (mVar 0) (mVar 1)))) (mRet (mC (.bl false))) mNext)
    (mRet (mOrV (mOp wIs (mVar 2) (mC .non)) (mOp wLe (mVar 0) (mVar 2))))))
theorem t_is_whole (t : Top K mg) {cdv : Value} {A : Around} {outer : List Env} {s : Shared} {H B : Hp} {E : XK} (hr : Room 0 (A.deeper (envOfC d_is_whole.qual d_is_whole.scope s.heap.objs.size 194 cdv))) :
    RSs (CD P w K mg base N_is_whole d_is_whole.qual d_is_whole.scope 194 cdv A outer s H E) T0 B d_is_whole.body (m_is_whole ) := by
  have hN : N_is_whole.Nodup := by decide
  exact (rss_cons (rs_if (rt_bool (rw_or (rt_not (rt_val (re_isi rfl t.n_isinstance (ra_cons (rv 0) (ra_cons (re_ty rfl t.n_int rfl) ra_nil))))) (rw_or1 (rt_val (re_isi rfl t.n_isinstance (ra_cons (rv 0) (ra_cons (re_ty rfl t.n_bool rfl) ra_nil))))))) (rss_one (rs_ret re_bl)) rss_nil)
    (rss_cons (rs_if (rt_bool (rw_and (cm_isn.rt (rv 1) re_non) (rw_and1 (cm_lt.rt (rv 0) (rv 1))))) (rss_one (rs_ret re_bl)) rss_nil)
    (rss_one (rs_ret (re_or (cm_is.re (rv 2) re_non) (re_one (cm_le.re (rv 0) (rv 2))))))))
abbrev N_is_sequence : List Str := ["thing"]
def m_is_sequence : MS := (mRet (mCB wIsiS (mCons (mVar 0) (mCons (mTup (mCons (mC (.ty "list")) (mCons (mC (.ty "tuple")) mNil))) mNil))))
theorem t_is_sequence (t : Top K mg) {cdv : Value} {A : Around} {outer : List Env} {s : Shared} {H B : Hp} {E : XK} (hr : Room 0 (A.deeper (envOfC d_is_sequence.qual d_is_sequence.scope s.heap.objs.size 201 cdv))) :
    RSs (CD P w K mg base N_is_sequence d_is_sequence.qual d_is_sequence.scope 201 cdv A outer s H E) T0 B d_is_sequence.body (m_is_sequence ) := by
  have hN : N_is_sequence.Nodup := by decide
  exact (rss_one (rs_ret (re_isiS rfl t.n_isinstance (ra_cons (rv 0) (ra_cons (re_tup (ra_cons (re_ty rfl t.n_list rfl) (ra_cons (re_ty rfl t.n_tuple rfl) ra_nil))) ra_nil)))))
abbrev N_is_ascending : List Str := ["thing", "high", "last", "number"]
def m_is_ascending (F_is_sequence F_is_whole : FD) : MS := (mSeq (mIfS (mNot (mB (mCB F_is_sequence (mCons (mVar 0) mNil)))) (mRet (mC (.bl false))) mNext)
    (mSeq (mAsg (mUn wNeg (mC (.int 1))) 2)
    (mSeq (mForI (iSq (mVar 0)) (gN 3) (mSeq (mIfS (mNot (mB (mCB F_is_whole (mCons (mVar 3) (mCons (mOp wAdd (mVar 2) (mC (.int 1))) (mCons (mVar 1) mNil)))))) (mRet (mC (.bl false))) mNext)
    (mAsg (mVar 3) 2)))
    (mRet (mC (.bl true))))))
theorem t_is_ascending (t : Top K mg) {F_is_sequence F_is_whole : FD} (f_is_sequence : Fn P w K mg base T0 1 "is_sequence" F_is_sequence) (f_is_whole : Fn P w K mg base T0 1 "is_whole" F_is_whole) {cdv : Value} {A : Around} {outer : List Env} {s : Shared} {H B : Hp} {E : XK} (hr : Room 1 (A.deeper (envOfC d_is_ascending.qual d_is_ascending.scope s.heap.objs.size 208 cdv))) :
    RSs (CD P w K mg base N_is_ascending d_is_ascending.qual d_is_ascending.scope 208 cdv A outer s H E) T0 B d_is_ascending.body (m_is_ascending F_is_sequence F_is_whole) := by
  have hN : N_is_ascending.Nodup := by decide
  exact (rss_cons (rs_if (rt_not (rt_val (re_def f_is_sequence hr (by decide) rfl (ra_cons (rv 0) ra_nil)))) (rss_one (rs_ret re_bl)) rss_nil)
    (rss_cons (rs_set hN rfl (.inl rfl) (re_neg re_int))
    (rss_cons (rs_forI .never rfl (ri_seq (rv 0)) (rg_n hN rfl (.inl rfl)) (rss_cons (rs_if (rt_not (rt_val (re_def f_is_whole hr (by decide) rfl (ra_cons (rv 3) (ra_cons (re_add (rv 2) re_int) (ra_cons (rv 1) ra_nil)))))) (rss_one (rs_ret re_bl)) rss_nil)
    (rss_one (rs_set hN rfl (.inl rfl) (rv 3)))))
    (rss_one (rs_ret re_bl)))))
abbrev N_check_step : List Str := ["step", "cells", "place", "cell", "kind", "goes_by", "name"]
def m_check_step (F_is_sequence F_is_whole F_last_pocket F_is_ascending : FD) : MS := (mSeq (mIfS (mOr (mNot (mB (mCB F_is_sequence (mCons (mVar 0) mNil)))) (mB (mOp wNe (mCB wLen (mCons (mVar 0) mNil)) (mC (.int 4))))) mNever mNext)
    (mSeq (mAsgG (mVar 0) (gT 4 (gCons' (gN 3) (gCons' (gN 4) (gCons' (gN 5) (gCons' (gN 6) gNil'))))))
    (mSeq (mIfS (mNot (mB (mCB F_is_whole (mCons (mVar 3) (mCons (mC (.int 0)) (mCons (mOp wSub (mVar 1) (mC (.int 1))) mNil)))))) mNever mNext)
    (mSeq (mIfS (mOr (mNot (mB (mCB wIsi (mCons (mVar 4) (mCons (mC (.ty "str")) mNil))))) (mB (mOp wKinds (mVar 4) (mC (.ptr 209))))) mNever mNext)
    (mSeq (mIfS (mNot (mB (mCB F_is_ascending (mCons (mVar 5) (mCons (mCB F_last_pocket (mCons (mVar 4) (mCons (mVar 2) mNil))) mNil))))) mNever mNext)
    (mSeq (mIfS (mAnd (mB (mOp wEq (mVar 4) (mC (.str "kept")))) (mNot (mB (mCB F_is_whole (mCons (mVar 6) (mCons (mUn wNeg (mC (.int 1))) (mCons (mUn wNeg (mC (.int 1))) mNil))))))) mNever mNext)
    (mSeq (mIfS (mAnd (mB (mOp wNe (mVar 4) (mC (.str "kept")))) (mNot (mB (mCB F_is_whole (mCons (mVar 6) (mCons (mC (.int 0)) (mCons (mC (.int 99)) mNil))))))) mNever mNext)
    (mRet (mTup (mCons (mVar 3) (mCons (mVar 4) (mCons (mCB wTuple (mCons (mVar 5) mNil)) (mCons (mVar 6) mNil)))))))))))))
theorem t_check_step (t : Top K mg) {F_is_sequence F_is_whole F_last_pocket F_is_ascending : FD} (f_is_sequence : Fn P w K mg base T0 1 "is_sequence" F_is_sequence) (f_is_whole : Fn P w K mg base T0 1 "is_whole" F_is_whole) (f_last_pocket : Fn P w K mg base T0 1 "last_pocket" F_last_pocket) (f_is_ascending : Fn P w K mg base T0 2 "is_ascending" F_is_ascending) {cdv : Value} {A : Around} {outer : List Env} {s : Shared} {H B : Hp} {E : XK} (hr : Room 2 (A.deeper (envOfC d_check_step.qual d_check_step.scope s.heap.objs.size 216 cdv))) :
    RSs (CD P w K mg base N_check_step d_check_step.qual d_check_step.scope 216 cdv A outer s H E) T0 B d_check_step.body (m_check_step F_is_sequence F_is_whole F_last_pocket F_is_ascending) := by
  have hN : N_check_step.Nodup := by decide
  exact (rss_cons (rs_if (rt_bool (rw_or (rt_not (rt_val (re_def f_is_sequence hr (by decide) rfl (ra_cons (rv 0) ra_nil)))) (rw_or1 ((cm_ne hr).rt (re_len rfl t.n_len (ra_cons (rv 0) ra_nil)) re_int)))) (rss_one rs_never) rss_nil)
    (rss_cons (rs_asg (rv 0) (rg_t rfl (rgs_cons (rg_n hN rfl (.inl rfl)) (rgs_cons (rg_n hN rfl (.inl rfl)) (rgs_cons (rg_n hN rfl (.inl rfl)) (rgs_cons (rg_n hN rfl (.inl rfl)) rgs_nil))))))
    (rss_cons (rs_if (rt_not (rt_val (re_def f_is_whole hr (by decide) rfl (ra_cons (rv 3) (ra_cons re_int (ra_cons (re_sub (rv 1) re_int) ra_nil)))))) (rss_one rs_never) rss_nil)
    (rss_cons (rs_if (rt_bool (rw_or (rt_not (rt_val (re_isi rfl t.n_isinstance (ra_cons (rv 4) (ra_cons (re_ty rfl t.n_str rfl) ra_nil))))) (rw_or1 ((cm_kinds hr t.kinds).rt (rv 4) (re_gl rfl (t.at_ "KINDS" 209 (by decide +kernel))))))) (rss_one rs_never) rss_nil)
    (rss_cons (rs_if (rt_not (rt_val (re_def f_is_ascending hr (by decide) rfl (ra_cons (rv 5) (ra_cons (re_def f_last_pocket hr (by decide) rfl (ra_cons (rv 4) (ra_cons (rv 2) ra_nil))) ra_nil))))) (rss_one rs_never) rss_nil)
    (rss_cons (rs_if (rt_bool (rw_and ((cm_eq hr).rt (rv 4) re_str) (rw_and1 (rt_not (rt_val (re_def f_is_whole hr (by decide) rfl (ra_cons (rv 6) (ra_cons (re_neg re_int) (ra_cons (re_neg re_int) ra_nil))))))))) (rss_one rs_never) rss_nil)
    (rss_cons (rs_if (rt_bool (rw_and ((cm_ne hr).rt (rv 4) re_str) (rw_and1 (rt_not (rt_val (re_def f_is_whole hr (by decide) rfl (ra_cons (rv 6) (ra_cons re_int (ra_cons re_int ra_nil))))))))) (rss_one rs_never) rss_nil)
    (rss_one (rs_ret (re_tup (ra_cons (rv 3) (ra_cons (rv 4) (ra_cons (re_tuple rfl t.n_tuple (ra_cons (rv 5) ra_nil)) (ra_cons (rv 6) ra_nil))))))))))))))
abbrev N_last_pocket : List Str := ["kind", "place"]
def m_last_pocket : MS := (mSeq (mIfS (mB (mOp wEq (mVar 0) (mC (.str "any")))) (mRet (mVar 1)) mNext)
    (mSeq (mIfS (mB (mOp wEq (mVar 0) (mC (.str "adds")))) (mRet (mOp wSub (mVar 1) (mC (.int 1)))) mNext)
    (mRet (mUn wNeg (mC (.int 1))))))
theorem t_last_pocket (t : Top K mg) {cdv : Value} {A : Around} {outer : List Env} {s : Shared} {H B : Hp} {E : XK} (hr : Room 0 (A.deeper (envOfC d_last_pocket.qual d_last_pocket.scope s.heap.objs.size 223 cdv))) :
    RSs (CD P w K mg base N_last_pocket d_last_pocket.qual d_last_pocket.scope 223 cdv A outer s H E) T0 B d_last_pocket.body (m_last_pocket ) := by
  have hN : N_last_pocket.Nodup := by decide
  exact (rss_cons (rs_if ((cm_eq hr).rt (rv 0) re_str) (rss_one (rs_ret (rv 1))) rss_nil)
    (rss_cons (rs_if ((cm_eq hr).rt (rv 0) re_str) (rss_one (rs_ret (re_sub (rv 1) re_int))) rss_nil)
    (rss_one (rs_ret (re_neg re_int)))))
abbrev N_check_program : List Str := ["lot", "program"]
def m_check_program (F_is_whole : FD) : MS := (mSeq (mIfS (mNot (mB (mCB F_is_whole (mCons (mVar 1) (mCons (mC (.int 0)) (mCons (mOp wSub (mCB wLen (mCons (mFld 331 (mVar 0) "programs") mNil)) (mC (.int 1))) mNil)))))) mNever mNext)
    (mRet (mVar 1)))
theorem t_check_program (t : Top K mg) {F_is_whole : FD} (f_is_whole : Fn P w K mg base T0 1 "is_whole" F_is_whole) {cdv : Value} {A : Around} {outer : List Env} {s : Shared} {H B : Hp} {E : XK} (hr : Room 2 (A.deeper (envOfC d_check_program.qual d_check_program.scope s.heap.objs.size 230 cdv))) :
    RSs (CD P w K mg base N_check_program d_check_program.qual d_check_program.scope 230 cdv A outer s H E) T0 B d_check_program.body (m_check_program F_is_whole) := by
  have hN : N_check_program.Nodup := by decide
  exact (rss_cons (rs_if (rt_not (rt_val (re_def f_is_whole hr (by decide) rfl (ra_cons (rv 1) (ra_cons re_int (ra_cons (re_sub (re_len rfl t.n_len (ra_cons (re_fld (rv 0) t.cls_Lot t.no_programs) ra_nil)) re_int) ra_nil)))))) (rss_one rs_never) rss_nil)
    (rss_one (rs_ret (rv 1))))
abbrev N_goes_by_adds : List Str := ["program", "step", "place"]
def m_goes_by_adds : MS := (mSeq (mForI (iSq (mVar 0)) (gN 1) (mForI (iSq (mOp wIx (mVar 1) (mC (.int 2)))) (gN 2) (mIfS (mB (mOp wEq (mOp wIx (mOp wIx (mVar 0) (mVar 2)) (mC (.int 1))) (mC (.str "adds")))) (mRet (mC (.bl true))) mNext)))
    (mRet (mC (.bl false))))
theorem t_goes_by_adds (t : Top K mg) {cdv : Value} {A : Around} {outer : List Env} {s : Shared} {H B : Hp} {E : XK} (hr : Room 0 (A.deeper (envOfC d_goes_by_adds.qual d_goes_by_adds.scope s.heap.objs.size 244 cdv))) :
    RSs (CD P w K mg base N_goes_by_adds d_goes_by_adds.qual d_goes_by_adds.scope 244 cdv A outer s H E) T0 B d_goes_by_adds.body (m_goes_by_adds ) := by
  have hN : N_goes_by_adds.Nodup := by decide
  exact (rss_cons (rs_forI .never rfl (ri_seq (rv 0)) (rg_n hN rfl (.inl rfl)) (rss_one (rs_forI .never rfl (ri_seq (re_sb hr (rv 1) re_int)) (rg_n hN rfl (.inl rfl)) (rss_one (rs_if ((cm_eq hr).rt (re_sb hr (re_sb hr (rv 0) (rv 2)) re_int) re_str) (rss_one (rs_ret re_bl)) rss_nil)))))
    (rss_one (rs_ret re_bl)))
abbrev N_function_shape : List Str := ["step", "cell"]
def m_function_shape : MS := (mSeq (mAsg (mUn wNeg (mC (.int 1))) 1)
    (mSeq (mIfS (mB (mOp wEq (mOp wIx (mVar 0) (mC (.int 1))) (mC (.str "adds")))) (mAsg (mOp wIx (mVar 0) (mC (.int 0))) 1) mNext)
    (mRet (mTup (mCons (mOp wIx (mVar 0) (mC (.int 1))) (mCons (mCB wLen (mCons (mOp wIx (mVar 0) (mC (.int 2))) mNil)) (mCons (mVar 1) mNil)))))))
theorem t_function_shape (t : Top K mg) {cdv : Value} {A : Around} {outer : List Env} {s : Shared} {H B : Hp} {E : XK} (hr : Room 0 (A.deeper (envOfC d_function_shape.qual d_function_shape.scope s.heap.objs.size 251 cdv))) :
    RSs (CD P w K mg base N_function_shape d_function_shape.qual d_function_shape.scope 251 cdv A outer s H E) T0 B d_function_shape.body (m_function_shape ) := by
  have hN : N_function_shape.Nodup := by decide
  exact (rss_cons (rs_set hN rfl (.inl rfl) (re_neg re_int))
    (rss_cons (rs_if ((cm_eq hr).rt (re_sb hr (rv 0) re_int) re_str) (rss_one (rs_set hN rfl (.inl rfl) (re_sb hr (rv 0) re_int))) rss_nil)
    (rss_one (rs_ret (re_tup (ra_cons (re_sb hr (rv 0) re_int) (ra_cons (re_len rfl t.n_len (ra_cons (re_sb hr (rv 0) re_int) ra_nil)) (ra_cons (rv 1) ra_nil))))))))
abbrev N_has_unlike_names : List Str := ["programs", "shapes", "program", "step", "shape"]
def m_has_unlike_names (F_function_shape : FD) : MS := (mSeq (mAsg mNewK 1)
    (mSeq (mForI (iSq (mVar 0)) (gN 2) (mForI (iSq (mVar 2)) (gN 3) (mIfS (mB (mOp wNe (mOp wIx (mVar 3) (mC (.int 1))) (mC (.str "kept")))) (mSeq (mAsg (mCB F_function_shape (mCons (mVar 3) mNil)) 4)
    (mIfS (mB (mOp wNe (mSetd (mVar 1) (mOp wIx (mVar 3) (mC (.int 3))) (mVar 4)) (mVar 4))) (mRet (mC (.bl true))) mNext)) mNext)))
    (mRet (mC (.bl false)))))
theorem t_has_unlike_names (t : Top K mg) {F_function_shape : FD} (f_function_shape : Fn P w K mg base T0 1 "function_shape" F_function_shape) {cdv : Value} {A : Around} {outer : List Env} {s : Shared} {H B : Hp} {E : XK} (hr : Room 1 (A.deeper (envOfC d_has_unlike_names.qual d_has_unlike_names.scope s.heap.objs.size 258 cdv))) :
    RSs (CD P w K mg base N_has_unlike_names d_has_unlike_names.qual d_has_unlike_names.scope 258 cdv A outer s H E) T0 B d_has_unlike_names.body (m_has_unlike_names F_function_shape) := by
  have hN : N_has_unlike_names.Nodup := by decide
  exact (rss_cons (rs_set hN rfl (.inl rfl) re_newK)
    (rss_cons (rs_forI .never rfl (ri_seq (rv 0)) (rg_n hN rfl (.inl rfl)) (rss_one (rs_forI .never rfl (ri_seq (rv 2)) (rg_n hN rfl (.inl rfl)) (rss_one (rs_if ((cm_ne hr).rt (re_sb hr (rv 3) re_int) re_str) (rss_cons (rs_set hN rfl (.inl rfl) (re_def f_function_shape hr (by decide) rfl (ra_cons (rv 3) ra_nil)))
    (rss_one (rs_if ((cm_ne hr).rt (re_setd (rv 1) (re_sb hr (rv 3) re_int) (rv 4)) (rv 4)) (rss_one (rs_ret re_bl)) rss_nil))) rss_nil)))))
    (rss_one (rs_ret re_bl))))
abbrev N_check_weaving : List Str := ["lot", "weaving", "program"]
def m_check_weaving (F_is_sequence F_is_whole : FD) : MS := (mSeq (mIfS (mNot (mB (mCB F_is_sequence (mCons (mVar 1) mNil)))) mNever mNext)
    (mSeq (mForI (iSq (mVar 1)) (gN 2) (mIfS (mNot (mB (mCB F_is_whole (mCons (mVar 2) (mCons (mC (.int 0)) (mCons (mOp wSub (mCB wLen (mCons (mFld 331 (mVar 0) "programs") mNil)) (mC (.int 1))) mNil)))))) mNever mNext))
    (mSeq (mForI (iRg1 (mCons (mCB wLen (mCons (mFld 331 (mVar 0) "programs") mNil)) mNil)) (gN 2) (mIfS (mB (mOp wNe (mBM wCnt (mCB wList (mCons (mVar 1) mNil)) (mCons (mVar 2) mNil)) (mCB wLen (mCons (mOp wIx (mFld 331 (mVar 0) "programs") (mVar 2)) mNil)))) mNever mNext))
    (mRet (mCB wTuple (mCons (mVar 1) mNil))))))
theorem t_check_weaving (t : Top K mg) {F_is_sequence F_is_whole : FD} (f_is_sequence : Fn P w K mg base T0 1 "is_sequence" F_is_sequence) (f_is_whole : Fn P w K mg base T0 1 "is_whole" F_is_whole) {cdv : Value} {A : Around} {outer : List Env} {s : Shared} {H B : Hp} {E : XK} (hr : Room 2 (A.deeper (envOfC d_check_weaving.qual d_check_weaving.scope s.heap.objs.size 342 cdv))) :
    RSs (CD P w K mg base N_check_weaving d_check_weaving.qual d_check_weaving.scope 342 cdv A outer s H E) T0 B d_check_weaving.body (m_check_weaving F_is_sequence F_is_whole) := by
  have hN : N_check_weaving.Nodup := by decide
  exact (rss_cons (rs_if (rt_not (rt_val (re_def f_is_sequence hr (by decide) rfl (ra_cons (rv 1) ra_nil)))) (rss_one rs_never) rss_nil)
    (rss_cons (rs_forI .never rfl (ri_seq (rv 1)) (rg_n hN rfl (.inl rfl)) (rss_one (rs_if (rt_not (rt_val (re_def f_is_whole hr (by decide) rfl (ra_cons (rv 2) (ra_cons re_int (ra_cons (re_sub (re_len rfl t.n_len (ra_cons (re_fld (rv 0) t.cls_Lot t.no_programs) ra_nil)) re_int) ra_nil)))))) (rss_one rs_never) rss_nil)))
    (rss_cons (rs_forI .never rfl (ri_range1 rfl t.n_range (ra_cons (re_len rfl t.n_len (ra_cons (re_fld (rv 0) t.cls_Lot t.no_programs) ra_nil)) ra_nil)) (rg_n hN rfl (.inl rfl)) (rss_one (rs_if ((cm_ne hr).rt (re_cnt (re_list rfl t.n_list (ra_cons (rv 1) ra_nil)) (ra_cons (rv 2) ra_nil)) (re_len rfl t.n_len (ra_cons (re_sb hr (re_fld (rv 0) t.cls_Lot t.no_programs) (rv 2)) ra_nil))) (rss_one rs_never) rss_nil)))
    (rss_one (rs_ret (re_tuple rfl t.n_tuple (ra_cons (rv 1) ra_nil)))))))
abbrev N_power_of : List Str := ["modulus", "many", "entries", "place"]
def m_power_of : MS := (mSeq (mAsg (mC (.int 1)) 2)
    (mSeq (mForI (iRg1 (mCons (mVar 1) mNil)) (gN 3) (mAsg (mOp wMul (mVar 2) (mVar 0)) 2))
    (mRet (mVar 2))))
theorem t_power_of (t : Top K mg) {cdv : Value} {A : Around} {outer : List Env} {s : Shared} {H B : Hp} {E : XK} (hr : Room 0 (A.deeper (envOfC d_power_of.qual d_power_of.scope s.heap.objs.size 349 cdv))) :
    RSs (CD P w K mg base N_power_of d_power_of.qual d_power_of.scope 349 cdv A outer s H E) T0 B d_power_of.body (m_power_of ) := by
  have hN : N_power_of.Nodup := by decide
  exact (rss_cons (rs_set hN rfl (.inl rfl) re_int)
    (rss_cons (rs_forI .never rfl (ri_range1 rfl t.n_range (ra_cons (rv 1) ra_nil)) (rg_n hN rfl (.inl rfl)) (rss_one (rs_set hN rfl (.inl rfl) (re_mul (rv 2) (rv 0)))))
    (rss_one (rs_ret (rv 2)))))
abbrev N_checked_table : List Str := ["modulus", "table", "lengths", "entry", "many"]
def m_checked_table (F_power_of F_is_whole : FD) : MS := (mSeq (mAsg (mFrz (mLc (iRg1 (mCons (mC (.int 5)) mNil)) 4 mYes (mCB F_power_of (mCons (mVar 0) (mCons (mVar 4) mNil))))) 2)
    (mSeq (mIfS (mOr (mNot (mB (mCB wIsiS (mCons (mVar 1) (mCons (mTup (mCons (mC (.ty "list")) (mCons (mC (.ty "tuple")) mNil))) mNil))))) (mB (mOp (wInB true) (mCB wLen (mCons (mVar 1) mNil)) (mVar 2)))) mNever mNext)
    (mSeq (mForI (iSq (mVar 1)) (gN 3) (mIfS (mNot (mB (mCB F_is_whole (mCons (mVar 3) (mCons (mC (.int 0)) (mCons (mOp wSub (mVar 0) (mC (.int 1))) mNil)))))) mNever mNext))
    (mRet (mCB wTuple (mCons (mVar 1) mNil))))))
theorem t_checked_table (t : Top K mg) {F_power_of F_is_whole : FD} (f_power_of : Fn P w K mg base T0 1 "power_of" F_power_of) (f_is_whole : Fn P w K mg base T0 1 "is_whole" F_is_whole) {cdv : Value} {A : Around} {outer : List Env} {s : Shared} {H B : Hp} {E : XK} (hr : Room 2 (A.deeper (envOfC d_checked_table.qual d_checked_table.scope s.heap.objs.size 354 cdv))) :
    RSs (CD P w K mg base N_checked_table d_checked_table.qual d_checked_table.scope 354 cdv A outer s H E) T0 B d_checked_table.body (m_checked_table F_power_of F_is_whole) := by
  have hN : N_checked_table.Nodup := by decide
  exact (rss_cons (rs_setLcF rfl hN rfl rfl (sw_true rfl rfl rfl rfl) (j := 4) rfl (show blkC N_checked_table d_checked_table.scope _ [("many", 4)] = true from by decide +kernel) (fun _ _ => rfl) (ri_range1 rfl t.n_range (ra_cons re_int ra_nil)) (fun _ _ _ _ _ => rts_nil) (fun _ _ _ _ _ => (re_def f_power_of hr (by decide) rfl (ra_cons (rv 0) (ra_cons (rv 4) ra_nil)))))
    (rss_cons (rs_if (rt_bool (rw_or (rt_not (rt_val (re_isiS rfl t.n_isinstance (ra_cons (rv 1) (ra_cons (re_tup (ra_cons (re_ty rfl t.n_list rfl) (ra_cons (re_ty rfl t.n_tuple rfl) ra_nil))) ra_nil))))) (rw_or1 ((cm_nin hr).rt (re_len rfl t.n_len (ra_cons (rv 1) ra_nil)) (rv 2))))) (rss_one rs_never) rss_nil)
    (rss_cons (rs_forI .never rfl (ri_seq (rv 1)) (rg_n hN rfl (.inl rfl)) (rss_one (rs_if (rt_not (rt_val (re_def f_is_whole hr (by decide) rfl (ra_cons (rv 3) (ra_cons re_int (ra_cons (re_sub (rv 0) re_int) ra_nil)))))) (rss_one rs_never) rss_nil)))
    (rss_one (rs_ret (re_tuple rfl t.n_tuple (ra_cons (rv 1) ra_nil)))))))
abbrev N_checked_name : List Str := ["couple", "held", "name"]
def m_checked_name (F_is_whole : FD) : MS := (mSeq (mIfS (mOr (mNot (mB (mCB wIsiS (mCons (mVar 0) (mCons (mTup (mCons (mC (.ty "list")) (mCons (mC (.ty "tuple")) mNil))) mNil))))) (mB (mOp wNe (mCB wLen (mCons (mVar 0) mNil)) (mC (.int 2))))) mNever mNext)
    (mSeq (mAsg (mOp wIx (mVar 0) (mC (.int 0))) 2)
    (mSeq (mIfS (mOr (mNot (mB (mCB F_is_whole (mCons (mVar 2) (mCons (mC (.int 0)) (mCons (mC (.int 99)) mNil)))))) (mB (mOp (wInB false) (mVar 2) (mVar 1)))) mNever mNext)
    (mRet (mVar 2)))))
theorem t_checked_name (t : Top K mg) {F_is_whole : FD} (f_is_whole : Fn P w K mg base T0 1 "is_whole" F_is_whole) {cdv : Value} {A : Around} {outer : List Env} {s : Shared} {H B : Hp} {E : XK} (hr : Room 2 (A.deeper (envOfC d_checked_name.qual d_checked_name.scope s.heap.objs.size 361 cdv))) :
    RSs (CD P w K mg base N_checked_name d_checked_name.qual d_checked_name.scope 361 cdv A outer s H E) T0 B d_checked_name.body (m_checked_name F_is_whole) := by
  have hN : N_checked_name.Nodup := by decide
  exact (rss_cons (rs_if (rt_bool (rw_or (rt_not (rt_val (re_isiS rfl t.n_isinstance (ra_cons (rv 0) (ra_cons (re_tup (ra_cons (re_ty rfl t.n_list rfl) (ra_cons (re_ty rfl t.n_tuple rfl) ra_nil))) ra_nil))))) (rw_or1 ((cm_ne hr).rt (re_len rfl t.n_len (ra_cons (rv 0) ra_nil)) re_int)))) (rss_one rs_never) rss_nil)
    (rss_cons (rs_set hN rfl (.inl rfl) (re_sb hr (rv 0) re_int))
    (rss_cons (rs_if (rt_bool (rw_or (rt_not (rt_val (re_def f_is_whole hr (by decide) rfl (ra_cons (rv 2) (ra_cons re_int (ra_cons re_int ra_nil)))))) (rw_or1 ((cm_in hr).rt (rv 2) (rv 1))))) (rss_one rs_never) rss_nil)
    (rss_one (rs_ret (rv 2))))))
abbrev N_digits_number : List Str := ["modulus", "worths", "number", "worth"]
def m_digits_number : MS := (mSeq (mAsg (mC (.int 0)) 2)
    (mSeq (mForI (iSq (mVar 1)) (gN 3) (mAsg (mOp wAdd (mOp wMul (mVar 2) (mVar 0)) (mVar 3)) 2))
    (mRet (mVar 2))))
theorem t_digits_number (t : Top K mg) {cdv : Value} {A : Around} {outer : List Env} {s : Shared} {H B : Hp} {E : XK} (hr : Room 0 (A.deeper (envOfC d_digits_number.qual d_digits_number.scope s.heap.objs.size 368 cdv))) :
    RSs (CD P w K mg base N_digits_number d_digits_number.qual d_digits_number.scope 368 cdv A outer s H E) T0 B d_digits_number.body (m_digits_number ) := by
  have hN : N_digits_number.Nodup := by decide
  exact (rss_cons (rs_set hN rfl (.inl rfl) re_int)
    (rss_cons (rs_forI .never rfl (ri_seq (rv 1)) (rg_n hN rfl (.inl rfl)) (rss_one (rs_set hN rfl (.inl rfl) (re_add (re_mul (rv 2) (rv 0)) (rv 3)))))
    (rss_one (rs_ret (rv 2)))))
abbrev N_check_meaning : List Str := ["lot", "meaning", "steps", "cell", "kind", "goes_by", "name", "table"]
def m_check_meaning (F_Meaning_table_of F_power_of : FD) : MS := (mSeq (mForI (iSq (mFld 331 (mVar 0) "programs")) (gN 2) (mForI (iSq (mVar 2)) (gT 4 (gCons' (gN 3) (gCons' (gN 4) (gCons' (gN 5) (gCons' (gN 6) gNil'))))) (mSeq (mIfS (mB (mOp wEq (mVar 4) (mC (.str "kept")))) mCont mNext)
    (mSeq (mAsg (mMeth 454 "table_of" F_Meaning_table_of (mVar 1) (mCons (mVar 6) mNil)) 7)
    (mSeq (mIfS (mB (mOp wIs (mVar 7) (mC .non))) mNever mNext)
    (mIfS (mB (mOp wNe (mCB wLen (mCons (mVar 7) mNil)) (mCB F_power_of (mCons (mFld 454 (mVar 1) "modulus") (mCons (mCB wLen (mCons (mVar 5) mNil)) mNil))))) mNever mNext))))))
    (mRet (mVar 1)))
theorem t_check_meaning (t : Top K mg) {F_Meaning_table_of F_power_of : FD} (f_Meaning_table_of : FnMt P w K mg base T0 1 454 "table_of" F_Meaning_table_of) (f_power_of : Fn P w K mg base T0 1 "power_of" F_power_of) {cdv : Value} {A : Around} {outer : List Env} {s : Shared} {H B : Hp} {E : XK} (hr : Room 2 (A.deeper (envOfC d_check_meaning.qual d_check_meaning.scope s.heap.objs.size 375 cdv))) :
    RSs (CD P w K mg base N_check_meaning d_check_meaning.qual d_check_meaning.scope 375 cdv A outer s H E) T0 B d_check_meaning.body (m_check_meaning F_Meaning_table_of F_power_of) := by
  have hN : N_check_meaning.Nodup := by decide
  exact (rss_cons (rs_forI .never rfl (ri_seq (re_fld (rv 0) t.cls_Lot t.no_programs)) (rg_n hN rfl (.inl rfl)) (rss_one (rs_forI .never rfl (ri_seq (rv 2)) (rg_t rfl (rgs_cons (rg_n hN rfl (.inl rfl)) (rgs_cons (rg_n hN rfl (.inl rfl)) (rgs_cons (rg_n hN rfl (.inl rfl)) (rgs_cons (rg_n hN rfl (.inl rfl)) rgs_nil))))) (rss_cons (rs_if ((cm_eq hr).rt (rv 4) re_str) (rss_one rs_cont) rss_nil)
    (rss_cons (rs_set hN rfl (.inl rfl) (re_meth f_Meaning_table_of hr (by decide) (rv 1) (ra_cons (rv 6) ra_nil)))
    (rss_cons (rs_if (cm_is.rt (rv 7) re_non) (rss_one rs_never) rss_nil)
    (rss_one (rs_if ((cm_ne hr).rt (re_len rfl t.n_len (ra_cons (rv 7) ra_nil)) (re_def f_power_of hr (by decide) rfl (ra_cons (re_fld (rv 1) t.cls_Meaning t.no_modulus) (ra_cons (re_len rfl t.n_len (ra_cons (rv 5) ra_nil)) ra_nil)))) (rss_one rs_never) rss_nil))))))))
    (rss_one (rs_ret (rv 1))))
abbrev N_all_stores : List Str := ["lot", "modulus", "stores", "cell", "store", "worth"]
def m_all_stores : MS := (mSeq (mAsg (mLst (mCons (mTup mNil) mNil)) 2)
    (mSeq (mForI (iRg1 (mCons (mFld 331 (mVar 0) "cells") mNil)) (gN 3) (mAsg (mFrz (mLc2 (iSq (mVar 2)) 4 (iRg1 (mCons (mVar 1) mNil)) 5 (mOp wAdd (mVar 4) (mTup (mCons (mVar 5) mNil))))) 2))
    (mRet (mCB wTuple (mCons (mVar 2) mNil)))))
theorem t_all_stores (t : Top K mg) {cdv : Value} {A : Around} {outer : List Env} {s : Shared} {H B : Hp} {E : XK} (hr : Room 0 (A.deeper (envOfC d_all_stores.qual d_all_stores.scope s.heap.objs.size 380 cdv))) :
    RSs (CD P w K mg base N_all_stores d_all_stores.qual d_all_stores.scope 380 cdv A outer s H E) T0 B d_all_stores.body (m_all_stores ) := by
  have hN : N_all_stores.Nodup := by decide
  exact (rss_cons (rs_set hN rfl (.inl rfl) (re_lst (ra_cons (re_tup ra_nil) ra_nil)))
    (rss_cons (rs_forI .never rfl (ri_range1 rfl t.n_range (ra_cons (re_fld (rv 0) t.cls_Lot t.no_cells) ra_nil)) (rg_n hN rfl (.inl rfl)) (rss_one (rs_setLc2F (j := 4) (j1 := 5) (by decide) rfl hN rfl rfl (sw_true rfl rfl rfl rfl) rfl rfl (show blkC N_all_stores d_all_stores.scope _ [("store", 4), ("worth", 5)] = true from by decide +kernel) (fun _ _ => rfl) (fun _ _ => rfl) (ri_seq (rv 2)) (fun _ _ _ _ _ => (ri_range1 rfl t.n_range (ra_cons (rv 1) ra_nil))) (fun _ _ _ _ _ => (re_add (rv 4) (re_tup (ra_cons (rv 5) ra_nil)))))))
    (rss_one (rs_ret (re_tuple rfl t.n_tuple (ra_cons (rv 2) ra_nil))))))
abbrev N_check_store : List Str := ["lot", "meaning", "store", "worth"]
def m_check_store (F_is_whole : FD) : MS := (mSeq (mIfS (mOr (mNot (mB (mCB wIsiS (mCons (mVar 2) (mCons (mTup (mCons (mC (.ty "list")) (mCons (mC (.ty "tuple")) mNil))) mNil))))) (mB (mOp wNe (mCB wLen (mCons (mVar 2) mNil)) (mFld 331 (mVar 0) "cells")))) mNever mNext)
    (mSeq (mForI (iSq (mVar 2)) (gN 3) (mIfS (mNot (mB (mCB F_is_whole (mCons (mVar 3) (mCons (mC (.int 0)) (mCons (mOp wSub (mFld 454 (mVar 1) "modulus") (mC (.int 1))) mNil)))))) mNever mNext))
    (mRet (mCB wTuple (mCons (mVar 2) mNil)))))
theorem t_check_store (t : Top K mg) {F_is_whole : FD} (f_is_whole : Fn P w K mg base T0 1 "is_whole" F_is_whole) {cdv : Value} {A : Around} {outer : List Env} {s : Shared} {H B : Hp} {E : XK} (hr : Room 2 (A.deeper (envOfC d_check_store.qual d_check_store.scope s.heap.objs.size 387 cdv))) :
    RSs (CD P w K mg base N_check_store d_check_store.qual d_check_store.scope 387 cdv A outer s H E) T0 B d_check_store.body (m_check_store F_is_whole) := by
  have hN : N_check_store.Nodup := by decide
  exact (rss_cons (rs_if (rt_bool (rw_or (rt_not (rt_val (re_isiS rfl t.n_isinstance (ra_cons (rv 2) (ra_cons (re_tup (ra_cons (re_ty rfl t.n_list rfl) (ra_cons (re_ty rfl t.n_tuple rfl) ra_nil))) ra_nil))))) (rw_or1 ((cm_ne hr).rt (re_len rfl t.n_len (ra_cons (rv 2) ra_nil)) (re_fld (rv 0) t.cls_Lot t.no_cells))))) (rss_one rs_never) rss_nil)
    (rss_cons (rs_forI .never rfl (ri_seq (rv 2)) (rg_n hN rfl (.inl rfl)) (rss_one (rs_if (rt_not (rt_val (re_def f_is_whole hr (by decide) rfl (ra_cons (rv 3) (ra_cons re_int (ra_cons (re_sub (re_fld (rv 1) t.cls_Meaning t.no_modulus) re_int) ra_nil)))))) (rss_one rs_never) rss_nil)))
    (rss_one (rs_ret (re_tuple rfl t.n_tuple (ra_cons (rv 2) ra_nil))))))
abbrev N_stepped_worth : List Str := ["meaning", "step", "pockets", "cell", "kind", "goes_by", "name", "own", "number", "entry", "place"]
def m_stepped_worth (F_digits_number F_Meaning_table_of : FD) : MS := (mSeq (mAsgG (mVar 1) (gT 4 (gCons' (gN 3) (gCons' (gN 4) (gCons' (gN 5) (gCons' (gN 6) gNil'))))))
    (mSeq (mAsg (mOp wIx (mVar 2) (mUn wNeg (mC (.int 1)))) 7)
    (mSeq (mIfS (mB (mOp wEq (mVar 4) (mC (.str "kept")))) (mRet (mVar 7)) mNext)
    (mSeq (mAsg (mCB F_digits_number (mCons (mFld 454 (mVar 0) "modulus") (mCons (mFrz (mLc (iSq (mVar 5)) 10 mYes (mOp wIx (mVar 2) (mVar 10)))) mNil))) 8)
    (mSeq (mAsg (mOp wIx (mMeth 454 "table_of" F_Meaning_table_of (mVar 0) (mCons (mVar 6) mNil)) (mVar 8)) 9)
    (mSeq (mIfS (mB (mOp wEq (mVar 4) (mC (.str "any")))) (mRet (mVar 9)) mNext)
    (mRet (mOp wMod (mOp wAdd (mVar 7) (mVar 9)) (mFld 454 (mVar 0) "modulus")))))))))
theorem t_stepped_worth (t : Top K mg) {F_digits_number F_Meaning_table_of : FD} (f_digits_number : Fn P w K mg base T0 1 "digits_number" F_digits_number) (f_Meaning_table_of : FnMt P w K mg base T0 1 454 "table_of" F_Meaning_table_of) {cdv : Value} {A : Around} {outer : List Env} {s : Shared} {H B : Hp} {E : XK} (hr : Room 1 (A.deeper (envOfC d_stepped_worth.qual d_stepped_worth.scope s.heap.objs.size 392 cdv))) :
    RSs (CD P w K mg base N_stepped_worth d_stepped_worth.qual d_stepped_worth.scope 392 cdv A outer s H E) T0 B d_stepped_worth.body (m_stepped_worth F_digits_number F_Meaning_table_of) := by
  have hN : N_stepped_worth.Nodup := by decide
  exact (rss_cons (rs_asg (rv 1) (rg_t rfl (rgs_cons (rg_n hN rfl (.inl rfl)) (rgs_cons (rg_n hN rfl (.inl rfl)) (rgs_cons (rg_n hN rfl (.inl rfl)) (rgs_cons (rg_n hN rfl (.inl rfl)) rgs_nil))))))
    (rss_cons (rs_set hN rfl (.inl rfl) (re_sb hr (rv 2) (re_neg re_int)))
    (rss_cons (rs_if ((cm_eq hr).rt (rv 4) re_str) (rss_one (rs_ret (rv 7))) rss_nil)
    (rss_cons (rs_set hN rfl (.inl rfl) (re_def f_digits_number hr (by decide) rfl (ra_cons (re_fld (rv 0) t.cls_Meaning t.no_modulus) (ra_cons (re_frz (re_lc rfl hN (j := 10) rfl (show blkC N_stepped_worth d_stepped_worth.scope _ [("place", 10)] = true from by decide +kernel) (fun _ _ => rfl) (ri_seq (rv 5)) (fun _ _ _ _ _ => rts_nil) (fun _ _ _ _ _ => (re_sb hr (rv 2) (rv 10))))) ra_nil))))
    (rss_cons (rs_set hN rfl (.inl rfl) (re_sb hr (re_meth f_Meaning_table_of hr (by decide) (rv 0) (ra_cons (rv 6) ra_nil)) (rv 8)))
    (rss_cons (rs_if ((cm_eq hr).rt (rv 4) re_str) (rss_one (rs_ret (rv 9))) rss_nil)
    (rss_one (rs_ret (re_mod (re_add (rv 7) (rv 9)) (re_fld (rv 0) t.cls_Meaning t.no_modulus))))))))))
abbrev N_moments_from : List Str := ["lot", "meaning", "weaving", "store", "held", "pockets", "moments", "program", "mine", "step", "steps"]
def m_moments_from (F_stepped_worth : FD) : MS := (mSeq (mAsg (mCB wListO (mCons (mVar 3) mNil)) 4)
    (mSeq (mAsg (mFrz (mLc (iSq (mFld 331 (mVar 0) "programs")) 10 mYes (mLstO mNil))) 5)
    (mSeq (mAsg (mLstO (mCons (mCB wTuple (mCons (mVar 4) mNil)) mNil)) 6)
    (mSeq (mForI (iSq (mVar 2)) (gN 7) (mSeq (mAsg (mOp wIx (mVar 5) (mVar 7)) 8)
    (mSeq (mAsg (mOp wIx (mOp wIx (mFld 331 (mVar 0) "programs") (mVar 7)) (mCB wLen (mCons (mVar 8) mNil))) 9)
    (mSeq (mDrop (mBM wApp (mVar 8) (mCons (mOp wIx (mVar 4) (mOp wIx (mVar 9) (mC (.int 0)))) mNil)))
    (mSeq (mAsgG (mCB F_stepped_worth (mCons (mVar 1) (mCons (mVar 9) (mCons (mVar 8) mNil)))) (gSet (mVar 4) (mOp wIx (mVar 9) (mC (.int 0)))))
    (mDrop (mBM wApp (mVar 6) (mCons (mCB wTuple (mCons (mVar 4) mNil)) mNil))))))))
    (mRet (mCB wTuple (mCons (mVar 6) mNil)))))))
theorem t_moments_from (t : Top K mg) {F_stepped_worth : FD} (f_stepped_worth : Fn P w K mg base T0 2 "stepped_worth" F_stepped_worth) {cdv : Value} {A : Around} {outer : List Env} {s : Shared} {H B : Hp} {E : XK} (hr : Room 2 (A.deeper (envOfC d_moments_from.qual d_moments_from.scope s.heap.objs.size 397 cdv))) :
    RSs (CD P w K mg base N_moments_from d_moments_from.qual d_moments_from.scope 397 cdv A outer s H E) T0 B d_moments_from.body (m_moments_from F_stepped_worth) := by
  have hN : N_moments_from.Nodup := by decide
  exact (rss_cons (rs_set hN rfl (.inl rfl) (re_listO rfl t.n_list (ra_cons (rv 3) ra_nil)))
    (rss_cons (rs_setLcF rfl hN rfl rfl (sw_true rfl rfl rfl rfl) (j := 10) rfl (show blkC N_moments_from d_moments_from.scope _ [("steps", 10)] = true from by decide +kernel) (fun _ _ => rfl) (ri_seq (re_fld (rv 0) t.cls_Lot t.no_programs)) (fun _ _ _ _ _ => rts_nil) (fun _ _ _ _ _ => (re_lstO ra_nil)))
    (rss_cons (rs_set hN rfl (.inl rfl) (re_lstO (ra_cons (re_tuple rfl t.n_tuple (ra_cons (rv 4) ra_nil)) ra_nil)))
    (rss_cons (rs_forI .never rfl (ri_seq (rv 2)) (rg_n hN rfl (.inl rfl)) (rss_cons (rs_set hN rfl (.inl rfl) (re_sb hr (rv 5) (rv 7)))
    (rss_cons (rs_set hN rfl (.inl rfl) (re_sb hr (re_sb hr (re_fld (rv 0) t.cls_Lot t.no_programs) (rv 7)) (re_len rfl t.n_len (ra_cons (rv 8) ra_nil))))
    (rss_cons (rs_expr (re_app (rv 8) (ra_cons (re_sb hr (rv 4) (re_sb hr (rv 9) re_int)) ra_nil)))
    (rss_cons (rs_asg (re_def f_stepped_worth hr (by decide) rfl (ra_cons (rv 1) (ra_cons (rv 9) (ra_cons (rv 8) ra_nil)))) (rg_s hr (rv 4) (re_sb hr (rv 9) re_int)))
    (rss_one (rs_expr (re_app (rv 6) (ra_cons (re_tuple rfl t.n_tuple (ra_cons (rv 4) ra_nil)) ra_nil)))))))))
    (rss_one (rs_ret (re_tuple rfl t.n_tuple (ra_cons (rv 6) ra_nil))))))))
abbrev N_whole_end : List Str := ["lot", "meaning", "program", "store"]
def m_whole_end (F_moments_from : FD) : MS := (mRet (mOp wIx (mCB F_moments_from (mCons (mVar 0) (mCons (mVar 1) (mCons (mOp wMul (mTup (mCons (mVar 2) mNil)) (mCB wLen (mCons (mOp wIx (mFld 331 (mVar 0) "programs") (mVar 2)) mNil))) (mCons (mVar 3) mNil))))) (mUn wNeg (mC (.int 1)))))
theorem t_whole_end (t : Top K mg) {F_moments_from : FD} (f_moments_from : Fn P w K mg base T0 3 "moments_from" F_moments_from) {cdv : Value} {A : Around} {outer : List Env} {s : Shared} {H B : Hp} {E : XK} (hr : Room 3 (A.deeper (envOfC d_whole_end.qual d_whole_end.scope s.heap.objs.size 404 cdv))) :
    RSs (CD P w K mg base N_whole_end d_whole_end.qual d_whole_end.scope 404 cdv A outer s H E) T0 B d_whole_end.body (m_whole_end F_moments_from) := by
  have hN : N_whole_end.Nodup := by decide
  exact (rss_one (rs_ret (re_sb hr (re_def f_moments_from hr (by decide) rfl (ra_cons (rv 0) (ra_cons (rv 1) (ra_cons (re_mul (re_tup (ra_cons (rv 2) ra_nil)) (re_len rfl t.n_len (ra_cons (re_sb hr (re_fld (rv 0) t.cls_Lot t.no_programs) (rv 2)) ra_nil))) (ra_cons (rv 3) ra_nil))))) (re_neg re_int))))
abbrev N_run_weaving : List Str := ["lot", "meaning", "weaving", "store"]
def m_run_weaving (F_run_moments : FD) : MS := (mRet (mOp wIx (mCB F_run_moments (mCons (mVar 0) (mCons (mVar 1) (mCons (mVar 2) (mCons (mVar 3) mNil))))) (mUn wNeg (mC (.int 1)))))
theorem t_run_weaving (t : Top K mg) {F_run_moments : FD} (f_run_moments : Fn P w K mg base T0 4 "run_moments" F_run_moments) {cdv : Value} {A : Around} {outer : List Env} {s : Shared} {H B : Hp} {E : XK} (hr : Room 4 (A.deeper (envOfC d_run_weaving.qual d_run_weaving.scope s.heap.objs.size 411 cdv))) :
    RSs (CD P w K mg base N_run_weaving d_run_weaving.qual d_run_weaving.scope 411 cdv A outer s H E) T0 B d_run_weaving.body (m_run_weaving F_run_moments) := by
  have hN : N_run_weaving.Nodup := by decide
  exact (rss_one (rs_ret (re_sb hr (re_def f_run_moments hr (by decide) rfl (ra_cons (rv 0) (ra_cons (rv 1) (ra_cons (rv 2) (ra_cons (rv 3) ra_nil))))) (re_neg re_int))))
abbrev N_run_moments : List Str := ["lot", "meaning", "weaving", "store"]
def m_run_moments (F_check_meaning F_check_weaving F_check_store F_moments_from : FD) : MS := (mSeq (mDrop (mCB F_check_meaning (mCons (mVar 0) (mCons (mVar 1) mNil))))
    (mSeq (mAsg (mCB F_check_weaving (mCons (mVar 0) (mCons (mVar 2) mNil))) 2)
    (mRet (mCB F_moments_from (mCons (mVar 0) (mCons (mVar 1) (mCons (mVar 2) (mCons (mCB F_check_store (mCons (mVar 0) (mCons (mVar 1) (mCons (mVar 3) mNil)))) mNil))))))))
theorem t_run_moments (t : Top K mg) {F_check_meaning F_check_weaving F_check_store F_moments_from : FD} (f_check_meaning : Fn P w K mg base T0 3 "check_meaning" F_check_meaning) (f_check_weaving : Fn P w K mg base T0 3 "check_weaving" F_check_weaving) (f_check_store : Fn P w K mg base T0 3 "check_store" F_check_store) (f_moments_from : Fn P w K mg base T0 3 "moments_from" F_moments_from) {cdv : Value} {A : Around} {outer : List Env} {s : Shared} {H B : Hp} {E : XK} (hr : Room 3 (A.deeper (envOfC d_run_moments.qual d_run_moments.scope s.heap.objs.size 418 cdv))) :
    RSs (CD P w K mg base N_run_moments d_run_moments.qual d_run_moments.scope 418 cdv A outer s H E) T0 B d_run_moments.body (m_run_moments F_check_meaning F_check_weaving F_check_store F_moments_from) := by
  have hN : N_run_moments.Nodup := by decide
  exact (rss_cons (rs_expr (re_def f_check_meaning hr (by decide) rfl (ra_cons (rv 0) (ra_cons (rv 1) ra_nil))))
    (rss_cons (rs_set hN rfl (.inl rfl) (re_def f_check_weaving hr (by decide) rfl (ra_cons (rv 0) (ra_cons (rv 2) ra_nil))))
    (rss_one (rs_ret (re_def f_moments_from hr (by decide) rfl (ra_cons (rv 0) (ra_cons (rv 1) (ra_cons (rv 2) (ra_cons (re_def f_check_store hr (by decide) rfl (ra_cons (rv 0) (ra_cons (rv 1) (ra_cons (rv 3) ra_nil)))) ra_nil)))))))))
abbrev N_run_program : List Str := ["lot", "meaning", "program", "store"]
def m_run_program (F_check_meaning F_check_program F_check_store F_whole_end : FD) : MS := (mSeq (mDrop (mCB F_check_meaning (mCons (mVar 0) (mCons (mVar 1) mNil))))
    (mSeq (mDrop (mCB F_check_program (mCons (mVar 0) (mCons (mVar 2) mNil))))
    (mRet (mCB F_whole_end (mCons (mVar 0) (mCons (mVar 1) (mCons (mVar 2) (mCons (mCB F_check_store (mCons (mVar 0) (mCons (mVar 1) (mCons (mVar 3) mNil)))) mNil))))))))
theorem t_run_program (t : Top K mg) {F_check_meaning F_check_program F_check_store F_whole_end : FD} (f_check_meaning : Fn P w K mg base T0 3 "check_meaning" F_check_meaning) (f_check_program : Fn P w K mg base T0 3 "check_program" F_check_program) (f_check_store : Fn P w K mg base T0 3 "check_store" F_check_store) (f_whole_end : Fn P w K mg base T0 4 "whole_end" F_whole_end) {cdv : Value} {A : Around} {outer : List Env} {s : Shared} {H B : Hp} {E : XK} (hr : Room 4 (A.deeper (envOfC d_run_program.qual d_run_program.scope s.heap.objs.size 425 cdv))) :
    RSs (CD P w K mg base N_run_program d_run_program.qual d_run_program.scope 425 cdv A outer s H E) T0 B d_run_program.body (m_run_program F_check_meaning F_check_program F_check_store F_whole_end) := by
  have hN : N_run_program.Nodup := by decide
  exact (rss_cons (rs_expr (re_def f_check_meaning hr (by decide) rfl (ra_cons (rv 0) (ra_cons (rv 1) ra_nil))))
    (rss_cons (rs_expr (re_def f_check_program hr (by decide) rfl (ra_cons (rv 0) (ra_cons (rv 2) ra_nil))))
    (rss_one (rs_ret (re_def f_whole_end hr (by decide) rfl (ra_cons (rv 0) (ra_cons (rv 1) (ra_cons (rv 2) (ra_cons (re_def f_check_store hr (by decide) rfl (ra_cons (rv 0) (ra_cons (rv 1) (ra_cons (rv 3) ra_nil)))) ra_nil)))))))))
abbrev N_closed_under : List Str := ["moves", "stores", "found", "waiting", "store", "move"]
def m_closed_under : MS := (mSeq (mAsg mNewT 2)
    (mSeq (mAsg (mCB wListO (mCons (mVar 1) mNil)) 3)
    (mSeq (mWhile (mTruL (mVar 3)) (mSeq (mAsg (mBM wPop (mVar 3) mNil) 4)
    (mIfS (mB (mOp (wInB true) (mVar 4) (mVar 2))) (mSeq (mAsgG (mC (.bl true)) (gSet (mVar 2) (mVar 4)))
    (mForI (iSq (mVar 0)) (gN 5) (mDrop (mBM wApp (mVar 3) (mCons (mOp wIx (mVar 5) (mVar 4)) mNil))))) mNext)))
    (mRet (mCB wTuple (mCons (mCB wSortA (mCons (mCB wListK (mCons (mVar 2) mNil)) mNil)) mNil))))))
theorem t_closed_under (t : Top K mg) {cdv : Value} {A : Around} {outer : List Env} {s : Shared} {H B : Hp} {E : XK} (hr : Room 0 (A.deeper (envOfC d_closed_under.qual d_closed_under.scope s.heap.objs.size 482 cdv))) :
    RSs (CD P w K mg base N_closed_under d_closed_under.qual d_closed_under.scope 482 cdv A outer s H E) T0 B d_closed_under.body (m_closed_under ) := by
  have hN : N_closed_under.Nodup := by decide
  exact (rss_cons (rs_set hN rfl (.inl rfl) re_newT)
    (rss_cons (rs_set hN rfl (.inl rfl) (re_listO rfl t.n_list (ra_cons (rv 1) ra_nil)))
    (rss_cons (rs_while .never (rt_list (rv 3)) (rss_cons (rs_set hN rfl (.inl rfl) (re_pop (rv 3)))
    (rss_one (rs_if ((cm_nin hr).rt (rv 4) (rv 2)) (rss_cons (rs_asg re_bl (rg_s hr (rv 2) (rv 4)))
    (rss_one (rs_forI .never rfl (ri_seq (rv 0)) (rg_n hN rfl (.inl rfl)) (rss_one (rs_expr (re_app (rv 3) (ra_cons (re_sb hr (rv 5) (rv 4)) ra_nil))))))) rss_nil))))
    (rss_one (rs_ret (re_tuple rfl t.n_tuple (ra_cons (re_sortA rfl t.n_sorted (ra_cons (re_listK rfl rfl t.n_list (ra_cons (rv 2) ra_nil)) ra_nil)) ra_nil)))))))
abbrev N_first_leaving : List Str := ["moves", "rule", "at", "store"]
def m_first_leaving : MS := (mSeq (mForI (iRg1 (mCons (mCB wLen (mCons (mVar 0) mNil)) mNil)) (gN 2) (mForI (iSq (mVar 1)) (gN 3) (mIfS (mB (mOp (wInB true) (mOp wIx (mOp wIx (mVar 0) (mVar 2)) (mVar 3)) (mVar 1))) (mRet (mTup (mCons (mVar 2) (mCons (mVar 3) mNil)))) mNext)))
    (mRet (mC .non)))
theorem t_first_leaving (t : Top K mg) {cdv : Value} {A : Around} {outer : List Env} {s : Shared} {H B : Hp} {E : XK} (hr : Room 0 (A.deeper (envOfC d_first_leaving.qual d_first_leaving.scope s.heap.objs.size 489 cdv))) :
    RSs (CD P w K mg base N_first_leaving d_first_leaving.qual d_first_leaving.scope 489 cdv A outer s H E) T0 B d_first_leaving.body (m_first_leaving ) := by
  have hN : N_first_leaving.Nodup := by decide
  exact (rss_cons (rs_forI .never rfl (ri_range1 rfl t.n_range (ra_cons (re_len rfl t.n_len (ra_cons (rv 0) ra_nil)) ra_nil)) (rg_n hN rfl (.inl rfl)) (rss_one (rs_forI .never rfl (ri_seq (rv 1)) (rg_n hN rfl (.inl rfl)) (rss_one (rs_if ((cm_nin hr).rt (re_sb hr (re_sb hr (rv 0) (rv 2)) (rv 3)) (rv 1)) (rss_one (rs_ret (re_tup (ra_cons (rv 2) (ra_cons (rv 3) ra_nil))))) rss_nil)))))
    (rss_one (rs_ret re_non)))
abbrev N_rule_fault : List Str := ["lot", "meaning", "stores", "rule"]
def m_rule_fault (F_check_stores F_moves_of F_first_leaving : FD) : MS := (mSeq (mAsg (mCB F_check_stores (mCons (mVar 0) (mCons (mVar 1) (mCons (mVar 2) mNil)))) 3)
    (mRet (mCB F_first_leaving (mCons (mCB F_moves_of (mCons (mVar 0) (mCons (mVar 1) (mCons (mTup mNil) mNil)))) (mCons (mVar 3) mNil)))))
theorem t_rule_fault (t : Top K mg) {F_check_stores F_moves_of F_first_leaving : FD} (f_check_stores : Fn P w K mg base T0 4 "check_stores" F_check_stores) (f_moves_of : Fn P w K mg base T0 7 "moves_of" F_moves_of) (f_first_leaving : Fn P w K mg base T0 1 "first_leaving" F_first_leaving) {cdv : Value} {A : Around} {outer : List Env} {s : Shared} {H B : Hp} {E : XK} (hr : Room 7 (A.deeper (envOfC d_rule_fault.qual d_rule_fault.scope s.heap.objs.size 496 cdv))) :
    RSs (CD P w K mg base N_rule_fault d_rule_fault.qual d_rule_fault.scope 496 cdv A outer s H E) T0 B d_rule_fault.body (m_rule_fault F_check_stores F_moves_of F_first_leaving) := by
  have hN : N_rule_fault.Nodup := by decide
  exact (rss_cons (rs_set hN rfl (.inl rfl) (re_def f_check_stores hr (by decide) rfl (ra_cons (rv 0) (ra_cons (rv 1) (ra_cons (rv 2) ra_nil)))))
    (rss_one (rs_ret (re_def f_first_leaving hr (by decide) rfl (ra_cons (re_def f_moves_of hr (by decide) rfl (ra_cons (rv 0) (ra_cons (rv 1) (ra_cons (re_tup ra_nil) ra_nil)))) (ra_cons (rv 3) ra_nil))))))
abbrev N_holds_all : List Str := ["rule", "other", "store"]
def m_holds_all : MS := (mSeq (mForI (iSq (mVar 1)) (gN 2) (mIfS (mB (mOp (wInB true) (mVar 2) (mVar 0))) (mRet (mC (.bl false))) mNext))
    (mRet (mC (.bl true))))
theorem t_holds_all (t : Top K mg) {cdv : Value} {A : Around} {outer : List Env} {s : Shared} {H B : Hp} {E : XK} (hr : Room 0 (A.deeper (envOfC d_holds_all.qual d_holds_all.scope s.heap.objs.size 524 cdv))) :
    RSs (CD P w K mg base N_holds_all d_holds_all.qual d_holds_all.scope 524 cdv A outer s H E) T0 B d_holds_all.body (m_holds_all ) := by
  have hN : N_holds_all.Nodup := by decide
  exact (rss_cons (rs_forI .never rfl (ri_seq (rv 1)) (rg_n hN rfl (.inl rfl)) (rss_one (rs_if ((cm_nin hr).rt (rv 2) (rv 0)) (rss_one (rs_ret re_bl)) rss_nil)))
    (rss_one (rs_ret re_bl)))
abbrev N_least_broken : List Str := ["lot", "meaning", "weaving", "checked", "moves", "move", "broken", "store", "rule", "told", "other"]
def m_least_broken (F_check_meaning F_check_weaving F_moves_of F_weaving_move F_all_stores F_closed_under F_in_rule_order F_holds_all : FD) : MS := (mSeq (mDrop (mCB F_check_meaning (mCons (mVar 0) (mCons (mVar 1) mNil))))
    (mSeq (mAsg (mCB F_check_weaving (mCons (mVar 0) (mCons (mVar 2) mNil))) 3)
    (mSeq (mAsg (mCB F_moves_of (mCons (mVar 0) (mCons (mVar 1) (mCons (mTup mNil) mNil)))) 4)
    (mSeq (mAsg (mCB F_weaving_move (mCons (mVar 0) (mCons (mVar 1) (mCons (mVar 3) mNil)))) 5)
    (mSeq (mAsg (mLstO mNil) 6)
    (mSeq (mForI (iSq (mCB F_all_stores (mCons (mVar 0) (mCons (mFld 454 (mVar 1) "modulus") mNil)))) (gN 7) (mSeq (mAsg (mCB F_closed_under (mCons (mVar 4) (mCons (mTup (mCons (mVar 7) mNil)) mNil))) 8)
    (mIfS (mB (mOp (wInB true) (mOp wIx (mVar 5) (mVar 7)) (mVar 8))) (mDrop (mBM wApp (mVar 6) (mCons (mVar 8) mNil))) mNext)))
    (mSeq (mAsg (mLstO mNil) 9)
    (mSeq (mForI (iSq (mCB F_in_rule_order (mCons (mVar 6) mNil))) (gN 8) (mIfS (mNot (mB (mCB wAny (mCons (mFrz (mLc (iSq (mVar 9)) 10 mYes (mCB F_holds_all (mCons (mVar 8) (mCons (mVar 10) mNil))))) mNil)))) (mDrop (mBM wApp (mVar 9) (mCons (mVar 8) mNil))) mNext))
    (mRet (mCB wTuple (mCons (mVar 9) mNil)))))))))))
theorem t_least_broken (t : Top K mg) {F_check_meaning F_check_weaving F_moves_of F_weaving_move F_all_stores F_closed_under F_in_rule_order F_holds_all : FD} (f_check_meaning : Fn P w K mg base T0 3 "check_meaning" F_check_meaning) (f_check_weaving : Fn P w K mg base T0 3 "check_weaving" F_check_weaving) (f_moves_of : Fn P w K mg base T0 7 "moves_of" F_moves_of) (f_weaving_move : Fn P w K mg base T0 6 "weaving_move" F_weaving_move) (f_all_stores : Fn P w K mg base T0 1 "all_stores" F_all_stores) (f_closed_under : Fn P w K mg base T0 1 "closed_under" F_closed_under) (f_in_rule_order : Fn P w K mg base T0 1 "in_rule_order" F_in_rule_order) (f_holds_all : Fn P w K mg base T0 1 "holds_all" F_holds_all) {cdv : Value} {A : Around} {outer : List Env} {s : Shared} {H B : Hp} {E : XK} (hr : Room 7 (A.deeper (envOfC d_least_broken.qual d_least_broken.scope s.heap.objs.size 529 cdv))) :
    RSs (CD P w K mg base N_least_broken d_least_broken.qual d_least_broken.scope 529 cdv A outer s H E) T0 B d_least_broken.body (m_least_broken F_check_meaning F_check_weaving F_moves_of F_weaving_move F_all_stores F_closed_under F_in_rule_order F_holds_all) := by
  have hN : N_least_broken.Nodup := by decide
  exact (rss_cons (rs_expr (re_def f_check_meaning hr (by decide) rfl (ra_cons (rv 0) (ra_cons (rv 1) ra_nil))))
    (rss_cons (rs_set hN rfl (.inl rfl) (re_def f_check_weaving hr (by decide) rfl (ra_cons (rv 0) (ra_cons (rv 2) ra_nil))))
    (rss_cons (rs_set hN rfl (.inl rfl) (re_def f_moves_of hr (by decide) rfl (ra_cons (rv 0) (ra_cons (rv 1) (ra_cons (re_tup ra_nil) ra_nil)))))
    (rss_cons (rs_set hN rfl (.inl rfl) (re_def f_weaving_move hr (by decide) rfl (ra_cons (rv 0) (ra_cons (rv 1) (ra_cons (rv 3) ra_nil)))))
    (rss_cons (rs_set hN rfl (.inl rfl) (re_lstO ra_nil))
    (rss_cons (rs_forI .never rfl (ri_seq (re_def f_all_stores hr (by decide) rfl (ra_cons (rv 0) (ra_cons (re_fld (rv 1) t.cls_Meaning t.no_modulus) ra_nil)))) (rg_n hN rfl (.inl rfl)) (rss_cons (rs_set hN rfl (.inr rfl) (re_def f_closed_under hr (by decide) rfl (ra_cons (rv 4) (ra_cons (re_tup (ra_cons (rv 7) ra_nil)) ra_nil))))
    (rss_one (rs_if ((cm_nin hr).rt (re_sb hr (rv 5) (rv 7)) (rv 8)) (rss_one (rs_expr (re_app (rv 6) (ra_cons (rv 8) ra_nil)))) rss_nil))))
    (rss_cons (rs_set hN rfl (.inl rfl) (re_lstO ra_nil))
    (rss_cons (rs_forI .never rfl (ri_seq (re_def f_in_rule_order hr (by decide) rfl (ra_cons (rv 6) ra_nil))) (rg_n hN rfl (.inr rfl)) (rss_one (rs_if (rt_not (rt_val (re_any rfl rfl t.n_any (ra_cons (re_frz (re_lc rfl hN (j := 10) rfl (show blkC N_least_broken d_least_broken.scope _ [("other", 10)] = true from by decide +kernel) (fun _ _ => rfl) (ri_seq (rv 9)) (fun _ _ _ _ _ => rts_nil) (fun _ _ _ _ _ => (re_def f_holds_all hr (by decide) rfl (ra_cons (rv 8) (ra_cons (rv 10) ra_nil)))))) ra_nil)))) (rss_one (rs_expr (re_app (rv 9) (ra_cons (rv 8) ra_nil)))) rss_nil)))
    (rss_one (rs_ret (re_tuple rfl t.n_tuple (ra_cons (rv 9) ra_nil))))))))))))
abbrev N_Lot_init : List Str := ["self", "cells", "programs", "program", "told"]
def m_Lot_init (F_is_whole F_is_sequence F_checked_steps F_goes_by_adds F_has_unlike_names : FD) : MS := (mSeq (mIfS (mNot (mB (mCB F_is_whole (mCons (mVar 1) (mCons (mC (.int 1)) (mCons (mC (.int 3)) mNil)))))) mNever mNext)
    (mSeq (mIfS (mOr (mNot (mB (mCB F_is_sequence (mCons (mVar 2) mNil)))) (mOr (mB (mOp wLt (mCB wLen (mCons (mVar 2) mNil)) (mC (.int 1)))) (mB (mOp wGt (mCB wLen (mCons (mVar 2) mNil)) (mC (.int 3)))))) mNever mNext)
    (mSeq (mForI (iSq (mVar 2)) (gN 3) (mIfS (mOr (mNot (mB (mCB F_is_sequence (mCons (mVar 3) mNil)))) (mOr (mB (mOp wLt (mCB wLen (mCons (mVar 3) mNil)) (mC (.int 1)))) (mB (mOp wGt (mCB wLen (mCons (mVar 3) mNil)) (mC (.int 4)))))) mNever mNext))
    (mSeq (mIfS (mB (mOp wGt (mCB wSum (mCons (mFrz (mLc (iSq (mVar 2)) 3 mYes (mCB wLen (mCons (mVar 3) mNil)))) mNil)) (mC (.int 7)))) mNever mNext)
    (mSeq (mAsg (mCB wTuple (mCons (mFrz (mLc (iSq (mVar 2)) 3 mYes (mCB F_checked_steps (mCons (mVar 1) (mCons (mVar 3) mNil))))) mNil)) 4)
    (mSeq (mForI (iSq (mVar 4)) (gN 3) (mIfS (mB (mCB F_goes_by_adds (mCons (mVar 3) mNil))) mNever mNext))
    (mSeq (mIfS (mB (mCB F_has_unlike_names (mCons (mVar 4) mNil))) mNever mNext)
    (mSeq (mSetF 331 (mVar 1) (mVar 0) "cells")
    (mSetF 331 (mVar 4) (mVar 0) "programs")))))))))
theorem t_Lot_init (t : Top K mg) {F_is_whole F_is_sequence F_checked_steps F_goes_by_adds F_has_unlike_names : FD} (f_is_whole : Fn P w K mg base T0 1 "is_whole" F_is_whole) (f_is_sequence : Fn P w K mg base T0 1 "is_sequence" F_is_sequence) (f_checked_steps : Fn P w K mg base T0 4 "checked_steps" F_checked_steps) (f_goes_by_adds : Fn P w K mg base T0 1 "goes_by_adds" F_goes_by_adds) (f_has_unlike_names : Fn P w K mg base T0 2 "has_unlike_names" F_has_unlike_names) {cdv : Value} {A : Around} {outer : List Env} {s : Shared} {H B : Hp} {E : XK} (hr : Room 4 (A.deeper (envOfC d_Lot_init.qual d_Lot_init.scope s.heap.objs.size 270 cdv))) :
    RSs (CD P w K mg base N_Lot_init d_Lot_init.qual d_Lot_init.scope 270 cdv A outer s H E) T0 B d_Lot_init.body (m_Lot_init F_is_whole F_is_sequence F_checked_steps F_goes_by_adds F_has_unlike_names) := by
  have hN : N_Lot_init.Nodup := by decide
  exact (rss_cons (rs_if (rt_not (rt_val (re_def f_is_whole hr (by decide) rfl (ra_cons (rv 1) (ra_cons re_int (ra_cons re_int ra_nil)))))) (rss_one rs_never) rss_nil)
    (rss_cons (rs_if (rt_bool (rw_or (rt_not (rt_val (re_def f_is_sequence hr (by decide) rfl (ra_cons (rv 2) ra_nil)))) (rw_or (cm_lt.rt (re_len rfl t.n_len (ra_cons (rv 2) ra_nil)) re_int) (rw_or1 (cm_gt.rt (re_len rfl t.n_len (ra_cons (rv 2) ra_nil)) re_int))))) (rss_one rs_never) rss_nil)
    (rss_cons (rs_forI .never rfl (ri_seq (rv 2)) (rg_n hN rfl (.inl rfl)) (rss_one (rs_if (rt_bool (rw_or (rt_not (rt_val (re_def f_is_sequence hr (by decide) rfl (ra_cons (rv 3) ra_nil)))) (rw_or (cm_lt.rt (re_len rfl t.n_len (ra_cons (rv 3) ra_nil)) re_int) (rw_or1 (cm_gt.rt (re_len rfl t.n_len (ra_cons (rv 3) ra_nil)) re_int))))) (rss_one rs_never) rss_nil)))
    (rss_cons (rs_if (cm_gt.rt (re_sum rfl rfl t.n_sum (ra_cons (re_frz (re_lc rfl hN (j := 3) rfl (show blkC N_Lot_init d_Lot_init.scope _ [("program", 3)] = true from by decide +kernel) (fun _ _ => rfl) (ri_seq (rv 2)) (fun _ _ _ _ _ => rts_nil) (fun _ _ _ _ _ => (re_len rfl t.n_len (ra_cons (rv 3) ra_nil))))) ra_nil)) re_int) (rss_one rs_never) rss_nil)
    (rss_cons (rs_set hN rfl (.inl rfl) (re_tuple rfl t.n_tuple (ra_cons (re_frz (re_lc rfl hN (j := 3) rfl (show blkC N_Lot_init d_Lot_init.scope _ [("program", 3)] = true from by decide +kernel) (fun _ _ => rfl) (ri_seq (rv 2)) (fun _ _ _ _ _ => rts_nil) (fun _ _ _ _ _ => (re_def f_checked_steps hr (by decide) rfl (ra_cons (rv 1) (ra_cons (rv 3) ra_nil)))))) ra_nil)))
    (rss_cons (rs_forI .never rfl (ri_seq (rv 4)) (rg_n hN rfl (.inl rfl)) (rss_one (rs_if (rt_val (re_def f_goes_by_adds hr (by decide) rfl (ra_cons (rv 3) ra_nil))) (rss_one rs_never) rss_nil)))
    (rss_cons (rs_if (rt_val (re_def f_has_unlike_names hr (by decide) rfl (ra_cons (rv 4) ra_nil))) (rss_one rs_never) rss_nil)
    (rss_cons (rs_setF (rv 0) (rv 1) t.cls_Lot t.no_cells)
    (rss_one (rs_setF (rv 0) (rv 4) t.cls_Lot t.no_programs))))))))))
abbrev N_Meaning_init : List Str := ["self", "modulus", "tables", "held", "couple", "name"]
def m_Meaning_init (F_is_whole F_checked_name F_checked_table : FD) : MS := (mSeq (mIfS (mNot (mB (mCB F_is_whole (mCons (mVar 1) (mCons (mC (.int 2)) (mCons (mC (.int 3)) mNil)))))) mNever mNext)
    (mSeq (mIfS (mNot (mB (mCB wIsiS (mCons (mVar 2) (mCons (mTup (mCons (mC (.ty "list")) (mCons (mC (.ty "tuple")) mNil))) mNil))))) mNever mNext)
    (mSeq (mAsg mNewK 3)
    (mSeq (mForI (iSq (mVar 2)) (gN 4) (mSeq (mAsg (mCB F_checked_name (mCons (mVar 4) (mCons (mVar 3) mNil))) 5)
    (mAsgG (mCB F_checked_table (mCons (mVar 1) (mCons (mOp wIx (mVar 4) (mC (.int 1))) mNil))) (gSet (mVar 3) (mVar 5)))))
    (mSeq (mSetF 454 (mVar 1) (mVar 0) "modulus")
    (mSetF 454 (mCB wTuple (mCons (mFrz (mLc (iSq (mCB wSortK (mCons (mVar 3) mNil))) 5 mYes (mTup (mCons (mVar 5) (mCons (mOp wIx (mVar 3) (mVar 5)) mNil))))) mNil)) (mVar 0) "tables"))))))
theorem t_Meaning_init (t : Top K mg) {F_is_whole F_checked_name F_checked_table : FD} (f_is_whole : Fn P w K mg base T0 1 "is_whole" F_is_whole) (f_checked_name : Fn P w K mg base T0 3 "checked_name" F_checked_name) (f_checked_table : Fn P w K mg base T0 3 "checked_table" F_checked_table) {cdv : Value} {A : Around} {outer : List Env} {s : Shared} {H B : Hp} {E : XK} (hr : Room 3 (A.deeper (envOfC d_Meaning_init.qual d_Meaning_init.scope s.heap.objs.size 437 cdv))) :
    RSs (CD P w K mg base N_Meaning_init d_Meaning_init.qual d_Meaning_init.scope 437 cdv A outer s H E) T0 B d_Meaning_init.body (m_Meaning_init F_is_whole F_checked_name F_checked_table) := by
  have hN : N_Meaning_init.Nodup := by decide
  exact (rss_cons (rs_if (rt_not (rt_val (re_def f_is_whole hr (by decide) rfl (ra_cons (rv 1) (ra_cons re_int (ra_cons re_int ra_nil)))))) (rss_one rs_never) rss_nil)
    (rss_cons (rs_if (rt_not (rt_val (re_isiS rfl t.n_isinstance (ra_cons (rv 2) (ra_cons (re_tup (ra_cons (re_ty rfl t.n_list rfl) (ra_cons (re_ty rfl t.n_tuple rfl) ra_nil))) ra_nil))))) (rss_one rs_never) rss_nil)
    (rss_cons (rs_set hN rfl (.inr rfl) re_newK)
    (rss_cons (rs_forI .never rfl (ri_seq (rv 2)) (rg_n hN rfl (.inl rfl)) (rss_cons (rs_set hN rfl (.inl rfl) (re_def f_checked_name hr (by decide) rfl (ra_cons (rv 4) (ra_cons (rv 3) ra_nil))))
    (rss_one (rs_asg (re_def f_checked_table hr (by decide) rfl (ra_cons (rv 1) (ra_cons (re_sb hr (rv 4) re_int) ra_nil))) (rg_s hr (rv 3) (rv 5))))))
    (rss_cons (rs_setF (rv 0) (rv 1) t.cls_Meaning t.no_modulus)
    (rss_one (rs_setF (rv 0) (re_tuple rfl t.n_tuple (ra_cons (re_frz (re_lc rfl hN (j := 5) rfl (show blkC N_Meaning_init d_Meaning_init.scope _ [("name", 5)] = true from by decide +kernel) (fun _ _ => rfl) (ri_seq (re_sortK rfl rfl t.n_sorted (ra_cons (rv 3) ra_nil))) (fun _ _ _ _ _ => rts_nil) (fun _ _ _ _ _ => (re_tup (ra_cons (rv 5) (ra_cons (re_sb hr (rv 3) (rv 5)) ra_nil)))))) ra_nil)) t.cls_Meaning t.no_tables)))))))
abbrev N_Meaning_table_of : List Str := ["self", "name", "known", "table"]
def m_Meaning_table_of : MS := (mSeq (mForI (iSq (mFld 454 (mVar 0) "tables")) (gT 2 (gCons' (gN 2) (gCons' (gN 3) gNil'))) (mIfS (mB (mOp wEq (mVar 2) (mVar 1))) (mRet (mVar 3)) mNext))
    (mRet (mC .non)))
theorem t_Meaning_table_of (t : Top K mg) {cdv : Value} {A : Around} {outer : List Env} {s : Shared} {H B : Hp} {E : XK} (hr : Room 0 (A.deeper (envOfC d_Meaning_table_of.qual d_Meaning_table_of.scope s.heap.objs.size 451 cdv))) :
    RSs (CD P w K mg base N_Meaning_table_of d_Meaning_table_of.qual d_Meaning_table_of.scope 451 cdv A outer s H E) T0 B d_Meaning_table_of.body (m_Meaning_table_of ) := by
  have hN : N_Meaning_table_of.Nodup := by decide
  exact (rss_cons (rs_forI .never rfl (ri_seq (re_fld (rv 0) t.cls_Meaning t.no_tables)) (rg_t rfl (rgs_cons (rg_n hN rfl (.inl rfl)) (rgs_cons (rg_n hN rfl (.inl rfl)) rgs_nil))) (rss_one (rs_if ((cm_eq hr).rt (rv 2) (rv 1)) (rss_one (rs_ret (rv 3))) rss_nil)))
    (rss_one (rs_ret re_non)))
abbrev N_L_hand : List Str := ["_law_script", "_law_total", "_law_cells", "_law_cell"]
def m_L_hand : MS := (mSeq (mAsg (mOp wAdd (mCB wLen (mCons (mVar 0) mNil)) (mC (.int 43))) 1)
    (mSeq (mAsg (mLstO mNil) 2)
    (mSeq (mForI (iSq (mVar 0)) (gN 3) (mSeq (mAsg (mOp wMod (mCB wInt (mCons (mOp wAdd (mOp wMul (mVar 1) (mC (.int 2003))) (mCB wInt (mCons (mVar 3) mNil))) mNil)) (mC (.int 2147483563))) 1)
    (mDrop (mBM wApp (mVar 2) (mCons (mCB wAbs (mCons (mCB wInt (mCons (mVar 3) mNil)) mNil)) mNil)))))
    (mRet (mLstO (mCons (mFrz (mVar 2)) (mCons (mC (.int 0)) (mCons (mC (.int 0)) (mCons (mVar 1) mNil)))))))))
theorem t_L_hand (t : Top K mg) {cdv : Value} {A : Around} {outer : List Env} {s : Shared} {H B : Hp} {E : XK} (hr : Room 0 (A.deeper (envOfC d_L_hand.qual d_L_hand.scope s.heap.objs.size 536 cdv))) :
    RSs (CD P w K mg base N_L_hand d_L_hand.qual d_L_hand.scope 536 cdv A outer s H E) T0 B d_L_hand.body (m_L_hand ) := by
  have hN : N_L_hand.Nodup := by decide
  exact (rss_cons (rs_set hN rfl (.inl rfl) (re_add (re_len rfl t.n_len (ra_cons (rv 0) ra_nil)) re_int))
    (rss_cons (rs_set hN rfl (.inl rfl) (re_lstO ra_nil))
    (rss_cons (rs_forI .never rfl (ri_seq (rv 0)) (rg_n hN rfl (.inl rfl)) (rss_cons (rs_set hN rfl (.inl rfl) (re_mod (re_intc rfl t.n_int (ra_cons (re_add (re_mul (rv 1) re_int) (re_intc rfl t.n_int (ra_cons (rv 3) ra_nil))) ra_nil)) re_int))
    (rss_one (rs_expr (re_app (rv 2) (ra_cons (re_abs rfl t.n_abs (ra_cons (re_intc rfl t.n_int (ra_cons (rv 3) ra_nil)) ra_nil)) ra_nil))))))
    (rss_one (rs_ret (re_lstO (ra_cons (re_frz (rv 2)) (ra_cons re_int (ra_cons re_int (ra_cons (rv 1) ra_nil))))))))))
abbrev N_L_mixed : List Str := ["_law_number", "_law_turn", "_law_once", "_law_twice"]
def m_L_mixed : MS := (mSeq (mAsg (mOp wMod (mCB wInt (mCons (mOp wAdd (mOp wAdd (mOp wMul (mVar 0) (mC (.int 39373))) (mOp wMul (mVar 1) (mC (.int 6151)))) (mC (.int 50021))) mNil)) (mC (.int 2147483399))) 2)
    (mSeq (mAsg (mOp wMod (mCB wInt (mCons (mOp wAdd (mOp wAdd (mOp wMul (mVar 2) (mVar 2)) (mOp wMul (mVar 1) (mC (.int 81071)))) (mOp wDiv (mVar 2) (mC (.int 137)))) mNil)) (mC (.int 2147483629))) 3)
    (mRet (mOp wDiv (mCB wInt (mCons (mOp wMod (mCB wInt (mCons (mOp wAdd (mOp wMul (mVar 3) (mC (.int 62089))) (mOp wDiv (mVar 2) (mC (.int 11)))) mNil)) (mC (.int 2147483587))) mNil)) (mC (.int 64))))))
theorem t_L_mixed (t : Top K mg) {cdv : Value} {A : Around} {outer : List Env} {s : Shared} {H B : Hp} {E : XK} (hr : Room 0 (A.deeper (envOfC d_L_mixed.qual d_L_mixed.scope s.heap.objs.size 543 cdv))) :
    RSs (CD P w K mg base N_L_mixed d_L_mixed.qual d_L_mixed.scope 543 cdv A outer s H E) T0 B d_L_mixed.body (m_L_mixed ) := by
  have hN : N_L_mixed.Nodup := by decide
  exact (rss_cons (rs_set hN rfl (.inl rfl) (re_mod (re_intc rfl t.n_int (ra_cons (re_add (re_add (re_mul (rv 0) re_int) (re_mul (rv 1) re_int)) re_int) ra_nil)) re_int))
    (rss_cons (rs_set hN rfl (.inl rfl) (re_mod (re_intc rfl t.n_int (ra_cons (re_add (re_add (re_mul (rv 2) (rv 2)) (re_mul (rv 1) re_int)) (re_div (rv 2) re_int)) ra_nil)) re_int))
    (rss_one (rs_ret (re_div (re_intc rfl t.n_int (ra_cons (re_mod (re_intc rfl t.n_int (ra_cons (re_add (re_mul (rv 3) re_int) (re_div (rv 2) re_int)) ra_nil)) re_int) ra_nil)) re_int)))))
abbrev N_L_take : List Str := ["_law_hand_here", "_law_many", "_law_cell", "_law_rest"]
def m_L_take (F_L_mixed : FD) : MS := (mSeq (mIfS (mAnd (mB (mOp wEq (mOp wIx (mVar 0) (mC (.int 2))) (mC (.int 0)))) (mB (mOp wLt (mOp wIx (mVar 0) (mC (.int 1))) (mCB wLen (mCons (mOp wIx (mVar 0) (mC (.int 0))) mNil))))) (mSeq (mAsg (mOp wIx (mOp wIx (mVar 0) (mC (.int 0))) (mOp wIx (mVar 0) (mC (.int 1)))) 2)
    (mSeq (mAsgG (mOp wAdd (mOp wIx (mVar 0) (mC (.int 1))) (mC (.int 1))) (gSet (mVar 0) (mC (.int 1))))
    (mSeq (mIfS (mB (mOp wLt (mVar 2) (mOp wPow (mC (.int 10)) (mC (.int 18))))) (mRet (mOp wMod (mCB wInt (mCons (mCB F_L_mixed (mCons (mOp wMod (mCB wInt (mCons (mVar 2) mNil)) (mC (.int 2147483399))) (mCons (mOp wIx (mVar 0) (mC (.int 1))) mNil))) mNil)) (mVar 1))) mNext)
    (mAsgG (mVar 2) (gSet (mVar 0) (mC (.int 2))))))) mNext)
    (mSeq (mIfS (mB (mOp wGt (mOp wIx (mVar 0) (mC (.int 2))) (mC (.int 0)))) (mSeq (mAsg (mOp wIx (mVar 0) (mC (.int 2))) 3)
    (mSeq (mAsgG (mOp wDiv (mCB wInt (mCons (mVar 3) mNil)) (mVar 1)) (gSet (mVar 0) (mC (.int 2))))
    (mRet (mOp wMod (mCB wInt (mCons (mVar 3) mNil)) (mVar 1))))) mNext)
    (mSeq (mAsgG (mOp wMod (mCB wInt (mCons (mOp wAdd (mOp wIx (mVar 0) (mC (.int 3))) (mC (.int 1))) mNil)) (mC (.int 2147483549))) (gSet (mVar 0) (mC (.int 3))))
    (mRet (mOp wMod (mCB wInt (mCons (mCB F_L_mixed (mCons (mOp wIx (mVar 0) (mC (.int 3))) (mCons (mOp wIx (mVar 0) (mC (.int 1))) mNil))) mNil)) (mVar 1))))))
theorem t_L_take (t : Top K mg) {F_L_mixed : FD} (f_L_mixed : Fn P w K mg base T0 1 "_law_mixed" F_L_mixed) {cdv : Value} {A : Around} {outer : List Env} {s : Shared} {H B : Hp} {E : XK} (hr : Room 1 (A.deeper (envOfC d_L_take.qual d_L_take.scope s.heap.objs.size 550 cdv))) :
    RSs (CD P w K mg base N_L_take d_L_take.qual d_L_take.scope 550 cdv A outer s H E) T0 B d_L_take.body (m_L_take F_L_mixed) := by
  have hN : N_L_take.Nodup := by decide
  exact (rss_cons (rs_if (rt_bool (rw_and ((cm_eq hr).rt (re_sb hr (rv 0) re_int) re_int) (rw_and1 (cm_lt.rt (re_sb hr (rv 0) re_int) (re_len rfl t.n_len (ra_cons (re_sb hr (rv 0) re_int) ra_nil)))))) (rss_cons (rs_set hN rfl (.inl rfl) (re_sb hr (re_sb hr (rv 0) re_int) (re_sb hr (rv 0) re_int)))
    (rss_cons (rs_asg (re_add (re_sb hr (rv 0) re_int) re_int) (rg_s hr (rv 0) re_int))
    (rss_cons (rs_if (cm_lt.rt (rv 2) (re_pow re_int re_int)) (rss_one (rs_ret (re_mod (re_intc rfl t.n_int (ra_cons (re_def f_L_mixed hr (by decide) rfl (ra_cons (re_mod (re_intc rfl t.n_int (ra_cons (rv 2) ra_nil)) re_int) (ra_cons (re_sb hr (rv 0) re_int) ra_nil))) ra_nil)) (rv 1)))) rss_nil)
    (rss_one (rs_asg (rv 2) (rg_s hr (rv 0) re_int)))))) rss_nil)
    (rss_cons (rs_if (cm_gt.rt (re_sb hr (rv 0) re_int) re_int) (rss_cons (rs_set hN rfl (.inl rfl) (re_sb hr (rv 0) re_int))
    (rss_cons (rs_asg (re_div (re_intc rfl t.n_int (ra_cons (rv 3) ra_nil)) (rv 1)) (rg_s hr (rv 0) re_int))
    (rss_one (rs_ret (re_mod (re_intc rfl t.n_int (ra_cons (rv 3) ra_nil)) (rv 1)))))) rss_nil)
    (rss_cons (rs_asg (re_mod (re_intc rfl t.n_int (ra_cons (re_add (re_sb hr (rv 0) re_int) re_int) ra_nil)) re_int) (rg_s hr (rv 0) re_int))
    (rss_one (rs_ret (re_mod (re_intc rfl t.n_int (ra_cons (re_def f_L_mixed hr (by decide) rfl (ra_cons (re_sb hr (rv 0) re_int) (ra_cons (re_sb hr (rv 0) re_int) ra_nil))) ra_nil)) (rv 1)))))))
abbrev N_L_power : List Str := ["_law_base", "_law_exponent", "_law_total", "_law_k"]
def m_L_power : MS := (mSeq (mAsg (mC (.int 1)) 2)
    (mSeq (mForI (iRg1 (mCons (mVar 1) mNil)) (gN 3) (mAsg (mOp wMul (mVar 2) (mVar 0)) 2))
    (mRet (mVar 2))))
theorem t_L_power (t : Top K mg) {cdv : Value} {A : Around} {outer : List Env} {s : Shared} {H B : Hp} {E : XK} (hr : Room 0 (A.deeper (envOfC d_L_power.qual d_L_power.scope s.heap.objs.size 557 cdv))) :
    RSs (CD P w K mg base N_L_power d_L_power.qual d_L_power.scope 557 cdv A outer s H E) T0 B d_L_power.body (m_L_power ) := by
  have hN : N_L_power.Nodup := by decide
  exact (rss_cons (rs_set hN rfl (.inl rfl) re_int)
    (rss_cons (rs_forI .never rfl (ri_range1 rfl t.n_range (ra_cons (rv 1) ra_nil)) (rg_n hN rfl (.inl rfl)) (rss_one (rs_set hN rfl (.inl rfl) (re_mul (rv 2) (rv 0)))))
    (rss_one (rs_ret (rv 2)))))
abbrev N_L_sizes : List Str := ["_law_hand_here"]
def m_L_sizes (F_L_take : FD) : MS := (mSeq (mIfS (mB (mOp wEq (mCB F_L_take (mCons (mVar 0) (mCons (mC (.int 4)) mNil))) (mC (.int 0)))) (mRet (mOp wIx (mLst (mCons (mLst (mCons (mC (.int 2)) (mCons (mC (.int 2)) (mCons (mC (.int 1)) mNil)))) (mCons (mLst (mCons (mC (.int 2)) (mCons (mC (.int 1)) (mCons (mC (.int 2)) mNil)))) (mCons (mLst (mCons (mC (.int 1)) (mCons (mC (.int 2)) (mCons (mC (.int 2)) mNil)))) (mCons (mLst (mCons (mC (.int 2)) (mCons (mC (.int 1)) (mCons (mC (.int 1)) mNil)))) mNil))))) (mCB F_L_take (mCons (mVar 0) (mCons (mC (.int 4)) mNil))))) mNext)
    (mRet (mLst (mCons (mOp wIx (mLst (mCons (mC (.int 2)) (mCons (mC (.int 3)) (mCons (mC (.int 2)) (mCons (mC (.int 3)) (mCons (mC (.int 1)) mNil)))))) (mCB F_L_take (mCons (mVar 0) (mCons (mC (.int 5)) mNil)))) (mCons (mOp wIx (mLst (mCons (mC (.int 2)) (mCons (mC (.int 3)) (mCons (mC (.int 2)) (mCons (mC (.int 3)) (mCons (mC (.int 1)) mNil)))))) (mCB F_L_take (mCons (mVar 0) (mCons (mC (.int 5)) mNil)))) mNil)))))
theorem t_L_sizes (t : Top K mg) {F_L_take : FD} (f_L_take : Fn P w K mg base T0 2 "_law_take" F_L_take) {cdv : Value} {A : Around} {outer : List Env} {s : Shared} {H B : Hp} {E : XK} (hr : Room 2 (A.deeper (envOfC d_L_sizes.qual d_L_sizes.scope s.heap.objs.size 564 cdv))) :
    RSs (CD P w K mg base N_L_sizes d_L_sizes.qual d_L_sizes.scope 564 cdv A outer s H E) T0 B d_L_sizes.body (m_L_sizes F_L_take) := by
  have hN : N_L_sizes.Nodup := by decide
  exact (rss_cons (rs_if ((cm_eq hr).rt (re_def f_L_take hr (by decide) rfl (ra_cons (rv 0) (ra_cons re_int ra_nil))) re_int) (rss_one (rs_ret (re_sb hr (re_lst (ra_cons (re_lst (ra_cons re_int (ra_cons re_int (ra_cons re_int ra_nil)))) (ra_cons (re_lst (ra_cons re_int (ra_cons re_int (ra_cons re_int ra_nil)))) (ra_cons (re_lst (ra_cons re_int (ra_cons re_int (ra_cons re_int ra_nil)))) (ra_cons (re_lst (ra_cons re_int (ra_cons re_int (ra_cons re_int ra_nil)))) ra_nil))))) (re_def f_L_take hr (by decide) rfl (ra_cons (rv 0) (ra_cons re_int ra_nil)))))) rss_nil)
    (rss_one (rs_ret (re_lst (ra_cons (re_sb hr (re_lst (ra_cons re_int (ra_cons re_int (ra_cons re_int (ra_cons re_int (ra_cons re_int ra_nil)))))) (re_def f_L_take hr (by decide) rfl (ra_cons (rv 0) (ra_cons re_int ra_nil)))) (ra_cons (re_sb hr (re_lst (ra_cons re_int (ra_cons re_int (ra_cons re_int (ra_cons re_int (ra_cons re_int ra_nil)))))) (re_def f_L_take hr (by decide) rfl (ra_cons (rv 0) (ra_cons re_int ra_nil)))) ra_nil))))))
abbrev N_L_shape : List Str := ["_law_step"]
def m_L_shape : MS := (mSeq (mIfS (mB (mOp wEq (mOp wIx (mVar 0) (mC (.int 1))) (mC (.str "adds")))) (mRet (mTup (mCons (mOp wIx (mVar 0) (mC (.int 1))) (mCons (mCB wLen (mCons (mOp wIx (mVar 0) (mC (.int 2))) mNil)) (mCons (mOp wIx (mVar 0) (mC (.int 0))) mNil))))) mNext)
    (mRet (mTup (mCons (mOp wIx (mVar 0) (mC (.int 1))) (mCons (mCB wLen (mCons (mOp wIx (mVar 0) (mC (.int 2))) mNil)) (mCons (mUn wNeg (mC (.int 1))) mNil))))))
theorem t_L_shape (t : Top K mg) {cdv : Value} {A : Around} {outer : List Env} {s : Shared} {H B : Hp} {E : XK} (hr : Room 0 (A.deeper (envOfC d_L_shape.qual d_L_shape.scope s.heap.objs.size 571 cdv))) :
    RSs (CD P w K mg base N_L_shape d_L_shape.qual d_L_shape.scope 571 cdv A outer s H E) T0 B d_L_shape.body (m_L_shape ) := by
  have hN : N_L_shape.Nodup := by decide
  exact (rss_cons (rs_if ((cm_eq hr).rt (re_sb hr (rv 0) re_int) re_str) (rss_one (rs_ret (re_tup (ra_cons (re_sb hr (rv 0) re_int) (ra_cons (re_len rfl t.n_len (ra_cons (re_sb hr (rv 0) re_int) ra_nil)) (ra_cons (re_sb hr (rv 0) re_int) ra_nil)))))) rss_nil)
    (rss_one (rs_ret (re_tup (ra_cons (re_sb hr (rv 0) re_int) (ra_cons (re_len rfl t.n_len (ra_cons (re_sb hr (rv 0) re_int) ra_nil)) (ra_cons (re_neg re_int) ra_nil)))))))
abbrev N_L_steps : List Str := ["_law_hand_here", "_law_cells", "_law_size", "_law_told", "_law_steps_here", "_law_place", "_law_kind", "_law_cell", "_law_by", "_law_k", "_law_name", "_law_alike", "_law_step"]
def m_L_steps (F_L_take F_L_shape : FD) : MS := (mSeq (mAsg (mLstO mNil) 4)
    (mSeq (mForI (iRg1 (mCons (mVar 2) mNil)) (gN 5) (mSeq (mAsg (mOp wIx (mLst (mCons (mC (.str "any")) (mCons (mC (.str "any")) (mCons (mC (.str "any")) (mCons (mC (.str "kept")) (mCons (mC (.str "kept")) (mCons (mC (.str "adds")) mNil))))))) (mCB F_L_take (mCons (mVar 0) (mCons (mC (.int 6)) mNil)))) 6)
    (mSeq (mAsg (mCB F_L_take (mCons (mVar 0) (mCons (mVar 1) mNil))) 7)
    (mSeq (mAsg (mLstO mNil) 8)
    (mSeq (mIfS (mB (mOp wNe (mVar 6) (mC (.str "kept")))) (mForI (iRg1 (mCons (mVar 5) mNil)) (gN 9) (mIfS (mAnd (mB (mOp wNe (mOp wIx (mOp wIx (mVar 4) (mVar 9)) (mC (.int 1))) (mC (.str "adds")))) (mB (mOp wEq (mCB F_L_take (mCons (mVar 0) (mCons (mC (.int 2)) mNil))) (mC (.int 0))))) (mDrop (mBM wApp (mVar 8) (mCons (mVar 9) mNil))) mNext)) mNext)
    (mSeq (mIfS (mAnd (mB (mOp wEq (mVar 6) (mC (.str "any")))) (mB (mOp wGt (mCB F_L_take (mCons (mVar 0) (mCons (mC (.int 5)) mNil))) (mC (.int 0))))) (mDrop (mBM wApp (mVar 8) (mCons (mVar 5) mNil))) mNext)
    (mSeq (mAsg (mUn wNeg (mC (.int 1))) 10)
    (mSeq (mIfS (mB (mOp wNe (mVar 6) (mC (.str "kept")))) (mSeq (mAsg (mCB wLen (mCons (mVar 3) mNil)) 10)
    (mIfS (mB (mOp wEq (mCB F_L_take (mCons (mVar 0) (mCons (mC (.int 3)) mNil))) (mC (.int 0)))) (mSeq (mAsg (mFrz (mLc (iSq (mVar 3)) 12 (mB (mOp wEq (mCB F_L_shape (mCons (mVar 12) mNil)) (mCB F_L_shape (mCons (mTup (mCons (mVar 7) (mCons (mVar 6) (mCons (mCB wTuple (mCons (mVar 8) mNil)) (mCons (mC (.int 0)) mNil))))) mNil)))) (mVar 12))) 11)
    (mIfS (mB (mOp wGt (mCB wLen (mCons (mVar 11) mNil)) (mC (.int 0)))) (mAsg (mOp wIx (mOp wIx (mVar 11) (mCB F_L_take (mCons (mVar 0) (mCons (mCB wLen (mCons (mVar 11) mNil)) mNil)))) (mC (.int 3))) 10) mNext)) mNext)) mNext)
    (mSeq (mDrop (mBM wApp (mVar 4) (mCons (mTup (mCons (mVar 7) (mCons (mVar 6) (mCons (mCB wTuple (mCons (mVar 8) mNil)) (mCons (mVar 10) mNil))))) mNil)))
    (mDrop (mBM wApp (mVar 3) (mCons (mOp wIx (mVar 4) (mVar 5)) mNil))))))))))))
    (mRet (mCB wTuple (mCons (mVar 4) mNil)))))
theorem t_L_steps (t : Top K mg) {F_L_take F_L_shape : FD} (f_L_take : Fn P w K mg base T0 2 "_law_take" F_L_take) (f_L_shape : Fn P w K mg base T0 1 "_law_shape" F_L_shape) {cdv : Value} {A : Around} {outer : List Env} {s : Shared} {H B : Hp} {E : XK} (hr : Room 2 (A.deeper (envOfC d_L_steps.qual d_L_steps.scope s.heap.objs.size 576 cdv))) :
    RSs (CD P w K mg base N_L_steps d_L_steps.qual d_L_steps.scope 576 cdv A outer s H E) T0 B d_L_steps.body (m_L_steps F_L_take F_L_shape) := by
  have hN : N_L_steps.Nodup := by decide
  exact (rss_cons (rs_set hN rfl (.inl rfl) (re_lstO ra_nil))
    (rss_cons (rs_forI .never rfl (ri_range1 rfl t.n_range (ra_cons (rv 2) ra_nil)) (rg_n hN rfl (.inl rfl)) (rss_cons (rs_set hN rfl (.inr rfl) (re_sb hr (re_lst (ra_cons re_str (ra_cons re_str (ra_cons re_str (ra_cons re_str (ra_cons re_str (ra_cons re_str ra_nil))))))) (re_def f_L_take hr (by decide) rfl (ra_cons (rv 0) (ra_cons re_int ra_nil)))))
    (rss_cons (rs_set hN rfl (.inr rfl) (re_def f_L_take hr (by decide) rfl (ra_cons (rv 0) (ra_cons (rv 1) ra_nil))))
    (rss_cons (rs_set hN rfl (.inr rfl) (re_lstO ra_nil))
    (rss_cons (rs_if ((cm_ne hr).rt (rv 6) re_str) (rss_one (rs_forI .never rfl (ri_range1 rfl t.n_range (ra_cons (rv 5) ra_nil)) (rg_n hN rfl (.inl rfl)) (rss_one (rs_if (rt_bool (rw_and ((cm_ne hr).rt (re_sb hr (re_sb hr (rv 4) (rv 9)) re_int) re_str) (rw_and1 ((cm_eq hr).rt (re_def f_L_take hr (by decide) rfl (ra_cons (rv 0) (ra_cons re_int ra_nil))) re_int)))) (rss_one (rs_expr (re_app (rv 8) (ra_cons (rv 9) ra_nil)))) rss_nil)))) rss_nil)
    (rss_cons (rs_if (rt_bool (rw_and ((cm_eq hr).rt (rv 6) re_str) (rw_and1 (cm_gt.rt (re_def f_L_take hr (by decide) rfl (ra_cons (rv 0) (ra_cons re_int ra_nil))) re_int)))) (rss_one (rs_expr (re_app (rv 8) (ra_cons (rv 5) ra_nil)))) rss_nil)
    (rss_cons (rs_set hN rfl (.inl rfl) (re_neg re_int))
    (rss_cons (rs_if ((cm_ne hr).rt (rv 6) re_str) (rss_cons (rs_set hN rfl (.inl rfl) (re_len rfl t.n_len (ra_cons (rv 3) ra_nil)))
    (rss_one (rs_if ((cm_eq hr).rt (re_def f_L_take hr (by decide) rfl (ra_cons (rv 0) (ra_cons re_int ra_nil))) re_int) (rss_cons (rs_setLcF rfl hN rfl rfl (sw_true rfl rfl rfl rfl) (j := 12) rfl (show blkC N_L_steps d_L_steps.scope _ [("_law_step", 12)] = true from by decide +kernel) (fun _ _ => rfl) (ri_seq (rv 3)) (fun _ _ _ _ _ => (rts_one ((cm_eq hr).rt (re_def f_L_shape hr (by decide) rfl (ra_cons (rv 12) ra_nil)) (re_def f_L_shape hr (by decide) rfl (ra_cons (re_tup (ra_cons (rv 7) (ra_cons (rv 6) (ra_cons (re_tuple rfl t.n_tuple (ra_cons (rv 8) ra_nil)) (ra_cons re_int ra_nil))))) ra_nil))))) (fun _ _ _ _ _ => (rv 12)))
    (rss_one (rs_if (cm_gt.rt (re_len rfl t.n_len (ra_cons (rv 11) ra_nil)) re_int) (rss_one (rs_set hN rfl (.inl rfl) (re_sb hr (re_sb hr (rv 11) (re_def f_L_take hr (by decide) rfl (ra_cons (rv 0) (ra_cons (re_len rfl t.n_len (ra_cons (rv 11) ra_nil)) ra_nil)))) re_int))) rss_nil))) rss_nil))) rss_nil)
    (rss_cons (rs_expr (re_app (rv 4) (ra_cons (re_tup (ra_cons (rv 7) (ra_cons (rv 6) (ra_cons (re_tuple rfl t.n_tuple (ra_cons (rv 8) ra_nil)) (ra_cons (rv 10) ra_nil))))) ra_nil)))
    (rss_one (rs_expr (re_app (rv 3) (ra_cons (re_sb hr (rv 4) (rv 5)) ra_nil)))))))))))))
    (rss_one (rs_ret (re_tuple rfl t.n_tuple (ra_cons (rv 4) ra_nil))))))
abbrev N_L_lot : List Str := ["_law_hand_here", "_law_cells", "_law_sizes_here", "_law_told", "_law_size"]
def m_L_lot (F_L_steps : FD) : MS := (mSeq (mAsg (mLstO mNil) 3)
    (mRet (mTup (mCons (mVar 1) (mCons (mCB wTuple (mCons (mFrz (mLc (iSq (mVar 2)) 4 mYes (mCB F_L_steps (mCons (mVar 0) (mCons (mVar 1) (mCons (mVar 4) (mCons (mVar 3) mNil))))))) mNil)) mNil)))))
theorem t_L_lot (t : Top K mg) {F_L_steps : FD} (f_L_steps : Fn P w K mg base T0 3 "_law_steps" F_L_steps) {cdv : Value} {A : Around} {outer : List Env} {s : Shared} {H B : Hp} {E : XK} (hr : Room 3 (A.deeper (envOfC d_L_lot.qual d_L_lot.scope s.heap.objs.size 581 cdv))) :
    RSs (CD P w K mg base N_L_lot d_L_lot.qual d_L_lot.scope 581 cdv A outer s H E) T0 B d_L_lot.body (m_L_lot F_L_steps) := by
  have hN : N_L_lot.Nodup := by decide
  exact (rss_cons (rs_set hN rfl (.inr rfl) (re_lstO ra_nil))
    (rss_one (rs_ret (re_tup (ra_cons (rv 1) (ra_cons (re_tuple rfl t.n_tuple (ra_cons (re_frz (re_lc rfl hN (j := 4) rfl (show blkC N_L_lot d_L_lot.scope _ [("_law_size", 4)] = true from by decide +kernel) (fun _ _ => rfl) (ri_seq (rv 2)) (fun _ _ _ _ _ => rts_nil) (fun _ _ _ _ _ => (re_def f_L_steps hr (by decide) rfl (ra_cons (rv 0) (ra_cons (rv 1) (ra_cons (rv 4) (ra_cons (rv 3) ra_nil)))))))) ra_nil)) ra_nil))))))
abbrev N_L_weavings : List Str := ["_law_sizes_here", "_law_told", "_law_turn", "_law_longer", "_law_row", "_law_p"]
def m_L_weavings : MS := (mSeq (mAsg (mLst (mCons (mTuF mNil) mNil)) 1)
    (mSeq (mForI (iRg1 (mCons (mCB wSum (mCons (mVar 0) mNil)) mNil)) (gN 2) (mSeq (mAsg (mLst mNil) 3)
    (mSeq (mForI (iSq (mVar 1)) (gN 4) (mAsg (mOp wAdd (mVar 3) (mFrz (mLc (iRg1 (mCons (mCB wLen (mCons (mVar 0) mNil)) mNil)) 5 (mB (mOp wLt (mCntF (mVar 4) (mCons (mVar 5) mNil)) (mOp wIx (mVar 0) (mVar 5)))) (mOp wCatF (mVar 4) (mTuF (mCons (mVar 5) mNil)))))) 3))
    (mAsg (mVar 3) 1))))
    (mRet (mVar 1))))
theorem t_L_weavings (t : Top K mg) {cdv : Value} {A : Around} {outer : List Env} {s : Shared} {H B : Hp} {E : XK} (hr : Room 0 (A.deeper (envOfC d_L_weavings.qual d_L_weavings.scope s.heap.objs.size 586 cdv))) :
    RSs (CD P w K mg base N_L_weavings d_L_weavings.qual d_L_weavings.scope 586 cdv A outer s H E) T0 B d_L_weavings.body (m_L_weavings ) := by
  have hN : N_L_weavings.Nodup := by decide
  exact (rss_cons (rs_set hN rfl (.inl rfl) (re_lst (ra_cons (re_tuF ra_nil) ra_nil)))
    (rss_cons (rs_forI .never rfl (ri_range1 rfl t.n_range (ra_cons (re_sum rfl rfl t.n_sum (ra_cons (rv 0) ra_nil)) ra_nil)) (rg_n hN rfl (.inl rfl)) (rss_cons (rs_set hN rfl (.inl rfl) (re_lst ra_nil))
    (rss_cons (rs_forI .never rfl (ri_seq (rv 1)) (rg_n hN rfl (.inr rfl)) (rss_one (rs_set hN rfl (.inl rfl) (re_add (rv 3) (re_frz (re_lc rfl hN (j := 5) rfl (show blkC N_L_weavings d_L_weavings.scope _ [("_law_p", 5)] = true from by decide +kernel) (fun _ _ => rfl) (ri_range1 rfl t.n_range (ra_cons (re_len rfl t.n_len (ra_cons (rv 0) ra_nil)) ra_nil)) (fun _ _ _ _ _ => (rts_one (cm_lt.rt (re_cntF (rv 4) (ra_cons (rv 5) ra_nil)) (re_sb hr (rv 0) (rv 5))))) (fun _ _ _ _ _ => (re_catF (rv 4) (re_tuF (ra_cons (rv 5) ra_nil))))))))))
    (rss_one (rs_set hN rfl (.inl rfl) (rv 3))))))
    (rss_one (rs_ret (rv 1)))))
abbrev N_L_weaving : List Str := ["_law_hand_here", "_law_sizes_here", "_law_left", "_law_told", "_law_turn", "_law_able", "_law_p"]
def m_L_weaving (F_L_take : FD) : MS := (mSeq (mAsg (mCB wListO (mCons (mVar 1) mNil)) 2)
    (mSeq (mAsg (mLstO mNil) 3)
    (mSeq (mForI (iRg1 (mCons (mCB wSum (mCons (mVar 1) mNil)) mNil)) (gN 4) (mSeq (mAsg (mFrz (mLc (iRg1 (mCons (mCB wLen (mCons (mVar 1) mNil)) mNil)) 6 (mB (mOp wGt (mOp wIx (mVar 2) (mVar 6)) (mC (.int 0)))) (mVar 6))) 5)
    (mSeq (mAsg (mOp wIx (mVar 5) (mCB F_L_take (mCons (mVar 0) (mCons (mCB wLen (mCons (mVar 5) mNil)) mNil)))) 6)
    (mSeq (mAsgG (mOp wSub (mOp wIx (mVar 2) (mVar 6)) (mC (.int 1))) (gSet (mVar 2) (mVar 6)))
    (mDrop (mBM wApp (mVar 3) (mCons (mVar 6) mNil)))))))
    (mRet (mCB wTuple (mCons (mVar 3) mNil))))))
theorem t_L_weaving (t : Top K mg) {F_L_take : FD} (f_L_take : Fn P w K mg base T0 2 "_law_take" F_L_take) {cdv : Value} {A : Around} {outer : List Env} {s : Shared} {H B : Hp} {E : XK} (hr : Room 2 (A.deeper (envOfC d_L_weaving.qual d_L_weaving.scope s.heap.objs.size 591 cdv))) :
    RSs (CD P w K mg base N_L_weaving d_L_weaving.qual d_L_weaving.scope 591 cdv A outer s H E) T0 B d_L_weaving.body (m_L_weaving F_L_take) := by
  have hN : N_L_weaving.Nodup := by decide
  exact (rss_cons (rs_set hN rfl (.inr rfl) (re_listO rfl t.n_list (ra_cons (rv 1) ra_nil)))
    (rss_cons (rs_set hN rfl (.inl rfl) (re_lstO ra_nil))
    (rss_cons (rs_forI .never rfl (ri_range1 rfl t.n_range (ra_cons (re_sum rfl rfl t.n_sum (ra_cons (rv 1) ra_nil)) ra_nil)) (rg_n hN rfl (.inl rfl)) (rss_cons (rs_setLcF rfl hN rfl rfl (sw_true rfl rfl rfl rfl) (j := 6) rfl (show blkC N_L_weaving d_L_weaving.scope _ [("_law_p", 6)] = true from by decide +kernel) (fun _ _ => rfl) (ri_range1 rfl t.n_range (ra_cons (re_len rfl t.n_len (ra_cons (rv 1) ra_nil)) ra_nil)) (fun _ _ _ _ _ => (rts_one (cm_gt.rt (re_sb hr (rv 2) (rv 6)) re_int))) (fun _ _ _ _ _ => (rv 6)))
    (rss_cons (rs_set hN rfl (.inl rfl) (re_sb hr (rv 5) (re_def f_L_take hr (by decide) rfl (ra_cons (rv 0) (ra_cons (re_len rfl t.n_len (ra_cons (rv 5) ra_nil)) ra_nil)))))
    (rss_cons (rs_asg (re_sub (re_sb hr (rv 2) (rv 6)) re_int) (rg_s hr (rv 2) (rv 6)))
    (rss_one (rs_expr (re_app (rv 3) (ra_cons (rv 6) ra_nil))))))))
    (rss_one (rs_ret (re_tuple rfl t.n_tuple (ra_cons (rv 3) ra_nil)))))))
abbrev N_L_woven : List Str := ["_law_hand_here", "_law_sizes_here", "_law_told", "_law_turn"]
def m_L_woven (F_L_weaving F_L_unwoven : FD) : MS := (mSeq (mAsg (mCB F_L_weaving (mCons (mVar 0) (mCons (mVar 1) mNil))) 2)
    (mSeq (mForI (iRg1 (mCons (mC (.int 3)) mNil)) (gN 3) (mIfS (mB (mCB F_L_unwoven (mCons (mVar 2) mNil))) (mAsg (mCB F_L_weaving (mCons (mVar 0) (mCons (mVar 1) mNil))) 2) mNext))
    (mRet (mVar 2))))
theorem t_L_woven (t : Top K mg) {F_L_weaving F_L_unwoven : FD} (f_L_weaving : Fn P w K mg base T0 3 "_law_weaving" F_L_weaving) (f_L_unwoven : Fn P w K mg base T0 1 "_law_unwoven" F_L_unwoven) {cdv : Value} {A : Around} {outer : List Env} {s : Shared} {H B : Hp} {E : XK} (hr : Room 3 (A.deeper (envOfC d_L_woven.qual d_L_woven.scope s.heap.objs.size 598 cdv))) :
    RSs (CD P w K mg base N_L_woven d_L_woven.qual d_L_woven.scope 598 cdv A outer s H E) T0 B d_L_woven.body (m_L_woven F_L_weaving F_L_unwoven) := by
  have hN : N_L_woven.Nodup := by decide
  exact (rss_cons (rs_set hN rfl (.inl rfl) (re_def f_L_weaving hr (by decide) rfl (ra_cons (rv 0) (ra_cons (rv 1) ra_nil))))
    (rss_cons (rs_forI .never rfl (ri_range1 rfl t.n_range (ra_cons re_int ra_nil)) (rg_n hN rfl (.inl rfl)) (rss_one (rs_if (rt_val (re_def f_L_unwoven hr (by decide) rfl (ra_cons (rv 2) ra_nil))) (rss_one (rs_set hN rfl (.inl rfl) (re_def f_L_weaving hr (by decide) rfl (ra_cons (rv 0) (ra_cons (rv 1) ra_nil))))) rss_nil)))
    (rss_one (rs_ret (rv 2)))))
abbrev N_L_entry : List Str := ["_law_m", "_law_handed", "_law_at", "_law_worth"]
def m_L_entry : MS := (mSeq (mAsg (mC (.int 0)) 2)
    (mSeq (mForI (iSq (mVar 1)) (gN 3) (mAsg (mOp wAdd (mOp wMul (mVar 2) (mVar 0)) (mVar 3)) 2))
    (mRet (mVar 2))))
theorem t_L_entry (t : Top K mg) {cdv : Value} {A : Around} {outer : List Env} {s : Shared} {H B : Hp} {E : XK} (hr : Room 0 (A.deeper (envOfC d_L_entry.qual d_L_entry.scope s.heap.objs.size 610 cdv))) :
    RSs (CD P w K mg base N_L_entry d_L_entry.qual d_L_entry.scope 610 cdv A outer s H E) T0 B d_L_entry.body (m_L_entry ) := by
  have hN : N_L_entry.Nodup := by decide
  exact (rss_cons (rs_set hN rfl (.inl rfl) re_int)
    (rss_cons (rs_forI .never rfl (ri_seq (rv 1)) (rg_n hN rfl (.inl rfl)) (rss_one (rs_set hN rfl (.inl rfl) (re_add (re_mul (rv 2) (rv 0)) (rv 3)))))
    (rss_one (rs_ret (rv 2)))))
abbrev N_L_meant : List Str := ["_law_lot_here", "_law_m", "_law_tables", "_law_row", "_law_store", "_law_here", "_law_pockets", "_law_p", "_law_cell", "_law_kind", "_law_by", "_law_name", "_law_program", "_law_k"]
def m_L_meant (F_L_entry : FD) : MS := (mSeq (mAsg (mCB wListO (mCons (mVar 4) mNil)) 5)
    (mSeq (mAsg (mFrz (mLc (iSq (mOp wIx (mVar 0) (mC (.int 1)))) 12 mYes (mLstO mNil))) 6)
    (mSeq (mForI (iSq (mVar 3)) (gN 7) (mSeq (mIfS (mB (mOp wEq (mCB wLen (mCons (mOp wIx (mVar 6) (mVar 7)) mNil)) (mCB wLen (mCons (mOp wIx (mOp wIx (mVar 0) (mC (.int 1))) (mVar 7)) mNil)))) mNever mNext)
    (mSeq (mAsgG (mOp wIx (mOp wIx (mOp wIx (mVar 0) (mC (.int 1))) (mVar 7)) (mCB wLen (mCons (mOp wIx (mVar 6) (mVar 7)) mNil))) (gT 4 (gCons' (gN 8) (gCons' (gN 9) (gCons' (gN 10) (gCons' (gN 11) gNil'))))))
    (mSeq (mDrop (mBM wApp (mOp wIx (mVar 6) (mVar 7)) (mCons (mOp wIx (mVar 5) (mVar 8)) mNil)))
    (mSeq (mIfS (mB (mOp wEq (mVar 9) (mC (.str "any")))) (mAsgG (mOp wIx (mOp wIx (mVar 2) (mVar 11)) (mCB F_L_entry (mCons (mVar 1) (mCons (mFrz (mLc (iSq (mVar 10)) 13 mYes (mOp wIx (mOp wIx (mVar 6) (mVar 7)) (mVar 13)))) mNil)))) (gSet (mVar 5) (mVar 8))) mNext)
    (mIfS (mB (mOp wEq (mVar 9) (mC (.str "adds")))) (mAsgG (mOp wMod (mCB wInt (mCons (mOp wAdd (mOp wIx (mVar 5) (mVar 8)) (mOp wIx (mOp wIx (mVar 2) (mVar 11)) (mCB F_L_entry (mCons (mVar 1) (mCons (mFrz (mLc (iSq (mVar 10)) 13 mYes (mOp wIx (mOp wIx (mVar 6) (mVar 7)) (mVar 13)))) mNil))))) mNil)) (mVar 1)) (gSet (mVar 5) (mVar 8))) mNext))))))
    (mRet (mCB wTuple (mCons (mVar 5) mNil))))))
theorem t_L_meant (t : Top K mg) {F_L_entry : FD} (f_L_entry : Fn P w K mg base T0 1 "_law_entry" F_L_entry) {cdv : Value} {A : Around} {outer : List Env} {s : Shared} {H B : Hp} {E : XK} (hr : Room 1 (A.deeper (envOfC d_L_meant.qual d_L_meant.scope s.heap.objs.size 615 cdv))) :
    RSs (CD P w K mg base N_L_meant d_L_meant.qual d_L_meant.scope 615 cdv A outer s H E) T0 B d_L_meant.body (m_L_meant F_L_entry) := by
  have hN : N_L_meant.Nodup := by decide
  exact (rss_cons (rs_set hN rfl (.inl rfl) (re_listO rfl t.n_list (ra_cons (rv 4) ra_nil)))
    (rss_cons (rs_set hN rfl (.inr rfl) (re_frz (re_lc rfl hN (j := 12) rfl (show blkC N_L_meant d_L_meant.scope _ [("_law_program", 12)] = true from by decide +kernel) (fun _ _ => rfl) (ri_seq (re_sb hr (rv 0) re_int)) (fun _ _ _ _ _ => rts_nil) (fun _ _ _ _ _ => (re_lstO ra_nil)))))
    (rss_cons (rs_forI .never rfl (ri_seq (rv 3)) (rg_n hN rfl (.inr rfl)) (rss_cons (rs_if ((cm_eq hr).rt (re_len rfl t.n_len (ra_cons (re_sb hr (rv 6) (rv 7)) ra_nil)) (re_len rfl t.n_len (ra_cons (re_sb hr (re_sb hr (rv 0) re_int) (rv 7)) ra_nil))) (rss_one rs_never) rss_nil)
    (rss_cons (rs_asg (re_sb hr (re_sb hr (re_sb hr (rv 0) re_int) (rv 7)) (re_len rfl t.n_len (ra_cons (re_sb hr (rv 6) (rv 7)) ra_nil))) (rg_t rfl (rgs_cons (rg_n hN rfl (.inl rfl)) (rgs_cons (rg_n hN rfl (.inl rfl)) (rgs_cons (rg_n hN rfl (.inl rfl)) (rgs_cons (rg_n hN rfl (.inl rfl)) rgs_nil))))))
    (rss_cons (rs_expr (re_app (re_sb hr (rv 6) (rv 7)) (ra_cons (re_sb hr (rv 5) (rv 8)) ra_nil)))
    (rss_cons (rs_if ((cm_eq hr).rt (rv 9) re_str) (rss_one (rs_asg (re_sb hr (re_sb hr (rv 2) (rv 11)) (re_def f_L_entry hr (by decide) rfl (ra_cons (rv 1) (ra_cons (re_frz (re_lc rfl hN (j := 13) rfl (show blkC N_L_meant d_L_meant.scope _ [("_law_k", 13)] = true from by decide +kernel) (fun _ _ => rfl) (ri_seq (rv 10)) (fun _ _ _ _ _ => rts_nil) (fun _ _ _ _ _ => (re_sb hr (re_sb hr (rv 6) (rv 7)) (rv 13))))) ra_nil)))) (rg_s hr (rv 5) (rv 8)))) rss_nil)
    (rss_one (rs_if ((cm_eq hr).rt (rv 9) re_str) (rss_one (rs_asg (re_mod (re_intc rfl t.n_int (ra_cons (re_add (re_sb hr (rv 5) (rv 8)) (re_sb hr (re_sb hr (rv 2) (rv 11)) (re_def f_L_entry hr (by decide) rfl (ra_cons (rv 1) (ra_cons (re_frz (re_lc rfl hN (j := 13) rfl (show blkC N_L_meant d_L_meant.scope _ [("_law_k", 13)] = true from by decide +kernel) (fun _ _ => rfl) (ri_seq (rv 10)) (fun _ _ _ _ _ => rts_nil) (fun _ _ _ _ _ => (re_sb hr (re_sb hr (rv 6) (rv 7)) (rv 13))))) ra_nil))))) ra_nil)) (rv 1)) (rg_s hr (rv 5) (rv 8)))) rss_nil)))))))
    (rss_one (rs_ret (re_tuple rfl t.n_tuple (ra_cons (rv 5) ra_nil)))))))
abbrev N_L_stores : List Str := ["_law_cells", "_law_m", "_law_told", "_law_k", "_law_longer", "_law_row", "_law_worth"]
def m_L_stores : MS := (mSeq (mAsg (mLst (mCons (mTup mNil) mNil)) 2)
    (mSeq (mForI (iRg1 (mCons (mVar 0) mNil)) (gN 3) (mSeq (mAsg (mLst mNil) 4)
    (mSeq (mForI (iSq (mVar 2)) (gN 5) (mAsg (mOp wAdd (mVar 4) (mFrz (mLc (iRg1 (mCons (mVar 1) mNil)) 6 mYes (mOp wAdd (mVar 5) (mTup (mCons (mVar 6) mNil)))))) 4))
    (mAsg (mVar 4) 2))))
    (mRet (mVar 2))))
theorem t_L_stores (t : Top K mg) {cdv : Value} {A : Around} {outer : List Env} {s : Shared} {H B : Hp} {E : XK} (hr : Room 0 (A.deeper (envOfC d_L_stores.qual d_L_stores.scope s.heap.objs.size 620 cdv))) :
    RSs (CD P w K mg base N_L_stores d_L_stores.qual d_L_stores.scope 620 cdv A outer s H E) T0 B d_L_stores.body (m_L_stores ) := by
  have hN : N_L_stores.Nodup := by decide
  exact (rss_cons (rs_set hN rfl (.inl rfl) (re_lst (ra_cons (re_tup ra_nil) ra_nil)))
    (rss_cons (rs_forI .never rfl (ri_range1 rfl t.n_range (ra_cons (rv 0) ra_nil)) (rg_n hN rfl (.inl rfl)) (rss_cons (rs_set hN rfl (.inl rfl) (re_lst ra_nil))
    (rss_cons (rs_forI .never rfl (ri_seq (rv 2)) (rg_n hN rfl (.inr rfl)) (rss_one (rs_set hN rfl (.inl rfl) (re_add (rv 4) (re_frz (re_lc rfl hN (j := 6) rfl (show blkC N_L_stores d_L_stores.scope _ [("_law_worth", 6)] = true from by decide +kernel) (fun _ _ => rfl) (ri_range1 rfl t.n_range (ra_cons (rv 1) ra_nil)) (fun _ _ _ _ _ => rts_nil) (fun _ _ _ _ _ => (re_add (rv 5) (re_tup (ra_cons (rv 6) ra_nil))))))))))
    (rss_one (rs_set hN rfl (.inl rfl) (rv 4))))))
    (rss_one (rs_ret (rv 2)))))
abbrev N_L_worn_meaning : List Str := ["_law_hand_here", "_law_lot_here", "_law_m", "_law_told", "_law_program", "_law_step", "_law_many", "_law_way", "_law_row", "_law_changed", "_law_plain", "_law_k"]
def m_L_worn_meaning (F_L_power F_L_take : FD) : MS := (mSeq (mAsg mNewK 3)
    (mSeq (mForI (iSq (mOp wIx (mVar 1) (mC (.int 1)))) (gN 4) (mForI (iSq (mVar 4)) (gN 5) (mIfS (mAnd (mB (mOp wNe (mOp wIx (mVar 5) (mC (.int 1))) (mC (.str "kept")))) (mB (mOp (wInB true) (mOp wIx (mVar 5) (mC (.int 3))) (mVar 3)))) (mSeq (mAsg (mCB F_L_power (mCons (mVar 2) (mCons (mCB wLen (mCons (mOp wIx (mVar 5) (mC (.int 2))) mNil)) mNil))) 6)
    (mSeq (mAsg (mCB F_L_take (mCons (mVar 0) (mCons (mC (.int 4)) mNil))) 7)
    (mSeq (mAsg (mFrz (mLc (iRg1 (mCons (mVar 6) mNil)) 11 mYes (mCB F_L_take (mCons (mVar 0) (mCons (mVar 2) mNil))))) 8)
    (mSeq (mIfS (mAnd (mB (mOp wGt (mVar 7) (mC (.int 0)))) (mB (mOp wLt (mVar 7) (mC (.int 3))))) (mSeq (mAsg (mVar 6) 9)
    (mSeq (mIfS (mB (mOp wEq (mVar 7) (mC (.int 2)))) (mAsg (mCB F_L_take (mCons (mVar 0) (mCons (mVar 6) mNil))) 9) mNext)
    (mSeq (mAsg (mFrz (mLc (iRg1 (mCons (mVar 6) mNil)) 11 mYes (mIf (mB (mOp wEq (mOp wIx (mVar 5) (mC (.int 1))) (mC (.str "any")))) (mOp wMod (mCB wInt (mCons (mVar 11) mNil)) (mVar 2)) (mC (.int 0))))) 10)
    (mAsg (mFrz (mLc (iRg1 (mCons (mVar 6) mNil)) 11 mYes (mIf (mB (mOp wEq (mVar 11) (mVar 9))) (mOp wIx (mVar 8) (mVar 11)) (mOp wIx (mVar 10) (mVar 11))))) 8)))) mNext)
    (mAsgG (mCB wTuple (mCons (mVar 8) mNil)) (gSet (mVar 3) (mOp wIx (mVar 5) (mC (.int 3))))))))) mNext)))
    (mRet (mVar 3))))
theorem t_L_worn_meaning (t : Top K mg) {F_L_power F_L_take : FD} (f_L_power : Fn P w K mg base T0 1 "_law_power" F_L_power) (f_L_take : Fn P w K mg base T0 2 "_law_take" F_L_take) {cdv : Value} {A : Around} {outer : List Env} {s : Shared} {H B : Hp} {E : XK} (hr : Room 2 (A.deeper (envOfC d_L_worn_meaning.qual d_L_worn_meaning.scope s.heap.objs.size 625 cdv))) :
    RSs (CD P w K mg base N_L_worn_meaning d_L_worn_meaning.qual d_L_worn_meaning.scope 625 cdv A outer s H E) T0 B d_L_worn_meaning.body (m_L_worn_meaning F_L_power F_L_take) := by
  have hN : N_L_worn_meaning.Nodup := by decide
  exact (rss_cons (rs_set hN rfl (.inl rfl) re_newK)
    (rss_cons (rs_forI .never rfl (ri_seq (re_sb hr (rv 1) re_int)) (rg_n hN rfl (.inl rfl)) (rss_one (rs_forI .never rfl (ri_seq (rv 4)) (rg_n hN rfl (.inr rfl)) (rss_one (rs_if (rt_bool (rw_and ((cm_ne hr).rt (re_sb hr (rv 5) re_int) re_str) (rw_and1 ((cm_nin hr).rt (re_sb hr (rv 5) re_int) (rv 3))))) (rss_cons (rs_set hN rfl (.inl rfl) (re_def f_L_power hr (by decide) rfl (ra_cons (rv 2) (ra_cons (re_len rfl t.n_len (ra_cons (re_sb hr (rv 5) re_int) ra_nil)) ra_nil))))
    (rss_cons (rs_set hN rfl (.inl rfl) (re_def f_L_take hr (by decide) rfl (ra_cons (rv 0) (ra_cons re_int ra_nil))))
    (rss_cons (rs_set hN rfl (.inr rfl) (re_frz (re_lc rfl hN (j := 11) rfl (show blkC N_L_worn_meaning d_L_worn_meaning.scope _ [("_law_k", 11)] = true from by decide +kernel) (fun _ _ => rfl) (ri_range1 rfl t.n_range (ra_cons (rv 6) ra_nil)) (fun _ _ _ _ _ => rts_nil) (fun _ _ _ _ _ => (re_def f_L_take hr (by decide) rfl (ra_cons (rv 0) (ra_cons (rv 2) ra_nil)))))))
    (rss_cons (rs_if (rt_bool (rw_and (cm_gt.rt (rv 7) re_int) (rw_and1 (cm_lt.rt (rv 7) re_int)))) (rss_cons (rs_set hN rfl (.inr rfl) (rv 6))
    (rss_cons (rs_if ((cm_eq hr).rt (rv 7) re_int) (rss_one (rs_set hN rfl (.inr rfl) (re_def f_L_take hr (by decide) rfl (ra_cons (rv 0) (ra_cons (rv 6) ra_nil))))) rss_nil)
    (rss_cons (rs_set hN rfl (.inr rfl) (re_frz (re_lc rfl hN (j := 11) rfl (show blkC N_L_worn_meaning d_L_worn_meaning.scope _ [("_law_k", 11)] = true from by decide +kernel) (fun _ _ => rfl) (ri_range1 rfl t.n_range (ra_cons (rv 6) ra_nil)) (fun _ _ _ _ _ => rts_nil) (fun _ _ _ _ _ => (re_if ((cm_eq hr).rt (re_sb hr (rv 5) re_int) re_str) (re_mod (re_intc rfl t.n_int (ra_cons (rv 11) ra_nil)) (rv 2)) re_int)))))
    (rss_one (rs_set hN rfl (.inr rfl) (re_frz (re_lc rfl hN (j := 11) rfl (show blkC N_L_worn_meaning d_L_worn_meaning.scope _ [("_law_k", 11)] = true from by decide +kernel) (fun _ _ => rfl) (ri_range1 rfl t.n_range (ra_cons (rv 6) ra_nil)) (fun _ _ _ _ _ => rts_nil) (fun _ _ _ _ _ => (re_if ((cm_eq hr).rt (rv 11) (rv 9)) (re_sb hr (rv 8) (rv 11)) (re_sb hr (rv 10) (rv 11))))))))))) rss_nil)
    (rss_one (rs_asg (re_tuple rfl t.n_tuple (ra_cons (rv 8) ra_nil)) (rg_s hr (rv 3) (re_sb hr (rv 5) re_int)))))))) rss_nil)))))
    (rss_one (rs_ret (rv 3)))))
abbrev N_L_small_world : List Str := ["_law_hand_here", "_law_cells"]
def m_L_small_world (F_L_take : FD) : MS := (mSeq (mAsg (mOp wAdd (mC (.int 1)) (mCB F_L_take (mCons (mVar 0) (mCons (mC (.int 3)) mNil)))) 1)
    (mSeq (mIfS (mB (mOp wEq (mVar 1) (mC (.int 3)))) (mRet (mLst (mCons (mC (.int 3)) (mCons (mC (.int 2)) mNil)))) mNext)
    (mRet (mLst (mCons (mVar 1) (mCons (mOp wAdd (mC (.int 2)) (mCB F_L_take (mCons (mVar 0) (mCons (mC (.int 2)) mNil)))) mNil))))))
theorem t_L_small_world (t : Top K mg) {F_L_take : FD} (f_L_take : Fn P w K mg base T0 2 "_law_take" F_L_take) {cdv : Value} {A : Around} {outer : List Env} {s : Shared} {H B : Hp} {E : XK} (hr : Room 2 (A.deeper (envOfC d_L_small_world.qual d_L_small_world.scope s.heap.objs.size 632 cdv))) :
    RSs (CD P w K mg base N_L_small_world d_L_small_world.qual d_L_small_world.scope 632 cdv A outer s H E) T0 B d_L_small_world.body (m_L_small_world F_L_take) := by
  have hN : N_L_small_world.Nodup := by decide
  exact (rss_cons (rs_set hN rfl (.inl rfl) (re_add re_int (re_def f_L_take hr (by decide) rfl (ra_cons (rv 0) (ra_cons re_int ra_nil)))))
    (rss_cons (rs_if ((cm_eq hr).rt (rv 1) re_int) (rss_one (rs_ret (re_lst (ra_cons re_int (ra_cons re_int ra_nil))))) rss_nil)
    (rss_one (rs_ret (re_lst (ra_cons (rv 1) (ra_cons (re_add re_int (re_def f_L_take hr (by decide) rfl (ra_cons (rv 0) (ra_cons re_int ra_nil)))) ra_nil)))))))
abbrev N_L_program_moves : List Str := ["_law_lot_here", "_law_m", "_law_tables", "_law_p"]
def m_L_program_moves (F_L_move : FD) : MS := (mRet (mFrz (mLc (iRg1 (mCons (mCB wLen (mCons (mOp wIx (mVar 0) (mC (.int 1))) mNil)) mNil)) 3 mYes (mCB F_L_move (mCons (mVar 0) (mCons (mVar 1) (mCons (mVar 2) (mCons (mOp wMul (mLst (mCons (mVar 3) mNil)) (mCB wLen (mCons (mOp wIx (mOp wIx (mVar 0) (mC (.int 1))) (mVar 3)) mNil))) mNil))))))))
theorem t_L_program_moves (t : Top K mg) {F_L_move : FD} (f_L_move : Fn P w K mg base T0 3 "_law_move" F_L_move) {cdv : Value} {A : Around} {outer : List Env} {s : Shared} {H B : Hp} {E : XK} (hr : Room 3 (A.deeper (envOfC d_L_program_moves.qual d_L_program_moves.scope s.heap.objs.size 642 cdv))) :
    RSs (CD P w K mg base N_L_program_moves d_L_program_moves.qual d_L_program_moves.scope 642 cdv A outer s H E) T0 B d_L_program_moves.body (m_L_program_moves F_L_move) := by
  have hN : N_L_program_moves.Nodup := by decide
  exact (rss_one (rs_ret (re_frz (re_lc rfl hN (j := 3) rfl (show blkC N_L_program_moves d_L_program_moves.scope _ [("_law_p", 3)] = true from by decide +kernel) (fun _ _ => rfl) (ri_range1 rfl t.n_range (ra_cons (re_len rfl t.n_len (ra_cons (re_sb hr (rv 0) re_int) ra_nil)) ra_nil)) (fun _ _ _ _ _ => rts_nil) (fun _ _ _ _ _ => (re_def f_L_move hr (by decide) rfl (ra_cons (rv 0) (ra_cons (rv 1) (ra_cons (rv 2) (ra_cons (re_mul (re_lst (ra_cons (rv 3) ra_nil)) (re_len rfl t.n_len (ra_cons (re_sb hr (re_sb hr (rv 0) re_int) (rv 3)) ra_nil))) ra_nil))))))))))
abbrev N_L_move : List Str := ["_law_lot_here", "_law_m", "_law_tables", "_law_row", "_law_move_here", "_law_store"]
def m_L_move (F_L_stores F_L_meant : FD) : MS := (mSeq (mAsg mNewT 4)
    (mSeq (mForI (iSq (mCB F_L_stores (mCons (mOp wIx (mVar 0) (mC (.int 0))) (mCons (mVar 1) mNil)))) (gN 5) (mAsgG (mCB F_L_meant (mCons (mVar 0) (mCons (mVar 1) (mCons (mVar 2) (mCons (mVar 3) (mCons (mVar 5) mNil)))))) (gSet (mVar 4) (mVar 5))))
    (mRet (mVar 4))))
theorem t_L_move (t : Top K mg) {F_L_stores F_L_meant : FD} (f_L_stores : Fn P w K mg base T0 1 "_law_stores" F_L_stores) (f_L_meant : Fn P w K mg base T0 2 "_law_meant" F_L_meant) {cdv : Value} {A : Around} {outer : List Env} {s : Shared} {H B : Hp} {E : XK} (hr : Room 2 (A.deeper (envOfC d_L_move.qual d_L_move.scope s.heap.objs.size 649 cdv))) :
    RSs (CD P w K mg base N_L_move d_L_move.qual d_L_move.scope 649 cdv A outer s H E) T0 B d_L_move.body (m_L_move F_L_stores F_L_meant) := by
  have hN : N_L_move.Nodup := by decide
  exact (rss_cons (rs_set hN rfl (.inl rfl) re_newT)
    (rss_cons (rs_forI .never rfl (ri_seq (re_def f_L_stores hr (by decide) rfl (ra_cons (re_sb hr (rv 0) re_int) (ra_cons (rv 1) ra_nil)))) (rg_n hN rfl (.inl rfl)) (rss_one (rs_asg (re_def f_L_meant hr (by decide) rfl (ra_cons (rv 0) (ra_cons (rv 1) (ra_cons (rv 2) (ra_cons (rv 3) (ra_cons (rv 5) ra_nil)))))) (rg_s hr (rv 4) (rv 5)))))
    (rss_one (rs_ret (rv 4)))))
abbrev N_L_subsets : List Str := ["_law_items", "_law_told", "_law_item", "_law_one"]
def m_L_subsets : MS := (mSeq (mAsg (mLst (mCons (mTup mNil) mNil)) 1)
    (mSeq (mForI (iSq (mVar 0)) (gN 2) (mAsg (mOp wAdd (mVar 1) (mFrz (mLc (iSq (mVar 1)) 3 mYes (mOp wAdd (mVar 3) (mTup (mCons (mVar 2) mNil)))))) 1))
    (mRet (mVar 1))))
theorem t_L_subsets (t : Top K mg) {cdv : Value} {A : Around} {outer : List Env} {s : Shared} {H B : Hp} {E : XK} (hr : Room 0 (A.deeper (envOfC d_L_subsets.qual d_L_subsets.scope s.heap.objs.size 654 cdv))) :
    RSs (CD P w K mg base N_L_subsets d_L_subsets.qual d_L_subsets.scope 654 cdv A outer s H E) T0 B d_L_subsets.body (m_L_subsets ) := by
  have hN : N_L_subsets.Nodup := by decide
  exact (rss_cons (rs_set hN rfl (.inl rfl) (re_lst (ra_cons (re_tup ra_nil) ra_nil)))
    (rss_cons (rs_forI .never rfl (ri_seq (rv 0)) (rg_n hN rfl (.inr rfl)) (rss_one (rs_set hN rfl (.inl rfl) (re_add (rv 1) (re_frz (re_lc rfl hN (j := 3) rfl (show blkC N_L_subsets d_L_subsets.scope _ [("_law_one", 3)] = true from by decide +kernel) (fun _ _ => rfl) (ri_seq (rv 1)) (fun _ _ _ _ _ => rts_nil) (fun _ _ _ _ _ => (re_add (rv 3) (re_tup (ra_cons (rv 2) ra_nil))))))))))
    (rss_one (rs_ret (rv 1)))))
abbrev N_L_stays : List Str := ["_law_moves", "_law_rule", "_law_move_here", "_law_store"]
def m_L_stays : MS := (mSeq (mForI (iSq (mVar 0)) (gN 2) (mForI (iSq (mVar 1)) (gN 3) (mIfS (mB (mOp (wInB true) (mOp wIx (mVar 2) (mVar 3)) (mVar 1))) (mRet (mC (.bl false))) mNext)))
    (mRet (mC (.bl true))))
theorem t_L_stays (t : Top K mg) {cdv : Value} {A : Around} {outer : List Env} {s : Shared} {H B : Hp} {E : XK} (hr : Room 0 (A.deeper (envOfC d_L_stays.qual d_L_stays.scope s.heap.objs.size 668 cdv))) :
    RSs (CD P w K mg base N_L_stays d_L_stays.qual d_L_stays.scope 668 cdv A outer s H E) T0 B d_L_stays.body (m_L_stays ) := by
  have hN : N_L_stays.Nodup := by decide
  exact (rss_cons (rs_forI .never rfl (ri_seq (rv 0)) (rg_n hN rfl (.inl rfl)) (rss_one (rs_forI .never rfl (ri_seq (rv 1)) (rg_n hN rfl (.inl rfl)) (rss_one (rs_if ((cm_nin hr).rt (re_sb hr (rv 2) (rv 3)) (rv 1)) (rss_one (rs_ret re_bl)) rss_nil)))))
    (rss_one (rs_ret re_bl)))
abbrev N_L_leaves : List Str := ["_law_moves", "_law_rule", "_law_at", "_law_store"]
def m_L_leaves : MS := (mSeq (mForI (iRg1 (mCons (mCB wLen (mCons (mVar 0) mNil)) mNil)) (gN 2) (mForI (iSq (mVar 1)) (gN 3) (mIfS (mB (mOp (wInB true) (mOp wIx (mOp wIx (mVar 0) (mVar 2)) (mVar 3)) (mVar 1))) (mRet (mTup (mCons (mVar 2) (mCons (mVar 3) mNil)))) mNext)))
    (mRet (mC .non)))
theorem t_L_leaves (t : Top K mg) {cdv : Value} {A : Around} {outer : List Env} {s : Shared} {H B : Hp} {E : XK} (hr : Room 0 (A.deeper (envOfC d_L_leaves.qual d_L_leaves.scope s.heap.objs.size 675 cdv))) :
    RSs (CD P w K mg base N_L_leaves d_L_leaves.qual d_L_leaves.scope 675 cdv A outer s H E) T0 B d_L_leaves.body (m_L_leaves ) := by
  have hN : N_L_leaves.Nodup := by decide
  exact (rss_cons (rs_forI .never rfl (ri_range1 rfl t.n_range (ra_cons (re_len rfl t.n_len (ra_cons (rv 0) ra_nil)) ra_nil)) (rg_n hN rfl (.inl rfl)) (rss_one (rs_forI .never rfl (ri_seq (rv 1)) (rg_n hN rfl (.inl rfl)) (rss_one (rs_if ((cm_nin hr).rt (re_sb hr (re_sb hr (rv 0) (rv 2)) (rv 3)) (rv 1)) (rss_one (rs_ret (re_tup (ra_cons (rv 2) (ra_cons (rv 3) ra_nil))))) rss_nil)))))
    (rss_one (rs_ret re_non)))
abbrev N_L_all_kept : List Str := ["_law_moves", "_law_stores_here", "_law_rule"]
def m_L_all_kept (F_L_subsets F_L_by_size F_L_stays : FD) : MS := (mRet (mFrz (mLc (iSq (mCB F_L_by_size (mCons (mCB F_L_subsets (mCons (mVar 1) mNil)) mNil))) 2 (mB (mCB F_L_stays (mCons (mVar 0) (mCons (mVar 2) mNil)))) (mVar 2))))
theorem t_L_all_kept (t : Top K mg) {F_L_subsets F_L_by_size F_L_stays : FD} (f_L_subsets : Fn P w K mg base T0 1 "_law_subsets" F_L_subsets) (f_L_by_size : Fn P w K mg base T0 1 "_law_by_size" F_L_by_size) (f_L_stays : Fn P w K mg base T0 1 "_law_stays" F_L_stays) {cdv : Value} {A : Around} {outer : List Env} {s : Shared} {H B : Hp} {E : XK} (hr : Room 1 (A.deeper (envOfC d_L_all_kept.qual d_L_all_kept.scope s.heap.objs.size 680 cdv))) :
    RSs (CD P w K mg base N_L_all_kept d_L_all_kept.qual d_L_all_kept.scope 680 cdv A outer s H E) T0 B d_L_all_kept.body (m_L_all_kept F_L_subsets F_L_by_size F_L_stays) := by
  have hN : N_L_all_kept.Nodup := by decide
  exact (rss_one (rs_ret (re_frz (re_lc rfl hN (j := 2) rfl (show blkC N_L_all_kept d_L_all_kept.scope _ [("_law_rule", 2)] = true from by decide +kernel) (fun _ _ => rfl) (ri_seq (re_def f_L_by_size hr (by decide) rfl (ra_cons (re_def f_L_subsets hr (by decide) rfl (ra_cons (rv 1) ra_nil)) ra_nil))) (fun _ _ _ _ _ => (rts_one (rt_val (re_def f_L_stays hr (by decide) rfl (ra_cons (rv 0) (ra_cons (rv 2) ra_nil)))))) (fun _ _ _ _ _ => (rv 2))))))
abbrev N_L_holds : List Str := ["_law_rule", "_law_other", "_law_store"]
def m_L_holds : MS := (mSeq (mForI (iSq (mVar 1)) (gN 2) (mIfS (mB (mOp (wInB true) (mVar 2) (mVar 0))) (mRet (mC (.bl false))) mNext))
    (mRet (mC (.bl true))))
theorem t_L_holds (t : Top K mg) {cdv : Value} {A : Around} {outer : List Env} {s : Shared} {H B : Hp} {E : XK} (hr : Room 0 (A.deeper (envOfC d_L_holds.qual d_L_holds.scope s.heap.objs.size 687 cdv))) :
    RSs (CD P w K mg base N_L_holds d_L_holds.qual d_L_holds.scope 687 cdv A outer s H E) T0 B d_L_holds.body (m_L_holds ) := by
  have hN : N_L_holds.Nodup := by decide
  exact (rss_cons (rs_forI .never rfl (ri_seq (rv 1)) (rg_n hN rfl (.inl rfl)) (rss_one (rs_if ((cm_nin hr).rt (rv 2) (rv 0)) (rss_one (rs_ret re_bl)) rss_nil)))
    (rss_one (rs_ret re_bl)))
abbrev N_L_some : List Str := ["_law_hand_here", "_law_items", "_law_share", "_law_item"]
def m_L_some (F_L_take : FD) : MS := (mRet (mFrz (mLc (iSq (mVar 1)) 3 (mB (mOp wEq (mCB F_L_take (mCons (mVar 0) (mCons (mVar 2) mNil))) (mC (.int 0)))) (mVar 3))))
theorem t_L_some (t : Top K mg) {F_L_take : FD} (f_L_take : Fn P w K mg base T0 2 "_law_take" F_L_take) {cdv : Value} {A : Around} {outer : List Env} {s : Shared} {H B : Hp} {E : XK} (hr : Room 2 (A.deeper (envOfC d_L_some.qual d_L_some.scope s.heap.objs.size 692 cdv))) :
    RSs (CD P w K mg base N_L_some d_L_some.qual d_L_some.scope 692 cdv A outer s H E) T0 B d_L_some.body (m_L_some F_L_take) := by
  have hN : N_L_some.Nodup := by decide
  exact (rss_one (rs_ret (re_frz (re_lc rfl hN (j := 3) rfl (show blkC N_L_some d_L_some.scope _ [("_law_item", 3)] = true from by decide +kernel) (fun _ _ => rfl) (ri_seq (rv 1)) (fun _ _ _ _ _ => (rts_one ((cm_eq hr).rt (re_def f_L_take hr (by decide) rfl (ra_cons (rv 0) (ra_cons (rv 2) ra_nil))) re_int))) (fun _ _ _ _ _ => (rv 3))))))
abbrev N_L_back_program : List Str := ["_law_hand_here", "_law_cells", "_law_m", "_law_first", "_law_long", "_law_cell", "_law_way", "_law_row", "_law_back", "_law_put", "_law_free", "_law_other", "_law_amount", "_law_more", "_law_less", "_law_k"]
def m_L_back_program (F_L_take : FD) : MS := (mSeq (mAsg (mCB F_L_take (mCons (mVar 0) (mCons (mVar 1) mNil))) 5)
    (mSeq (mAsg (mCB F_L_take (mCons (mVar 0) (mCons (mIf (mB (mVar 4)) (mC (.int 4)) (mC (.int 3))) mNil))) 6)
    (mSeq (mIfS (mB (mOp wEq (mVar 6) (mC (.int 0)))) (mSeq (mAsg (mOp wIx (mLst (mCons (mLst (mCons (mC (.int 0)) (mCons (mC (.int 1)) (mCons (mC (.int 2)) mNil)))) (mCons (mLst (mCons (mC (.int 1)) (mCons (mC (.int 2)) (mCons (mC (.int 0)) mNil)))) (mCons (mLst (mCons (mC (.int 2)) (mCons (mC (.int 0)) (mCons (mC (.int 1)) mNil)))) (mCons (mLst (mCons (mC (.int 1)) (mCons (mC (.int 0)) (mCons (mC (.int 2)) mNil)))) (mCons (mLst (mCons (mC (.int 2)) (mCons (mC (.int 1)) (mCons (mC (.int 0)) mNil)))) (mCons (mLst (mCons (mC (.int 0)) (mCons (mC (.int 2)) (mCons (mC (.int 1)) mNil)))) mNil))))))) (mCB F_L_take (mCons (mVar 0) (mCons (mC (.int 6)) mNil)))) 7)
    (mSeq (mIfS (mB (mOp wEq (mVar 2) (mC (.int 2)))) (mAsg (mOp wIx (mLst (mCons (mLst (mCons (mC (.int 0)) (mCons (mC (.int 1)) mNil))) (mCons (mLst (mCons (mC (.int 1)) (mCons (mC (.int 0)) mNil))) (mCons (mLst (mCons (mC (.int 1)) (mCons (mC (.int 0)) mNil))) mNil)))) (mCB F_L_take (mCons (mVar 0) (mCons (mC (.int 3)) mNil)))) 7) mNext)
    (mSeq (mAsg (mFrz (mLc (iRg1 (mCons (mVar 2) mNil)) 15 mYes (mBM wInd (mVar 7) (mCons (mVar 15) mNil)))) 8)
    (mRet (mLst (mCons (mTup (mCons (mTup (mCons (mVar 5) (mCons (mC (.str "any")) (mCons (mTup (mCons (mC (.int 0)) mNil)) (mCons (mVar 3) mNil))))) (mCons (mTup (mCons (mVar 5) (mCons (mC (.str "any")) (mCons (mTup (mCons (mC (.int 1)) mNil)) (mCons (mOp wAdd (mVar 3) (mC (.int 1))) mNil))))) mNil))) (mCons (mLst (mCons (mCB wTuple (mCons (mVar 7) mNil)) (mCons (mCB wTuple (mCons (mVar 8) mNil)) mNil))) mNil))))))) mNext)
    (mSeq (mIfS (mB (mOp wEq (mVar 6) (mC (.int 1)))) (mSeq (mAsg (mTup (mCons (mCB F_L_take (mCons (mVar 0) (mCons (mVar 2) mNil))) mNil)) 9)
    (mRet (mLst (mCons (mTup (mCons (mTup (mCons (mVar 5) (mCons (mC (.str "any")) (mCons (mTup mNil) (mCons (mVar 3) mNil))))) (mCons (mTup (mCons (mVar 5) (mCons (mC (.str "any")) (mCons (mTup (mCons (mC (.int 0)) mNil)) (mCons (mOp wAdd (mVar 3) (mC (.int 1))) mNil))))) mNil))) (mCons (mLst (mCons (mVar 9) (mCons (mTupRg (mVar 2)) mNil))) mNil))))) mNext)
    (mSeq (mIfS (mB (mOp wEq (mVar 6) (mC (.int 2)))) (mSeq (mAsg (mCB wTuple (mCons (mFrz (mLc (iRg1 (mCons (mVar 2) mNil)) 15 mYes (mCB F_L_take (mCons (mVar 0) (mCons (mVar 2) mNil))))) mNil)) 10)
    (mSeq (mAsg (mCB F_L_take (mCons (mVar 0) (mCons (mVar 1) mNil))) 11)
    (mRet (mLst (mCons (mTup (mCons (mTup (mCons (mVar 5) (mCons (mC (.str "kept")) (mCons (mTup mNil) (mCons (mUn wNeg (mC (.int 1))) mNil))))) (mCons (mTup (mCons (mVar 11) (mCons (mC (.str "any")) (mCons (mTup (mCons (mC (.int 0)) mNil)) (mCons (mVar 3) mNil))))) mNil))) (mCons (mLst (mCons (mVar 10) mNil)) mNil)))))) mNext)
    (mSeq (mAsg (mOp wAdd (mC (.int 1)) (mCB F_L_take (mCons (mVar 0) (mCons (mOp wSub (mVar 2) (mC (.int 1))) mNil)))) 12)
    (mSeq (mAsg (mCB wTuple (mCons (mFrz (mLc (iRg1 (mCons (mVar 2) mNil)) 15 mYes (mOp wMod (mCB wInt (mCons (mOp wAdd (mVar 15) (mVar 12)) mNil)) (mVar 2)))) mNil)) 13)
    (mSeq (mAsg (mCB wTuple (mCons (mFrz (mLc (iRg1 (mCons (mVar 2) mNil)) 15 mYes (mOp wMod (mCB wInt (mCons (mOp wSub (mVar 15) (mVar 12)) mNil)) (mVar 2)))) mNil)) 14)
    (mSeq (mAsg (mOp wMod (mCB wInt (mCons (mOp wAdd (mVar 5) (mC (.int 1))) mNil)) (mVar 1)) 11)
    (mRet (mLst (mCons (mTup (mCons (mTup (mCons (mVar 5) (mCons (mC (.str "kept")) (mCons (mTup mNil) (mCons (mUn wNeg (mC (.int 1))) mNil))))) (mCons (mTup (mCons (mVar 5) (mCons (mC (.str "any")) (mCons (mTup (mCons (mC (.int 0)) mNil)) (mCons (mVar 3) mNil))))) (mCons (mTup (mCons (mVar 11) (mCons (mC (.str "any")) (mCons (mTup (mCons (mC (.int 2)) mNil)) (mCons (mOp wAdd (mVar 3) (mC (.int 1))) mNil))))) mNil)))) (mCons (mLst (mCons (mVar 13) (mCons (mVar 14) mNil))) mNil)))))))))))))
theorem t_L_back_program (t : Top K mg) {F_L_take : FD} (f_L_take : Fn P w K mg base T0 2 "_law_take" F_L_take) {cdv : Value} {A : Around} {outer : List Env} {s : Shared} {H B : Hp} {E : XK} (hr : Room 2 (A.deeper (envOfC d_L_back_program.qual d_L_back_program.scope s.heap.objs.size 697 cdv))) :
    RSs (CD P w K mg base N_L_back_program d_L_back_program.qual d_L_back_program.scope 697 cdv A outer s H E) T0 B d_L_back_program.body (m_L_back_program F_L_take) := by
  have hN : N_L_back_program.Nodup := by decide
  exact (rss_cons (rs_set hN rfl (.inl rfl) (re_def f_L_take hr (by decide) rfl (ra_cons (rv 0) (ra_cons (rv 1) ra_nil))))
    (rss_cons (rs_set hN rfl (.inl rfl) (re_def f_L_take hr (by decide) rfl (ra_cons (rv 0) (ra_cons (re_if (rt_val (rv 4)) re_int re_int) ra_nil))))
    (rss_cons (rs_if ((cm_eq hr).rt (rv 6) re_int) (rss_cons (rs_set hN rfl (.inr rfl) (re_sb hr (re_lst (ra_cons (re_lst (ra_cons re_int (ra_cons re_int (ra_cons re_int ra_nil)))) (ra_cons (re_lst (ra_cons re_int (ra_cons re_int (ra_cons re_int ra_nil)))) (ra_cons (re_lst (ra_cons re_int (ra_cons re_int (ra_cons re_int ra_nil)))) (ra_cons (re_lst (ra_cons re_int (ra_cons re_int (ra_cons re_int ra_nil)))) (ra_cons (re_lst (ra_cons re_int (ra_cons re_int (ra_cons re_int ra_nil)))) (ra_cons (re_lst (ra_cons re_int (ra_cons re_int (ra_cons re_int ra_nil)))) ra_nil))))))) (re_def f_L_take hr (by decide) rfl (ra_cons (rv 0) (ra_cons re_int ra_nil)))))
    (rss_cons (rs_if ((cm_eq hr).rt (rv 2) re_int) (rss_one (rs_set hN rfl (.inr rfl) (re_sb hr (re_lst (ra_cons (re_lst (ra_cons re_int (ra_cons re_int ra_nil))) (ra_cons (re_lst (ra_cons re_int (ra_cons re_int ra_nil))) (ra_cons (re_lst (ra_cons re_int (ra_cons re_int ra_nil))) ra_nil)))) (re_def f_L_take hr (by decide) rfl (ra_cons (rv 0) (ra_cons re_int ra_nil)))))) rss_nil)
    (rss_cons (rs_setLcF rfl hN rfl rfl (sw_true rfl rfl rfl rfl) (j := 15) rfl (show blkC N_L_back_program d_L_back_program.scope _ [("_law_k", 15)] = true from by decide +kernel) (fun _ _ => rfl) (ri_range1 rfl t.n_range (ra_cons (rv 2) ra_nil)) (fun _ _ _ _ _ => rts_nil) (fun _ _ _ _ _ => (re_ind (rv 7) (ra_cons (rv 15) ra_nil))))
    (rss_one (rs_ret (re_lst (ra_cons (re_tup (ra_cons (re_tup (ra_cons (rv 5) (ra_cons re_str (ra_cons (re_tup (ra_cons re_int ra_nil)) (ra_cons (rv 3) ra_nil))))) (ra_cons (re_tup (ra_cons (rv 5) (ra_cons re_str (ra_cons (re_tup (ra_cons re_int ra_nil)) (ra_cons (re_add (rv 3) re_int) ra_nil))))) ra_nil))) (ra_cons (re_lst (ra_cons (re_tuple rfl t.n_tuple (ra_cons (rv 7) ra_nil)) (ra_cons (re_tuple rfl t.n_tuple (ra_cons (rv 8) ra_nil)) ra_nil))) ra_nil)))))))) rss_nil)
    (rss_cons (rs_if ((cm_eq hr).rt (rv 6) re_int) (rss_cons (rs_set hN rfl (.inl rfl) (re_tup (ra_cons (re_def f_L_take hr (by decide) rfl (ra_cons (rv 0) (ra_cons (rv 2) ra_nil))) ra_nil)))
    (rss_one (rs_ret (re_lst (ra_cons (re_tup (ra_cons (re_tup (ra_cons (rv 5) (ra_cons re_str (ra_cons (re_tup ra_nil) (ra_cons (rv 3) ra_nil))))) (ra_cons (re_tup (ra_cons (rv 5) (ra_cons re_str (ra_cons (re_tup (ra_cons re_int ra_nil)) (ra_cons (re_add (rv 3) re_int) ra_nil))))) ra_nil))) (ra_cons (re_lst (ra_cons (rv 9) (ra_cons (re_tupRg rfl rfl t.n_tuple rfl t.n_range (rv 2)) ra_nil))) ra_nil)))))) rss_nil)
    (rss_cons (rs_if ((cm_eq hr).rt (rv 6) re_int) (rss_cons (rs_set hN rfl (.inl rfl) (re_tuple rfl t.n_tuple (ra_cons (re_frz (re_lc rfl hN (j := 15) rfl (show blkC N_L_back_program d_L_back_program.scope _ [("_law_k", 15)] = true from by decide +kernel) (fun _ _ => rfl) (ri_range1 rfl t.n_range (ra_cons (rv 2) ra_nil)) (fun _ _ _ _ _ => rts_nil) (fun _ _ _ _ _ => (re_def f_L_take hr (by decide) rfl (ra_cons (rv 0) (ra_cons (rv 2) ra_nil)))))) ra_nil)))
    (rss_cons (rs_set hN rfl (.inl rfl) (re_def f_L_take hr (by decide) rfl (ra_cons (rv 0) (ra_cons (rv 1) ra_nil))))
    (rss_one (rs_ret (re_lst (ra_cons (re_tup (ra_cons (re_tup (ra_cons (rv 5) (ra_cons re_str (ra_cons (re_tup ra_nil) (ra_cons (re_neg re_int) ra_nil))))) (ra_cons (re_tup (ra_cons (rv 11) (ra_cons re_str (ra_cons (re_tup (ra_cons re_int ra_nil)) (ra_cons (rv 3) ra_nil))))) ra_nil))) (ra_cons (re_lst (ra_cons (rv 10) ra_nil)) ra_nil))))))) rss_nil)
    (rss_cons (rs_set hN rfl (.inr rfl) (re_add re_int (re_def f_L_take hr (by decide) rfl (ra_cons (rv 0) (ra_cons (re_sub (rv 2) re_int) ra_nil)))))
    (rss_cons (rs_set hN rfl (.inl rfl) (re_tuple rfl t.n_tuple (ra_cons (re_frz (re_lc rfl hN (j := 15) rfl (show blkC N_L_back_program d_L_back_program.scope _ [("_law_k", 15)] = true from by decide +kernel) (fun _ _ => rfl) (ri_range1 rfl t.n_range (ra_cons (rv 2) ra_nil)) (fun _ _ _ _ _ => rts_nil) (fun _ _ _ _ _ => (re_mod (re_intc rfl t.n_int (ra_cons (re_add (rv 15) (rv 12)) ra_nil)) (rv 2))))) ra_nil)))
    (rss_cons (rs_set hN rfl (.inl rfl) (re_tuple rfl t.n_tuple (ra_cons (re_frz (re_lc rfl hN (j := 15) rfl (show blkC N_L_back_program d_L_back_program.scope _ [("_law_k", 15)] = true from by decide +kernel) (fun _ _ => rfl) (ri_range1 rfl t.n_range (ra_cons (rv 2) ra_nil)) (fun _ _ _ _ _ => rts_nil) (fun _ _ _ _ _ => (re_mod (re_intc rfl t.n_int (ra_cons (re_sub (rv 15) (rv 12)) ra_nil)) (rv 2))))) ra_nil)))
    (rss_cons (rs_set hN rfl (.inl rfl) (re_mod (re_intc rfl t.n_int (ra_cons (re_add (rv 5) re_int) ra_nil)) (rv 1)))
    (rss_one (rs_ret (re_lst (ra_cons (re_tup (ra_cons (re_tup (ra_cons (rv 5) (ra_cons re_str (ra_cons (re_tup ra_nil) (ra_cons (re_neg re_int) ra_nil))))) (ra_cons (re_tup (ra_cons (rv 5) (ra_cons re_str (ra_cons (re_tup (ra_cons re_int ra_nil)) (ra_cons (rv 3) ra_nil))))) (ra_cons (re_tup (ra_cons (rv 11) (ra_cons re_str (ra_cons (re_tup (ra_cons re_int ra_nil)) (ra_cons (re_add (rv 3) re_int) ra_nil))))) ra_nil)))) (ra_cons (re_lst (ra_cons (rv 13) (ra_cons (rv 14) ra_nil))) ra_nil))))))))))))))
abbrev N_L_world : List Str := ["_law_hand_here", "_law_cells", "_law_m", "_law_lot_here", "_law_many", "_law_programs", "_law_tables", "_law_p", "_law_steps_here", "_law_rows", "_law_k"]
def m_L_world (F_L_take F_L_sizes F_L_lot F_L_worn_meaning F_L_back_program : FD) : MS := (mSeq (mIfS (mB (mOp wEq (mCB F_L_take (mCons (mVar 0) (mCons (mC (.int 4)) mNil))) (mC (.int 0)))) (mSeq (mAsg (mCB F_L_lot (mCons (mVar 0) (mCons (mVar 1) (mCons (mCB F_L_sizes (mCons (mVar 0) mNil)) mNil)))) 3)
    (mRet (mLst (mCons (mVar 3) (mCons (mCB F_L_worn_meaning (mCons (mVar 0) (mCons (mVar 3) (mCons (mVar 2) mNil)))) mNil))))) mNext)
    (mSeq (mAsg (mIf (mB (mOp wEq (mCB F_L_take (mCons (mVar 0) (mCons (mC (.int 5)) mNil))) (mC (.int 0)))) (mC (.int 3)) (mC (.int 2))) 4)
    (mSeq (mAsg (mLstO mNil) 5)
    (mSeq (mAsg mNewK 6)
    (mSeq (mForI (iRg1 (mCons (mVar 4) mNil)) (gN 7) (mSeq (mAsgG (mCB F_L_back_program (mCons (mVar 0) (mCons (mVar 1) (mCons (mVar 2) (mCons (mOp wMul (mC (.int 2)) (mVar 7)) (mCons (mOp wEq (mVar 4) (mC (.int 2))) mNil)))))) (gT 2 (gCons' (gN 8) (gCons' (gN 9) gNil'))))
    (mSeq (mIfS (mB (mOp wEq (mVar 7) (mC (.int 2)))) (mAsgG (mLst (mCons (mTup (mCons (mTup (mCons (mCB F_L_take (mCons (mVar 0) (mCons (mVar 1) mNil))) (mCons (mC (.str "any")) (mCons (mTup (mCons (mC (.int 0)) mNil)) (mCons (mC (.int 4)) mNil))))) mNil)) (mCons (mLst (mCons (mCB wTuple (mCons (mFrz (mLc (iRg1 (mCons (mVar 2) mNil)) 10 mYes (mCB F_L_take (mCons (mVar 0) (mCons (mVar 2) mNil))))) mNil)) mNil)) mNil))) (gT 2 (gCons' (gN 8) (gCons' (gN 9) gNil')))) mNext)
    (mSeq (mForI (iRg1 (mCons (mCB wLen (mCons (mVar 9) mNil)) mNil)) (gN 10) (mAsgG (mOp wIx (mVar 9) (mVar 10)) (gSet (mVar 6) (mOp wAdd (mOp wMul (mC (.int 2)) (mVar 7)) (mVar 10)))))
    (mDrop (mBM wApp (mVar 5) (mCons (mVar 8) mNil)))))))
    (mRet (mLst (mCons (mTup (mCons (mVar 1) (mCons (mCB wTuple (mCons (mVar 5) mNil)) mNil))) (mCons (mFrz (mVar 6)) mNil)))))))))
theorem t_L_world (t : Top K mg) {F_L_take F_L_sizes F_L_lot F_L_worn_meaning F_L_back_program : FD} (f_L_take : Fn P w K mg base T0 2 "_law_take" F_L_take) (f_L_sizes : Fn P w K mg base T0 3 "_law_sizes" F_L_sizes) (f_L_lot : Fn P w K mg base T0 4 "_law_lot" F_L_lot) (f_L_worn_meaning : Fn P w K mg base T0 3 "_law_worn_meaning" F_L_worn_meaning) (f_L_back_program : Fn P w K mg base T0 3 "_law_back_program" F_L_back_program) {cdv : Value} {A : Around} {outer : List Env} {s : Shared} {H B : Hp} {E : XK} (hr : Room 4 (A.deeper (envOfC d_L_world.qual d_L_world.scope s.heap.objs.size 702 cdv))) :
    RSs (CD P w K mg base N_L_world d_L_world.qual d_L_world.scope 702 cdv A outer s H E) T0 B d_L_world.body (m_L_world F_L_take F_L_sizes F_L_lot F_L_worn_meaning F_L_back_program) := by
  have hN : N_L_world.Nodup := by decide
  exact (rss_cons (rs_if ((cm_eq hr).rt (re_def f_L_take hr (by decide) rfl (ra_cons (rv 0) (ra_cons re_int ra_nil))) re_int) (rss_cons (rs_set hN rfl (.inl rfl) (re_def f_L_lot hr (by decide) rfl (ra_cons (rv 0) (ra_cons (rv 1) (ra_cons (re_def f_L_sizes hr (by decide) rfl (ra_cons (rv 0) ra_nil)) ra_nil)))))
    (rss_one (rs_ret (re_lst (ra_cons (rv 3) (ra_cons (re_def f_L_worn_meaning hr (by decide) rfl (ra_cons (rv 0) (ra_cons (rv 3) (ra_cons (rv 2) ra_nil)))) ra_nil)))))) rss_nil)
    (rss_cons (rs_set hN rfl (.inl rfl) (re_if ((cm_eq hr).rt (re_def f_L_take hr (by decide) rfl (ra_cons (rv 0) (ra_cons re_int ra_nil))) re_int) re_int re_int))
    (rss_cons (rs_set hN rfl (.inl rfl) (re_lstO ra_nil))
    (rss_cons (rs_set hN rfl (.inl rfl) re_newK)
    (rss_cons (rs_forI .never rfl (ri_range1 rfl t.n_range (ra_cons (rv 4) ra_nil)) (rg_n hN rfl (.inl rfl)) (rss_cons (rs_asg (re_def f_L_back_program hr (by decide) rfl (ra_cons (rv 0) (ra_cons (rv 1) (ra_cons (rv 2) (ra_cons (re_mul re_int (rv 7)) (ra_cons ((cm_eq hr).re (rv 4) re_int) ra_nil)))))) (rg_t rfl (rgs_cons (rg_n hN rfl (.inl rfl)) (rgs_cons (rg_n hN rfl (.inl rfl)) rgs_nil))))
    (rss_cons (rs_if ((cm_eq hr).rt (rv 7) re_int) (rss_one (rs_asg (re_lst (ra_cons (re_tup (ra_cons (re_tup (ra_cons (re_def f_L_take hr (by decide) rfl (ra_cons (rv 0) (ra_cons (rv 1) ra_nil))) (ra_cons re_str (ra_cons (re_tup (ra_cons re_int ra_nil)) (ra_cons re_int ra_nil))))) ra_nil)) (ra_cons (re_lst (ra_cons (re_tuple rfl t.n_tuple (ra_cons (re_frz (re_lc rfl hN (j := 10) rfl (show blkC N_L_world d_L_world.scope _ [("_law_k", 10)] = true from by decide +kernel) (fun _ _ => rfl) (ri_range1 rfl t.n_range (ra_cons (rv 2) ra_nil)) (fun _ _ _ _ _ => rts_nil) (fun _ _ _ _ _ => (re_def f_L_take hr (by decide) rfl (ra_cons (rv 0) (ra_cons (rv 2) ra_nil)))))) ra_nil)) ra_nil)) ra_nil))) (rg_t rfl (rgs_cons (rg_n hN rfl (.inl rfl)) (rgs_cons (rg_n hN rfl (.inl rfl)) rgs_nil))))) rss_nil)
    (rss_cons (rs_forI .never rfl (ri_range1 rfl t.n_range (ra_cons (re_len rfl t.n_len (ra_cons (rv 9) ra_nil)) ra_nil)) (rg_n hN rfl (.inl rfl)) (rss_one (rs_asg (re_sb hr (rv 9) (rv 10)) (rg_s hr (rv 6) (re_add (re_mul re_int (rv 7)) (rv 10))))))
    (rss_one (rs_expr (re_app (rv 5) (ra_cons (rv 8) ra_nil))))))))
    (rss_one (rs_ret (re_lst (ra_cons (re_tup (ra_cons (rv 1) (ra_cons (re_tuple rfl t.n_tuple (ra_cons (rv 5) ra_nil)) ra_nil))) (ra_cons (re_frz (rv 6)) ra_nil))))))))))
abbrev N_L_least_among : List Str := ["_law_rules", "_law_told", "_law_rule", "_law_one"]
def m_L_least_among (F_L_holds : FD) : MS := (mSeq (mAsg (mLstO mNil) 1)
    (mSeq (mForI (iSq (mVar 0)) (gN 2) (mIfS (mB (mOp wEq (mCB wLen (mCons (mFrz (mLc (iSq (mVar 1)) 3 (mB (mCB F_L_holds (mCons (mVar 2) (mCons (mVar 3) mNil)))) (mVar 3))) mNil)) (mC (.int 0)))) (mDrop (mBM wApp (mVar 1) (mCons (mVar 2) mNil))) mNext))
    (mRet (mVar 1))))
theorem t_L_least_among (t : Top K mg) {F_L_holds : FD} (f_L_holds : Fn P w K mg base T0 1 "_law_holds" F_L_holds) {cdv : Value} {A : Around} {outer : List Env} {s : Shared} {H B : Hp} {E : XK} (hr : Room 1 (A.deeper (envOfC d_L_least_among.qual d_L_least_among.scope s.heap.objs.size 707 cdv))) :
    RSs (CD P w K mg base N_L_least_among d_L_least_among.qual d_L_least_among.scope 707 cdv A outer s H E) T0 B d_L_least_among.body (m_L_least_among F_L_holds) := by
  have hN : N_L_least_among.Nodup := by decide
  exact (rss_cons (rs_set hN rfl (.inl rfl) (re_lstO ra_nil))
    (rss_cons (rs_forI .never rfl (ri_seq (rv 0)) (rg_n hN rfl (.inr rfl)) (rss_one (rs_if ((cm_eq hr).rt (re_len rfl t.n_len (ra_cons (re_frz (re_lc rfl hN (j := 3) rfl (show blkC N_L_least_among d_L_least_among.scope _ [("_law_one", 3)] = true from by decide +kernel) (fun _ _ => rfl) (ri_seq (rv 1)) (fun _ _ _ _ _ => (rts_one (rt_val (re_def f_L_holds hr (by decide) rfl (ra_cons (rv 2) (ra_cons (rv 3) ra_nil)))))) (fun _ _ _ _ _ => (rv 3)))) ra_nil)) re_int) (rss_one (rs_expr (re_app (rv 1) (ra_cons (rv 2) ra_nil)))) rss_nil)))
    (rss_one (rs_ret (rv 1)))))
abbrev N_L_breaking : List Str := ["_law_hand_here", "_law_lot_here", "_law_m", "_law_tables", "_law_kept", "_law_sizes_here", "_law_bad", "_law_weaving_here", "_law_move_here", "_law_program", "_law_rule"]
def m_L_breaking (F_L_weavings F_L_move F_L_stays F_L_take F_L_woven : FD) : MS := (mSeq (mAsg (mFrz (mLc (iSq (mOp wIx (mVar 1) (mC (.int 1)))) 9 mYes (mCB wLen (mCons (mVar 9) mNil)))) 5)
    (mSeq (mAsg (mLstO mNil) 6)
    (mSeq (mForI (iSq (mCB F_L_weavings (mCons (mVar 5) mNil))) (gN 7) (mSeq (mAsg (mCB F_L_move (mCons (mVar 1) (mCons (mVar 2) (mCons (mVar 3) (mCons (mVar 7) mNil))))) 8)
    (mIfS (mB (mOp wGt (mCB wLen (mCons (mFrz (mLc (iSq (mVar 4)) 10 (mNot (mB (mCB F_L_stays (mCons (mLst (mCons (mVar 8) mNil)) (mCons (mVar 10) mNil))))) (mVar 10))) mNil)) (mC (.int 0)))) (mDrop (mBM wApp (mVar 6) (mCons (mVar 7) mNil))) mNext)))
    (mSeq (mIfS (mAnd (mB (mOp wGt (mCB wLen (mCons (mVar 6) mNil)) (mC (.int 0)))) (mB (mOp wGt (mCB F_L_take (mCons (mVar 0) (mCons (mC (.int 4)) mNil))) (mC (.int 0))))) (mRet (mOp wIx (mVar 6) (mCB F_L_take (mCons (mVar 0) (mCons (mCB wLen (mCons (mVar 6) mNil)) mNil))))) mNext)
    (mRet (mCB F_L_woven (mCons (mVar 0) (mCons (mVar 5) mNil))))))))
theorem t_L_breaking (t : Top K mg) {F_L_weavings F_L_move F_L_stays F_L_take F_L_woven : FD} (f_L_weavings : Fn P w K mg base T0 1 "_law_weavings" F_L_weavings) (f_L_move : Fn P w K mg base T0 3 "_law_move" F_L_move) (f_L_stays : Fn P w K mg base T0 1 "_law_stays" F_L_stays) (f_L_take : Fn P w K mg base T0 2 "_law_take" F_L_take) (f_L_woven : Fn P w K mg base T0 4 "_law_woven" F_L_woven) {cdv : Value} {A : Around} {outer : List Env} {s : Shared} {H B : Hp} {E : XK} (hr : Room 4 (A.deeper (envOfC d_L_breaking.qual d_L_breaking.scope s.heap.objs.size 717 cdv))) :
    RSs (CD P w K mg base N_L_breaking d_L_breaking.qual d_L_breaking.scope 717 cdv A outer s H E) T0 B d_L_breaking.body (m_L_breaking F_L_weavings F_L_move F_L_stays F_L_take F_L_woven) := by
  have hN : N_L_breaking.Nodup := by decide
  exact (rss_cons (rs_setLcF rfl hN rfl rfl (sw_true rfl rfl rfl rfl) (j := 9) rfl (show blkC N_L_breaking d_L_breaking.scope _ [("_law_program", 9)] = true from by decide +kernel) (fun _ _ => rfl) (ri_seq (re_sb hr (rv 1) re_int)) (fun _ _ _ _ _ => rts_nil) (fun _ _ _ _ _ => (re_len rfl t.n_len (ra_cons (rv 9) ra_nil))))
    (rss_cons (rs_set hN rfl (.inl rfl) (re_lstO ra_nil))
    (rss_cons (rs_forI .never rfl (ri_seq (re_def f_L_weavings hr (by decide) rfl (ra_cons (rv 5) ra_nil))) (rg_n hN rfl (.inl rfl)) (rss_cons (rs_set hN rfl (.inr rfl) (re_def f_L_move hr (by decide) rfl (ra_cons (rv 1) (ra_cons (rv 2) (ra_cons (rv 3) (ra_cons (rv 7) ra_nil))))))
    (rss_one (rs_if (cm_gt.rt (re_len rfl t.n_len (ra_cons (re_frz (re_lc rfl hN (j := 10) rfl (show blkC N_L_breaking d_L_breaking.scope _ [("_law_rule", 10)] = true from by decide +kernel) (fun _ _ => rfl) (ri_seq (rv 4)) (fun _ _ _ _ _ => (rts_one (rt_not (rt_val (re_def f_L_stays hr (by decide) rfl (ra_cons (re_lst (ra_cons (rv 8) ra_nil)) (ra_cons (rv 10) ra_nil))))))) (fun _ _ _ _ _ => (rv 10)))) ra_nil)) re_int) (rss_one (rs_expr (re_app (rv 6) (ra_cons (rv 7) ra_nil)))) rss_nil))))
    (rss_cons (rs_if (rt_bool (rw_and (cm_gt.rt (re_len rfl t.n_len (ra_cons (rv 6) ra_nil)) re_int) (rw_and1 (cm_gt.rt (re_def f_L_take hr (by decide) rfl (ra_cons (rv 0) (ra_cons re_int ra_nil))) re_int)))) (rss_one (rs_ret (re_sb hr (rv 6) (re_def f_L_take hr (by decide) rfl (ra_cons (rv 0) (ra_cons (re_len rfl t.n_len (ra_cons (rv 6) ra_nil)) ra_nil)))))) rss_nil)
    (rss_one (rs_ret (re_def f_L_woven hr (by decide) rfl (ra_cons (rv 0) (ra_cons (rv 5) ra_nil)))))))))
end
end KG
/-! DK: dict comprehensions whose keys are tuples. -/
namespace KG
open L2 PySem PyProof.Rows PySem.Spec
/-- D[(..)] = z by a comprehension -/
theorem dset_t {X : Cx} {pins : List (Addr × Obj)} {σ : L2.St} {H H' : Hp} {s : Shared} {Er : Value → Shared → Prop} {D : Addr} {kvs : List (List Key × V)} {y z : V} {u r : Value} {Q : Unit → Shared → Prop}
    (hu : X.A.units < cLine) (I : Inv X pins σ H s) (hD : H D = some (.dT kvs)) (g : DPut H D y z H') (ry : RelV y u) (rz : RelV z r) (h : ∀ s', Inv X pins σ H' s' → Q () s') : wpAny (model X.prog X.w) X.A (dictSet D u r) Q Er s := by
  rcases g with ⟨kvs2, k, e, _⟩ | ⟨kvs2, k, b, e, ey, eb, l, eH⟩
  · rw [hD] at e; cases e
  · rw [hD] at e
    cases e
    subst ey eH
    obtain rfl : u = Value.ref b := ry
    obtain ⟨zl, hd, xs, rel, dd⟩ := dt_of I.hok hD
    have zx : xs.length ≤ sizeLine := Nat.le_trans (Nat.le_of_eq (Paired.length rel).symm) zl
    have zn : (putK kvs k z).length ≤ sizeLine := Nat.le_trans (length_putK kvs k z) (Nat.succ_le_of_lt l)
    refine wpAny_dictSet_heap (knd := tupleKind (mixKind X.prog X.w)) (hsz := zx) hu (key_of I.hok eb) dd fun g dd' same => h _ ?_
    obtain ⟨q, es, ep, a1, a2, a3, a4, _, a6⟩ := dd'
    have still : ∀ c ys, H c = some (.tup ys) → upd H D (.dT (putK kvs k z)) c = some (.tup ys) := fun c ys ec => by
      have ne : c ≠ D := fun w => by
        rw [w, hD] at ec
        cases ec
      rw [upd_ne ne, ec]
    exact d_write I (by rw [hD]; exact trivial) same ⟨q, a1⟩ ⟨zn, hd, _, (rel.put k eb rz).keeps still, q, es, ep, a1, a2, a3, a4, a6⟩
/-- {k: v for x in iter}: the reading -/
def tDcT (wi : TI) (j : Nat) (tk tv : TE) : TE := fun σ H Q => wi σ H fun J H1 => ∀ D, H1 D = none → ∃ W : Nat → Nat → Hp → Prop, (∃ m, W 0 m (upd H1 D (.dT []))) ∧ ∀ i m H', W i m H' →
  (J.stop i H' ∧ Q (.ref D) H') ∨ (J.go i H' ∧ ∃ Nx : Hp → Prop, (∀ H2, Nx H2 → ∃ m', m' < m ∧ W (i + 1) m' H2) ∧ ∀ x H2, J.yld i H' x H2 → tk ((σ.set j none).set j (some x)) H2 fun y H4 => tv ((σ.set j none).set j (some x)) H4 fun z H5 =>
    ∃ kvs H6, H5 D = some (.dT kvs) ∧ DPut H5 D y z H6 ∧ Nx H6)
section
variable {X : Cx} {kx vx iter : Expr} {scope : Scope} {x : Str} {j : Nat} {px pos : Pos} {wi : TI} {tk tv : TE}
theorem pe_dcT (hc : X.calm = true) (hu : X.A.units < cLine) (hN : X.N.Nodup) (hx : X.N[j]? = some x) (hi : PI X (.Name x px) iter wi) (ok : BlkOk X.N X.env.scope scope [(x, j)]) (hl : ∀ (C : Addr) (cl : List (Str × Addr)), (compEnvC scope cl C X.env).scope.names.lookup x = some .local)
    (hk : ∀ (s : Shared) (H : Hp) (C : Addr) (cl : List (Str × Addr)) (fp : List Addr), PE (X.blk s H scope (compEnvC scope cl C X.env) fp) kx tk)
    (hv : ∀ (s : Shared) (H : Hp) (C : Addr) (cl : List (Str × Addr)) (fp : List Addr), PE (X.blk s H scope (compEnvC scope cl C X.env) fp) vx tv) (hs : ∀ x, foldedSetIterable iter X.env x = pure x) :
    PE X (.DictComp kx vx [⟨.Name x px, iter, [], 0⟩] scope pos) (tDcT wi j tk tv) := by
  refine ⟨fun pins s σ H Q I h => ?_⟩
  rw [arm_eval_DictComp]
  have cl0 : closureFor scope X.env = pure (cloFrom X.env.cells scope.names []) := closure_ok fun y hy e => (ok.free y hy e).elim (fun k => I.ok.has _ (.inl k)) fun k => I.ok.has _ (.inr k)
  refine wpAny_comprehension_free (use := none) rfl hs cl0 ok.kind (fun y hy e => (ok.uniq y hy).trans (congrArg some e)) ?_
  refine thn (hi.run pins s σ H _ I h) fun xv s1 h1 => thn h1 fun itv s2 ⟨it, fp, tn, J, H2, e, I2, T, st2, f2, q⟩ => ?_
  subst e
  refine wpAny_newObj_type (newEnv_comp ?_)
  generalize hD : s2.heap.objs.size = D
  have hDn : H2 D = none := I2.hok.fresh (Nat.le_of_eq hD)
  obtain ⟨W, ⟨m0, w0⟩, turn⟩ := q D hDn
  generalize hs3 : ({ s2 with heap := s2.heap.push { cls := .type "dict", data := .dict #[] } } : Shared) = s3
  have e3 : s3.heap = s2.heap.push { cls := .type "dict", data := .dict #[] } := by subst hs3; rfl
  have up3 : ∀ b o, s2.heap.get? b = some o → s3.heap.get? b = some o := fun b o z => by rw [e3]; exact Heap.get?_push_of_some _ z
  have I3 : Inv X pins σ (upd H2 D (.dT [])) s3 := by
    subst hs3
    refine I2.laid (t' := s2.toks) up3 (Nat.le_of_eq hD) ?_
    subst hD
    exact dt_empty s2.heap I2.big
  have small : ∀ b ∈ fp, b < s2.heap.objs.size := fun b hb => (T.obj _ _ st2 b hb).elim fun o z => Heap.lt_size z.1
  have f3 : ∀ b ∈ fp, FpOk X pins (upd H2 D (.dT [])) b ∧ b < s3.heap.objs.size := fun b hb => by
    have lt := small b hb
    have ne : b ≠ D := Nat.ne_of_lt (Nat.lt_of_lt_of_eq lt hD)
    refine ⟨⟨(upd_ne ne).trans (f2 b hb).1, (f2 b hb).2⟩, ?_⟩
    rw [e3, Heap.size_push]
    exact Nat.lt_succ_of_lt lt
  have I4 := block_start I3 ok hN f3
  have pk := hk s3 (upd H2 D (.dT [])) s3.heap.objs.size (cellsFrom (s3.heap.objs.size + 1) scope.names (cloFrom X.env.cells scope.names [])) fp
  have pv := hv s3 (upd H2 D (.dT [])) s3.heap.objs.size (cellsFrom (s3.heap.objs.size + 1) scope.names (cloFrom X.env.cells scope.names [])) fp
  have pg : PG (X.blk s3 (upd H2 D (.dT [])) scope (compEnvC scope (cellsFrom (s3.heap.objs.size + 1) scope.names (cloFrom X.env.cells scope.names [])) s3.heap.objs.size X.env) fp) (.Name x px) (gName j) := pg_name hN hx (.inl (hl _ _)) (.inr (hl _ _))
  have clear : ∀ b ∈ fp, upd H2 D (.dT []) b = none := fun b hb => (f3 b hb).1.1
  show codeAny _ _ (.compStart (.DictComp kx vx [⟨.Name x px, iter, [], 0⟩] scope pos) 0 (.ref it) (.ref D) (compEnvC scope (cellsFrom (s3.heap.objs.size + 1) scope.names (cloFrom X.env.cells scope.names [])) s3.heap.objs.size X.env)) _ { s3 with heap := pushCells (s3.heap.push { cls := .type "dict", data := .dict #[] }) scope.names }
  generalize hce : compEnvC scope (cellsFrom (s3.heap.objs.size + 1) scope.names (cloFrom X.env.cells scope.names [])) s3.heap.objs.size X.env = ce at I4 pg pk pv ⊢
  have ceL : ce.locals = s3.heap.objs.size := by subst hce; rfl
  generalize hH3 : upd H2 D (.dT []) = H3 at I3 I4 pg pk pv w0 clear f3
  generalize hs4 : ({ s3 with heap := pushCells (s3.heap.push { cls := .type "dict", data := .dict #[] }) scope.names } : Shared) = s4 at I4 ⊢
  have st4 : tn 0 s4.heap := by
    refine T.keep _ _ _ st2 fun b _ o z => ?_
    subst hs4
    exact pushCells_keeps _ _ _ _ (Heap.get?_push_of_some _ (up3 b o z))
  have fpo : ∀ {σ' : L2.St} {H' : Hp} {s' : Shared}, Inv (X.blk s3 H3 scope ce fp) [] σ' H' s' → (∀ b ∈ fp, H' b = none) → ∀ b ∈ fp, FpOk (X.blk s3 H3 scope ce fp) [] H' b := fun I' nn b hb =>
    ⟨nn b hb, (I'.ok.exf b hb).1, I'.ok.exfs b hb, .inl hb, (I'.ok.exf b hb).2, fun p hp => by simp [Cx.blk] at hp⟩
  refine (fun loop => codeAny_compStart_dict loop (T.self X.A 0 _ _ _ st4 loop)) (compLoop_anyD (fun n s' => ∃ i H', Inv (X.blk s3 H3 scope ce fp) [] (σ.set j none) H' s' ∧ tn i s'.heap ∧ (∀ b ∈ fp, H' b = none) ∧ W i n H') ?_ m0 ⟨0, H3, I4, st4, clear, w0⟩)
  rintro n s5 ⟨i, H5, I5, st5, n5, w5⟩
  rcases turn i n H5 w5 with ⟨stop, qq⟩ | ⟨go, Nx, hNx, step⟩
  · refine thnF (T.done (X.blk s3 H3 scope ce fp) rfl rfl rfl hc i [] s5 _ H5 (fun _ _ => False) I5 (fpo I5 n5) st5 stop) fun r s6 ⟨hr, I6⟩ => ?_
    subst hr
    have I7 : Inv X pins σ H5 s6 := I3.call' (ch := fp) I6.os I6.base I6.hok I6.bare fun b hb => by
      obtain ⟨_, y1, y2, y3, y4, y5⟩ := (f3 b hb).1
      exact ⟨y3, y1, y4, y5⟩
    have nC : H5 s3.heap.objs.size = none := by
      have z := I6.free
      rw [show (X.blk s3 H3 scope ce fp).env.locals = ce.locals from rfl, ceL] at z
      exact z
    obtain ⟨m, hn, _⟩ := I6.loc
    rw [show (X.blk s3 H3 scope ce fp).env.locals = ce.locals from rfl, ceL] at hn
    refine ⟨m, hn, fun h2 sb => ?_⟩
    obtain ⟨z0, z1, z2, z3, z4, z5⟩ := I3.fpOk (Nat.le_refl _) nC
    exact ⟨.ref D, H5, I7.turned (t' := s6.toks) (fun b o hb e => (sb.2 b hb).trans e) z0 z1 z3 z4 z5, rfl, qq⟩
  · refine thnF (T.item (X.blk s3 H3 scope ce fp) rfl rfl rfl hc i [] s5 _ H5 (fun _ _ => False) I5 (fpo I5 n5) st5 go) fun r s6 ⟨u, hr, h6⟩ => ?_
    subst hr
    refine thnF h6 fun _ s7 ⟨y, H7, I7, r7, y7, st7, n7⟩ => ?_
    have J7 := I7.pinned (fpo I7 n7) (T.obj _ _ st7)
    refine thnF (pg.run _ s7 _ H7 y u (fun σ2 H' => σ2 = (σ.set j none).set j (some y) ∧ H' = H7) J7 r7 ⟨rfl, rfl⟩) fun _ s8 ⟨σ8, H8, I8, e8, e9⟩ => ?_
    subst e8 e9
    refine wpAny_pure ?_
    rw [if_pos rfl]
    refine thnF (pk.run _ s8 _ H8 _ I8 (step y H8 y7)) fun u1 s9 ⟨y1, H9, I9, r9, q9⟩ => ?_
    refine thnF (pv.run _ s9 _ H9 _ I9 q9) fun u2 s10 ⟨y2, H10, I10, r10, kvs, H11, hD10, g, nx⟩ => ?_
    refine dset_t (X := X.blk s3 H3 scope ce fp) hu I10 hD10 g r9 r10 fun s11 I11 => ?_
    obtain ⟨m', hm, w'⟩ := hNx H11 nx
    have pin : ∀ b ∈ fp, ∀ o, s7.heap.get? b = some o → s11.heap.get? b = some o ∧ H11 b = none := fun b hb o e => by
      have z := I11.pin (b, o) (List.mem_append_right _ (List.mem_append_right _ (mem_pinsAt hb e)))
      exact ⟨z.1, z.2.1⟩
    refine ⟨m', hm, i + 1, H11, (I11.unpinned (pins := [])).weak (by simp) (fun a v e => ?_), T.keep _ _ _ st7 fun b hb o e => (pin b hb o e).1, fun b hb => ?_, w'⟩
    · by_cases hj : j = a
      · subst hj
        rw [List.getElem?_set] at e
        split at e
        · split at e <;> cases e
        · rename_i hne; exact absurd rfl hne
      · rw [List.getElem?_set_ne hj] at e
        rw [List.getElem?_set_ne hj, List.getElem?_set_ne hj]
        exact e
    · obtain ⟨o, e, _⟩ := T.obj _ _ st7 b hb
      exact (pin b hb o e).2
end
end KG
/-! DL: dict comprehensions with tuple keys, try that runs through, len(set(..)), keys of a dict, over data. -/
namespace KG
open L2 PySem PyProof.Rows PySem.Spec
section
variable {X : Cx} {T : TabL} {B : Hp} {a b e tg : Expr} {ma mb : ME} {pos : Pos} {K : PySem.W.Frag} {mi : MI}
/-! ### {k: v for x in ..} -/
def mDcT (mi : MI) (j : Nat) (mk mv : ME) : ME := fun Ω Δ P => mi Ω Δ fun n item keep Ω1 => ∀ l, Ω1 l = none → ∃ W : Nat → Om → Prop, W 0 (put Ω1 l (.dt [])) ∧ (∀ i Ω', i ≤ n → W i Ω' → keep Ω') ∧
  (∀ i Ω', i < n → W i Ω' → mk Ω' (Δ.set j (some (item i))) fun y Ω3 => mv Ω3 (Δ.set j (some (item i))) fun z Ω4 => ∃ kvs ds k, Ω4 l = some (.dt kvs) ∧ y = .tup ds ∧ keysD ds = some k ∧ kvs.length < 100000 ∧ W (i + 1) (put Ω4 l (.dt (dput kvs k z)))) ∧
  ∀ Ω', W n Ω' → P (.ptr l) Ω'
theorem re_dcT {kx vx iter : Expr} {scope : Scope} {x : Str} {j : Nat} {px : Pos} {mk mv : ME} {k : Nat} (hr : Room k X.A) (hc : X.calm = true) (hN : X.N.Nodup) (hx : X.N[j]? = some x) (ok : blkC X.N X.env.scope scope [(x, j)] = true) (hl : ∀ (C : Addr) (cl : List (Str × Addr)), (compEnvC scope cl C X.env).scope.names.lookup x = some .local) (hi : RI X T B (.Name x px) iter mi)
    (hk : ∀ (s : Shared) (H : Hp) (C : Addr) (cl : List (Str × Addr)) (fp : List Addr), RE (X.blk s H scope (compEnvC scope cl C X.env) fp) T B kx mk)
    (hv : ∀ (s : Shared) (H : Hp) (C : Addr) (cl : List (Str × Addr)) (fp : List Addr), RE (X.blk s H scope (compEnvC scope cl C X.env) fp) T B vx mv) (hs : ∀ x, foldedSetIterable iter X.env x = pure x := by intro _; rfl) :
    RE X T B (.DictComp kx vx [⟨.Name x px, iter, [], 0⟩] scope pos) (mDcT mi j mk mv) :=
  peM (pe_dcT (tk := rE X.K T B mk) (tv := rE X.K T B mv) hc (by have := hr.un; omega) hN hx hi (blkOk_by ok) hl hk hv hs) fun σ H Q ⟨G, Ω, Δ, P, s, e, m, wk⟩ => ⟨G, Ω, Δ, _, s, e, m, fun J n item keep Ω1 G1 H1 l1 s1 hW hJ D hD => by
    obtain ⟨hG, hO⟩ := s1.free hD
    obtain ⟨W, w0, wkp, turn, fin⟩ := hW D hO
    refine ⟨fun i m H' => m = n - i ∧ i ≤ n ∧ ∃ Gi Ωi, Le X.K G1 Gi ∧ Sat X.K T B Gi H' Ωi ∧ W i Ωi, ⟨_, rfl, Nat.zero_le _, G1, _, Le.refl _ _, s1.newO (ob := .dt []) hD ⟨[], [], [], upd_same, .nil, rfl, rfl⟩, w0⟩, ?_⟩
    rintro i m H' ⟨rfl, hi, Gi, Ωi, li, si, wi⟩
    obtain ⟨hgo, hstop⟩ := hJ i Gi H' Ωi li si (wkp i Ωi hi wi)
    by_cases hlt : i < n
    · obtain ⟨h1, h2⟩ := hgo hlt
      refine .inr ⟨h1, fun H2 => ∃ G2 Ω2, Le X.K G1 G2 ∧ Sat X.K T B G2 H2 Ω2 ∧ W (i + 1) Ω2, fun H2 ⟨G2, Ω2, l2, s2, w2⟩ => ⟨n - (i + 1), by omega, rfl, hlt, G2, Ω2, l2, s2, w2⟩, fun x H2 y => ?_⟩
      obtain ⟨rfl, rx⟩ := h2 x H2 y
      have ei : SlE X.K Gi (σ.set j (some x)) (Δ.set j (some (item i))) := (e.le (l1.trans li)).set rx
      rw [show (σ.set j none).set j (some x) = σ.set j (some x) from List.set_set ..]
      refine ⟨Gi, Ωi, _, _, si, ei, turn i Ωi hlt wi, fun v d Ω3 G3 H3 l3 s3 r3 m3 => ⟨G3, Ω3, _, _, s3, ei.le l3, m3, fun v2 z Ω4 G4 H4 l4 s4 r4 ⟨kvs, ds, k, ho, hd, hk, hz, w4⟩ => ?_⟩⟩
      subst hd
      have r3' := l4 _ _ r3
      obtain ⟨H5, hp⟩ : ∃ H5, DPut H4 D v v2 H5 ∧ ∃ Ω5, Sat X.K T B G4 H5 Ω5 ∧ Ω5 = put Ω4 D (.dt (dput kvs k z)) := by
        rcases d_set (R := fun Ω5 => Ω5 = put Ω4 D (.dt (dput kvs k z))) (Q := fun _ => True) s4 (.ptr D) r3' r4 ⟨D, rfl, .inr (.inr ⟨kvs, ds, k, ho, rfl, hk, hz, rfl⟩)⟩ (fun _ _ _ _ => trivial) with _ | _
        all_goals
          obtain ⟨ks, vs, es, hv, rv, ll, rfl⟩ := (s4.own D _ ho).2
          obtain ⟨b, ws, rfl, hb, _, rb⟩ := rp_tup s4.ex r3'
          rw [keysD_rp rb hk] at hb
          obtain ⟨ks', vs', ds', e1, e2, r', l'⟩ := dput_rel k r4 rv ll
          refine ⟨_, DPut.t hv hb ?_, _, s4.write (ob' := .dt (dput (ks.zip es) k z)) ho ⟨ks', vs', ds', by rw [upd_same, e1], r', l', e2⟩, rfl⟩
          have h1 : (ks.zip vs).length = (ks.zip es).length := by rw [List.length_zip, List.length_zip, rv.length]
          rw [h1]
          exact Nat.lt_of_lt_of_le hz (by decide)
      obtain ⟨hp1, Ω5, s5, rfl⟩ := hp
      obtain ⟨ks, vs, es, hv, rv, ll, _⟩ := (s4.own D _ ho).2
      exact ⟨_, H5, hv, hp1, G4, _, ((li.trans l3).trans l4), s5, w4⟩
    · have hlast : i = n := by omega
      subst hlast
      exact .inl ⟨hstop (Nat.le_refl _), wk (.ref D) (.ptr D) Ωi Gi H' (l1.trans li) si (.ptr D) (fin Ωi wi)⟩⟩
/-! ### try -/
theorem rs_try0 {body : List Stmt} {h0 : ExceptHandler} {hs : List ExceptHandler} {m : MS} (hn : ∀ e s, ¬ X.xe e s) (hb : RSs X T B body m) : RS X T B (.Try body (h0 :: hs) [] [] pos) m := psM (ps_try_never hn hb pss_nil) fun E σ H h => h
/-! ### len(set(t)), t a tuple of ints -/
def tLenSetI (K : PySem.W.Frag) (ta : TE) : TE := fun σ H Q => ta σ H fun x H1 => ∃ (l : Addr) (ns : List Int), x = .ref l ∧ SqT K H1 l (ns.map V.int) ∧ ns.length ≤ 1000 ∧ ∀ c : Nat, Q (.int c) H1
theorem pe_lenSetI {p p2 q : Pos} {ta : TE} (hc : X.calm = true) (hg : Gl X "len") (hm : X.mg "len" = none) (hg2 : Gl X "set") (hm2 : X.mg "set" = none) (ha : PE X a ta)
    (na : starEach [a] X.env = (false, eval a X.env) :: starEach [] X.env := by rfl) : PE X (.Call (.Name "len" p) [.Call (.Name "set" p2) [a] [] q] [] pos) (tLenSetI X.K ta) := by
  refine ⟨fun pins s σ H Q I h => Call_ (ld_blt I hg hm boot_len ?_)⟩
  refine PyProof.Rows.callWith_builtin1 (PyProof.Rows.args_cons (Call_ (ld_blt I hg2 hm2 boot_set ?_)) rfl) rfl rfl
  refine PyProof.Rows.callWith_type1 (PyProof.Rows.args_cons (thn (ha.run pins s σ H _ I h) fun v s1 ⟨x, H1, I1, r1, l, ns, ex, hq, hl, fin⟩ => PyProof.Rows.args_nil ?_) na) na rfl
  subst ex
  obtain rfl : v = Value.ref l := r1
  obtain ⟨its, rv, pl, _⟩ := I1.tuple hq
  refine call_set_tupI ns (I1.ok.hd hc) pl (by simpa using intsAre_of rv) (Nat.lt_of_le_of_lt (Nat.succ_le_succ hl) (by decide)) fun h' tk c hS hle hk => PyProof.Rows.args_nil ?_
  obtain ⟨o, es, ep, t, ho, hex, hd, _, _, _, hfew, hfit, hsz, _⟩ := hS
  have I2 : Inv X pins σ H1 { s1 with heap := h', toks := tk } := I1.kept hk
  exact call_len_set ho hex hd hfit (by omega) ⟨.int c, H1, I2.tok _, ⟨_, by rw [hsz]⟩, fin c⟩
def mLenSet (ma : ME) : ME := fun Ω Δ P => ma Ω Δ fun d Ω1 => ∃ ns : List Int, d = tI ns ∧ ns.length ≤ 1000 ∧ ∀ c : Nat, P (.int c) Ω1
theorem re_lenSet {p p2 q : Pos} (hc : X.calm = true) (hg : Gl X "len") (hm : X.mg "len" = none) (hg2 : Gl X "set") (hm2 : X.mg "set" = none) (ha : RE X T B a ma)
    (na : starEach [a] X.env = (false, eval a X.env) :: starEach [] X.env := by rfl) : RE X T B (.Call (.Name "len" p) [.Call (.Name "set" p2) [a] [] q] [] pos) (mLenSet ma) := peM (pe_lenSetI hc hg hm hg2 hm2 ha na) fun σ H Q ⟨G, Ω, Δ, P, s, e, m, wk⟩ =>
  ⟨G, Ω, Δ, _, s, e, m, fun v d Ω1 G1 H1 l1 s1 r1 ⟨ns, hd, hl, p⟩ => by
    subst hd
    obtain ⟨b, vs, rfl, hb, _, rb⟩ := rp_tup s1.ex r1
    rw [ints_of rb] at hb
    exact ⟨b, ns, rfl, SqT.of hb, hl, fun c => wk _ _ Ω1 G1 H1 l1 s1 (.int c) (p c)⟩⟩
end
end KG
/-! DM: the keys of a dict, walked. -/
namespace KG
open L2 PySem PyProof.Rows PySem.Spec
section
variable {K : PySem.W.Frag} {G : Hp} {a : Addr} {kvs : List (Key × V)} {u : HO}
theorem rd_ne {b : Addr} {o : HO} (h : Rd G a (.dK kvs)) (e : G b = some o) (n1 : ∀ k, o ≠ .dK k) (n2 : ∀ x k, o ≠ .frz x (.dK k)) : b ≠ a := fun z => by
  subst z
  rcases h with h | ⟨x, h⟩
  · rw [h] at e; cases e; exact n1 _ rfl
  · rw [h] at e; cases e; exact n2 _ _ rfl
theorem rd_ne_tuf {b : Addr} {o : Obj} {ws : List V} (h : Rd G a (.dK kvs)) (e : G b = some (.frz o (.tup ws))) : b ≠ a := fun z => by
  subst z
  rcases h with h | ⟨x, h⟩
  · rw [h] at e
    have e2 := Option.some.inj e
    cases e2
  · rw [h] at e
    have e2 := Option.some.inj e
    cases e2
theorem rd_ne_tup {b : Addr} {ws : List V} (h : Rd G a (.dK kvs)) (e : G b = some (.tup ws)) : b ≠ a := rd_ne h e (fun k z => by cases z) (fun x k z => by cases z)
theorem rd_ne_lst {b : Addr} {ws : List V} (h : Rd G a (.dK kvs)) (e : G b = some (.lst ws)) : b ≠ a := rd_ne h e (fun k z => by cases z) (fun x k z => by cases z)
theorem rd_ne_ins {b C dx : Addr} {fs : List (Str × V)} (h : Rd G a (.dK kvs)) (e : G b = some (.ins C dx fs)) : b ≠ a := rd_ne h e (fun k z => by cases z) (fun x k z => by cases z)
theorem rd_swp {b : Addr} {o : HO} (h : Rd G a (.dK kvs)) (e : Rd G b o) (n : ∀ k, o ≠ .dK k) (n3 : ∀ x k, o ≠ .frz x (.dK k)) : Rd (upd G a u) b o := by
  have ne : b ≠ a := fun z => by
    subst z
    rcases h with h | ⟨x, h⟩ <;> rcases e with e | ⟨y, e⟩ <;> rw [h] at e <;> cases e
    · exact n _ rfl
    · exact n3 _ _ rfl
    · exact n _ rfl
  rcases e with e | ⟨y, e⟩
  · exact .inl (by rw [upd_ne ne]; exact e)
  · exact .inr ⟨y, by rw [upd_ne ne]; exact e⟩
theorem rd_swpK {b : Addr} {k2 : List (Key × V)} (h : Rd G a (.dK kvs)) (hu : u = .dK kvs ∨ ∃ o, u = .frz o (.dK kvs)) (e : Rd G b (.dK k2)) : Rd (upd G a u) b (.dK k2) := by
  by_cases hb : b = a
  · subst hb
    have hk : k2 = kvs := by
      rcases h with h | ⟨x, h⟩ <;> rcases e with e | ⟨y, e⟩ <;> rw [h] at e <;> cases e <;> rfl
    subst hk
    rcases hu with rfl | ⟨o, rfl⟩
    · exact .inl upd_same
    · exact .inr ⟨o, upd_same⟩
  · rcases e with e | ⟨y, e⟩
    · exact .inl (by rw [upd_ne hb]; exact e)
    · exact .inr ⟨y, by rw [upd_ne hb]; exact e⟩
theorem rd_swp_lst {b : Addr} {ws : List V} (h : Rd G a (.dK kvs)) (e : Rd G b (.lst ws)) : Rd (upd G a u) b (.lst ws) := rd_swp h e (fun k z => by cases z) (fun x k z => by cases z)
theorem rd_swp_dt {b : Addr} {k2 : List (List Key × V)} (h : Rd G a (.dK kvs)) (e : Rd G b (.dT k2)) : Rd (upd G a u) b (.dT k2) := rd_swp h e (fun k z => by cases z) (fun x k z => by cases z)
theorem up_of {b : Addr} {o : HO} (n : b ≠ a) (e : G b = some o) : upd G a u b = some o := by rw [upd_ne n]; exact e
mutual
theorem Rp.swp (h : Rd G a (.dK kvs)) (hu : u = .dK kvs ∨ ∃ o, u = .frz o (.dK kvs)) : ∀ {v : V} {d : D}, Rp K G v d → Rp K (upd G a u) v d
  | _, _, .non => .non
  | _, _, .bl b => .bl b
  | _, _, .int i => .int i
  | _, _, .str x => .str x
  | _, _, .ty n => .ty n
  | _, _, .ptr a => .ptr a
  | _, _, .tup e r => .tup (up_of (rd_ne_tup h e) e) (RpAll.swp h hu r)
  | _, _, .tuf e c n r => .tuf (up_of (rd_ne_tuf h e) e) c n (RpAll.swp h hu r)
  | _, _, .lst e r => .lst (up_of (rd_ne_lst h e) e) (RpAll.swp h hu r)
  | _, _, .lsq e r => .lsq (e.elim (fun e => .inl (rd_swp_lst h e)) .inr) (RpAll.swp h hu r)
  | _, _, .dk e r l => .dk (rd_swpK h hu e) (RpAll.swp h hu r) l
  | _, _, .dt e r l => .dt (rd_swp_dt h e) (RpAll.swp h hu r) l
  | _, _, .ob e r l => .ob (up_of (rd_ne_ins h e) e) (RpAll.swp h hu r) l
theorem RpAll.swp (h : Rd G a (.dK kvs)) (hu : u = .dK kvs ∨ ∃ o, u = .frz o (.dK kvs)) : ∀ {vs : List V} {ds : List D}, RpAll K G vs ds → RpAll K (upd G a u) vs ds
  | _, _, .nil => .nil
  | _, _, .cons q r => .cons (Rp.swp h hu q) (RpAll.swp h hu r)
end
end
/-- a dict that stands is locked for good -/
theorem Sat.lockD {K : PySem.W.Frag} {T : TabL} {B G H : Hp} {Ω : Om} {a : Addr} {kvs : List (Key × V)} {od : Obj} (s : Sat K T B G H Ω) (hG : G a = some (.dK kvs)) : Sat K T B (upd G a (.frz od (.dK kvs))) (upd H a (.frz od (.dK kvs))) Ω ∧ Le K G (upd G a (.frz od (.dK kvs))) := by
  have le : Le K G (upd G a (.frz od (.dK kvs))) := fun v d r => r.swp (.inl hG) (.inr ⟨od, rfl⟩)
  have hH := s.ex _ _ hG
  refine ⟨⟨fun b o e => ?_, fun l ob e => ?_, ?_, s.base.trans le⟩, le⟩
  · by_cases hb : b = a
    · subst hb; rw [upd_same] at e ⊢; exact e
    · rw [upd_ne hb] at e ⊢; exact s.ex b o e
  · obtain ⟨h1, h2⟩ := s.own l ob e
    have hl : l ≠ a := fun z => by rw [z, hG] at h1; cases h1
    exact ⟨by rw [upd_ne hl]; exact h1, h2.le le (upd_ne hl)⟩
  · exact tabs_write (u := .dK kvs) s.tab hH trivial
theorem dget_nd {kvs : List (Key × D)} (nd : (kvs.map (·.1)).Nodup) {i : Nat} {k : Key} {d : D} (h : kvs[i]? = some (k, d)) : dget kvs k = some d := by
  induction kvs generalizing i with
  | nil => simp at h
  | cons q kvs ih =>
    rw [List.map_cons, List.nodup_cons] at nd
    unfold dget
    rw [List.find?_cons]
    cases i with
    | zero =>
      simp at h
      subst h
      simp
    | succ i =>
      rw [List.getElem?_cons_succ] at h
      have hne : q.1 ≠ k := fun e => nd.1 (List.mem_map.mpr ⟨(k, d), List.mem_of_getElem? h, e.symm⟩)
      simp only [hne, decide_false]
      exact ih nd.2 h
/-- [(x, d[x]) for x in d], d a dict that stands -/
def mPairs (i : Nat) : ME := fun Ω Δ P => slot Δ i fun d => ∃ kvs : List (Key × D), d = .dk kvs ∧ kvs.length ≤ 1000 ∧ (kvs.map (·.1)).Nodup ∧ P (.lst (kvs.map fun kv => .tup [kD kv.1, kv.2])) Ω
theorem kV_rp {K : PySem.W.Frag} {G : Hp} : ∀ k : Key, Rp K G (kV k) (kD k)
  | .inl i => .int i
  | .inr x => .str x
section
variable {X : Cx} {T : TabL} {B : Hp} {x d : Str} {i j : Nat} {scope : Scope} {p1 p2 p3 p4 p5 p6 px pos : Pos} {c5 : Nat}
theorem pairs_read {σ : L2.St} {H G : Hp} {Ω : Om} {a : Addr} {o : Obj} {ks : List Key} {vs : List V} {ds : List D} {Q : VK} (hij : j ≠ i) (hj : j < σ.length) (st : Sat X.K T B G H Ω) (hσ : σ[i]? = some (some (.ref a))) (hG : G a = some (.frz o (.dK (ks.zip vs)))) (r : RpAll X.K G vs ds) (l : ks.length = vs.length)
    (hl : ks.length ≤ 1000) (nd : ((ks.zip ds).map (·.1)).Nodup) (fin : ∀ D G1 H1, Ex G G1 → Sat X.K T B G1 H1 (put Ω D (.lst ((ks.zip ds).map fun kv => .tup [kD kv.1, kv.2]))) → Ω D = none → Q (.ref D) H1) :
    tLc (iKeys (tVar i)) (gName j) tYes (tTup (tCons (tVar j) (tCons (tDGet (tVar i) (tVar j)) tNil))) [j] σ H Q := by
  refine ⟨.ref a, hσ, a, o, rfl, .inl ⟨ks.zip vs, st.ex _ _ hG, fun D hD => ?_⟩⟩
  have hO := (st.free hD).2
  have lz : (ks.zip vs).length = (ks.zip ds).length := by rw [List.length_zip, List.length_zip, r.length]
  refine ⟨fun n m H1 => m = (ks.zip ds).length - n ∧ n ≤ (ks.zip ds).length ∧ ∃ G1, Ex G G1 ∧ Sat X.K T B G1 H1 (put Ω D (.lst (((ks.zip ds).take n).map fun kv => .tup [kD kv.1, kv.2]))), ⟨_, rfl, Nat.zero_le _, G, Ex.refl G, st.newO (ob := .lst []) hD ⟨[], upd_same, .nil⟩⟩, ?_⟩
  rintro n m H1 ⟨rfl, hn, G1, ex, s1⟩
  have hfr : H1 a = some (.frz o (.dK (ks.zip vs))) := s1.ex _ _ (ex _ _ hG)
  by_cases hlt : n < (ks.zip ds).length
  · refine .inr ⟨⟨hfr, by omega⟩, fun H2 => ∃ G2, Ex G G2 ∧ Sat X.K T B G2 H2 (put Ω D (.lst (((ks.zip ds).take (n + 1)).map fun kv => .tup [kD kv.1, kv.2]))), fun H2 ⟨G2, e2, s2⟩ => ⟨_, by omega, rfl, hlt, G2, e2, s2⟩, fun y H2 ⟨eH, k, v0, hk, ey⟩ => ?_⟩
    subst eH ey
    have w1 : ∀ τ : L2.St, L2.wipe τ [j] = τ.set j none := fun _ => rfl
    show L2.wipe ((L2.wipe σ [j]).set j (some (kV k))) [j] = L2.wipe σ [j] ∧ _
    rw [w1, w1, List.set_set, List.set_set]
    refine ⟨rfl, ?_⟩
    rw [show (σ.set j none).set j (some (kV k)) = σ.set j (some (kV k)) from List.set_set ..]
    unfold tYes
    dsimp only
    rw [if_pos rfl]
    obtain ⟨dn, hd⟩ : ∃ dn, (ks.zip ds)[n]? = some (k, dn) := by
      rw [List.getElem?_zip_eq_some] at hk
      have h2 : ks[n]? = some k := hk.1
      obtain ⟨⟨kk, dd⟩, h1⟩ : ∃ q, (ks.zip ds)[n]? = some q := ⟨_, List.getElem?_eq_getElem hlt⟩
      have h3 := (List.getElem?_zip_eq_some.mp h1).1
      rw [h2] at h3
      cases h3
      exact ⟨dd, h1⟩
    obtain ⟨v, hv, rv⟩ := (dget_rel k r l).1 dn (dget_nd nd hd)
    have sj : (σ.set j (some (kV k)))[j]? = some (some (kV k)) := List.getElem?_set_self hj
    have si : (σ.set j (some (kV k)))[i]? = some (some (.ref a)) := by rw [List.getElem?_set_ne hij]; exact hσ
    refine ⟨kV k, sj, .ref a, si, kV k, sj, a, v, rfl, .inl ⟨_, k, .inr ⟨o, hfr⟩, rfl, hv.symm⟩, by show 2 ≤ sizeLine; decide, fun p hp => ?_⟩
    obtain ⟨hpG, hpO⟩ := s1.free hp
    have s2 := s1.newG (o := .tup [kV k, v]) hp
    have e2 : Ex G (upd G1 p (.tup [kV k, v])) := ex.trans (Ex.new hpG)
    obtain ⟨us, hu, ru⟩ := own_lst s2 (l := D) put_same
    have rt : Rp X.K (upd G1 p (.tup [kV k, v])) (.ref p) (.tup [kD k, dn]) := .tup upd_same (.cons (kV_rp k) (.cons (e2.le _ _ rv) .nil))
    refine ⟨us, hu, ?_, _, e2, ?_⟩
    · rw [ru.length, List.length_map, List.length_take]
      have : (ks.zip ds).length ≤ 1000 := by rw [List.length_zip]; omega
      exact Nat.lt_of_le_of_lt (by omega : _ ≤ 1000) (by decide)
    · have s3 := s2.write (ob' := .lst ((((ks.zip ds).take n).map fun kv => KG.D.tup [kD kv.1, kv.2]) ++ [.tup [kD k, dn]])) put_same ⟨_, upd_same, ru.append (.cons rt .nil)⟩
      rw [put_put] at s3
      rw [List.take_add_one, hd, Option.toList_some, List.map_append]
      exact s3
  · have e : n = (ks.zip ds).length := by omega
    subst e
    rw [List.take_length] at s1
    exact .inl ⟨⟨hfr, by omega⟩, fin D G1 H1 ex s1 hO⟩
theorem re_pairs {k : Nat} (hr : Room k X.A) (hc : X.calm = true) (hN : X.N.Nodup) (hij : j ≠ i) (hx : X.N[j]? = some x) (hd : X.N[i]? = some d) (hvd : Vis X.env.scope d) (ok : blkC X.N X.env.scope scope [(x, j)] = true) (hl : ∀ (C : Addr) (cl : List (Str × Addr)), (compEnvC scope cl C X.env).scope.names.lookup x = some .local)
    (hvd2 : ∀ (C : Addr) (cl : List (Str × Addr)), Vis (compEnvC scope cl C X.env).scope d) (n1 : (x == ("__debug__" : Str)) = false := by decide) (n2 : (x == ("__classdict__" : Str)) = false := by decide) (n3 : (d == ("__debug__" : Str)) = false := by decide) (n4 : (d == ("__classdict__" : Str)) = false := by decide) :
    RE X T B (.ListComp (.Tuple [.Name x p1, .Subscript (.Name d p2) (.Name x p3) p4] c5 p5) [⟨.Name x px, .Name d p6, [], 0⟩] scope pos) (mPairs i) := by
  have pe := pe_lc (X := X) (g := gName j) (tt := tYes) (te := tTup (tCons (tVar j) (tCons (tDGet (tVar i) (tVar j)) tNil))) (elt := .Tuple [.Name x p1, .Subscript (.Name d p2) (.Name x p3) p4] c5 p5) (pos := pos) (ifs := []) hc hN (pi_keys (tg := .Name x px) (pe_var (pos := p6) hd hvd n3 n4)) (blkOk_by ok) (fun s H C cl fp => pg_name hN hx (.inl (hl C cl)) (.inr (hl C cl))) (fun _ _ _ _ _ => pts_nil)
    (fun s H C cl fp => pe_tup (pa_cons (pe_var hx (.inl (hl C cl)) n1 n2) (pa_cons (pe_dget (room1 hr) (pe_var hd (hvd2 C cl) n3 n4) (pe_var hx (.inl (hl C cl)) n1 n2) (fun _ _ => rfl)) pa_nil)))
  refine ⟨fun pins s σ H Q I ⟨G, Ω, Δ, P, st, sl, ⟨dd, hdd, kvs, hk, hl1, nd, p⟩, w⟩ => ?_⟩
  subst hk
  obtain ⟨v, hv, rv⟩ := sl.at_ i _ hdd
  have hj : j < σ.length := by rw [I.len]; exact (List.getElem?_eq_some_iff.mp hx).1
  generalize hq : D.dk kvs = q at rv
  cases rv with
  | @dk a ks vs ds hrd r l =>
    cases hq
    have lz : ks.length ≤ 1000 := by rw [List.length_zip, ← r.length, ← l] at hl1; omega
    rcases hrd with hrd | ⟨o, hrd⟩
    · obtain ⟨od, I2⟩ := I.lock (st.ex _ _ hrd) trivial
      obtain ⟨st2, le2⟩ := st.lockD (od := od) hrd
      exact pe.run pins s σ _ Q I2 (pairs_read hij hj st2 hv upd_same (le2.all r) l lz nd fun D G1 H1 ex s1 hO => by
        obtain ⟨G3, l3, s3, r3⟩ := s1.frozen (l := D) put_same
        rw [del_put hO] at s3
        exact w (.ref D) _ _ G3 H1 ((le2.trans ex.le).trans l3) s3 r3 p)
    · exact pe.run pins s σ _ Q I (pairs_read hij hj st hv hrd r l lz nd fun D G1 H1 ex s1 hO => by
        obtain ⟨G3, l3, s3, r3⟩ := s1.frozen (l := D) put_same
        rw [del_put hO] at s3
        exact w (.ref D) _ _ G3 H1 (ex.le.trans l3) s3 r3 p)
  | _ => cases hq
end
end KG
/-! DX: NotKept: made, raised, passed on, caught, over data. -/
namespace KG
open L2 PySem PyProof.Rows PySem.Spec
/-! ### GuardError.__init__(self, ..) -/
section
variable {X : Cx} {e : Expr} {es : List Expr} {ta : TA} {p1 p2 pos : Pos}
theorem pe_geinit {pl : Sem Bool} (t : Top X.K X.mg) (hg : Gl X "GuardError") (ha : PA X (e :: es) ta)
    (hc : eval (.Call (.Attribute (.Name "GuardError" p1) "__init__" p2) (e :: es) [] pos) X.env = (do
      let cv ← eval (.Name "GuardError" p1) X.env
      standAt p2.atName
      let (f, first) ← holding [cv] (getMethod cv "__init__" pl)
      callWith pos f first (backTo pos (starEach (e :: es) X.env)) (backToKw pos (keywordEach [] X.env))) := by rfl)
    (he : starEach (e :: es) X.env = (false, eval e X.env) :: starEach es X.env := by rfl) (hpl : (backTo pos (starEach es X.env)).any (·.1) = false := by rfl) :
    PE X (.Call (.Attribute (.Name "GuardError" p1) "__init__" p2) (e :: es) [] pos) (tVeI X.K ta) := by
  refine ⟨fun pins s σ H Q I h => PySem.W.methodCall_KW (ld_glob (u := .ref 31) I hg (t.at_ "GuardError" 31 (by decide +kernel)) ?_ (by decide)) hc⟩
  refine PySem.W.method_cls I.kIn t.ga (PySem.W.cls_value I.kIn t.rd t.gi (by decide +kernel) ?_)
  show wpAny _ _ (callWith pos (.builtin "ValueError.__init__") [] (backTo pos (starEach (e :: es) X.env)) []) _ _ _
  refine PyProof.Rows.callWith_method1 (thn (ha.run pos pins _ σ H _ (I.tok _) h) fun us s1 ⟨vs, H1, I1, r1, a, C, ws, ev, hl, T, ea, q⟩ => ?_) he hpl
  subst ev
  cases r1 with
  | @cons _ u0 _ ur ra rest =>
    obtain rfl : u0 = Value.ref a := ra
    have small : ur.length ≤ sizeLine := Nat.le_trans (Nat.le_of_eq (Paired.length rest).symm) (Nat.le_trans hl (by decide))
    exact oinit_ok T I1 ea small fun s' J => ⟨.non, H1, J, rfl, q⟩
end
/-! ### NotKept(program, store) -/
def fsNK (y1 y2 : V) : List (Str × V) := [("store", y2), ("program", y1)]
def spNK (K : PySem.W.Frag) : Sp := fun vs H Q _ => ∃ (a : Addr) (y1 y2 : V), vs = [.ref a, y1, y2] ∧ H a = some (exo a 184 none) ∧
  ∀ d, H d = none → d ≠ a → Q .non (upd (upd (upd H d (exd d [("program", y1)])) a (exo a 184 (some d))) d (exd d (fsNK y1 y2)))
/-- an object of no interest -/
theorem Sat.stray {K : PySem.W.Frag} {T : TabL} {B G H : Hp} {Ω : Om} {p : Addr} {o : HO} (s : Sat K T B G H Ω) (h : H p = none) : Sat K T B G (upd H p o) Ω := by
  obtain ⟨hG, hO⟩ := s.free h
  refine ⟨fun a u e => Ex.new h a u (s.ex a u e), fun l ob e => ?_, s.tab.ext fun b o e => Ex.new h b o e, s.base⟩
  have hl : l ≠ p := fun z => by rw [z, hO] at e; cases e
  obtain ⟨h1, h2⟩ := s.own l ob e
  exact ⟨h1, h2.le (Le.refl K G) (upd_ne hl)⟩
/-- wishes for NotKept over data: its program, its store -/
abbrev XR := D → D → Om → Dl → Prop
def XW (K : PySem.W.Frag) (T : TabL) (B : Hp) (R : XR) (W : WX) : Prop := ∀ (σ : L2.St) (Δ : Dl) (G H : Hp) (Ω : Om) (d : Addr) (fs : List (Str × V)) (v1 v2 : V) (d1 d2 : D), Sat K T B G H Ω → SlE K G σ Δ → H d = some (.xd fs) →
  fs.lookup ("program" : Str) = some v1 → fs.lookup ("store" : Str) = some v2 → Rp K G v1 d1 → Rp K G v2 d2 → R d1 d2 Ω Δ → W (.ref 184) (some d) σ H
def XW0 (K : PySem.W.Frag) (T : TabL) (B : Hp) (R : D → D → Om → Prop) (E : XK) : Prop := ∀ (G H : Hp) (Ω : Om) (d : Addr) (fs : List (Str × V)) (v1 v2 : V) (d1 d2 : D), Sat K T B G H Ω → H d = some (.xd fs) →
  fs.lookup ("program" : Str) = some v1 → fs.lookup ("store" : Str) = some v2 → Rp K G v1 d1 → Rp K G v2 d2 → R d1 d2 Ω → E (.ref 184) (some d) H
abbrev FDX := List D → Om → DK → (D → D → Om → Prop) → Prop
def spX (K : PySem.W.Frag) (T : TabL) (F : FDX) : Sp := fun vs H Q E => ∃ G Ω ds P R, Sat K T G G H Ω ∧ RpAll K G vs ds ∧ F ds Ω P R ∧ WK K T G G P Q ∧ XW0 K T G R E
structure FnX (P : Program) (w : World) (K : PySem.W.Frag) (mg : Str → Option Value) (base : Heap) (T : TabL) (k : Nat) (x : Str) (F : FDX) : Prop where
  ex : ∃ (f : Addr) (fd : FuncData) (ps : List Str), FnOk P w K mg base (L2.CX P w) k f fd ps (spX K T F) ∧ mg x = some (.ref f) ∧ PySem.W.keepIn K (.ref f) = true ∧ Binds K fd ps []
/-- what may lie behind the raising end: more is owned -/
def FinX (R : D → D → Om → Prop) : XR := fun d1 d2 Ω _ => ∃ Ω', Sub Ω' Ω ∧ R d1 d2 Ω'
section
variable {P : Program} {w : World} {K : PySem.W.Frag} {mg : Str → Option Value} {base : Heap} {T : TabL} {x qual : Str} {params : Arguments} {body : List Stmt} {sc : Scope} {dvs : List V} {kws : List (Str × V)} {f : Addr} {fd : FuncData} {N ps : List Str} {k : Nat} {F : FDX} {m : XR → MS}
theorem fnOkX (Fd : FunD K x qual params body sc dvs kws f fd) (S : FnScope N ps sc) (len : ∀ ds Ω P R, F ds Ω P R → ds.length = ps.length)
    (hb : ∀ (cdv : Value) (A : Around) (outer : List Env) (s : Shared) (H B : Hp) (E : XK) (W : WX) (R : XR), Room k (A.deeper (envOfC qual sc s.heap.objs.size f cdv)) → Takes (cxOf (L2.CX P w) P w K mg base N qual sc f cdv A outer s H E) W → XW K T B R W →
      RSs (cxOf (L2.CX P w) P w K mg base N qual sc f cdv A outer s H E) T B body (m R))
    (goal : ∀ ds Ω P R, F ds Ω P R → m (FinX R) Ω (startD N.length ds) (endK P)) : FnOk P w K mg base (L2.CX P w) (k + 1) f fd ps (spX K T F) := by
  refine Fd.ok S (fun vs H Q E h => ?_) fun cdv A outer s H vs Q E hr h => ?_
  · obtain ⟨G, Ω, ds, P', R, _, r, h, _⟩ := h
    rw [r.length]
    exact len _ _ _ _ h
  · obtain ⟨G, Ω, ds, P', R, st, r, h, wk, xw⟩ := h
    have tk : Takes (cxOf (L2.CX P w) P w K mg base N qual sc f cdv A outer s H E) (fun cls d _ H => E cls d H) := takes_of (E := E) rfl rfl rfl rfl
    have xw2 : XW K T G (FinX R) (fun cls d _ H => E cls d H) := fun σ Δ G' H' Ω' d fs v1 v2 d1 d2 s' e hd h1 h2 r1 r2 ⟨Ω2, sub, hR⟩ => xw G' H' Ω2 d fs v1 v2 d1 d2 (s'.sub sub) hd h1 h2 r1 r2 hR
    refine ⟨_, hb cdv A outer s H G E _ _ hr tk xw2, G, Ω, startD N.length ds, endK P', st, ?_, goal ds Ω P' R h, endK_ok (N := N) wk⟩
    unfold startD L2.start
    rw [← r.length]
    exact r.slots _
end
section
variable {X : Cx} {T : TabL} {B : Hp} {a b e : Expr} {ma mb : ME} {es : List Expr} {mr : MA} {pos p : Pos} {j k : Nat} {x : Str} {F : FDX} {R : XR} {W : WX}
/-- a call of such a def -/
def mCX (F : FDX) (R : XR) (ma : MA) : ME := fun Ω Δ P => ma Ω Δ fun ds Ω1 => F ds Ω1 P fun d1 d2 Ω2 => R d1 d2 Ω2 Δ
theorem re_defX (c : FnX X.prog X.w X.K X.mg X.base T k x F) (tk : Takes X W) (xw : XW X.K T B R W) (hr : Room j X.A) (hk : k ≤ j) (hg : Gl X x) (ha : RA X T B (a :: es) mr)
    (hdb : (x == ("__debug__" : Str)) = false := by decide) (he : starEach (a :: es) X.env = (false, eval a X.env) :: starEach es X.env := by rfl) (hpl : (backTo pos (starEach es X.env)).any (·.1) = false := by rfl) :
    RE X T B (.Call (.Name x p) (a :: es) [] pos) (mCX F R mr) := by
  obtain ⟨f, fd, ps, h1, h2, h3, h4⟩ := c.ex
  refine peM (pe_callS h1 (hr.mono hk) hg h2 h3 h4 (fun σ => passAt tk σ) ha hdb he hpl) fun σ H Q ⟨G, Ω, Δ, P, s, e, m, wk⟩ => ?_
  refine ⟨G, Ω, Δ, _, s, e, m, fun vs ds Ω1 G1 H1 l1 s1 r1 m1 => ⟨G1, Ω1, ds, P, _, s1.reb, r1, m1, (wk.le l1).reb s1.base, ?_⟩⟩
  intro G2 H2 Ω2 d fs v1 v2 d1 d2 s2 hd k1 k2 q1 q2 hR
  exact xw σ Δ G2 H2 Ω2 d fs v1 v2 d1 d2 ⟨s2.ex, s2.own, s2.tab, s1.base.trans s2.base⟩ (e.le (l1.trans s2.base)) hd k1 k2 q1 q2 hR
/-- raise NotKept(a, b) -/
def mRaise (R : XR) (ma mb : ME) : MS := fun Ω Δ _ => ma Ω Δ fun d1 Ω1 => mb Ω1 Δ fun d2 Ω2 => R d1 d2 Ω2 Δ
theorem rs_raiseNK {fI : FuncData} (t : Top X.K X.mg) (F1 : FnOk X.prog X.w X.K X.mg X.base C8.CX0 j 181 fI ["self", "program", "store"] (spNK X.K)) (hr : Room (j + 1) X.A) (hb : Binds X.K fI ["self", "program", "store"] []) (hc : X.calm = true) (tk : Takes X W) (xw : XW X.K T B R W) (hg : Gl X "NotKept") (h1 : RE X T B a ma) (h2 : RE X T B b mb)
    (he : starEach [a, b] X.env = (false, eval a X.env) :: starEach [b] X.env := by rfl) (he2 : starEach [b] X.env = (false, eval b X.env) :: starEach [] X.env := by rfl) (hpl : (backTo pos (starEach [b] X.env)).any (·.1) = false := by rfl) {pos' : Pos} :
    RS X T B (.Raise (some (.Call (.Name "NotKept" p) [a, b] [] pos)) none pos') (mRaise R ma mb) := by
  have tI : PySem.W.typeIn X.K (.ref 181) = some (.type "function") := beq_iff_eq.mp t.mt_init.fn
  have pm := pmk_oex (X := X) (x := "NotKept") (p := p) (pos := pos) (ds := []) (dvs := []) t.oex t.mt_init.at_ tI F1 hr hb .nil (C8.pass0 (E := fun _ _ _ => False)) hg (t.at_ "NotKept" 184 (by decide +kernel)) (pa_cons h1 (pa_cons h2 pa_nil he2) he) (by decide) he hpl
  refine psM (ps_raise hc tk pm) fun E σ H ⟨G, Ω, Δ, k, s, e, m, wk⟩ => ?_
  refine ⟨G, Ω, Δ, _, s, e, m, fun v1 d1 Ω1 G1 H1 l1 s1 r1 m1 => ⟨G1, Ω1, Δ, _, s1, e.le l1, m1, fun v2 d2 Ω2 G2 H2 l2 s2 r2 m2 => ?_⟩⟩
  refine ⟨by show 2 ≤ 1000; decide, fun x hx => ⟨x, v1, v2, rfl, upd_same, fun d hd hne => ⟨rfl, d, fsNK v1 v2, ?_, upd_same, ?_, ?_⟩⟩⟩
  · rw [upd_ne (Ne.symm hne), upd_same]
  · rw [upd_ne hne] at hd; exact hd
  · rw [upd_ne hne] at hd
    have eH : upd (L2.del (upd (upd (upd (upd H2 x (exo x 184 none)) d (exd d [("program", v1)])) x (exo x 184 (some d))) d (exd d (fsNK v1 v2))) x) d (.xd (fsNK v1 v2)) = upd H2 d (.xd (fsNK v1 v2)) := by
      funext q
      by_cases h1 : q = d
      · subst h1; rw [upd_same, upd_same]
      · rw [upd_ne h1, upd_ne h1]
        by_cases h2 : q = x
        · subst h2; rw [L2.del_same, hx]
        · rw [L2.del_ne h2, upd_ne h1, upd_ne h2, upd_ne h1, upd_ne h2]
    rw [eH]
    exact xw σ Δ G2 _ Ω2 d (fsNK v1 v2) v1 v2 d1 d2 (s2.stray hd) (e.le (l1.trans l2)) upd_same rfl rfl (l2 _ _ r1) r2 m2
end
end KG
/-! DY: try: .. except NotKept as e: y = [z, e.program, e.store]. -/
namespace KG
open L2 PySem PyProof.Rows PySem.Spec
theorem WS.reb {K : PySem.W.Frag} {T : TabL} {B G : Hp} {P : Om → Dl → Prop} {Q : L2.St → Hp → Prop} (b : Le K B G) (w : WS K T B G P Q) : WS K T G G P Q := fun σ Δ Ω G' H l s e p => w σ Δ Ω G' H l ⟨s.ex, s.own, s.tab, b.trans s.base⟩ e p
theorem WEnds.reb {K : PySem.W.Frag} {T : TabL} {B G : Hp} {k : Ke} {E : Ends} (b : Le K B G) (w : WEnds K T B G k E) : WEnds K T G G k E := ⟨w.nx.reb b, w.rt.reb b, w.bk.reb b, w.ct.reb b⟩
def mTryNK (mb : XR → MS) (it ie : Nat) (z : Str) : MS := fun Ω Δ k => mb (fun d1 d2 Ω' Δ' => ie < Δ'.length ∧ k.nx Ω' ((Δ'.set it (some (.lst [.str z, d1, d2]))).set ie none)) Ω Δ k
section
variable {X : Cx} {T : TabL} {B : Hp} {body : List Stmt} {n y z : Str} {it ie jz : Nat} {mb : XR → MS} {np py pz p1 p2 p3 p4 pl pas pos' pos : Pos}
theorem rs_tryNK (t : Top X.K X.mg) (hs : X.stack = X.env :: X.outer) (hf : X.env.frame = some X.env.locals) (hN : X.N.Nodup) (hi : X.N[ie]? = some n) (hln : X.env.kindOf n = some .local) (hg : Gl X "NotKept") (hit : X.N[it]? = some y) (hy : X.env.scope.names.lookup y = some .local) (hne : ie ≠ it)
    (hb : ∀ (W : WX) (pn : List (Addr × Obj)) (xe : Value → Shared → Prop) (R : XR) (B' : Hp), Takes (X.tr pn xe) W → XW X.K T B' R W → RSs (X.tr pn xe) T B' body (mb R))
    (hsw : ∀ (a : Addr) (pn : List (Addr × Obj)), swapsWith (.List [.Constant (.str z) jz pz, .Attribute (.Name n p1) "program" p2, .Attribute (.Name n p3) "store" p4] pl) (some (.Name y py)) pas.line (X.suite a pn).env = pure false := by intro _ _; rfl)
    (hd : (n == ("__debug__" : Str)) = false := by decide) (hcd : (n == ("__classdict__" : Str)) = false := by decide) :
    RS X T B (.Try body [.ExceptHandler (some (.Name "NotKept" np)) (some n) [.Assign [.Name y py] (.List [.Constant (.str z) jz pz, .Attribute (.Name n p1) "program" p2, .Attribute (.Name n p3) "store" p4] pl) pas] pos'] [] [] pos) (mTryNK mb it ie z) := by
  have suite : ∀ (a : Addr) (oe : Obj) (cls : Value) (d : Option Addr) (pn : List (Addr × Obj)), Zc cls d oe → (∃ vs, oe.data = .fields vs) → PSs (X.suite a ((a, oe) :: pn)) [.Assign [.Name y py] (.List [.Constant (.str z) jz pz, .Attribute (.Name n p1) "program" p2, .Attribute (.Name n p3) "store" p4] pl) pas]
      (tAsg (tLst (tCons (tC (.str z)) (tCons (tXf a cls d 184 "program" (tVar ie)) (tCons (tXf a cls d 184 "store" (tVar ie)) tNil)))) (gName it)) := fun a oe cls d pn hz hv =>
    pss_one (ps_set (X := X.suite a ((a, oe) :: pn)) hN hit (.inl hy) (pe_lst (pa_cons pe_str (pa_cons (pe_xf t.xf t.no_program hz hv (pe_var (X := X.suite a ((a, oe) :: pn)) hi (.inl hln) hd hcd)) (pa_cons (pe_xf t.xf t.no_store hz hv (pe_var (X := X.suite a ((a, oe) :: pn)) hi (.inl hln) hd hcd)) pa_nil)))) (hsw a _) (.inr hy))
  refine psM (ps_try_as (tb := fun W D σ H => ∃ B' R, XW X.K T B' R W ∧ rS X.K T B' (mb R) D σ H) hs hf hN hi hln ⟨hg, by decide, .inl (t.at_ "NotKept" 184 (by decide +kernel))⟩ LamX.takes0 (fun W pn xe tk _ => ⟨fun pins s σ H D I ⟨B', R, xw, h⟩ => (hb W pn xe R B' tk xw).run pins s σ H D I h⟩) suite) fun E σ H ⟨G, Ω, Δ, k, s, e, m, w⟩ => ?_
  refine ⟨G, _, ?_, G, Ω, Δ, k, s.reb, e, m, w.reb s.base⟩
  intro σ' Δ' G' H' Ω' d fs v1 v2 d1 d2 s' e' hdd h1 h2 r1 r2 ⟨hz, hR⟩
  refine ⟨true, t.exm, fun _ a ha => ?_, fun q => by cases q⟩
  have hl : ie < σ'.length := by rw [e'.len]; exact hz
  have at_ : (σ'.set ie (some (V.ref a)))[ie]? = some (some (.ref a)) := List.getElem?_set_self hl
  refine ⟨.ref a, at_, rfl, rfl, d, fs, v1, rfl, hdd, h1, .ref a, at_, rfl, rfl, d, fs, v2, rfl, hdd, h2, by show 3 ≤ sizeLine; decide, fun p hp => ?_⟩
  obtain ⟨hpG, hpO⟩ := s'.free hp
  have le : Le X.K G' (upd G' p (.lst [.str z, v1, v2])) := (Ex.new hpG).le
  have es : ((σ'.set ie (some (V.ref a))).set it (some (V.ref p))).set ie none = (σ'.set it (some (V.ref p))).set ie none := by
    rw [List.set_comm _ _ hne, List.set_set]
  show E.nx (((σ'.set ie (some (V.ref a))).set it (some (V.ref p))).set ie none) _
  rw [es]
  exact w.nx _ _ Ω' _ _ (s'.base.trans le) ⟨(s'.newG hp).ex, (s'.newG hp).own, (s'.newG hp).tab, s.base.trans (s'.base.trans le)⟩ (((e'.le le).set (.lst upd_same (.cons (.str z) (.cons (le _ _ r1) (.cons (le _ _ r2) .nil))))).wipe ie) hR
end
end KG
/-! MA: stores and rules among data. -/
namespace KG
open L2 PySem PyProof.Rows PySem.Spec
theorem gCons_eq {g : MG} {gs : MGs} {d : D} {r : List D} {Ω : Om} {Δ : Dl} {R : Om → Dl → Prop} : gCons' g gs (d :: r) Ω Δ R = g d Ω Δ fun Ω1 Δ1 => gs r Ω1 Δ1 R :=
  propext ⟨fun ⟨_, _, h, p⟩ => by cases h; exact p, fun p => ⟨_, _, rfl, p⟩⟩
theorem gNil_eq {Ω : Om} {Δ : Dl} {R : Om → Dl → Prop} : gNil' [] Ω Δ R = R Ω Δ := propext ⟨fun ⟨_, p⟩ => p, fun p => ⟨rfl, p⟩⟩
theorem gT_t {n : Nat} {gs : MGs} {ds : List D} {Ω : Om} {Δ : Dl} {R : Om → Dl → Prop} : gT n gs (.tup ds) Ω Δ R = (ds.length = n ∧ gs ds Ω Δ R) :=
  propext ⟨fun ⟨_, h, p⟩ => by rcases h with h | h <;> cases h; exact p, fun p => ⟨_, .inl rfl, p⟩⟩
theorem gT_l {n : Nat} {gs : MGs} {ds : List D} {Ω : Om} {Δ : Dl} {R : Om → Dl → Prop} : gT n gs (.lst ds) Ω Δ R = (ds.length = n ∧ gs ds Ω Δ R) :=
  propext ⟨fun ⟨_, h, p⟩ => by rcases h with h | h <;> cases h; exact p, fun p => ⟨_, .inr rfl, p⟩⟩
theorem toPys_ints : ∀ ns : List Int, toPys (ns.map .int) = ns.map PyData.int
  | [] => by unfold toPys; rfl
  | n :: ns => by
    rw [List.map_cons]
    unfold toPys
    rw [toPys_ints ns]
    unfold toPy
    rfl
theorem toPy_tI (s : List Int) : toPy (tI s) = .tuple (s.map .int) := by rw [toPy_tup, toPys_ints]
theorem toPys_tI : ∀ R : Rule, toPys (R.map tI) = R.map fun s => PyData.tuple (s.map .int)
  | [] => by unfold toPys; rfl
  | s :: R => by
    rw [List.map_cons]
    unfold toPys
    rw [toPys_tI R, toPy_tI]
    rfl
theorem plain_ints : ∀ ns : List Int, plainDs (ns.map .int) = true
  | [] => by unfold plainDs; rfl
  | n :: ns => by
    rw [List.map_cons]
    unfold plainDs
    rw [plain_ints ns]
    unfold plainD
    rfl
theorem plain_tI (s : List Int) : plainD (tI s) = true := by unfold plainD; exact plain_ints s
theorem plain_rule : ∀ R : Rule, plainDs (R.map tI) = true
  | [] => by unfold plainDs; rfl
  | s :: R => by
    rw [List.map_cons]
    unfold plainDs
    rw [plain_rule R, plain_tI]
    rfl
theorem canLay_ints : ∀ ns : List Int, PyData.canLayAll0 (ns.map .int) = true
  | [] => by simp [PyData.canLayAll0]
  | n :: ns => by simp [PyData.canLayAll0, PyData.canLay0, canLay_ints ns]
theorem canLay_rule : ∀ R : Rule, PyData.canLayAll0 (R.map fun s => PyData.tuple (s.map .int)) = true
  | [] => by simp [PyData.canLayAll0]
  | s :: R => by simp [PyData.canLayAll0, PyData.canLay0, canLay_ints s, canLay_rule R]
theorem depth_ints' : ∀ xs : List Int, PyData.depthAll (xs.map .int) = 0
  | [] => by simp [PyData.depthAll]
  | x :: xs => by simp [PyData.depthAll, PyData.depth, depth_ints' xs]
theorem depth_rule : ∀ R : Rule, PyData.depthAll (R.map fun s => PyData.tuple (s.map .int)) ≤ 1
  | [] => by simp [PyData.depthAll]
  | s :: R => by
    rw [List.map_cons, PyData.depthAll]
    have := depth_rule R
    have h : PyData.depth (.tuple (s.map .int)) = 1 := by rw [PyData.depth, depth_ints']
    omega
theorem ok_tI (s : List Int) : okD (tI s) = true := by
  unfold okD
  rw [plain_tI, toPy_tI]
  simp [SeqAt.shaped, PyData.canLay0, PyData.depth, canLay_ints, depth_ints']
theorem ok_rule (R : Rule) : okD (ruleD R) = true := by
  unfold okD
  have h : plainD (ruleD R) = true := by unfold plainD; exact plain_rule R
  have := depth_rule R
  rw [h, toPy_tup, toPys_tI]
  simp [SeqAt.shaped, PyData.canLay0, PyData.depth, canLay_rule]
  omega
theorem ok_ruleL (R : Rule) : okD (.lst (R.map tI)) = true := by
  unfold okD
  have h : plainD (.lst (R.map tI)) = true := by unfold plainD; exact plain_rule R
  have := depth_rule R
  rw [h, toPy_lst, toPys_tI]
  simp [SeqAt.shaped, PyData.canLay0, PyData.depth, canLay_rule]
  omega
theorem ok_ints (s : List Int) : okD (.lst (s.map .int)) = true := by
  unfold okD
  have h : plainD (.lst (s.map .int)) = true := by unfold plainD; exact plain_ints s
  rw [h, toPy_lst, toPys_ints]
  simp [SeqAt.shaped, PyData.canLay0, PyData.depth, canLay_ints, depth_ints']
theorem ok_int (i : Int) : okD (.int i) = true := by
  unfold okD plainD toPy
  simp [SeqAt.shaped, PyData.canLay0, PyData.depth]
theorem eqv_ints : ∀ a b : List Int, PyData.eqvAll (a.map .int) (b.map .int) = decide (a = b)
  | [], [] => by simp [PyData.eqvAll]
  | [], _ :: _ => by simp [PyData.eqvAll]
  | _ :: _, [] => by simp [PyData.eqvAll]
  | x :: a, y :: b => by
    simp only [List.map_cons, PyData.eqvAll, PyData.eqv, eqv_ints a b]
    by_cases h : x = y
    · by_cases h2 : a = b
      · simp [h, h2]
      · simp [h, h2]
    · simp [h]
theorem beq_tI (a b : List Int) : beqD (tI a) (tI b) = decide (a = b) := by
  unfold beqD
  rw [toPy_tI, toPy_tI]
  simp only [PyData.eqv]
  exact eqv_ints a b
theorem mem_tI (s : List Int) : ∀ R : Rule, memB (tI s) (R.map tI) = decide (s ∈ R)
  | [] => by simp [memB]
  | r :: R => by
    have ih := mem_tI s R
    unfold memB at ih ⊢
    rw [List.map_cons, List.any_cons, ih, beq_tI]
    by_cases h : r = s
    · simp [h]
    · simp [h, Ne.symm h]
theorem mem_ints (i : Int) : ∀ ns : List Int, memB (.int i) (ns.map .int) = decide (i ∈ ns)
  | [] => by simp [memB]
  | r :: R => by
    have ih := mem_ints i R
    unfold memB at ih ⊢
    have e : beqD (.int r) (.int i) = decide (r = i) := by
      unfold beqD toPy
      show (r == i) = decide (r = i)
      exact Bool.beq_eq_decide_eq r i
    rw [List.map_cons, List.any_cons, ih, e]
    by_cases h : r = i
    · simp [h]
    · simp [h, Ne.symm h]
section
variable {Ω : Om} {P : DK} {neg : Bool}
theorem in_t {s : List Int} {R : Rule} : wInB neg (tI s) (.tup (R.map tI)) Ω P = P (.bl (if neg then !decide (s ∈ R) else decide (s ∈ R))) Ω := by
  refine propext ⟨fun h => ?_, fun p => .inl ⟨R.map tI, .inl rfl, ok_tI s, ok_rule R, ok_ruleL R, by rw [mem_tI]; exact p⟩⟩
  rcases h with ⟨ys, h, _, _, _, p⟩ | ⟨r, h | ⟨l, ob, h, _⟩, p⟩
  · rcases h with h | h | ⟨_, h, _⟩ <;> cases h
    rw [mem_tI] at p
    exact p
  · rcases h with ⟨_, _, h, _⟩ | ⟨_, _, _, h, _⟩ <;> cases h
  · cases h
theorem in_l {s : List Int} {R : Rule} : wInB neg (tI s) (.lst (R.map tI)) Ω P = P (.bl (if neg then !decide (s ∈ R) else decide (s ∈ R))) Ω := by
  refine propext ⟨fun h => ?_, fun p => .inl ⟨R.map tI, .inr (.inl rfl), ok_tI s, ok_rule R, ok_ruleL R, by rw [mem_tI]; exact p⟩⟩
  rcases h with ⟨ys, h, _, _, _, p⟩ | ⟨r, h | ⟨l, ob, h, _⟩, p⟩
  · rcases h with h | h | ⟨_, h, _⟩ <;> cases h
    rw [mem_tI] at p
    exact p
  · rcases h with ⟨_, _, h, _⟩ | ⟨_, _, _, h, _⟩ <;> cases h
  · cases h
theorem in_il {i : Int} {ns : List Int} : wInB neg (.int i) (.lst (ns.map .int)) Ω P = P (.bl (if neg then !decide (i ∈ ns) else decide (i ∈ ns))) Ω := by
  refine propext ⟨fun h => ?_, fun p => .inl ⟨ns.map .int, .inr (.inl rfl), ok_int i, ok_tI ns, ok_ints ns, by rw [mem_ints]; exact p⟩⟩
  rcases h with ⟨ys, h, _, _, _, p⟩ | ⟨r, h | ⟨l, ob, h, _⟩, p⟩
  · rcases h with h | h | ⟨_, h, _⟩ <;> cases h
    rw [mem_ints] at p
    exact p
  · rcases h with ⟨_, _, h, _⟩ | ⟨_, _, _, h, _⟩ <;> cases h
  · cases h
theorem in_kp {i : Int} {l : Addr} {kvs : List (Key × D)} (ho : Ω l = some (.dk kvs)) : wInB neg (.int i) (.ptr l) Ω P = P (.bl (if neg then !(dget kvs (.inl i)).isSome else (dget kvs (.inl i)).isSome)) Ω := by
  refine propext ⟨fun h => ?_, fun p => .inr ⟨_, .inr ⟨l, _, rfl, ho, .inl ⟨kvs, .inl i, rfl, rfl, rfl⟩⟩, p⟩⟩
  rcases h with ⟨ys, h, _, _, _, p⟩ | ⟨r, h | ⟨l', ob, h, h2, h3⟩, p⟩
  · rcases h with h | h | ⟨_, h, h2⟩ <;> cases h
    rw [ho] at h2
    cases h2
  · rcases h with ⟨_, _, h, _⟩ | ⟨_, _, _, h, _⟩ <;> cases h
  · cases h
    rw [ho] at h2
    cases h2
    rcases h3 with ⟨kvs', k, h, hk, rfl⟩ | ⟨_, _, _, h, _⟩
    · cases h
      cases hk
      exact p
    · cases h
theorem in_tp {s : List Int} {l : Addr} {kvs : List (List Key × D)} (ho : Ω l = some (.dt kvs)) : wInB neg (tI s) (.ptr l) Ω P = P (.bl (if neg then !(dget kvs (s.map Sum.inl)).isSome else (dget kvs (s.map Sum.inl)).isSome)) Ω := by
  refine propext ⟨fun h => ?_, fun p => .inr ⟨_, .inr ⟨l, _, rfl, ho, .inr ⟨kvs, s.map .int, _, rfl, rfl, keysD_tI s, rfl⟩⟩, p⟩⟩
  rcases h with ⟨ys, h, _, _, _, p⟩ | ⟨r, h | ⟨l', ob, h, h2, h3⟩, p⟩
  · rcases h with h | h | ⟨_, h, h2⟩ <;> cases h
    rw [ho] at h2
    cases h2
  · rcases h with ⟨_, _, h, _⟩ | ⟨_, _, _, h, _⟩ <;> cases h
  · cases h
    rw [ho] at h2
    cases h2
    rcases h3 with ⟨_, _, h, _⟩ | ⟨kvs', ds, k, h, hs, hk, rfl⟩
    · cases h
    · cases h
      cases hs
      rw [keysD_tI] at hk
      cases hk
      exact p
end
theorem inl_inj : ∀ {a b : List Int}, (a.map Sum.inl : List Key) = b.map Sum.inl → a = b
  | [], [], _ => rfl
  | [], _ :: _, h => by cases h
  | _ :: _, [], h => by cases h
  | x :: a, y :: b, h => by
    simp only [List.map_cons, List.cons.injEq, Sum.inl.injEq] at h
    rw [h.1, inl_inj h.2]
theorem dget_mv {f : Mv} {s : List Int} : ∀ {S : List (List Int)}, s ∈ S → dget (S.map fun s => ((s.map Sum.inl : List Key), tI (f s))) (s.map Sum.inl) = some (tI (f s))
  | [], h => by cases h
  | r :: S, h => by
    unfold dget
    rw [List.map_cons, List.find?_cons]
    by_cases e : r = s
    · subst e
      simp
    · have h2 : s ∈ S := by
        rcases List.mem_cons.mp h with h | h
        · exact absurd h.symm e
        · exact h
      have ne : decide ((r.map Sum.inl : List Key) = s.map Sum.inl) = false := decide_eq_false fun z => e (inl_inj z)
      rw [show (decide (((r.map Sum.inl : List Key), tI (f r)).1 = s.map Sum.inl)) = false from ne]
      exact dget_mv h2
theorem ix_mv {S : List (List Int)} {f : Mv} {s : List Int} {Ω : Om} {P : DK} (h : s ∈ S) : wIx (mvD S f) (tI s) Ω P = P (tI (f s)) Ω := ix_dt (dget_mv h)
end KG
namespace KG
open L2 PySem PyProof.Rows PySem.Spec
local macro_rules | `(tactic| walk_at "d") => `(tactic| first | simp only [startD, endK, List.map_cons, List.map_nil, List.length_cons, List.length_nil, List.replicate, List.cons_append, List.nil_append, Nat.reduceAdd, Nat.reduceSub, Nat.zero_add, Nat.add_zero, Nat.reduceLeDiff,
  mSeq, mAsg, mDrop, mRet, mRetN, mIfS, mCont, mNext, mNever, gN, gNil_eq, gCons_eq, gT_t, gT_l, gSet, mAsgG, mVar, slot, mC, mOp, mUn, mNil, mCons, mTup, mLst, mLstO, mCB, mIf, mB, mAnd, mOr, mNot, mOrV, mNotV, mYes, mNewK, mNewT, mBM, mTuF,
  wInt2, wIs, wIsN, wNeg, wInt, wAbs, mFld, Ob.d, isi_ii, isi_ib, isi_ss, isiS_t, isiS_f, isiS_l, len_t, len_f, len_l, len_q, tuple_t, tuple_f, tuple_l, eq_ii, ne_ii, eq_ss, ne_ss, add_ii, add_tt, add_ll, mul_ii, in_t, in_l, in_il, List.length_map,
  List.set_cons_zero, List.set_cons_succ, List.getElem?_cons_zero, List.getElem?_cons_succ, Option.some.injEq, exists_eq_left', exists_eq_left, exists_eq', exists_eq, D.int.injEq, D.bl.injEq, D.str.injEq, D.tup.injEq, D.lst.injEq, D.ptr.injEq, D.ty.injEq, List.cons.injEq, and_true, true_and, reduceCtorEq, false_or, or_false, false_and, and_false, exists_false, or_self,
  exists_and_left, exists_and_right, exists_const, ne_eq, not_true_eq_false, not_false_eq_true, decide_true, decide_false, Bool.false_eq_true, Bool.true_eq_false, false_implies, true_implies, forall_const, implies_true, Bool.not_true, Bool.not_false, Bool.not_eq_true', Bool.not_eq_true, Bool.not_eq_false', decide_eq_true_eq, decide_eq_false_iff_not, put_same, del_same, forall_eq', forall_eq, forall_apply_eq_imp_iff] | (try dsimp only))
/-! G2: holds, stays, leaves. -/
section
theorem get_map {α β : Type} {f : α → β} {l : List α} {i : Nat} {y : β} (h : (l.map f)[i]? = some y) : ∃ x, l[i]? = some x ∧ y = f x := by
  rw [List.getElem?_map] at h
  cases e : l[i]? with
  | none => rw [e] at h; cases h
  | some x => rw [e] at h; cases h; exact ⟨x, rfl, rfl⟩
theorem take_all {α : Type} {p : α → Prop} {l : List α} {i : Nat} {x : α} (h : ∀ y ∈ l.take i, p y) (hx : l[i]? = some x) (px : p x) : ∀ y ∈ l.take (i + 1), p y := by
  intro y hy
  rw [List.take_add_one, hx] at hy
  rcases List.mem_append.mp hy with hy | hy
  · exact h y hy
  · rw [Option.toList_some, List.mem_singleton] at hy
    subst hy
    exact px
def F_L_holds : FD := fun ds Ω P => ∃ R Q : Rule, ds = [ruleD R, ruleD Q] ∧ P (.bl (decide (∀ x ∈ Q, x ∈ R))) Ω
theorem g_L_holds (ds Ω P) (h : F_L_holds ds Ω P) : m_L_holds Ω (startD 3 ds) (endK P) := by
  obtain ⟨R, Q, rfl, h⟩ := h
  unfold m_L_holds
  walk_at "d"
  refine forT (Ω1 := Ω) (fun P p => by walk_at "d"; exact p) (fun i Ω' Δ' => Ω' = Ω ∧ (∃ x, Δ' = [some (ruleD R), some (ruleD Q), x]) ∧ ∀ x ∈ Q.take i, x ∈ R) ⟨rfl, ⟨none, rfl⟩, by simp⟩ ?_ ?_
  · rintro i x Ω' Δ' hi ⟨rfl, ⟨x', rfl⟩, hq⟩
    obtain ⟨s, hs, rfl⟩ := get_map hi
    walk_at "d"
    refine ⟨fun hn => ?_, fun hn => ?_⟩
    · have hn : s ∉ R := by simpa using hn
      have e : decide (∀ x ∈ Q, x ∈ R) = false := decide_eq_false fun z => hn (z s (List.mem_of_getElem? hs))
      rw [e] at h
      exact .now h
    · have hn : s ∈ R := by simpa using hn
      exact take_all hq hs hn
  · rintro Ω' Δ' ⟨rfl, ⟨x, rfl⟩, hq⟩
    walk_at "d"
    rw [List.length_map, List.take_length] at hq
    rw [decide_eq_true hq] at h
    exact .now h
def F_holds_all : FD := F_L_holds
theorem g_holds_all (ds Ω P) (h : F_holds_all ds Ω P) : m_holds_all Ω (startD 3 ds) (endK P) := g_L_holds ds Ω P h
def F_L_stays : FD := fun ds Ω P => ∃ (S : List (List Int)) (fs : List Mv) (R : Rule), ds = [.lst (fs.map (mvD S)), ruleD R] ∧ (∀ s ∈ R, s ∈ S) ∧ P (.bl (decide (Kept fs R))) Ω
theorem g_L_stays (ds Ω P) (h : F_L_stays ds Ω P) : m_L_stays Ω (startD 4 ds) (endK P) := by
  obtain ⟨S, fs, R, rfl, hR, h⟩ := h
  unfold m_L_stays
  walk_at "d"
  refine forL (Ω1 := Ω) (fun P p => by walk_at "d"; exact p) (fun i Ω' Δ' => Ω' = Ω ∧ (∃ x y, Δ' = [some (.lst (fs.map (mvD S))), some (ruleD R), x, y]) ∧ ∀ f ∈ fs.take i, ∀ s ∈ R, f s ∈ R) ⟨rfl, ⟨none, none, rfl⟩, by simp⟩ ?_ ?_
  · rintro i x Ω' Δ' hi ⟨rfl, ⟨x', y', rfl⟩, hq⟩
    obtain ⟨f, hf, rfl⟩ := get_map hi
    walk_at "d"
    refine forT (Ω1 := Ω') (fun P p => by walk_at "d"; exact p) (fun j Ω2 Δ2 => Ω2 = Ω' ∧ (∃ y, Δ2 = [some (.lst (fs.map (mvD S))), some (ruleD R), some (mvD S f), y]) ∧ ∀ s ∈ R.take j, f s ∈ R) ⟨rfl, ⟨_, rfl⟩, by simp⟩ ?_ ?_
    · rintro j x Ω2 Δ2 hj ⟨rfl, ⟨y, rfl⟩, hs⟩
      obtain ⟨s, hjs, rfl⟩ := get_map hj
      have hsR := List.mem_of_getElem? hjs
      walk_at "d"
      rw [ix_mv (hR s hsR)]
      walk_at "d"
      refine ⟨fun hn => ?_, fun hn => ?_⟩
      · have hn : f s ∉ R := by simpa using hn
        have e : decide (Kept fs R) = false := decide_eq_false fun z => hn (z f (List.mem_of_getElem? hf) s hsR)
        rw [e] at h
        exact .now h
      · have hn : f s ∈ R := by simpa using hn
        exact take_all hs hjs hn
    · rintro Ω2 Δ2 ⟨rfl, ⟨y, rfl⟩, hs⟩
      rw [List.length_map, List.take_length] at hs
      exact ⟨rfl, ⟨_, _, rfl⟩, take_all hq hf hs⟩
  · rintro Ω' Δ' ⟨rfl, ⟨x, y, rfl⟩, hq⟩
    walk_at "d"
    rw [List.length_map, List.take_length] at hq
    have e : decide (Kept fs R) = true := decide_eq_true hq
    rw [e] at h
    exact .now h
theorem find_first {α : Type} {p : α → Bool} : ∀ {R : List α} {j : Nat} {s : α}, (∀ t ∈ R.take j, p t = false) → R[j]? = some s → p s = true → R.find? p = some s
  | [], j, s, _, h, _ => by simp at h
  | r :: R, 0, s, _, h, hp => by
    simp at h
    subst h
    simp [hp]
  | r :: R, j + 1, s, h1, h, hp => by
    have hr : p r = false := h1 r (by simp)
    rw [List.find?_cons, hr]
    exact find_first (j := j) (fun t ht => h1 t (by rw [List.take_succ_cons]; exact List.mem_cons_of_mem _ ht)) (by simpa using h) hp
theorem findSome_first {α β : Type} {p : α → Option β} : ∀ {R : List α} {j : Nat} {s : α} {b : β}, (∀ t ∈ R.take j, p t = none) → R[j]? = some s → p s = some b → R.findSome? p = some b
  | [], j, s, _, _, h, _ => by simp at h
  | r :: R, 0, s, b, _, h, hp => by
    simp at h
    subst h
    simp [hp]
  | r :: R, j + 1, s, b, h1, h, hp => by
    have hr : p r = none := h1 r (by simp)
    rw [List.findSome?_cons, hr]
    exact findSome_first (j := j) (fun t ht => h1 t (by rw [List.take_succ_cons]; exact List.mem_cons_of_mem _ ht)) (by simpa using h) hp
theorem mem_take_range {n i t : Nat} (h : t ∈ (List.range n).take i) : t < i := by
  obtain ⟨k, hk⟩ := List.getElem?_of_mem h
  rw [List.getElem?_take] at hk
  split at hk
  · rename_i hki
    obtain ⟨h1, h2⟩ := List.getElem?_eq_some_iff.mp hk
    simp at h2
    omega
  · cases hk
theorem leave_some {fs : List Mv} {R : Rule} {i j : Nat} {s : List Int} (hi : ∀ k < i, leave1 (fs.getD k id) R = none) (hl : i < fs.length) (hj : ∀ t ∈ R.take j, (fs.getD i id) t ∈ R) (hs : R[j]? = some s) (hn : (fs.getD i id) s ∉ R) : leave fs R = some (i, s) := by
  have h1 : leave1 (fs.getD i id) R = some s := find_first (fun t ht => decide_eq_false (fun z => z (hj t ht))) hs (decide_eq_true hn)
  refine findSome_first (j := i) (s := i) (fun t ht => ?_) ?_ ?_
  · rw [hi t (mem_take_range ht)]; rfl
  · rw [List.getElem?_range hl]
  · rw [h1]; rfl
theorem leave_none {fs : List Mv} {R : Rule} (h : ∀ k < fs.length, leave1 (fs.getD k id) R = none) : leave fs R = none := by
  unfold leave
  rw [List.findSome?_eq_none_iff]
  intro i hi
  rw [h i (List.mem_range.mp hi)]
  rfl
theorem leave1_none {f : Mv} {R : Rule} (h : ∀ s ∈ R, f s ∈ R) : leave1 f R = none := by
  unfold leave1
  rw [List.find?_eq_none]
  intro s hs
  simp [h s hs]
def F_L_leaves : FD := fun ds Ω P => ∃ (S : List (List Int)) (fs : List Mv) (R : Rule) (d : D), ds = [.lst (fs.map (mvD S)), d] ∧ (d = ruleD R ∨ d = .lst (R.map tI)) ∧ fs.length ≤ 1000 ∧ (∀ s ∈ R, s ∈ S) ∧ P (leaveD (leave fs R)) Ω
theorem g_L_leaves (ds Ω P) (h : F_L_leaves ds Ω P) : m_L_leaves Ω (startD 4 ds) (endK P) := by
  obtain ⟨S, fs, R, d, rfl, hd, hfl, hR, h⟩ := h
  have hin : ∀ (t : List Int) (Ω : Om) (P : DK), wInB true (tI t) d Ω P = P (.bl (!decide (t ∈ R))) Ω := by
    intro t Ω P
    rcases hd with rfl | rfl
    · exact in_t
    · exact in_l
  have hstd : std d (R.map tI) := by
    rcases hd with rfl | rfl
    · exact .inl rfl
    · exact .inr (.inr rfl)
  unfold m_L_leaves
  walk_at "d"
  refine forR1 fs.length (Ω1 := Ω) (fun P p => by walk_at "d"; exact p) (by omega) (by omega) (fun i Ω' Δ' => Ω' = Ω ∧ (∃ x y, Δ' = [some (.lst (fs.map (mvD S))), some d, x, y]) ∧ ∀ k < i, leave1 (fs.getD k id) R = none) ⟨rfl, ⟨none, none, rfl⟩, by omega⟩ ?_ ?_
  · rintro i Ω' Δ' hi ⟨rfl, ⟨x', y', rfl⟩, hq⟩
    have hi' : i < fs.length := by omega
    have hf : fs[i]? = some (fs.getD i id) := by rw [List.getD_eq_getElem?_getD, List.getElem?_eq_getElem hi']; rfl
    walk_at "d"
    refine forD hstd (Ω1 := Ω') (fun P p => by walk_at "d"; exact p) (fun j Ω2 Δ2 => Ω2 = Ω' ∧ (∃ y, Δ2 = [some (.lst (fs.map (mvD S))), some d, some (.int i), y]) ∧ ∀ s ∈ R.take j, (fs.getD i id) s ∈ R) ⟨rfl, ⟨_, rfl⟩, by simp⟩ ?_ ?_
    · rintro j x Ω2 Δ2 hj ⟨rfl, ⟨y, rfl⟩, hs⟩
      obtain ⟨s, hjs, rfl⟩ := get_map hj
      have hsR := List.mem_of_getElem? hjs
      walk_at "d"
      have h2 : atI (fs.map (mvD S)) (i : Int) = some (mvD S (fs.getD i id)) := atI_nat (by rw [List.getElem?_map, hf]; rfl)
      rw [ix_l h2, ix_mv (hR s hsR), hin]
      walk_at "d"
      refine ⟨fun hn => ?_, fun hn => ?_⟩
      · have hn : (fs.getD i id) s ∉ R := by simpa using hn
        rw [leave_some hq hi' hs hjs hn] at h
        exact .now h
      · have hn : (fs.getD i id) s ∈ R := by simpa using hn
        exact take_all hs hjs hn
    · rintro Ω2 Δ2 ⟨rfl, ⟨y, rfl⟩, hs⟩
      rw [List.length_map, List.take_length] at hs
      refine ⟨rfl, ⟨_, _, rfl⟩, fun k hk => ?_⟩
      by_cases e : k = i
      · subst e
        exact leave1_none hs
      · exact hq k (by omega)
  · rintro Ω' Δ' ⟨rfl, ⟨x, y, rfl⟩, hq⟩
    walk_at "d"
    rw [leave_none (fun k hk => hq k (by omega))] at h
    exact .now h
def F_first_leaving : FD := F_L_leaves
theorem g_first_leaving (ds Ω P) (h : F_first_leaving ds Ω P) : m_first_leaving Ω (startD 4 ds) (endK P) := g_L_leaves ds Ω P h
end
end KG
namespace KG
open L2 PySem PyProof.Rows PySem.Spec
local macro_rules | `(tactic| walk_at "d") => `(tactic| first | simp only [startD, endK, List.map_cons, List.map_nil, List.length_cons, List.length_nil, List.replicate, List.cons_append, List.nil_append, Nat.reduceAdd, Nat.reduceSub, Nat.zero_add, Nat.add_zero, Nat.reduceLeDiff,
  mSeq, mAsg, mDrop, mRet, mRetN, mIfS, mCont, mNext, mNever, gN, gNil_eq, gCons_eq, gT_t, gT_l, gSet, mAsgG, mVar, slot, mC, mOp, mUn, mNil, mCons, mTup, mLst, mLstO, mCB, mIf, mB, mAnd, mOr, mNot, mOrV, mNotV, mYes, mNewK, mNewT, mBM, mTuF,
  wInt2, wIs, wIsN, wNeg, wInt, wAbs, mFld, Ob.d, isi_ii, isi_ib, isi_ss, isiS_t, isiS_f, isiS_l, len_t, len_f, len_l, len_q, tuple_t, tuple_f, tuple_l, eq_ii, ne_ii, eq_ss, ne_ss, add_ii, add_tt, add_ll, mul_ii, in_t, in_l, in_il, List.length_map,
  List.set_cons_zero, List.set_cons_succ, List.getElem?_cons_zero, List.getElem?_cons_succ, Option.some.injEq, exists_eq_left', exists_eq_left, exists_eq', exists_eq, D.int.injEq, D.bl.injEq, D.str.injEq, D.tup.injEq, D.lst.injEq, D.ptr.injEq, D.ty.injEq, List.cons.injEq, and_true, true_and, reduceCtorEq, false_or, or_false, false_and, and_false, exists_false, or_self,
  exists_and_left, exists_and_right, exists_const, ne_eq, not_true_eq_false, not_false_eq_true, decide_true, decide_false, Bool.false_eq_true, Bool.true_eq_false, false_implies, true_implies, forall_const, implies_true, Bool.not_true, Bool.not_false, Bool.not_eq_true', Bool.not_eq_true, Bool.not_eq_false', decide_eq_true_eq, decide_eq_false_iff_not, put_same, del_same, forall_eq', forall_eq, forall_apply_eq_imp_iff] | (try dsimp only))
/-! G1: the small defs. -/
section
theorem cmul64 {i j : Int} (h1 : -18446744073709551616 < j) (h2 : j < 18446744073709551616) : CMul i j := .inr ⟨h1, h2⟩
theorem cmul64l {i j : Int} (h1 : -18446744073709551616 < i) (h2 : i < 18446744073709551616) : CMul i j := .inl ⟨h1, h2⟩
theorem cdiv {i j : Int} (h1 : 0 < j) (h2 : j < 1073741824) : CDiv i j := ⟨h1, h2⟩
def F_is_whole : FD := fun ds Ω P => ∃ i lo hi : Int, ds = [.int i, .int lo, .int hi] ∧ P (.bl (decide (lo ≤ i ∧ i ≤ hi))) Ω
theorem g_is_whole (ds Ω P) (h : F_is_whole ds Ω P) : m_is_whole Ω (startD 3 ds) (endK P) := by
  obtain ⟨i, lo, hi, rfl, h⟩ := h
  unfold m_is_whole
  walk_at "d"
  refine ⟨fun h1 => ?_, fun h1 => ?_⟩
  · rw [decide_eq_false (by omega)] at h
    exact .now h
  · have e : decide (lo ≤ i ∧ i ≤ hi) = decide (i ≤ hi) := by
      rw [decide_eq_decide]; omega
    rw [e] at h
    exact .now h
def F_is_sequence : FD := fun ds Ω P => ∃ d xs, ds = [d] ∧ std d xs ∧ P (.bl true) Ω
theorem g_is_sequence (ds Ω P) (h : F_is_sequence ds Ω P) : m_is_sequence Ω (startD 1 ds) (endK P) := by
  obtain ⟨d, xs, rfl, hd, h⟩ := h
  unfold m_is_sequence
  walk_at "d"
  rw [isiS_d hd]
  exact .now h
def F_L_power : FD := fun ds Ω P => ∃ b e : Int, ds = [.int b, .int e] ∧ 0 ≤ b ∧ b ≤ 10 ∧ 0 ≤ e ∧ e ≤ 10 ∧ P (.int (b ^ e.toNat)) Ω
theorem g_L_power (ds Ω P) (h : F_L_power ds Ω P) : m_L_power Ω (startD 4 ds) (endK P) := by
  obtain ⟨b, e, rfl, h1, h2, h3, h4, h⟩ := h
  unfold m_L_power
  walk_at "d"
  refine forR1 e (Ω1 := Ω) (fun P p => by walk_at "d"; exact p) (by omega) (by omega) (fun i Ω' Δ' => Ω' = Ω ∧ ∃ x, Δ' = [some (.int b), some (.int e), some (.int (b ^ i)), x]) ⟨rfl, none, by rw [Int.pow_zero]⟩ ?_ ?_
  · rintro i Ω' Δ' hi ⟨rfl, x, rfl⟩
    walk_at "d"
    exact ⟨cmul64 (by omega) (by omega), by rw [Int.pow_succ]⟩
  · rintro Ω' Δ' ⟨rfl, x, rfl⟩
    walk_at "d"
    exact .now h
def F_power_of : FD := F_L_power
theorem g_power_of (ds Ω P) (h : F_power_of ds Ω P) : m_power_of Ω (startD 4 ds) (endK P) := by
  obtain ⟨b, e, rfl, h1, h2, h3, h4, h⟩ := h
  unfold m_power_of
  walk_at "d"
  refine forR1 e (Ω1 := Ω) (fun P p => by walk_at "d"; exact p) (by omega) (by omega) (fun i Ω' Δ' => Ω' = Ω ∧ ∃ x, Δ' = [some (.int b), some (.int e), some (.int (b ^ i)), x]) ⟨rfl, none, by rw [Int.pow_zero]⟩ ?_ ?_
  · rintro i Ω' Δ' hi ⟨rfl, x, rfl⟩
    walk_at "d"
    exact ⟨cmul64 (by omega) (by omega), by rw [Int.pow_succ]⟩
  · rintro Ω' Δ' ⟨rfl, x, rfl⟩
    walk_at "d"
    exact .now h
def F_L_mixed : FD := fun ds Ω P => ∃ n k : Int, ds = [.int n, .int k] ∧ 0 ≤ n ∧ n < 2147483647 ∧ 0 ≤ k ∧ k ≤ 1000 ∧ ∀ r : Int, 0 ≤ r → r < 2147483647 → P (.int r) Ω
theorem g_L_mixed (ds Ω P) (h : F_L_mixed ds Ω P) : m_L_mixed Ω (startD 4 ds) (endK P) := by
  obtain ⟨n, k, rfl, h1, h2, h3, h4, h⟩ := h
  unfold m_L_mixed
  walk_at "d"
  generalize e1 : (n * 39373 + k * 6151 + 50021) % 2147483399 = x
  have x0 : 0 ≤ x ∧ x < 2147483399 := by omega
  generalize e2 : (x * x + k * 81071 + x / 137) % 2147483629 = y
  have y0 : 0 ≤ y ∧ y < 2147483629 := by omega
  refine ⟨cmul64 (by omega) (by omega), cmul64 (by omega) (by omega), by omega, cmul64 (by omega) (by omega), cmul64 (by omega) (by omega), cdiv (by omega) (by omega), by omega, cmul64 (by omega) (by omega), cdiv (by omega) (by omega), by omega, cdiv (by omega) (by omega), .now (h _ ?_ ?_)⟩ <;> omega
/-- digits: the row's number -/
def F_L_entry : FD := fun ds Ω P => ∃ (m : Int) (ws : List Int), ds = [.int m, .lst (ws.map .int)] ∧ 0 ≤ m ∧ m ≤ 10 ∧ P (.int (entryF m ws)) Ω
theorem entry_take (m : Int) (ws : List Int) (i : Nat) (w : Int) (h : ws[i]? = some w) : entryF m (ws.take (i + 1)) = entryF m (ws.take i) * m + w := by
  unfold entryF
  rw [List.take_add_one, h, List.foldl_append]
  rfl
theorem g_L_entry (ds Ω P) (h : F_L_entry ds Ω P) : m_L_entry Ω (startD 4 ds) (endK P) := by
  obtain ⟨m, ws, rfl, h1, h2, h⟩ := h
  unfold m_L_entry
  walk_at "d"
  refine forL (Ω1 := Ω) (fun P p => by walk_at "d"; exact p) (fun i Ω' Δ' => Ω' = Ω ∧ ∃ x, Δ' = [some (.int m), some (.lst (ws.map .int)), some (.int (entryF m (ws.take i))), x]) ⟨rfl, none, rfl⟩ ?_ ?_
  · rintro i x Ω' Δ' hi ⟨rfl, x', rfl⟩
    rw [List.getElem?_map] at hi
    cases e : ws[i]? with
    | none => rw [e] at hi; cases hi
    | some w =>
      rw [e] at hi
      cases hi
      walk_at "d"
      exact ⟨cmul64 (by omega) (by omega), (entry_take m ws i w e).symm⟩
  · rintro Ω' Δ' ⟨rfl, x, rfl⟩
    walk_at "d"
    rw [List.take_length]
    exact .now h
def F_digits_number : FD := F_L_entry
theorem g_digits_number (ds Ω P) (h : F_digits_number ds Ω P) : m_digits_number Ω (startD 4 ds) (endK P) := by
  obtain ⟨m, ws, rfl, h1, h2, h⟩ := h
  unfold m_digits_number
  walk_at "d"
  refine forL (Ω1 := Ω) (fun P p => by walk_at "d"; exact p) (fun i Ω' Δ' => Ω' = Ω ∧ ∃ x, Δ' = [some (.int m), some (.lst (ws.map .int)), some (.int (entryF m (ws.take i))), x]) ⟨rfl, none, rfl⟩ ?_ ?_
  · rintro i x Ω' Δ' hi ⟨rfl, x', rfl⟩
    rw [List.getElem?_map] at hi
    cases e : ws[i]? with
    | none => rw [e] at hi; cases hi
    | some w =>
      rw [e] at hi
      cases hi
      walk_at "d"
      exact ⟨cmul64 (by omega) (by omega), (entry_take m ws i w e).symm⟩
  · rintro Ω' Δ' ⟨rfl, x, rfl⟩
    walk_at "d"
    rw [List.take_length]
    exact .now h
def F_last_pocket : FD := fun ds Ω P => ∃ (k : Str) (pl : Int), ds = [.str k, .int pl] ∧ P (.int (lastP k pl)) Ω
theorem g_last_pocket (ds Ω P) (h : F_last_pocket ds Ω P) : m_last_pocket Ω (startD 2 ds) (endK P) := by
  obtain ⟨k, pl, rfl, h⟩ := h
  unfold m_last_pocket
  walk_at "d"
  unfold lastP at h
  refine ⟨fun e => ?_, fun e => ⟨fun e2 => ?_, fun e2 => ?_⟩⟩
  · rw [if_pos e] at h; exact .now h
  · rw [if_neg e, if_pos e2] at h; exact .now h
  · rw [if_neg e, if_neg e2] at h; exact .now h
end
end KG
/-! MB: what a run keeps. -/
namespace KG
open L2 PySem PyProof.Rows PySem.Spec
theorem at_mem {l : List Int} {i : Int} (h0 : 0 ≤ i) (h1 : i < l.length) : l[i.toNat]? = some (at_ l i) ∧ at_ l i ∈ l := by
  have hi : i.toNat < l.length := by omega
  have e : l[i.toNat]? = some (at_ l i) := by
    unfold at_
    rw [List.getD_eq_getElem?_getD, List.getElem?_eq_getElem hi]
    rfl
  exact ⟨e, List.mem_of_getElem? e⟩
theorem entry_rng {m : Int} (hm : 0 < m) : ∀ (ws : List Int) (a : Int) (k : Nat), 0 ≤ a → a < m ^ k → (∀ w ∈ ws, 0 ≤ w ∧ w < m) → 0 ≤ ws.foldl (fun a w => a * m + w) a ∧ ws.foldl (fun a w => a * m + w) a < m ^ (k + ws.length)
  | [], a, k, h0, h1, _ => ⟨h0, h1⟩
  | w :: ws, a, k, h0, h1, hw => by
    obtain ⟨hw1, hw2⟩ := hw w List.mem_cons_self
    have h2 : 0 ≤ a * m + w := by
      have := Int.mul_nonneg h0 (Int.le_of_lt hm)
      omega
    have h3 : a * m + w < m ^ (k + 1) := by
      rw [Int.pow_succ]
      have : (a + 1) * m ≤ m ^ k * m := Int.mul_le_mul_of_nonneg_right (by omega) (Int.le_of_lt hm)
      rw [Int.add_mul] at this
      omega
    have := entry_rng hm ws (a * m + w) (k + 1) h2 h3 fun x hx => hw x (List.mem_cons_of_mem _ hx)
    rw [List.foldl_cons, List.length_cons, show k + (ws.length + 1) = k + 1 + ws.length by omega]
    exact this
theorem entryF_rng {m : Int} (hm : 0 < m) (ws : List Int) (hw : ∀ w ∈ ws, 0 ≤ w ∧ w < m) : 0 ≤ entryF m ws ∧ entryF m ws < m ^ ws.length := by
  have := entry_rng hm ws 0 0 (by omega) (by simp) hw
  rw [Nat.zero_add] at this
  exact this
def RngL (m : Int) (l : List Int) : Prop := ∀ w ∈ l, 0 ≤ w ∧ w < m
theorem asc_len : ∀ {l : List Int} {lo hi : Int}, l.Pairwise (· < ·) → (∀ b ∈ l, lo ≤ b ∧ b < hi) → l.length ≤ (hi - lo).toNat
  | [], _, _, _, _ => Nat.zero_le _
  | x :: l, lo, hi, hp, h => by
    obtain ⟨h1, h2⟩ := h x List.mem_cons_self
    cases hp with
    | cons a b =>
      have := asc_len (l := l) (lo := x + 1) (hi := hi) b fun y hy => ⟨by have := a y hy; omega, (h y (List.mem_cons_of_mem _ hy)).2⟩
      rw [List.length_cons]
      omega
theorem by_len {W : Wld} {pr : List Stp} {n : Nat} {s : Stp} (ok : StpOk W pr n s) : s.by_.length ≤ n + 1 := by
  have := asc_len (lo := 0) (hi := n + 1) ok.asc fun b hb => by
    obtain ⟨h1, h2⟩ := ok.rng b hb
    refine ⟨h1, ?_⟩
    unfold lastP at h2
    split at h2
    · omega
    · split at h2 <;> omega
  omega
structure StInv (W : Wld) (pre : List Int) (st : RunSt) : Prop where
  hl : (st.1.length : Int) = W.c
  he : RngL W.m st.1
  pl : st.2.length = W.ps.length
  pc : ∀ i : Nat, i < W.ps.length → (st.2.getD i []).length = pre.count (i : Int)
  pe : ∀ i : Nat, RngL W.m (st.2.getD i [])
theorem count_snoc (pre : List Int) (p q : Int) : (pre ++ [p]).count q = pre.count q + if p = q then 1 else 0 := by
  rw [List.count_append, List.count_singleton]
  by_cases h : p = q
  · simp [h]
  · simp [h]
/-- the step that a turn takes -/
theorem step_at {W : Wld} (wd : Wd W) {pre : List Int} {st : RunSt} (I : StInv W pre st) {p : Int} (h0 : 0 ≤ p) (h1 : p < W.ps.length) (hc : pre.count p < (W.ps.getD p.toNat []).length) :
    ∃ pr, W.ps[p.toNat]? = some pr ∧ W.ps.getD p.toNat [] = pr ∧ pr ∈ W.ps ∧ (st.2.getD p.toNat []).length < pr.length ∧ pr[(st.2.getD p.toNat []).length]? = some (stepAt W p.toNat (st.2.getD p.toNat []).length) ∧ StpOk W pr (st.2.getD p.toNat []).length (stepAt W p.toNat (st.2.getD p.toNat []).length) := by
  have hp : p.toNat < W.ps.length := by omega
  have e1 : W.ps[p.toNat]? = some (W.ps.getD p.toNat []) := by rw [List.getD_eq_getElem?_getD, List.getElem?_eq_getElem hp]; rfl
  have hmem := List.mem_of_getElem? e1
  have e2 : (st.2.getD p.toNat []).length = pre.count p := by
    have := I.pc p.toNat hp
    rwa [Int.toNat_of_nonneg h0] at this
  have hlt : (st.2.getD p.toNat []).length < (W.ps.getD p.toNat []).length := by rw [e2]; exact hc
  have e3 : (W.ps.getD p.toNat [])[(st.2.getD p.toNat []).length]? = some (stepAt W p.toNat (st.2.getD p.toNat []).length) := by
    unfold stepAt
    rw [List.getD_eq_getElem?_getD (l := W.ps.getD p.toNat []), List.getElem?_eq_getElem hlt]
    rfl
  exact ⟨_, e1, rfl, hmem, hlt, e3, wd.step _ hmem _ _ e3⟩
/-- a step's digits, its table's entry -/
theorem dig_rng {W : Wld} {pr : List Stp} {n : Nat} {s : Stp} (ok : StpOk W pr n s) {mine : List Int} (hm : RngL W.m mine) (hl : mine.length = n + 1) : (∀ b ∈ s.by_, 0 ≤ b ∧ b < mine.length) ∧ RngL W.m (s.by_.map (at_ mine)) := by
  have h1 : ∀ b ∈ s.by_, 0 ≤ b ∧ b < mine.length := fun b hb => by
    obtain ⟨h1, h2⟩ := ok.rng b hb
    unfold lastP at h2
    refine ⟨h1, ?_⟩
    rw [hl]
    split at h2
    · omega
    · split at h2 <;> omega
  refine ⟨h1, fun w hw => ?_⟩
  obtain ⟨b, hb, rfl⟩ := List.mem_map.mp hw
  exact hm _ (at_mem (h1 b hb).1 (h1 b hb).2).2
theorem tab_entry {W : Wld} (wd : Wd W) {pr : List Stp} {n : Nat} {s : Stp} (ok : StpOk W pr n s) (hk : s.kind ≠ kKept) {mine : List Int} (hm : RngL W.m mine) (hl : mine.length = n + 1) :
    ∃ t, look W.tb s.name = some t ∧ t[(entryF W.m (s.by_.map (at_ mine))).toNat]? = some (at_ ((look W.tb s.name).getD []) (entryF W.m (s.by_.map (at_ mine)))) ∧ 0 ≤ entryF W.m (s.by_.map (at_ mine)) ∧
      0 ≤ at_ ((look W.tb s.name).getD []) (entryF W.m (s.by_.map (at_ mine))) ∧ at_ ((look W.tb s.name).getD []) (entryF W.m (s.by_.map (at_ mine))) < W.m := by
  obtain ⟨_, _, t, ht, ok1, ok2⟩ := ok.tab hk
  have hm0 : 0 < W.m := by have := wd.m; omega
  obtain ⟨h1, h2⟩ := entryF_rng hm0 _ (dig_rng ok hm hl).2
  rw [List.length_map] at h2
  have h3 : entryF W.m (s.by_.map (at_ mine)) < t.length := by rw [ok1]; exact h2
  have h4 := at_mem h1 h3
  refine ⟨t, ht, ?_, h1, ?_⟩
  · rw [ht]; exact h4.1
  · rw [ht]
    exact ok2 _ h4.2
theorem last_snoc (l : List Int) (x : Int) : (l ++ [x]).getLastD 0 = x := by simp
theorem worth_rng {W : Wld} (wd : Wd W) {pr : List Stp} {n : Nat} {s : Stp} (ok : StpOk W pr n s) {q : List Int} {x : Int} (hq : RngL W.m (q ++ [x])) (hl : q.length = n) : 0 ≤ worth W s (q ++ [x]) ∧ worth W s (q ++ [x]) < W.m := by
  have hx := hq x (by simp)
  have hm0 : 0 < W.m := by have := wd.m; omega
  unfold worth
  simp only [last_snoc]
  by_cases hk : s.kind = kKept
  · rw [if_pos hk]; exact hx
  · rw [if_neg hk]
    obtain ⟨t, _, _, _, h4, h5⟩ := tab_entry wd ok hk hq (by simp [hl])
    by_cases ha : s.kind = kAny
    · rw [if_pos ha]; exact ⟨h4, h5⟩
    · rw [if_neg ha]; exact ⟨Int.emod_nonneg _ (by omega), Int.emod_lt_of_pos _ hm0⟩
theorem getD_set_self {α : Type} {l : List α} {i : Nat} {x d : α} (h : i < l.length) : (l.set i x).getD i d = x := by
  rw [List.getD_eq_getElem?_getD, List.getElem?_set_self h]; rfl
theorem getD_set_ne {α : Type} {l : List α} {i j : Nat} {x d : α} (h : i ≠ j) : (l.set i x).getD j d = l.getD j d := by
  rw [List.getD_eq_getElem?_getD, List.getElem?_set_ne h, List.getD_eq_getElem?_getD]
theorem rng_set {m : Int} {l : List Int} {i : Nat} {x : Int} (h : RngL m l) (hx : 0 ≤ x ∧ x < m) : RngL m (l.set i x) := fun w hw => by
  rcases List.mem_or_eq_of_mem_set hw with h1 | h1
  · exact h w h1
  · subst h1; exact hx
theorem inv_step {W : Wld} (wd : Wd W) {pre : List Int} {st : RunSt} (I : StInv W pre st) {p : Int} (h0 : 0 ≤ p) (h1 : p < W.ps.length) (hc : pre.count p < (W.ps.getD p.toNat []).length) : StInv W (pre ++ [p]) (turnF W st p) := by
  obtain ⟨pr, e1, e2, hmem, hlt, e3, ok⟩ := step_at wd I h0 h1 hc
  have hp : p.toNat < st.2.length := by rw [I.pl]; omega
  have hcell : at_ st.1 (stepAt W p.toNat (st.2.getD p.toNat []).length).cell ∈ st.1 := (at_mem ok.cell.1 (by rw [I.hl]; exact ok.cell.2)).2
  have hq : RngL W.m (st.2.getD p.toNat [] ++ [at_ st.1 (stepAt W p.toNat (st.2.getD p.toNat []).length).cell]) := fun w hw => by
    rcases List.mem_append.mp hw with hw | hw
    · exact I.pe _ w hw
    · rw [List.mem_singleton] at hw
      subst hw
      exact I.he _ hcell
  refine ⟨?_, ?_, ?_, fun i hi => ?_, fun i => ?_⟩
  · show (((st.1.set _ _).length : Nat) : Int) = W.c
    rw [List.length_set]; exact I.hl
  · exact rng_set I.he (worth_rng wd ok hq rfl)
  · show (st.2.set _ _).length = _
    rw [List.length_set]; exact I.pl
  · show ((st.2.set p.toNat _).getD i []).length = _
    rw [count_snoc]
    by_cases e : p.toNat = i
    · subst e
      rw [getD_set_self hp, List.length_append, List.length_singleton, I.pc _ hi, if_pos (by omega)]
    · rw [getD_set_ne e, I.pc i hi, if_neg (by omega)]; rfl
  · show RngL W.m ((st.2.set p.toNat _).getD i [])
    by_cases e : p.toNat = i
    · subst e
      rw [getD_set_self hp]
      exact hq
    · rw [getD_set_ne e]
      exact I.pe i
theorem inv_start {W : Wld} {s : List Int} (hs : StoreOk W s) : StInv W [] (W.start s) := by
  refine ⟨hs.1, hs.2, by simp [Wld.start], fun i hi => ?_, fun i => ?_⟩
  · simp only [Wld.start]
    rw [List.getD_eq_getElem?_getD, List.getElem?_map, List.getElem?_eq_getElem hi]
    simp
  · simp only [Wld.start]
    rw [List.getD_eq_getElem?_getD, List.getElem?_map]
    cases W.ps[i]? <;> (intro w hw; simp at hw)
def runTo (W : Wld) (row : List Int) (s : List Int) (k : Nat) : RunSt := (row.take k).foldl (turnF W) (W.start s)
theorem runTo_succ {W : Wld} {row s : List Int} {k : Nat} {p : Int} (h : row[k]? = some p) : runTo W row s (k + 1) = turnF W (runTo W row s k) p := by
  unfold runTo
  rw [List.take_add_one, h, List.foldl_append]
  rfl
theorem runTo_all {W : Wld} {row s : List Int} : (runTo W row s row.length).1 = W.run row s := by
  unfold runTo Wld.run
  rw [List.take_length]
theorem count_take {row : List Int} {k : Nat} {p : Int} (h : row[k]? = some p) : (row.take k).count p < row.count p := by
  have h1 : row.count p = (row.take (k + 1)).count p + (row.drop (k + 1)).count p := by
    conv => lhs; rw [← List.take_append_drop (k + 1) row]
    rw [List.count_append]
  rw [h1, List.take_add_one, h, Option.toList_some, count_snoc, if_pos rfl]
  omega
theorem inv_run {W : Wld} (wd : Wd W) {row s : List Int} (hr : RowOk W row) (hs : StoreOk W s) : ∀ k, k ≤ row.length → StInv W (row.take k) (runTo W row s k)
  | 0, _ => by
    rw [List.take_zero]
    exact inv_start hs
  | k + 1, hk => by
    have hlt : k < row.length := by omega
    have e := List.getElem?_eq_getElem hlt
    obtain ⟨h0, h1, h2⟩ := hr.2 _ (List.mem_of_getElem? e)
    rw [runTo_succ e, List.take_add_one, e, Option.toList_some]
    exact inv_step wd (inv_run wd hr hs k (by omega)) h0 h1 (Nat.lt_of_lt_of_le (count_take e) h2)
theorem run_ok {W : Wld} (wd : Wd W) {row s : List Int} (hr : RowOk W row) (hs : StoreOk W s) : StoreOk W (W.run row s) := by
  have I := inv_run wd hr hs row.length (Nat.le_refl _)
  rw [← runTo_all]
  exact ⟨I.hl, I.he⟩
end KG
/-! MC: what is owned while a run goes on. -/
namespace KG
open L2 PySem PyProof.Rows PySem.Spec
section
variable {Ω Ω' : Om} {P : DK} {l : Addr} {xs : List D}
theorem isL_p (h : Ω l = some (.lst xs)) : isL (.ptr l) Ω := ⟨xs, .inr (.inr ⟨l, rfl, h⟩)⟩
theorem app_p {y : D} (h : Ω l = some (.lst xs)) (hz : xs.length < 100000) (p : P .non (put Ω l (.lst (xs ++ [y])))) : isL (.ptr l) Ω ∧ wApp (.ptr l) [y] Ω P := ⟨isL_p h, l, xs, y, rfl, rfl, h, hz, p⟩
theorem set_p {y : D} {i : Int} {R : Om → Prop} (h : Ω l = some (.lst xs)) (h0 : 0 ≤ i) (h1 : i < xs.length) (p : R (put Ω l (.lst (xs.set i.toNat y)))) : wSet (.ptr l) (.int i) y Ω R :=
  ⟨l, rfl, .inl ⟨xs, i, i.toNat, h, rfl, by unfold ixN; rw [if_pos h0, if_pos h1], p⟩⟩
theorem listO_d {d : D} (hd : std d xs) (p : ∀ l, Ω l = none → P (.ptr l) (put Ω l (.lst xs))) : wListO [d] Ω P := ⟨d, xs, rfl, hd.seq, p⟩
theorem list_d {d : D} (hd : std d xs) (p : P (.lst xs) Ω) : wList [d] Ω P := ⟨d, xs, rfl, hd.seq, p⟩
end
structure OwnR (Ω : Om) (h : Addr) (ls : List Addr) (st : RunSt) (Ω' : Om) : Prop where
  sub : Sub Ω Ω'
  hn : Ω h = none
  ln : ∀ l ∈ ls, Ω l = none
  ne : h ∉ ls
  nd : ls.Nodup
  len : ls.length = st.2.length
  at_h : Ω' h = some (.lst (st.1.map .int))
  at_l : ∀ (i : Nat) (l : Addr), ls[i]? = some l → Ω' l = some (.lst ((st.2.getD i []).map .int))
theorem nodup_inj {α : Type} : ∀ {l : List α}, l.Nodup → ∀ {i j : Nat} (h1 : i < l.length) (h2 : j < l.length), l[i] = l[j] → i = j
  | [], _, _, _, h1, _, _ => by simp at h1
  | x :: l, nd, 0, 0, _, _, _ => rfl
  | x :: l, nd, 0, j + 1, h1, h2, e => by
    have : x ∈ l := by
      simp only [List.getElem_cons_zero, List.getElem_cons_succ] at e
      rw [e]; exact List.getElem_mem _
    exact absurd this (List.nodup_cons.mp nd).1
  | x :: l, nd, i + 1, 0, h1, h2, e => by
    have : x ∈ l := by
      simp only [List.getElem_cons_zero, List.getElem_cons_succ] at e
      rw [← e]; exact List.getElem_mem _
    exact absurd this (List.nodup_cons.mp nd).1
  | x :: l, nd, i + 1, j + 1, h1, h2, e => by
    simp only [List.getElem_cons_succ] at e
    exact congrArg (· + 1) (nodup_inj (List.nodup_cons.mp nd).2 (by simpa using h1) (by simpa using h2) e)
theorem nodup_ne {ls : List Addr} (nd : ls.Nodup) {i j : Nat} {a b : Addr} (ha : ls[i]? = some a) (hb : ls[j]? = some b) (h : i ≠ j) : a ≠ b := by
  intro e
  subst e
  obtain ⟨h1, e1⟩ := List.getElem?_eq_some_iff.mp ha
  obtain ⟨h2, e2⟩ := List.getElem?_eq_some_iff.mp hb
  exact h (nodup_inj nd h1 h2 (e1.trans e2.symm))
theorem OwnR.setL {Ω Ω' : Om} {h : Addr} {ls : List Addr} {st : RunSt} (o : OwnR Ω h ls st Ω') {p : Nat} {l : Addr} (hl : ls[p]? = some l) (q : List Int) : OwnR Ω h ls (st.1, st.2.set p q) (put Ω' l (.lst (q.map .int))) := by
  have hm := List.mem_of_getElem? hl
  have hp : p < st.2.length := by rw [← o.len]; exact (List.getElem?_eq_some_iff.mp hl).1
  refine ⟨o.sub.putR (o.ln l hm), o.hn, o.ln, o.ne, o.nd, ?_, ?_, fun i l' hi => ?_⟩
  · show ls.length = (st.2.set p q).length
    rw [List.length_set]; exact o.len
  · rw [put_ne (fun e => o.ne (by rw [e]; exact hm))]; exact o.at_h
  · by_cases e : p = i
    · subst e
      rw [hl] at hi
      cases hi
      rw [put_same]
      show _ = some (Ob.lst (((st.2.set p q).getD p []).map .int))
      rw [getD_set_self hp]
    · rw [put_ne (nodup_ne o.nd hi hl (Ne.symm e))]
      show _ = some (Ob.lst (((st.2.set p q).getD i []).map .int))
      rw [getD_set_ne e]
      exact o.at_l i l' hi
theorem OwnR.setH {Ω Ω' : Om} {h : Addr} {ls : List Addr} {st : RunSt} (o : OwnR Ω h ls st Ω') (x : List Int) : OwnR Ω h ls (x, st.2) (put Ω' h (.lst (x.map .int))) := by
  refine ⟨o.sub.putR o.hn, o.hn, o.ln, o.ne, o.nd, o.len, put_same, fun i l hi => ?_⟩
  rw [put_ne (fun e => o.ne (by rw [← e]; exact List.mem_of_getElem? hi))]
  exact o.at_l i l hi
theorem OwnR.get {Ω Ω' : Om} {h : Addr} {ls : List Addr} {st : RunSt} (o : OwnR Ω h ls st Ω') {p : Int} (h0 : 0 ≤ p) (h1 : p < st.2.length) : ∃ l, ls[p.toNat]? = some l ∧ Ω' l = some (.lst ((st.2.getD p.toNat []).map .int)) ∧ atI (ls.map D.ptr) p = some (.ptr l) := by
  have hp : p.toNat < ls.length := by rw [o.len]; omega
  refine ⟨ls[p.toNat], List.getElem?_eq_getElem hp, o.at_l _ _ (List.getElem?_eq_getElem hp), atI_of h0 ?_⟩
  rw [List.getElem?_map, List.getElem?_eq_getElem hp]
  rfl
/-- new empty lists, one for each item -/
theorem pockets_new {mi : MI} {j : Nat} {Ω Ω1 : Om} {Δ : Dl} {P : DK} {n : Nat} {item : Nat → D} {keep : Om → Prop} (hi : src mi Ω Ω1 Δ n item keep) (hn : n ≤ 1000) (hk : ∀ Ω', keep Ω')
    (wf : ∀ (ls : List Addr) Ω', ls.length = n → ls.Nodup → Sub Ω1 Ω' → (∀ l ∈ ls, Ω1 l = none ∧ Ω' l = some (.lst [])) → P (.lst (ls.map D.ptr)) Ω') : mFrz (mLc mi j mYes (mLstO mNil)) Ω Δ P := by
  refine lcWF hi (by omega) (fun i acc Ω' => ∃ ls : List Addr, acc = ls.map D.ptr ∧ ls.length = i ∧ ls.Nodup ∧ Sub Ω1 Ω' ∧ ∀ l ∈ ls, Ω1 l = none ∧ Ω' l = some (.lst [])) ⟨[], rfl, rfl, .nil, Sub.refl _, fun l h => by cases h⟩ (fun l i acc Ω' h1 h2 w => hk _) ?_ ?_
  · rintro l i acc Ω' h1 h2 hin ha ⟨ls, rfl, hl, nd, sub, at_⟩
    refine ⟨fun _ => ?_, fun z => by cases z⟩
    refine ⟨by simp, fun q hq => ?_⟩
    obtain ⟨hq1, hq2⟩ := put_none.mp hq
    rw [put_comm (Ne.symm hq1)]
    refine nextW_some (put_none.mpr ⟨Ne.symm hq1, h2⟩) ha (by omega) ⟨ls ++ [q], by rw [List.map_append]; rfl, by rw [List.length_append, hl]; rfl, ?_, ?_, ?_⟩
    · rw [List.nodup_append]
      refine ⟨nd, by simp, fun a ha b hb e => ?_⟩
      rw [List.mem_singleton] at hb
      subst hb e
      have := (at_ a ha).2
      rw [hq2] at this
      cases this
    · exact sub.putR (by
        cases e : Ω1 q with
        | none => rfl
        | some o => rw [sub q o e] at hq2; cases hq2)
    · intro l' hl'
      rcases List.mem_append.mp hl' with h | h
      · refine ⟨(at_ l' h).1, ?_⟩
        rw [put_ne (fun e => by have := (at_ l' h).2; rw [e, hq2] at this; cases this)]
        exact (at_ l' h).2
      · rw [List.mem_singleton] at h
        subst h
        refine ⟨?_, put_same⟩
        cases e : Ω1 l' with
        | none => rfl
        | some o => rw [sub l' o e] at hq2; cases hq2
  · rintro acc Ω' ha ⟨ls, rfl, hl, nd, sub, at_⟩
    exact wf ls Ω' hl nd sub at_
theorem OwnR.start {Ω Ω1 Ω' : Om} {h : Addr} {W : Wld} {s : List Int} {ls : List Addr} (hh : Ω h = none) (e1 : Ω1 = put Ω h (.lst (s.map .int))) (hl : ls.length = W.ps.length) (nd : ls.Nodup) (sub : Sub Ω1 Ω') (at_ : ∀ l ∈ ls, Ω1 l = none ∧ Ω' l = some (.lst [])) : OwnR Ω h ls (W.start s) Ω' := by
  subst e1
  refine ⟨fun l o e => sub l o (Sub.put hh l o e), hh, fun l hl => (put_none.mp (at_ l hl).1).2, fun hm => (put_none.mp (at_ h hm).1).1 rfl, nd, by simp [Wld.start, hl], sub h _ put_same, fun i l hi => ?_⟩
  rw [(at_ l (List.mem_of_getElem? hi)).2]
  simp only [Wld.start]
  rw [List.getD_eq_getElem?_getD, List.getElem?_map]
  cases W.ps[i]? <;> rfl
/-- what stands is not at a fresh place -/
theorem ne_fresh {Ω : Om} {l q : Addr} {o : Ob} (h : Ω l = some o) (hq : Ω q = none) : l ≠ q := fun e => by rw [e, hq] at h; cases h
theorem put_keep {Ω : Om} {l q : Addr} {o u : Ob} (h : Ω l = some o) (hq : Ω q = none) : put Ω q u l = some o := by rw [put_ne (ne_fresh h hq)]; exact h
/-- a comprehension over what stands, nothing else happens -/
theorem lcFil {α : Type} {mi : MI} {j : Nat} {mt : MT} {me : ME} {Ω Ω1 : Om} {Δ : Dl} {P : DK} {xs : List α} {it e : α → D} {p : α → Bool} {keep : Om → Prop} (hi : src mi Ω Ω1 Δ (xs.map it).length (fun i => (xs.map it).getD i .non) keep) (hn : xs.length ≤ 99999) (hk : ∀ l acc, Ω1 l = none → keep (put Ω1 l (.lst acc)))
    (hs : ∀ l acc x, x ∈ xs → Ω1 l = none → ∀ R : Option D → Om → Prop, R (if p x = true then some (e x) else none) (put Ω1 l (.lst acc)) → lcT mt me (put Ω1 l (.lst acc)) (Δ.set j (some (it x))) R) (wf : P (.lst ((xs.filter p).map e)) Ω1) : mFrz (mLc mi j mt me) Ω Δ P := by
  refine lcWF hi (by rw [List.length_map]; exact hn) (fun i acc Ω' => Ω' = Ω1 ∧ acc = ((xs.take i).filter p).map e) ⟨rfl, rfl⟩ ?_ ?_ ?_
  · rintro l i acc Ω' h1 h2 ⟨rfl, rfl⟩
    exact hk l _ h1
  · rintro l i acc Ω' h1 h2 hin ha ⟨rfl, rfl⟩
    rw [List.length_map] at hin
    have e0 : xs[i]? = some xs[i] := List.getElem?_eq_getElem hin
    have e1 : (xs.map it).getD i .non = it xs[i] := getD_of (by rw [List.getElem?_map, e0]; rfl)
    rw [e1]
    refine hs l _ xs[i] (List.getElem_mem hin) h1 _ ?_
    have e2 : (xs.take (i + 1)).filter p = (xs.take i).filter p ++ (if p xs[i] = true then [xs[i]] else []) := by
      rw [List.take_add_one, e0, List.filter_append]
      simp [List.filter_cons]
    by_cases hp : p xs[i] = true
    · rw [if_pos hp] at e2 ⊢
      refine nextW_some h1 ha (by omega) ⟨rfl, ?_⟩
      rw [e2, List.map_append]; rfl
    · rw [if_neg hp] at e2 ⊢
      refine nextW_none h1 ha ⟨rfl, ?_⟩
      rw [e2, List.append_nil]
  · rintro acc Ω' ha ⟨rfl, rfl⟩
    rw [List.length_map, List.take_length]
    exact wf
theorem lcMap {α : Type} {mi : MI} {j : Nat} {me : ME} {Ω Ω1 : Om} {Δ : Dl} {P : DK} {xs : List α} {it e : α → D} {keep : Om → Prop} (hi : src mi Ω Ω1 Δ (xs.map it).length (fun i => (xs.map it).getD i .non) keep) (hn : xs.length ≤ 99999) (hk : ∀ l acc, Ω1 l = none → keep (put Ω1 l (.lst acc)))
    (hs : ∀ l acc x, x ∈ xs → Ω1 l = none → ∀ R : DK, R (e x) (put Ω1 l (.lst acc)) → me (put Ω1 l (.lst acc)) (Δ.set j (some (it x))) R) (wf : P (.lst (xs.map e)) Ω1) : mFrz (mLc mi j mYes me) Ω Δ P :=
  lcFil (p := fun _ => true) hi hn hk (fun l acc x hx hl R hR => lcT_mono_true (R' := R) (hs l acc x hx hl (fun y Ω4 => R (some y) Ω4) hR)) (by rw [List.filter_eq_self.mpr (fun _ _ => rfl)]; exact wf)
theorem digits_of {mi : MI} {j : Nat} {me : ME} {Ω Ω1 : Om} {Δ : Dl} {P : DK} {bs : List Int} {g : Int → Int} {keep : Om → Prop} (hi : src mi Ω Ω1 Δ (bs.map D.int).length (fun i => (bs.map D.int).getD i .non) keep) (hn : bs.length ≤ 1000) (hk : ∀ Ω', keep Ω')
    (hs : ∀ l acc b, b ∈ bs → Ω1 l = none → ∀ R : DK, R (.int (g b)) (put Ω1 l (.lst acc)) → me (put Ω1 l (.lst acc)) (Δ.set j (some (.int b))) R) (wf : P (.lst ((bs.map g).map .int)) Ω1) : mFrz (mLc mi j mYes me) Ω Δ P :=
  lcMap (xs := bs) (it := D.int) (e := fun b => .int (g b)) hi (by omega) (fun _ _ _ => hk _) hs (by rw [List.map_map] at wf; exact wf)
end KG
namespace KG
open L2 PySem PyProof.Rows PySem.Spec
local macro_rules | `(tactic| walk_at "d") => `(tactic| first | simp only [startD, endK, List.map_cons, List.map_nil, List.length_cons, List.length_nil, List.replicate, List.cons_append, List.nil_append, Nat.reduceAdd, Nat.reduceSub, Nat.zero_add, Nat.add_zero, Nat.reduceLeDiff,
  mSeq, mAsg, mDrop, mRet, mRetN, mIfS, mCont, mNext, mNever, gN, gNil_eq, gCons_eq, gT_t, gT_l, gSet, mAsgG, mVar, slot, mC, mOp, mUn, mNil, mCons, mTup, mLst, mLstO, mCB, mIf, mB, mAnd, mOr, mNot, mOrV, mNotV, mYes, mNewK, mNewT, mBM, mTuF,
  wInt2, wIs, wIsN, wNeg, wInt, wAbs, mFld, Ob.d, isi_ii, isi_ib, isi_ss, isiS_t, isiS_f, isiS_l, len_t, len_f, len_l, len_q, tuple_t, tuple_f, tuple_l, eq_ii, ne_ii, eq_ss, ne_ss, add_ii, add_tt, add_ll, mul_ii, in_t, in_l, in_il, List.length_map,
  List.set_cons_zero, List.set_cons_succ, List.getElem?_cons_zero, List.getElem?_cons_succ, Option.some.injEq, exists_eq_left', exists_eq_left, exists_eq', exists_eq, D.int.injEq, D.bl.injEq, D.str.injEq, D.tup.injEq, D.lst.injEq, D.ptr.injEq, D.ty.injEq, List.cons.injEq, and_true, true_and, reduceCtorEq, false_or, or_false, false_and, and_false, exists_false, or_self,
  exists_and_left, exists_and_right, exists_const, ne_eq, not_true_eq_false, not_false_eq_true, decide_true, decide_false, Bool.false_eq_true, Bool.true_eq_false, false_implies, true_implies, forall_const, implies_true, Bool.not_true, Bool.not_false, Bool.not_eq_true', Bool.not_eq_true, Bool.not_eq_false', decide_eq_true_eq, decide_eq_false_iff_not, put_same, del_same, forall_eq', forall_eq, forall_apply_eq_imp_iff] | (try dsimp only))
/-! G3: _law_meant. -/
section
theorem kinds_ne : (kAny = kKept) = False ∧ (kAny = kAdds) = False ∧ (kKept = kAny) = False ∧ (kKept = kAdds) = False ∧ (kAdds = kAny) = False ∧ (kAdds = kKept) = False := by
  refine ⟨?_, ?_, ?_, ?_, ?_, ?_⟩ <;> exact eq_false (by decide)
theorem dget_tab {tb : List (Int × List Int)} {n : Int} {t : List Int} : look tb n = some t → dget (tb.map fun p => ((.inl p.1 : Key), tI p.2)) (.inl n) = some (tI t) := by
  intro h
  unfold look at h
  induction tb with
  | nil => cases h
  | cons p tb ih =>
    unfold dget
    rw [List.find?_cons] at h
    rw [List.map_cons, List.find?_cons]
    by_cases e : p.1 = n
    · simp only [e, decide_true] at h ⊢
      cases h
      rfl
    · simp only [e, decide_false] at h
      have e2 : decide ((Sum.inl p.1 : Key) = Sum.inl n) = false := decide_eq_false fun z => e (by simpa using z)
      simp only [e2]
      exact ih h
def F_L_meant : FD := fun ds Ω P => ∃ (W : Wld) (row s : List Int) (d : D), ds = [W.here, .int W.m, tabsD W.tb, d, tI s] ∧ Wd W ∧ std d (row.map .int) ∧ RowOk W row ∧ StoreOk W s ∧ P (tI (W.run row s)) Ω
theorem g_L_meant (ds Ω P) (h : F_L_meant ds Ω P) : m_L_meant F_L_entry Ω (startD 14 ds) (endK P) := by
  obtain ⟨W, row, s, d, rfl, wd, hd, hr, hs, h⟩ := h
  unfold m_L_meant
  walk_at "d"
  refine listO_d (.inl rfl) fun a ha => ?_
  walk_at "d"
  have hps : ∀ (Ω : Om) (P : DK), wIx W.here (.int 1) Ω P = P (progsD W.ps) Ω := fun Ω P => ix_t rfl
  refine pockets_new (n := W.ps.length) (Ω1 := put Ω a (.lst (s.map .int))) (item := fun i => (W.ps.map progD).getD i .non) (keep := keepD (progsD W.ps) (W.ps.map progD)) ?_ (by have := wd.many; omega) (fun _ => keep_tup) ?_
  · have := src_s (ma := mOp wIx (mVar 0) (mC (.int 1))) (Ω := put Ω a (.lst (s.map .int))) (Ω1 := put Ω a (.lst (s.map .int))) (Δ := [some W.here, some (D.int W.m), some (tabsD W.tb), some d, some (tI s), some (D.ptr a), none, none, none, none, none, none, none, none]) (d := progsD W.ps) (xs := W.ps.map progD) (fun P p => by walk_at "d"; rw [hps]; exact p) (.inl rfl)
    rw [List.length_map] at this
    exact this
  rintro ls Ω2 hl nd sub atl
  have own0 := OwnR.start (W := W) (s := s) ha rfl hl nd sub atl
  walk_at "d"
  refine forD hd (Ω1 := Ω2) (fun P p => by walk_at "d"; exact p) (fun k Ω' Δ' => OwnR Ω a ls (runTo W row s k) Ω' ∧ ∃ x7 x8 x9 x10 x11 x12 x13, Δ' = [some W.here, some (.int W.m), some (tabsD W.tb), some d, some (tI s), some (.ptr a), some (.lst (ls.map D.ptr)), x7, x8, x9, x10, x11, x12, x13]) ⟨own0, none, none, none, none, none, none, none, rfl⟩ ?_ ?_
  · rintro k x Ω' Δ' hk ⟨own, x7, x8, x9, x10, x11, x12, x13, rfl⟩
    obtain ⟨p, hp, rfl⟩ := get_map hk
    have hkl := (List.getElem?_eq_some_iff.mp hp).1
    have I := inv_run wd hr hs k (by omega)
    obtain ⟨h0, h1, h2⟩ := hr.2 _ (List.mem_of_getElem? hp)
    have hc : (row.take k).count p < (W.ps.getD p.toNat []).length := Nat.lt_of_lt_of_le (count_take hp) h2
    obtain ⟨pr, e1, e2, hmem, hlt, e3, ok⟩ := step_at wd I h0 h1 hc
    rw [runTo_succ hp]
    generalize runTo W row s k = st at own I hlt e3 ok ⊢
    generalize hq : st.2.getD p.toNat [] = q at hlt e3 ok
    generalize hst : stepAt W p.toNat q.length = stp at e3 ok
    obtain ⟨l, hl1, hl2, hl3⟩ := own.get h0 (by rw [I.pl]; exact h1)
    rw [hq] at hl2
    have hpr : ∀ (Ω : Om) (P : DK), wIx (progsD W.ps) (.int p) Ω P = P (progD pr) Ω := fun Ω P => ix_t (atI_of h0 (by rw [List.getElem?_map, e1]; rfl))
    have hstp : ∀ (Ω : Om) (P : DK), wIx (progD pr) (.int q.length) Ω P = P stp.d Ω := fun Ω P => ix_t (atI_nat (by rw [List.getElem?_map, e3]; rfl))
    have hcell := at_mem ok.cell.1 (show stp.cell < st.1.length by rw [I.hl]; exact ok.cell.2)
    have hx : 0 ≤ at_ st.1 stp.cell ∧ at_ st.1 stp.cell < W.m := I.he _ hcell.2
    have la : l ≠ a := fun e => own.ne (by rw [← e]; exact List.mem_of_getElem? hl1)
    have hmine : RngL W.m (q ++ [at_ st.1 stp.cell]) := fun w hw => by
      rcases List.mem_append.mp hw with hw | hw
      · exact I.pe p.toNat w (by rw [hq]; exact hw)
      · rw [List.mem_singleton] at hw; subst hw; exact hx
    have hturn : turnF W st p = (st.1.set stp.cell.toNat (worth W stp (q ++ [at_ st.1 stp.cell])), st.2.set p.toNat (q ++ [at_ st.1 stp.cell])) := by
      unfold turnF
      simp only [hq, hst]
    have own1 := own.setL hl1 (q ++ [at_ st.1 stp.cell])
    have own2 := own1.setH (st.1.set stp.cell.toNat (worth W stp (q ++ [at_ st.1 stp.cell])))
    rw [hturn]
    walk_at "d"
    rw [ix_l hl3, len_p hl2, hps, hpr]
    walk_at "d"
    refine ⟨fun hbad => by omega, fun _ => ?_⟩
    rw [hps, hpr, ix_l hl3, len_p hl2, List.length_map, hstp]
    unfold Stp.d
    walk_at "d"
    have hcell' : ∀ (Ω3 : Om) (P : DK), Ω3 a = some (.lst (st.1.map .int)) → wIx (.ptr a) (.int stp.cell) Ω3 P = P (.int (at_ st.1 stp.cell)) Ω3 := fun Ω3 P ha3 => ix_p ha3 (atI_of ok.cell.1 (by rw [List.getElem?_map, hcell.1]; rfl))
    rw [ix_l hl3, hcell' Ω' _ own.at_h]
    have emap : q.map D.int ++ [D.int (at_ st.1 stp.cell)] = (q ++ [at_ st.1 stp.cell]).map D.int := by rw [List.map_append]; rfl
    refine app_p hl2 (by rw [List.length_map]; have := (wd.len pr hmem).2; omega) ?_
    rw [emap]
    have own1 : OwnR Ω a ls (st.1, st.2.set p.toNat (q ++ [at_ st.1 stp.cell])) (put Ω' l (.lst ((q ++ [at_ st.1 stp.cell]).map .int))) := own1
    have hl4 : (put Ω' l (.lst ((q ++ [at_ st.1 stp.cell]).map .int))) l = some (.lst ((q ++ [at_ st.1 stp.cell]).map .int)) := put_same
    generalize put Ω' l (.lst ((q ++ [at_ st.1 stp.cell]).map .int)) = Ω3 at own1 own2 hl4 ⊢
    have hset : ∀ (i : Int) (R : Om → Prop), i = worth W stp (q ++ [at_ st.1 stp.cell]) → (∀ Ω4, OwnR Ω a ls (st.1.set stp.cell.toNat (worth W stp (q ++ [at_ st.1 stp.cell])), st.2.set p.toNat (q ++ [at_ st.1 stp.cell])) Ω4 → R Ω4) → wSet (.ptr a) (.int stp.cell) (.int i) Ω3 R := fun i R e hR => by
      subst e
      refine set_p own1.at_h ok.cell.1 (by rw [List.length_map, I.hl]; exact ok.cell.2) (hR _ ?_)
      have := own1.setH (st.1.set stp.cell.toNat (worth W stp (q ++ [at_ st.1 stp.cell])))
      rw [List.map_set] at this
      exact this
    have dig : ∀ (x8 x9 x11 x12 x13 : Option D) (P : DK), P (.lst ((stp.by_.map (at_ (q ++ [at_ st.1 stp.cell]))).map .int)) Ω3 →
        mFrz (mLc (iSq (mVar 10)) 13 mYes (mOp wIx (mOp wIx (mVar 6) (mVar 7)) (mVar 13))) Ω3 [some W.here, some (.int W.m), some (tabsD W.tb), some d, some (tI s), some (.ptr a), some (.lst (ls.map D.ptr)), some (.int p), x8, x9, some (tI stp.by_), x11, x12, x13] P := fun x8 x9 x11 x12 x13 P hP => by
      have hb := (dig_rng ok hmine (by rw [List.length_append]; rfl)).1
      refine digits_of (bs := stp.by_) (g := at_ (q ++ [at_ st.1 stp.cell])) (src_s (Ω1 := Ω3) (d := tI stp.by_) (fun P p => by walk_at "d"; exact p) (.inl rfl)) ?_ (fun _ => keep_tup) ?_ hP
      · have := by_len ok
        have := (wd.len pr hmem).2
        omega
      · intro l0 acc b hbm hl0 R hR
        walk_at "d"
        rw [ix_l hl3, ix_p (put_keep hl4 hl0) (atI_of (hb b hbm).1 (by rw [List.getElem?_map, (at_mem (hb b hbm).1 (hb b hbm).2).1]; rfl))]
        exact hR
    have hent : ∀ (P : DK), P (.int (entryF W.m (stp.by_.map (at_ (q ++ [at_ st.1 stp.cell]))))) Ω3 → F_L_entry [.int W.m, .lst ((stp.by_.map (at_ (q ++ [at_ st.1 stp.cell]))).map .int)] Ω3 P := fun P hP => ⟨W.m, _, rfl, by have := wd.m; omega, by have := wd.m; omega, hP⟩
    refine ⟨fun hany => ?_, fun hnany => ⟨fun hadds => ?_, fun hnadds => ?_⟩⟩
    · have hk : stp.kind ≠ kKept := by rw [hany]; decide
      obtain ⟨t, ht, het, he0, he1, he2⟩ := tab_entry wd ok hk hmine (by rw [List.length_append]; rfl)
      rw [show wIx (tabsD W.tb) = wIx (.dk (W.tb.map fun p => (.inl p.1, tI p.2))) from rfl, ix_dk (dget_tab ht)]
      refine dig _ _ _ _ _ _ (hent _ ?_)
      rw [ix_t (atI_of he0 (by rw [List.getElem?_map, het]; rfl))]
      refine hset _ _ ?_ fun Ω4 own4 => ⟨fun z => absurd (hany.symm.trans z) (by decide), fun _ => own4⟩
      unfold worth
      rw [if_neg hk, if_pos hany]
    · have hk : stp.kind ≠ kKept := by rw [hadds]; decide
      obtain ⟨t, ht, het, he0, he1, he2⟩ := tab_entry wd ok hk hmine (by rw [List.length_append]; rfl)
      rw [hcell' Ω3 _ own1.at_h, show wIx (tabsD W.tb) = wIx (.dk (W.tb.map fun p => (.inl p.1, tI p.2))) from rfl, ix_dk (dget_tab ht)]
      refine dig _ _ _ _ _ _ (hent _ ?_)
      rw [ix_t (atI_of he0 (by rw [List.getElem?_map, het]; rfl))]
      walk_at "d"
      refine ⟨by have := wd.m; omega, hset _ _ ?_ fun Ω4 own4 => own4⟩
      unfold worth
      simp only [last_snoc]
      rw [if_neg hk, if_neg hnany]
    · have hk : stp.kind = kKept := by
        rcases ok.kind with h | h | h
        · exact absurd h hnany
        · exact h
        · exact absurd h hnadds
      have e : st.1.set stp.cell.toNat (worth W stp (q ++ [at_ st.1 stp.cell])) = st.1 := by
        unfold worth
        simp only [last_snoc]
        rw [if_pos hk]
        apply List.ext_getElem?
        intro i
        by_cases hi : stp.cell.toNat = i
        · subst hi
          rw [List.getElem?_set_self (List.getElem?_eq_some_iff.mp hcell.1).1, hcell.1]
        · rw [List.getElem?_set_ne hi]
      rw [e]
      exact own1
  · rintro Ω' Δ' ⟨own, x7, x8, x9, x10, x11, x12, x13, rfl⟩
    walk_at "d"
    rw [List.length_map] at own
    rw [tuple_p own.at_h, runTo_all]
    exact .sub own.sub h
end
end KG
namespace KG
open L2 PySem PyProof.Rows PySem.Spec
local macro_rules | `(tactic| walk_at "d") => `(tactic| first | simp only [startD, endK, List.map_cons, List.map_nil, List.length_cons, List.length_nil, List.replicate, List.cons_append, List.nil_append, Nat.reduceAdd, Nat.reduceSub, Nat.zero_add, Nat.add_zero, Nat.reduceLeDiff,
  mSeq, mAsg, mDrop, mRet, mRetN, mIfS, mCont, mNext, mNever, gN, gNil_eq, gCons_eq, gT_t, gT_l, gSet, mAsgG, mVar, slot, mC, mOp, mUn, mNil, mCons, mTup, mLst, mLstO, mCB, mIf, mB, mAnd, mOr, mNot, mOrV, mNotV, mYes, mNewK, mNewT, mBM, mTuF,
  wInt2, wIs, wIsN, wNeg, wInt, wAbs, mFld, Ob.d, isi_ii, isi_ib, isi_ss, isiS_t, isiS_f, isiS_l, len_t, len_f, len_l, len_q, tuple_t, tuple_f, tuple_l, eq_ii, ne_ii, eq_ss, ne_ss, add_ii, add_tt, add_ll, mul_ii, in_t, in_l, in_il, List.length_map,
  List.set_cons_zero, List.set_cons_succ, List.getElem?_cons_zero, List.getElem?_cons_succ, Option.some.injEq, exists_eq_left', exists_eq_left, exists_eq', exists_eq, D.int.injEq, D.bl.injEq, D.str.injEq, D.tup.injEq, D.lst.injEq, D.ptr.injEq, D.ty.injEq, List.cons.injEq, and_true, true_and, reduceCtorEq, false_or, or_false, false_and, and_false, exists_false, or_self,
  exists_and_left, exists_and_right, exists_const, ne_eq, not_true_eq_false, not_false_eq_true, decide_true, decide_false, Bool.false_eq_true, Bool.true_eq_false, false_implies, true_implies, forall_const, implies_true, Bool.not_true, Bool.not_false, Bool.not_eq_true', Bool.not_eq_true, Bool.not_eq_false', decide_eq_true_eq, decide_eq_false_iff_not, put_same, del_same, forall_eq', forall_eq, forall_apply_eq_imp_iff] | (try dsimp only))
/-! G4: the program's runs. -/
section
section
variable {W : Wld} {Ω : Om} {Q : D → Prop} {m : Int} {st : List (Int × List Int)}
theorem lk1 {a b : Str} {x y : D} : ([(a, x), (b, y)] : List (Str × D)).lookup a = some x := by simp [List.lookup]
theorem lk2 {a b : Str} {x y : D} (h : (b == a) = false) : ([(a, x), (b, y)] : List (Str × D)).lookup b = some y := by simp [List.lookup, h]
theorem lk0 {a b c : Str} {x y : D} (h1 : (c == a) = false) (h2 : (c == b) = false) : ([(a, x), (b, y)] : List (Str × D)).lookup c = none := by simp [List.lookup, h1, h2]
theorem fld_of {C : Addr} {fs : List (Str × D)} {f : Str} {y : D} (h : fs.lookup f = some y) : (∃ z, fldOk (.ob C fs) Ω f C z ∧ Q z) = Q y := propext ⟨fun ⟨z, h1, q⟩ => by
  rcases h1 with ⟨fs', e, h2⟩ | ⟨_, _, _, e, _⟩
  · cases e
    rw [h] at h2
    cases h2
    exact q
  · (cases e), fun q => ⟨y, .inl ⟨fs, rfl, h⟩, q⟩⟩
end
def meanO (m : Int) (st : List (Int × List Int)) : D := .ob 454 [("modulus", .int m), ("tables", .tup (st.map pairD))]
section
variable {W : Wld} {Ω : Om} {Q : D → Prop} {m : Int} {st : List (Int × List Int)}
theorem fld_cells : (∃ z, fldOk W.lot Ω "cells" 331 z ∧ Q z) = Q (.int W.c) := fld_of lk1
theorem fld_programs : (∃ z, fldOk W.lot Ω "programs" 331 z ∧ Q z) = Q (progsD W.ps) := fld_of (lk2 (by decide))
theorem fld_modulus : (∃ z, fldOk (meanO m st) Ω "modulus" 454 z ∧ Q z) = Q (.int m) := fld_of lk1
theorem fld_tables : (∃ z, fldOk (meanO m st) Ω "tables" 454 z ∧ Q z) = Q (.tup (st.map pairD)) := fld_of (lk2 (by decide))
end
theorem meth_mean {m : Int} {st : List (Int × List Int)} {Q : Prop} : (∃ fs, meanO m st = .ob 454 fs ∧ fs.lookup ("table_of" : Str) = none ∧ Q) = Q := propext ⟨fun ⟨_, _, _, q⟩ => q, fun q => ⟨_, rfl, lk0 (by decide) (by decide), q⟩⟩
local macro_rules | `(tactic| walk_at "f") => `(tactic| simp only [mFld, fld_cells, fld_programs, fld_modulus, fld_tables, mMeth])
theorem mean_O {W : Wld} {d : D} (h : W.mean d) : ∃ st : List (Int × List Int), st.Perm W.tb ∧ d = meanO W.m st := h
theorem look_perm {st tb : List (Int × List Int)} (hp : st.Perm tb) (nd : (tb.map (·.1)).Nodup) (n : Int) : look st n = look tb n := by
  have nd' : (st.map (·.1)).Nodup := (hp.map _).nodup_iff.mpr nd
  have key : ∀ {l : List (Int × List Int)}, (l.map (·.1)).Nodup → ∀ t, look l n = some t ↔ (n, t) ∈ l := by
    intro l
    induction l with
    | nil => intro _ t; simp [look]
    | cons p l ih =>
      intro nd t
      rw [List.map_cons, List.nodup_cons] at nd
      unfold look
      rw [List.find?_cons]
      by_cases e : p.1 = n
      · simp only [e, decide_true, Option.map_some, Option.some.injEq, List.mem_cons]
        constructor
        · intro h; left; rw [← h, ← e]
        · rintro (h | h)
          · rw [← h]
          · exact absurd (List.mem_map.mpr ⟨(n, t), h, e.symm⟩) nd.1
      · simp only [e, decide_false, List.mem_cons]
        rw [show (Option.map (·.2) (l.find? fun p => decide (p.1 = n))) = look l n from rfl, ih nd.2]
        constructor
        · exact .inr
        · rintro (h | h)
          · rw [← h] at e; exact absurd rfl e
          · exact h
  cases e : look tb n with
  | none =>
    cases e2 : look st n with
    | none => rfl
    | some t =>
      have := (key nd t).mpr (hp.mem_iff.mp ((key nd' t).mp e2))
      rw [e] at this
      cases this
  | some t => exact (key nd' t).mpr (hp.mem_iff.mpr ((key nd t).mp e))
def optT : Option (List Int) → D
  | none => .non
  | some t => tI t
def F_Meaning_table_of : FD := fun ds Ω P => ∃ (m : Int) (st : List (Int × List Int)) (n : Int), ds = [meanO m st, .int n] ∧ P (optT (look st n)) Ω
theorem g_Meaning_table_of (ds Ω P) (h : F_Meaning_table_of ds Ω P) : m_Meaning_table_of Ω (startD 4 ds) (endK P) := by
  obtain ⟨m, st, n, rfl, h⟩ := h
  unfold m_Meaning_table_of
  walk_at "d"
  refine forT (Ω1 := Ω) (xs := st.map pairD) (fun P p => by walk_at "f"; walk_at "d"; rw [fld_tables]; exact p) (fun i Ω' Δ' => Ω' = Ω ∧ (∃ x y, Δ' = [some (meanO m st), some (.int n), x, y]) ∧ ∀ q ∈ st.take i, q.1 ≠ n) ⟨rfl, ⟨none, none, rfl⟩, by simp⟩ ?_ ?_
  · rintro i x Ω' Δ' hi ⟨rfl, ⟨x', y', rfl⟩, hq⟩
    obtain ⟨q, hqi, rfl⟩ := get_map hi
    walk_at "d"
    refine ⟨fun e => ?_, fun e => ?_⟩
    · have : look st n = some q.2 := by
        unfold look
        rw [find_first (j := i) (s := q) (fun t ht => decide_eq_false (hq t ht)) hqi (decide_eq_true e)]
        rfl
      rw [this] at h
      exact .now h
    · exact take_all hq hqi e
  · rintro Ω' Δ' ⟨rfl, ⟨x, y, rfl⟩, hq⟩
    walk_at "d"
    rw [List.length_map, List.take_length] at hq
    have : look st n = none := by
      unfold look
      rw [List.find?_eq_none.mpr fun q hm => by simpa using hq q hm]
      rfl
    rw [this] at h
    exact .now h
end
end KG
namespace KG
open L2 PySem PyProof.Rows PySem.Spec
local macro_rules | `(tactic| walk_at "d") => `(tactic| first | simp only [startD, endK, List.map_cons, List.map_nil, List.length_cons, List.length_nil, List.replicate, List.cons_append, List.nil_append, Nat.reduceAdd, Nat.reduceSub, Nat.zero_add, Nat.add_zero, Nat.reduceLeDiff,
  mSeq, mAsg, mDrop, mRet, mRetN, mIfS, mCont, mNext, mNever, gN, gNil_eq, gCons_eq, gT_t, gT_l, gSet, mAsgG, mVar, slot, mC, mOp, mUn, mNil, mCons, mTup, mLst, mLstO, mCB, mIf, mB, mAnd, mOr, mNot, mOrV, mNotV, mYes, mNewK, mNewT, mBM, mTuF,
  wInt2, wIs, wIsN, wNeg, wInt, wAbs, mFld, Ob.d, isi_ii, isi_ib, isi_ss, isiS_t, isiS_f, isiS_l, len_t, len_f, len_l, len_q, tuple_t, tuple_f, tuple_l, eq_ii, ne_ii, eq_ss, ne_ss, add_ii, add_tt, add_ll, mul_ii, in_t, in_l, in_il, fld_cells, fld_programs, fld_modulus, fld_tables, mMeth, meth_mean, List.length_map,
  List.set_cons_zero, List.set_cons_succ, List.getElem?_cons_zero, List.getElem?_cons_succ, Option.some.injEq, exists_eq_left', exists_eq_left, exists_eq', exists_eq, D.int.injEq, D.bl.injEq, D.str.injEq, D.tup.injEq, D.lst.injEq, D.ptr.injEq, D.ty.injEq, List.cons.injEq, and_true, true_and, reduceCtorEq, false_or, or_false, false_and, and_false, exists_false, or_self,
  exists_and_left, exists_and_right, exists_const, ne_eq, not_true_eq_false, not_false_eq_true, decide_true, decide_false, Bool.false_eq_true, Bool.true_eq_false, false_implies, true_implies, forall_const, implies_true, Bool.not_true, Bool.not_false, Bool.not_eq_true', Bool.not_eq_true, Bool.not_eq_false', decide_eq_true_eq, decide_eq_false_iff_not, put_same, del_same, forall_eq', forall_eq, forall_apply_eq_imp_iff] | (try dsimp only))
/-! G5: the program's checks and runs. -/
section
def F_stepped_worth : FD := fun ds Ω P => ∃ (W : Wld) (st : List (Int × List Int)) (s : Stp) (l : Addr) (mine : List Int) (pr : List Stp) (n : Nat), ds = [meanO W.m st, s.d, .ptr l] ∧ Wd W ∧ st.Perm W.tb ∧ StpOk W pr n s ∧ n ≤ 10 ∧
  Ω l = some (.lst (mine.map .int)) ∧ RngL W.m mine ∧ mine.length = n + 1 ∧ P (.int (worth W s mine)) Ω
theorem g_stepped_worth (ds Ω P) (h : F_stepped_worth ds Ω P) : m_stepped_worth F_digits_number F_Meaning_table_of Ω (startD 11 ds) (endK P) := by
  obtain ⟨W, st, s, l, mine, pr, n, rfl, wd, hp, ok, hn, hl, hr, hlen, h⟩ := h
  unfold m_stepped_worth Stp.d
  walk_at "d"
  obtain ⟨q, x, rfl⟩ : ∃ q x, mine = q ++ [x] := by
    rcases List.eq_nil_or_concat mine with e | ⟨q, x, e⟩
    · rw [e] at hlen; simp at hlen
    · exact ⟨q, x, by rw [e, List.concat_eq_append]⟩
  have hlast : ∀ (P : DK), wIx (.ptr l) (.int (-1)) Ω P = P (.int x) Ω := fun P => ix_p hl (by rw [List.map_append]; exact atI_last)
  have hb := (dig_rng ok hr hlen).1
  rw [hlast]
  walk_at "d"
  refine ⟨fun hk => ?_, fun hk => ?_⟩
  · have e : worth W s (q ++ [x]) = x := by
      unfold worth
      simp only [last_snoc]
      rw [if_pos hk]
    rw [e] at h
    exact .now h
  · refine digits_of (bs := s.by_) (g := at_ (q ++ [x])) (Ω1 := Ω) (src_s (d := tI s.by_) (fun P p => by walk_at "d"; exact p) (.inl rfl)) (by have := by_len ok; omega) (fun _ => keep_tup) ?_ ?_
    · intro l0 acc b hbm hl0 R hR
      walk_at "d"
      rw [ix_p (put_keep hl hl0) (atI_of (hb b hbm).1 (by rw [List.getElem?_map, (at_mem (hb b hbm).1 (hb b hbm).2).1]; rfl))]
      exact hR
    · obtain ⟨t, ht, het, he0, he1, he2⟩ := tab_entry wd ok hk hr hlen
      refine ⟨W.m, _, rfl, by have := wd.m; omega, by have := wd.m; omega, ?_⟩
      walk_at "d"
      refine ⟨W.m, st, s.name, rfl, ?_⟩
      rw [look_perm hp wd.nd, ht]
      show wIx (tI t) _ Ω _
      rw [ix_t (atI_of he0 (by rw [List.getElem?_map, het]; rfl))]
      refine ⟨fun ha => ?_, fun ha => ?_⟩
      · have e : worth W s (q ++ [x]) = at_ ((look W.tb s.name).getD []) (entryF W.m (s.by_.map (at_ (q ++ [x])))) := by
          unfold worth
          rw [if_neg hk, if_pos ha]
        rw [e] at h
        exact .now h
      · have e : worth W s (q ++ [x]) = (x + at_ ((look W.tb s.name).getD []) (entryF W.m (s.by_.map (at_ (q ++ [x]))))) % W.m := by
          unfold worth
          simp only [last_snoc]
          rw [if_neg hk, if_neg ha]
        rw [e] at h
        walk_at "d"
        exact ⟨by have := wd.m; omega, .now h⟩
def F_check_program : FD := fun ds Ω P => ∃ (W : Wld) (p : Int), ds = [W.lot, .int p] ∧ 0 ≤ p ∧ p < W.ps.length ∧ P (.int p) Ω
theorem g_check_program (ds Ω P) (h : F_check_program ds Ω P) : m_check_program F_is_whole Ω (startD 2 ds) (endK P) := by
  obtain ⟨W, p, rfl, h0, h1, h⟩ := h
  unfold m_check_program
  walk_at "d"
  refine ⟨p, 0, _, rfl, ?_⟩
  walk_at "d"
  exact ⟨by omega, fun _ => .now h⟩
theorem tuple_std {d : D} {xs : List D} {Ω : Om} {P : DK} (hd : std d xs) (h : ∀ d', std d' xs → P d' Ω) : wTuple [d] Ω P := by
  rcases hd with rfl | rfl | rfl
  · rw [tuple_t]; exact h _ (.inl rfl)
  · rw [tuple_f]; exact h _ (.inr (.inl rfl))
  · rw [tuple_l]; exact h _ (.inl rfl)
theorem std_count {d : D} {ns : List Int} {Ω : Om} {P : DK} (hd : std d (ns.map .int)) {k : Int} (h : P (.int (ns.count k : Nat)) Ω) : wList [d] Ω fun x Ω1 => isL x Ω1 ∧ wCnt x [.int k] Ω1 P :=
  list_d hd ⟨⟨_, .inl rfl⟩, ns, k, .inl rfl, rfl, h⟩
def F_check_weaving : FD := fun ds Ω P => ∃ (W : Wld) (d : D) (row : List Int), ds = [W.lot, d] ∧ Wd W ∧ std d (row.map .int) ∧ WeavOk W row ∧ ∀ d', std d' (row.map .int) → P d' Ω
theorem g_check_weaving (ds Ω P) (h : F_check_weaving ds Ω P) : m_check_weaving F_is_sequence F_is_whole Ω (startD 3 ds) (endK P) := by
  obtain ⟨W, d, row, rfl, wd, hd, hw, h⟩ := h
  unfold m_check_weaving
  walk_at "d"
  refine ⟨d, _, rfl, hd, ?_⟩
  walk_at "d"
  refine forD hd (Ω1 := Ω) (fun P p => by walk_at "d"; exact p) (fun i Ω' Δ' => Ω' = Ω ∧ (∃ x, Δ' = [some W.lot, some d, x])) ⟨rfl, none, rfl⟩ ?_ ?_
  · rintro i x Ω' Δ' hi ⟨rfl, x', rfl⟩
    obtain ⟨p, hp, rfl⟩ := get_map hi
    obtain ⟨h0, h1⟩ := hw.2.1 p (List.mem_of_getElem? hp)
    walk_at "d"
    refine ⟨p, 0, _, rfl, ?_⟩
    walk_at "d"
    exact fun z => z (by omega)
  · rintro Ω' Δ' ⟨rfl, x, rfl⟩
    have hmany := wd.many
    walk_at "d"
    refine forR1 W.ps.length (Ω1 := Ω') (fun P p => by walk_at "d"; exact p) (by omega) (by omega) (fun i Ω2 Δ' => Ω2 = Ω' ∧ (∃ x, Δ' = [some W.lot, some d, x])) ⟨rfl, x, rfl⟩ ?_ ?_
    · rintro i Ω2 Δ' hi ⟨rfl, x', rfl⟩
      walk_at "d"
      refine std_count hd ?_
      have hil : i < W.ps.length := by omega
      have e1 : W.ps[i]? = some (W.ps.getD i []) := by rw [List.getD_eq_getElem?_getD, List.getElem?_eq_getElem hil]; rfl
      rw [ix_t (atI_nat (show (W.ps.map progD)[i]? = some (progD (W.ps.getD i [])) by rw [List.getElem?_map, e1]; rfl))]
      walk_at "d"
      rw [hw.2.2 i hil]
      simp
    · rintro Ω2 Δ' ⟨rfl, x', rfl⟩
      walk_at "d"
      exact tuple_std hd fun d' hd' => .now (h d' hd')
def F_check_store : FD := fun ds Ω P => ∃ (W : Wld) (st : List (Int × List Int)) (s : List Int), ds = [W.lot, meanO W.m st, tI s] ∧ Wd W ∧ StoreOk W s ∧ P (tI s) Ω
theorem g_check_store (ds Ω P) (h : F_check_store ds Ω P) : m_check_store F_is_whole Ω (startD 4 ds) (endK P) := by
  obtain ⟨W, st, s, rfl, wd, hs, h⟩ := h
  unfold m_check_store
  walk_at "d"
  refine ⟨fun e => absurd hs.1 e, fun _ => ?_⟩
  refine forT (Ω1 := Ω) (fun P p => by walk_at "d"; exact p) (fun i Ω' Δ' => Ω' = Ω ∧ (∃ x, Δ' = [some W.lot, some (meanO W.m st), some (tI s), x])) ⟨rfl, none, rfl⟩ ?_ ?_
  · rintro i x Ω' Δ' hi ⟨rfl, x', rfl⟩
    obtain ⟨p, hp, rfl⟩ := get_map hi
    obtain ⟨h0, h1⟩ := hs.2 p (List.mem_of_getElem? hp)
    walk_at "d"
    refine ⟨p, 0, _, rfl, ?_⟩
    walk_at "d"
    exact fun z => z (by omega)
  · rintro Ω' Δ' ⟨rfl, x, rfl⟩
    walk_at "d"
    exact .now h
def F_check_meaning : FD := fun ds Ω P => ∃ (W : Wld) (st : List (Int × List Int)), ds = [W.lot, meanO W.m st] ∧ Wd W ∧ st.Perm W.tb ∧ P (meanO W.m st) Ω
theorem g_check_meaning (ds Ω P) (h : F_check_meaning ds Ω P) : m_check_meaning F_Meaning_table_of F_power_of Ω (startD 8 ds) (endK P) := by
  obtain ⟨W, st, rfl, wd, hp, h⟩ := h
  unfold m_check_meaning
  walk_at "d"
  refine forT (Ω1 := Ω) (xs := W.ps.map progD) (fun P p => by walk_at "d"; exact p) (fun i Ω' Δ' => Ω' = Ω ∧ (∃ x2 x3 x4 x5 x6 x7, Δ' = [some W.lot, some (meanO W.m st), x2, x3, x4, x5, x6, x7])) ⟨rfl, none, none, none, none, none, none, rfl⟩ ?_ ?_
  · rintro i x Ω' Δ' hi ⟨rfl, x2, x3, x4, x5, x6, x7, rfl⟩
    obtain ⟨pr, hpr, rfl⟩ := get_map hi
    have hmem := List.mem_of_getElem? hpr
    walk_at "d"
    refine forT (Ω1 := Ω') (xs := pr.map Stp.d) (fun P p => by walk_at "d"; exact p) (fun i Ω2 Δ' => Ω2 = Ω' ∧ (∃ x2 x3 x4 x5 x6 x7, Δ' = [some W.lot, some (meanO W.m st), x2, x3, x4, x5, x6, x7])) ⟨rfl, _, _, _, _, _, _, rfl⟩ ?_ ?_
    · rintro j x Ω2 Δ' hj ⟨rfl, x2, x3, x4, x5, x6, x7, rfl⟩
      obtain ⟨s, hs, rfl⟩ := get_map hj
      have ok := wd.step pr hmem j s hs
      unfold Stp.d
      walk_at "d"
      refine fun hk => ?_
      obtain ⟨n0, n1, t, ht, tk⟩ := ok.tab hk
      refine ⟨W.m, st, s.name, rfl, ?_⟩
      rw [look_perm hp wd.nd, ht]
      show _
      unfold optT
      walk_at "d"
      have hb := by_len ok
      have hpl := (wd.len pr hmem).2
      have hjl := (List.getElem?_eq_some_iff.mp hs).1
      refine ⟨W.m, _, rfl, by have := wd.m; omega, by have := wd.m; omega, by omega, by omega, ?_⟩
      walk_at "d"
      rw [show ((s.by_.length : Int)).toNat = s.by_.length by omega]
      exact fun e => absurd tk.1 e
    · rintro Ω2 Δ' ⟨rfl, x2, x3, x4, x5, x6, x7, rfl⟩
      exact ⟨rfl, _, _, _, _, _, _, rfl⟩
  · rintro Ω' Δ' ⟨rfl, x2, x3, x4, x5, x6, x7, rfl⟩
    walk_at "d"
    exact .now h
end
end KG
namespace KG
open L2 PySem PyProof.Rows PySem.Spec
local macro_rules | `(tactic| walk_at "d") => `(tactic| first | simp only [startD, endK, List.map_cons, List.map_nil, List.length_cons, List.length_nil, List.replicate, List.cons_append, List.nil_append, Nat.reduceAdd, Nat.reduceSub, Nat.zero_add, Nat.add_zero, Nat.reduceLeDiff,
  mSeq, mAsg, mDrop, mRet, mRetN, mIfS, mCont, mNext, mNever, gN, gNil_eq, gCons_eq, gT_t, gT_l, gSet, mAsgG, mVar, slot, mC, mOp, mUn, mNil, mCons, mTup, mLst, mLstO, mCB, mIf, mB, mAnd, mOr, mNot, mOrV, mNotV, mYes, mNewK, mNewT, mBM, mTuF,
  wInt2, wIs, wIsN, wNeg, wInt, wAbs, mFld, Ob.d, isi_ii, isi_ib, isi_ss, isiS_t, isiS_f, isiS_l, len_t, len_f, len_l, len_q, tuple_t, tuple_f, tuple_l, eq_ii, ne_ii, eq_ss, ne_ss, add_ii, add_tt, add_ll, mul_ii, in_t, in_l, in_il, fld_cells, fld_programs, fld_modulus, fld_tables, mMeth, meth_mean, List.length_map,
  List.set_cons_zero, List.set_cons_succ, List.getElem?_cons_zero, List.getElem?_cons_succ, Option.some.injEq, exists_eq_left', exists_eq_left, exists_eq', exists_eq, D.int.injEq, D.bl.injEq, D.str.injEq, D.tup.injEq, D.lst.injEq, D.ptr.injEq, D.ty.injEq, List.cons.injEq, and_true, true_and, reduceCtorEq, false_or, or_false, false_and, and_false, exists_false, or_self,
  exists_and_left, exists_and_right, exists_const, ne_eq, not_true_eq_false, not_false_eq_true, decide_true, decide_false, Bool.false_eq_true, Bool.true_eq_false, false_implies, true_implies, forall_const, implies_true, Bool.not_true, Bool.not_false, Bool.not_eq_true', Bool.not_eq_true, Bool.not_eq_false', decide_eq_true_eq, decide_eq_false_iff_not, put_same, del_same, forall_eq', forall_eq, forall_apply_eq_imp_iff] | (try dsimp only))
/-! G6: the program's runs. -/
section
theorem OwnR.other {Ω Ω' : Om} {h : Addr} {ls : List Addr} {st : RunSt} (o : OwnR Ω h ls st Ω') {q : Addr} {u : Ob} (hq : Ω q = none) (hh : q ≠ h) (hl : q ∉ ls) : OwnR Ω h ls st (put Ω' q u) := by
  refine ⟨o.sub.putR hq, o.hn, o.ln, o.ne, o.nd, o.len, by rw [put_ne (Ne.symm hh)]; exact o.at_h, fun i l hi => ?_⟩
  rw [put_ne (fun e => hl (by rw [← e]; exact List.mem_of_getElem? hi))]
  exact o.at_l i l hi
theorem OwnR.fresh {Ω Ω' : Om} {h : Addr} {ls : List Addr} {st : RunSt} (o : OwnR Ω h ls st Ω') {q : Addr} (hq : Ω' q = none) : Ω q = none ∧ q ≠ h ∧ q ∉ ls := by
  refine ⟨?_, Ne.symm (ne_fresh o.at_h hq), fun hm => ?_⟩
  · cases e : Ω q with
    | none => rfl
    | some u => rw [o.sub q u e] at hq; cases hq
  · obtain ⟨i, hi⟩ := List.getElem?_of_mem hm
    exact ne_fresh (o.at_l i q hi) hq rfl
def F_moments_from : FD := fun ds Ω P => ∃ (W : Wld) (st : List (Int × List Int)) (row s : List Int) (d : D), ds = [W.lot, meanO W.m st, d, tI s] ∧ Wd W ∧ st.Perm W.tb ∧ std d (row.map .int) ∧ RowOk W row ∧ StoreOk W s ∧ ∀ q : List (List Int), P (.tup ((q ++ [W.run row s]).map tI)) Ω
theorem g_moments_from (ds Ω P) (h : F_moments_from ds Ω P) : m_moments_from F_stepped_worth Ω (startD 11 ds) (endK P) := by
  obtain ⟨W, tb, row, s, d, rfl, wd, hp, hd, hr, hs, h⟩ := h
  unfold m_moments_from
  walk_at "d"
  refine listO_d (.inl rfl) fun a ha => ?_
  walk_at "d"
  refine pockets_new (n := W.ps.length) (Ω1 := put Ω a (.lst (s.map .int))) (item := fun i => (W.ps.map progD).getD i .non) (keep := keepD (progsD W.ps) (W.ps.map progD)) ?_ (by have := wd.many; omega) (fun _ => keep_tup) ?_
  · have := src_s (ma := mFld 331 (mVar 0) "programs") (Ω := put Ω a (.lst (s.map .int))) (Ω1 := put Ω a (.lst (s.map .int))) (Δ := [some W.lot, some (meanO W.m tb), some d, some (tI s), some (D.ptr a), none, none, none, none, none, none]) (d := progsD W.ps) (xs := W.ps.map progD) (fun P p => by walk_at "d"; exact p) (.inl rfl)
    rw [List.length_map] at this
    exact this
  rintro ls Ω2 hl nd sub atl
  have own0 := OwnR.start (W := W) (s := s) ha rfl hl nd sub atl
  walk_at "d"
  rw [tuple_p own0.at_h]
  refine fun mo hmo => ?_
  obtain ⟨f1, f2, f3⟩ := own0.fresh hmo
  refine forD hd (Ω1 := put Ω2 mo (.lst [tI s])) (fun P p => by walk_at "d"; exact p) (fun k Ω' Δ' => OwnR Ω a ls (runTo W row s k) Ω' ∧ (∃ q : List (List Int), q.length = k ∧ Ω' mo = some (.lst ((q ++ [(runTo W row s k).1]).map tI))) ∧ ∃ x7 x8 x9 x10, Δ' = [some W.lot, some (meanO W.m tb), some d, some (tI s), some (.ptr a), some (.lst (ls.map D.ptr)), some (.ptr mo), x7, x8, x9, x10]) ⟨own0.other f1 f2 f3, ⟨[], rfl, put_same⟩, none, none, none, none, rfl⟩ ?_ ?_
  · rintro k x Ω' Δ' hk ⟨own, ⟨mq, hmq, hmo'⟩, x7, x8, x9, x10, rfl⟩
    obtain ⟨p, hp', rfl⟩ := get_map hk
    have hkl := (List.getElem?_eq_some_iff.mp hp').1
    have I := inv_run wd hr hs k (by omega)
    obtain ⟨h0, h1, h2⟩ := hr.2 _ (List.mem_of_getElem? hp')
    have hc : (row.take k).count p < (W.ps.getD p.toNat []).length := Nat.lt_of_lt_of_le (count_take hp') h2
    obtain ⟨pr, e1, e2, hmem, hlt, e3, ok⟩ := step_at wd I h0 h1 hc
    rw [runTo_succ hp']
    generalize runTo W row s k = st at own I hlt e3 ok hmo' ⊢
    generalize hq : st.2.getD p.toNat [] = q at hlt e3 ok
    generalize hst : stepAt W p.toNat q.length = stp at e3 ok
    obtain ⟨l, hl1, hl2, hl3⟩ := own.get h0 (by rw [I.pl]; exact h1)
    rw [hq] at hl2
    have hcell := at_mem ok.cell.1 (show stp.cell < st.1.length by rw [I.hl]; exact ok.cell.2)
    have hx : 0 ≤ at_ st.1 stp.cell ∧ at_ st.1 stp.cell < W.m := I.he _ hcell.2
    have hmine : RngL W.m (q ++ [at_ st.1 stp.cell]) := fun w hw => by
      rcases List.mem_append.mp hw with hw | hw
      · exact I.pe p.toNat w (by rw [hq]; exact hw)
      · rw [List.mem_singleton] at hw; subst hw; exact hx
    have hturn : turnF W st p = (st.1.set stp.cell.toNat (worth W stp (q ++ [at_ st.1 stp.cell])), st.2.set p.toNat (q ++ [at_ st.1 stp.cell])) := by
      unfold turnF
      simp only [hq, hst]
    have hlm := List.mem_of_getElem? hl1
    have lmo : l ≠ mo := fun e => f3 (by rw [← e]; exact hlm)
    rw [hturn]
    walk_at "d"
    rw [ix_l hl3, ix_t (atI_of h0 (show (W.ps.map progD)[p.toNat]? = some (progD pr) by rw [List.getElem?_map, e1]; rfl)), len_p hl2, List.length_map, ix_t (atI_nat (show (pr.map Stp.d)[q.length]? = some stp.d by rw [List.getElem?_map, e3]; rfl))]
    have h0' : ∀ (Ω : Om) (P : DK), wIx stp.d (.int 0) Ω P = P (.int stp.cell) Ω := fun Ω P => ix_t rfl
    rw [h0', ix_p own.at_h (atI_of ok.cell.1 (by rw [List.getElem?_map, hcell.1]; rfl))]
    have emap : q.map D.int ++ [D.int (at_ st.1 stp.cell)] = (q ++ [at_ st.1 stp.cell]).map D.int := by rw [List.map_append]; rfl
    refine app_p hl2 (by rw [List.length_map]; have := (wd.len pr hmem).2; omega) ?_
    rw [emap]
    have own1 := own.setL hl1 (q ++ [at_ st.1 stp.cell])
    have hl4 : (put Ω' l (.lst ((q ++ [at_ st.1 stp.cell]).map .int))) l = some (.lst ((q ++ [at_ st.1 stp.cell]).map .int)) := put_same
    have hmo4 : (put Ω' l (.lst ((q ++ [at_ st.1 stp.cell]).map .int))) mo = some (.lst ((mq ++ [st.1]).map tI)) := by rw [put_ne (Ne.symm lmo)]; exact hmo'
    generalize put Ω' l (.lst ((q ++ [at_ st.1 stp.cell]).map .int)) = Ω3 at own1 hl4 hmo4 ⊢
    refine ⟨W, tb, stp, l, q ++ [at_ st.1 stp.cell], pr, q.length, rfl, wd, hp, ok, by have := (wd.len pr hmem).2; omega, hl4, hmine, by rw [List.length_append]; rfl, ?_⟩
    walk_at "d"
    rw [h0']
    refine set_p own1.at_h ok.cell.1 (by rw [List.length_map, I.hl]; exact ok.cell.2) ?_
    have own2 := own1.setH (st.1.set stp.cell.toNat (worth W stp (q ++ [at_ st.1 stp.cell])))
    rw [List.map_set] at own2
    have hmo5 : (put Ω3 a (.lst ((st.1.map D.int).set stp.cell.toNat (D.int (worth W stp (q ++ [at_ st.1 stp.cell])))))) mo = some (.lst ((mq ++ [st.1]).map tI)) := by rw [put_ne f2]; exact hmo4
    show _
    generalize put Ω3 a (.lst ((st.1.map D.int).set stp.cell.toNat (D.int (worth W stp (q ++ [at_ st.1 stp.cell]))))) = Ω4 at own2 hmo5 ⊢
    rw [tuple_p own2.at_h]
    refine app_p hmo5 (by rw [List.length_map, List.length_append, hmq]; have := hr.1; simp; omega) ⟨own2.other f1 f2 f3, mq ++ [st.1], by rw [List.length_append, hmq]; rfl, ?_⟩
    rw [put_same]
    simp [List.map_set]
  · rintro Ω' Δ' ⟨own, ⟨mq, hmq, hmo'⟩, x7, x8, x9, x10, rfl⟩
    walk_at "d"
    rw [List.length_map, runTo_all] at hmo'
    rw [tuple_p hmo']
    exact .sub own.sub (h mq)
theorem last_tI {q : List (List Int)} {x : List Int} {Ω : Om} {P : DK} : wIx (.tup ((q ++ [x]).map tI)) (.int (-1)) Ω P = P (tI x) Ω := ix_t (by rw [List.map_append]; exact atI_last)
theorem ps_at {W : Wld} {p : Int} (h0 : 0 ≤ p) (h1 : p < W.ps.length) : W.ps[p.toNat]? = some (W.ps.getD p.toNat []) ∧ W.ps.getD p.toNat [] ∈ W.ps := by
  have hp : p.toNat < W.ps.length := by omega
  have e1 : W.ps[p.toNat]? = some (W.ps.getD p.toNat []) := by rw [List.getD_eq_getElem?_getD, List.getElem?_eq_getElem hp]; rfl
  exact ⟨e1, List.mem_of_getElem? e1⟩
theorem row_own {W : Wld} (wd : Wd W) {p : Int} (h0 : 0 ≤ p) (h1 : p < W.ps.length) : RowOk W (List.replicate (W.ps.getD p.toNat []).length p) := by
  have h2 := (wd.len _ (ps_at h0 h1).2).2
  refine ⟨by rw [List.length_replicate]; omega, fun q hq => ?_⟩
  obtain ⟨_, rfl⟩ := List.mem_replicate.mp hq
  exact ⟨h0, h1, by rw [List.count_replicate_self]; exact Nat.le_refl _⟩
theorem rep_flat (d : D) : ∀ n, (List.replicate n [d]).flatten = List.replicate n d
  | 0 => rfl
  | n + 1 => by rw [List.replicate_succ, List.flatten_cons, rep_flat d n]; rfl
theorem rep_ints (n : Nat) (p : Int) : List.replicate n (D.int p) = (List.replicate n p).map .int := by rw [List.map_replicate]
theorem row_weav {W : Wld} {row : List Int} (h : WeavOk W row) : RowOk W row := ⟨h.1, fun p hp => ⟨(h.2.1 p hp).1, (h.2.1 p hp).2, by
  obtain ⟨h0, h1⟩ := h.2.1 p hp
  have := h.2.2 p.toNat (by omega)
  rw [Int.toNat_of_nonneg h0] at this
  rw [this]
  exact Nat.le_refl _⟩⟩
theorem mul_t {d : D} {k : Int} {Ω : Om} {P : DK} : wMul (.tup [d]) (.int k) Ω P = (1 ≤ k ∧ k ≤ 1000 ∧ P (.tup (List.replicate k.toNat [d]).flatten) Ω) := by simp [wMul]
theorem mul_l {d : D} {k : Int} {Ω : Om} {P : DK} : wMul (.lst [d]) (.int k) Ω P = (0 ≤ k ∧ k ≤ 1000 ∧ P (.lst (List.replicate k.toNat [d]).flatten) Ω) := by simp [wMul]
def F_whole_end : FD := fun ds Ω P => ∃ (W : Wld) (st : List (Int × List Int)) (p : Int) (s : List Int), ds = [W.lot, meanO W.m st, .int p, tI s] ∧ Wd W ∧ st.Perm W.tb ∧ 0 ≤ p ∧ p < W.ps.length ∧ StoreOk W s ∧ P (tI (W.own p.toNat s)) Ω
theorem g_whole_end (ds Ω P) (h : F_whole_end ds Ω P) : m_whole_end F_moments_from Ω (startD 4 ds) (endK P) := by
  obtain ⟨W, st, p, s, rfl, wd, hp, h0, h1, hs, h⟩ := h
  unfold m_whole_end
  walk_at "d"
  obtain ⟨e1, hmem⟩ := ps_at h0 h1
  have hl := wd.len _ hmem
  rw [ix_t (atI_of h0 (show (W.ps.map progD)[p.toNat]? = some (progD (W.ps.getD p.toNat [])) by rw [List.getElem?_map, e1]; rfl))]
  walk_at "d"
  rw [mul_t]
  refine ⟨by omega, by omega, ?_⟩
  rw [rep_flat, rep_ints]
  refine ⟨W, st, List.replicate (W.ps.getD p.toNat []).length p, s, _, ?_, wd, hp, .inl rfl, row_own wd h0 h1, hs, fun q => ?_⟩
  · rw [Int.toNat_natCast]
  · show wIx (.tup ((q ++ [_]).map tI)) (.int (-1)) Ω (Fin P)
    rw [last_tI]
    have e : W.own p.toNat s = W.run (List.replicate (W.ps.getD p.toNat []).length p) s := by
      unfold Wld.own
      rw [Int.toNat_of_nonneg h0]
    rw [e] at h
    exact .now h
def F_run_moments : FD := fun ds Ω P => ∃ (W : Wld) (st : List (Int × List Int)) (row s : List Int) (d : D), ds = [W.lot, meanO W.m st, d, tI s] ∧ Wd W ∧ st.Perm W.tb ∧ std d (row.map .int) ∧ WeavOk W row ∧ StoreOk W s ∧ ∀ q : List (List Int), P (.tup ((q ++ [W.run row s]).map tI)) Ω
theorem g_run_moments (ds Ω P) (h : F_run_moments ds Ω P) : m_run_moments F_check_meaning F_check_weaving F_check_store F_moments_from Ω (startD 4 ds) (endK P) := by
  obtain ⟨W, st, row, s, d, rfl, wd, hp, hd, hw, hs, h⟩ := h
  unfold m_run_moments
  walk_at "d"
  refine ⟨W, st, rfl, wd, hp, W, d, row, rfl, wd, hd, hw, fun d' hd' => ?_⟩
  walk_at "d"
  exact ⟨W, st, s, rfl, wd, hs, W, st, row, s, d', rfl, wd, hp, hd', row_weav hw, hs, fun q => .now (h q)⟩
def F_run_weaving : FD := fun ds Ω P => ∃ (W : Wld) (st : List (Int × List Int)) (row s : List Int) (d : D), ds = [W.lot, meanO W.m st, d, tI s] ∧ Wd W ∧ st.Perm W.tb ∧ std d (row.map .int) ∧ WeavOk W row ∧ StoreOk W s ∧ P (tI (W.run row s)) Ω
theorem g_run_weaving (ds Ω P) (h : F_run_weaving ds Ω P) : m_run_weaving F_run_moments Ω (startD 4 ds) (endK P) := by
  obtain ⟨W, st, row, s, d, rfl, wd, hp, hd, hw, hs, h⟩ := h
  unfold m_run_weaving
  walk_at "d"
  refine ⟨W, st, row, s, d, rfl, wd, hp, hd, hw, hs, fun q => ?_⟩
  walk_at "d"
  rw [last_tI]
  exact .now h
def F_run_program : FD := F_whole_end
theorem g_run_program (ds Ω P) (h : F_run_program ds Ω P) : m_run_program F_check_meaning F_check_program F_check_store F_whole_end Ω (startD 4 ds) (endK P) := by
  obtain ⟨W, st, p, s, rfl, wd, hp, h0, h1, hs, h⟩ := h
  unfold m_run_program
  walk_at "d"
  exact ⟨W, st, rfl, wd, hp, W, p, rfl, h0, h1, W, st, s, rfl, wd, hs, W, st, p, s, rfl, wd, hp, h0, h1, hs, .now h⟩
end
end KG
namespace KG
open L2 PySem PyProof.Rows PySem.Spec
local macro_rules | `(tactic| walk_at "d") => `(tactic| first | simp only [startD, endK, List.map_cons, List.map_nil, List.length_cons, List.length_nil, List.replicate, List.cons_append, List.nil_append, Nat.reduceAdd, Nat.reduceSub, Nat.zero_add, Nat.add_zero, Nat.reduceLeDiff,
  mSeq, mAsg, mDrop, mRet, mRetN, mIfS, mCont, mNext, mNever, gN, gNil_eq, gCons_eq, gT_t, gT_l, gSet, mAsgG, mVar, slot, mC, mOp, mUn, mNil, mCons, mTup, mLst, mLstO, mCB, mIf, mB, mAnd, mOr, mNot, mOrV, mNotV, mYes, mNewK, mNewT, mBM, mTuF,
  wInt2, wIs, wIsN, wNeg, wInt, wAbs, mFld, Ob.d, isi_ii, isi_ib, isi_ss, isiS_t, isiS_f, isiS_l, len_t, len_f, len_l, len_q, tuple_t, tuple_f, tuple_l, eq_ii, ne_ii, eq_ss, ne_ss, add_ii, add_tt, add_ll, mul_ii, in_t, in_l, in_il, fld_cells, fld_programs, fld_modulus, fld_tables, mMeth, meth_mean, List.length_map,
  List.set_cons_zero, List.set_cons_succ, List.getElem?_cons_zero, List.getElem?_cons_succ, Option.some.injEq, exists_eq_left', exists_eq_left, exists_eq', exists_eq, D.int.injEq, D.bl.injEq, D.str.injEq, D.tup.injEq, D.lst.injEq, D.ptr.injEq, D.ty.injEq, List.cons.injEq, and_true, true_and, reduceCtorEq, false_or, or_false, false_and, and_false, exists_false, or_self,
  exists_and_left, exists_and_right, exists_const, ne_eq, not_true_eq_false, not_false_eq_true, decide_true, decide_false, Bool.false_eq_true, Bool.true_eq_false, false_implies, true_implies, forall_const, implies_true, Bool.not_true, Bool.not_false, Bool.not_eq_true', Bool.not_eq_true, Bool.not_eq_false', decide_eq_true_eq, decide_eq_false_iff_not, put_same, del_same, forall_eq', forall_eq, forall_apply_eq_imp_iff] | (try dsimp only))
/-! G7: the stores, the moves. -/
section
/-- stores by data -/
def rgW (e : Int → D) (Ω1 : Om) : Nat → List D → Om → Prop := fun i acc Ω' => Ω' = Ω1 ∧ acc = ((List.range i).map fun i : Nat => e i)
theorem lcMapR {mi : MI} {j : Nat} {me : ME} {Ω Ω1 : Om} {Δ : Dl} {P : DK} {n : Int} {e : Int → D} {keep : Om → Prop} (hi : src mi Ω Ω1 Δ n.toNat (fun i => .int i) keep) (hn : n ≤ 1000) (hk : ∀ Ω', keep Ω')
    (hs : ∀ l acc x, 0 ≤ x → x < n → Ω1 l = none → ∀ R : DK, R (e x) (put Ω1 l (.lst acc)) → me (put Ω1 l (.lst acc)) (Δ.set j (some (.int x))) R) (wf : P (.lst ((rgL n).map e)) Ω1) : mFrz (mLc mi j mYes me) Ω Δ P := by
  refine lcWF hi (by omega) (rgW e Ω1) ⟨rfl, rfl⟩ (fun l i acc Ω' h1 h2 h => hk _) ?_ ?_
  · rintro l i acc Ω' h1 h2 hin ha ⟨rfl, rfl⟩
    refine lcT_mono_true (R' := nextW (rgW e Ω') l i) (R := nextW (rgW e Ω') l i) (hs l _ i (by omega) (by omega) h1 (fun y Ω4 => nextW (rgW e Ω') l i (some y) Ω4) (nextW_some h1 ha (by omega) ⟨rfl, ?_⟩))
    rw [List.range_succ, List.map_append]
    rfl
  · rintro acc Ω' ha ⟨rfl, rfl⟩
    unfold rgL at wf
    rw [List.map_map] at wf
    exact wf
theorem flat_take {α β : Type} (f : α → List β) (l : List α) (i : Nat) (x : α) (h : l[i]? = some x) : (l.take (i + 1)).flatMap f = (l.take i).flatMap f ++ f x := by
  rw [List.take_add_one, h, Option.toList_some, List.flatMap_append]
  simp
theorem len_rgL (m : Int) : (rgL m).length = m.toNat := by unfold rgL; rw [List.length_map, List.length_range]
theorem len_flat {α β : Type} {f : α → List β} {k : Nat} (hf : ∀ x, (f x).length = k) : ∀ l : List α, (l.flatMap f).length = l.length * k
  | [] => by simp
  | x :: l => by rw [List.flatMap_cons, List.length_append, hf, len_flat hf l, List.length_cons, Nat.succ_mul, Nat.add_comm]
theorem len_allS (m : Int) : ∀ c, (allS m c).length = m.toNat ^ c
  | 0 => rfl
  | c + 1 => by
    unfold allS
    rw [len_flat (k := m.toNat) (fun x => by rw [List.length_map, len_rgL]), len_allS m c, Nat.pow_succ]
theorem pow_le27 {m : Int} (h0 : 0 ≤ m) (hm : m ≤ 3) {c : Nat} (hc : c ≤ 3) : m.toNat ^ c ≤ 27 :=
  Nat.le_trans (Nat.pow_le_pow_left (show m.toNat ≤ 3 by omega) c) (Nat.le_trans (Nat.pow_le_pow_right (by decide) hc) (by decide))
theorem mem_allS {m : Int} : ∀ {c : Nat} {s : List Int}, s ∈ allS m c ↔ s.length = c ∧ ∀ w ∈ s, 0 ≤ w ∧ w < m
  | 0, s => by
    unfold allS
    rw [List.mem_singleton]
    constructor
    · rintro rfl
      exact ⟨rfl, fun w hw => by cases hw⟩
    · rintro ⟨h, _⟩
      exact List.length_eq_zero_iff.mp h
  | c + 1, s => by
    unfold allS
    rw [List.mem_flatMap]
    constructor
    · rintro ⟨r, hr, hs⟩
      obtain ⟨w, hw, rfl⟩ := List.mem_map.mp hs
      obtain ⟨h1, h2⟩ := mem_allS.mp hr
      refine ⟨by rw [List.length_append, h1]; rfl, fun x hx => ?_⟩
      rcases List.mem_append.mp hx with hx | hx
      · exact h2 x hx
      · rw [List.mem_singleton] at hx
        subst hx
        unfold rgL at hw
        obtain ⟨i, hi, rfl⟩ := List.mem_map.mp hw
        have := List.mem_range.mp hi
        omega
    · rintro ⟨h1, h2⟩
      rcases List.eq_nil_or_concat s with e | ⟨q, x, e⟩
      · rw [e] at h1; simp at h1
      · rw [List.concat_eq_append] at e
        subst e
        obtain ⟨x0, x1⟩ := h2 x (by simp)
        refine ⟨q, mem_allS.mpr ⟨by rw [List.length_append, List.length_singleton] at h1; omega, fun w hw => h2 w (List.mem_append_left _ hw)⟩, List.mem_map.mpr ⟨x, ?_, rfl⟩⟩
        unfold rgL
        exact List.mem_map.mpr ⟨x.toNat, List.mem_range.mpr (by omega), by omega⟩
theorem mem_S {W : Wld} (wd : Wd W) {s : List Int} : s ∈ W.S ↔ StoreOk W s := by
  unfold Wld.S StoreOk
  rw [mem_allS]
  have := wd.c
  constructor
  · rintro ⟨h1, h2⟩; exact ⟨by omega, h2⟩
  · rintro ⟨h1, h2⟩; exact ⟨by omega, h2⟩
theorem nd_flat {α β : Type} {f : α → List β} : ∀ {l : List α}, l.Nodup → (∀ x ∈ l, (f x).Nodup) → (∀ x ∈ l, ∀ y ∈ l, x ≠ y → ∀ z ∈ f x, z ∉ f y) → (l.flatMap f).Nodup
  | [], _, _, _ => by simp
  | x :: l, nd, h1, h2 => by
    rw [List.flatMap_cons, List.nodup_append]
    obtain ⟨n1, n2⟩ := List.nodup_cons.mp nd
    refine ⟨h1 x List.mem_cons_self, nd_flat n2 (fun y hy => h1 y (List.mem_cons_of_mem _ hy)) (fun y hy z hz => h2 y (List.mem_cons_of_mem _ hy) z (List.mem_cons_of_mem _ hz)), fun a ha b hb e => ?_⟩
    subst e
    obtain ⟨y, hy, hz⟩ := List.mem_flatMap.mp hb
    exact h2 x List.mem_cons_self y (List.mem_cons_of_mem _ hy) (fun e => n1 (by rw [e]; exact hy)) a ha hz
theorem nd_map {α β : Type} {f : α → β} (hf : ∀ a b, f a = f b → a = b) : ∀ {l : List α}, l.Nodup → (l.map f).Nodup
  | [], _ => by simp
  | x :: l, nd => by
    obtain ⟨n1, n2⟩ := List.nodup_cons.mp nd
    rw [List.map_cons, List.nodup_cons]
    refine ⟨fun h => ?_, nd_map hf n2⟩
    obtain ⟨y, hy, e⟩ := List.mem_map.mp h
    rw [hf y x e] at hy
    exact n1 hy
theorem nd_rgL (m : Int) : (rgL m).Nodup := nd_map (fun a b h => by omega) List.nodup_range
theorem nd_allS (m : Int) : ∀ c, (allS m c).Nodup
  | 0 => by simp [allS]
  | c + 1 => by
    unfold allS
    refine nd_flat (nd_allS m c) (fun x _ => nd_map (fun a b h => by simpa using h) (nd_rgL m)) fun x hx y hy hne z hz hz2 => ?_
    obtain ⟨a, _, rfl⟩ := List.mem_map.mp hz
    obtain ⟨b, _, e⟩ := List.mem_map.mp hz2
    exact hne (List.append_inj' e rfl).1.symm
/-- the law's stores -/
def F_L_stores : FD := fun ds Ω P => ∃ (c m : Int), ds = [.int c, .int m] ∧ 0 ≤ c ∧ c ≤ 3 ∧ 0 ≤ m ∧ m ≤ 3 ∧ P (.lst ((allS m c.toNat).map tI)) Ω
theorem g_L_stores (ds Ω P) (h : F_L_stores ds Ω P) : m_L_stores Ω (startD 7 ds) (endK P) := by
  obtain ⟨c, m, rfl, c0, c1, m0, m1, h⟩ := h
  unfold m_L_stores
  walk_at "d"
  refine forR1 c (Ω1 := Ω) (fun P p => by walk_at "d"; exact p) (by omega) (by omega) (fun i Ω' Δ' => Ω' = Ω ∧ ∃ x3 x4 x5 x6, Δ' = [some (.int c), some (.int m), some (.lst ((allS m i).map tI)), x3, x4, x5, x6]) ⟨rfl, none, none, none, none, rfl⟩ ?_ ?_
  · rintro i Ω' Δ' hi ⟨rfl, x3, x4, x5, x6, rfl⟩
    walk_at "d"
    refine forL (Ω1 := Ω') (xs := (allS m i).map tI) (fun P p => by walk_at "d"; exact p) (fun k Ω2 Δ2 => Ω2 = Ω' ∧ ∃ x5 x6, Δ2 = [some (.int c), some (.int m), some (.lst ((allS m i).map tI)), some (.int i), some (.lst ((((allS m i).take k).flatMap fun r => (rgL m).map fun w => r ++ [w]).map tI)), x5, x6]) ⟨rfl, _, _, rfl⟩ ?_ ?_
    · rintro k x Ω2 Δ2 hk ⟨rfl, x5', x6', rfl⟩
      obtain ⟨r, hr, rfl⟩ := get_map hk
      have hrl := (mem_allS.mp (List.mem_of_getElem? hr)).1
      walk_at "d"
      refine lcMapR (n := m) (e := fun w => tI (r ++ [w])) (Ω1 := Ω2) (src_r1 m (fun P p => by walk_at "d"; exact p) (by omega) (by omega)) (by omega) (fun _ => trivial) ?_ ?_
      · intro l acc x x0 x1 hl R hR
        walk_at "d"
        refine ⟨by omega, ?_⟩
        have e : r.map D.int ++ [D.int x] = (r ++ [x]).map D.int := by rw [List.map_append]; rfl
        rw [e]
        exact hR
      · have len1 : (((allS m i).take k).flatMap fun r => (rgL m).map fun w => r ++ [w]).length ≤ 27 * 3 := by
          rw [len_flat (k := m.toNat) (fun x => by rw [List.length_map, len_rgL]), List.length_take]
          have := len_allS m i
          have := pow_le27 m0 m1 (c := i) (by omega)
          have h3 : min k (allS m i).length ≤ 27 := by omega
          exact Nat.mul_le_mul h3 (by omega)
        have len2 := len_rgL m
        walk_at "d"
        refine ⟨by rw [len2]; omega, ?_⟩
        rw [flat_take _ _ _ r hr, List.map_append]
        simp
    · rintro Ω2 Δ2 ⟨rfl, x5', x6', rfl⟩
      walk_at "d"
      rw [List.take_length]
      rfl
  · rintro Ω' Δ' ⟨rfl, x3, x4, x5, x6, rfl⟩
    walk_at "d"
    exact .now h
/-- a comprehension of two: stores by numbers -/
theorem lc2S {mi mi1 : MI} {j j1 : Nat} {me : ME} {Ω : Om} {Δ : Dl} {P : DK} {S : List (List Int)} {m : Int} {keep : Om → Prop} (hi : src mi Ω Ω Δ (S.map tI).length (fun i => (S.map tI).getD i .non) keep) (hk : ∀ Ω', keep Ω') (hS : S.length ≤ 27) (hm : m ≤ 3)
    (hi1 : ∀ (Ω' : Om) (x : D), src mi1 Ω' Ω' ((Δ.set j1 none).set j (some x)) m.toNat (fun i => .int i) (fun _ => True))
    (hs : ∀ l acc r w, r ∈ S → 0 ≤ w → w < m → Ω l = none → ∀ R : DK, R (tI (r ++ [w])) (put Ω l (.lst acc)) → me (put Ω l (.lst acc)) (((Δ.set j1 none).set j (some (tI r))).set j1 (some (.int w))) R)
    (wf : P (.lst ((S.flatMap fun r => (rgL m).map fun w => r ++ [w]).map tI)) Ω) : mFrz (mLc2 mi j mi1 j1 me) Ω Δ P := by
  refine hi _ fun l hl => ⟨fun i Ω' => Ω' = put Ω l (.lst (((S.take i).flatMap fun r => (rgL m).map fun w => r ++ [w]).map tI)), rfl, fun i Ω' h1 h2 => hk _, ?_, ?_⟩
  · rintro i Ω' hin rfl
    rw [List.length_map] at hin
    have e0 : S[i]? = some S[i] := List.getElem?_eq_getElem hin
    have e1 : (S.map tI).getD i .non = tI S[i] := getD_of (by rw [List.getElem?_map, e0]; rfl)
    dsimp only
    rw [e1]
    have len1 : (((S.take i).flatMap fun r => (rgL m).map fun w => r ++ [w])).length ≤ 27 * 3 := by
      rw [len_flat (k := m.toNat) (fun x => by rw [List.length_map, len_rgL]), List.length_take]
      exact Nat.mul_le_mul (by omega) (by omega)
    refine hi1 _ _ _ ⟨fun k Ω' => Ω' = put Ω l (.lst ((((S.take i).flatMap fun r => (rgL m).map fun w => r ++ [w]) ++ ((List.range k).map fun w : Nat => S[i] ++ [(w : Int)])).map tI)), by simp, fun _ _ _ _ => trivial, ?_, ?_⟩
    · rintro k Ω' hkm rfl
      refine hs l _ S[i] k (List.getElem_mem hin) (by omega) (by omega) hl _ ⟨_, put_same, ?_, ?_⟩
      · rw [List.length_map, List.length_append, List.length_map, List.length_range]
        omega
      · rw [put_put]
        dsimp only
        rw [List.range_succ]
        simp
    · rintro Ω' rfl
      rw [flat_take _ _ _ _ e0]
      unfold rgL
      rw [List.map_map]
      rfl
  · rintro Ω' rfl
    rw [List.length_map, List.take_length]
    exact ⟨l, _, rfl, put_same, by rw [del_put hl]; exact wf⟩
theorem len_S {W : Wld} (wd : Wd W) : W.S.length ≤ 27 := by
  unfold Wld.S
  rw [len_allS]
  exact pow_le27 (by have := wd.m; omega) (by have := wd.m; omega) (by have := wd.c; omega)
def F_all_stores : FD := fun ds Ω P => ∃ (W : Wld), ds = [W.lot, .int W.m] ∧ Wd W ∧ P (.tup (W.S.map tI)) Ω
theorem g_all_stores (ds Ω P) (h : F_all_stores ds Ω P) : m_all_stores Ω (startD 6 ds) (endK P) := by
  obtain ⟨W, rfl, wd, h⟩ := h
  have hc := wd.c
  have hm := wd.m
  unfold m_all_stores
  walk_at "d"
  refine forR1 W.c (Ω1 := Ω) (fun P p => by walk_at "d"; exact p) (by omega) (by omega) (fun i Ω' Δ' => Ω' = Ω ∧ ∃ x3 x4 x5, Δ' = [some W.lot, some (.int W.m), some (.lst ((allS W.m i).map tI)), x3, x4, x5]) ⟨rfl, none, none, none, rfl⟩ ?_ ?_
  · rintro i Ω' Δ' hi ⟨rfl, x3, x4, x5, rfl⟩
    walk_at "d"
    refine lc2S (S := allS W.m i) (m := W.m) (src_s (d := .lst ((allS W.m i).map tI)) (fun P p => by walk_at "d"; exact p) (.inr (.inr (.inl rfl)))) (fun _ => keep_lst) ?_ (by omega) (fun Ω'' x => src_r1 W.m (fun P p => by walk_at "d"; exact p) (by omega) (by omega)) ?_ ?_
    · rw [len_allS]
      exact pow_le27 (by omega) (by omega) (by omega)
    · intro l acc r w hr w0 w1 hl R hR
      have hrl := (mem_allS.mp hr).1
      walk_at "d"
      refine ⟨by omega, ?_⟩
      have e : r.map D.int ++ [D.int w] = (r ++ [w]).map D.int := by rw [List.map_append]; rfl
      rw [e]
      exact hR
    · walk_at "d"
      rfl
  · rintro Ω' Δ' ⟨rfl, x3, x4, x5, rfl⟩
    walk_at "d"
    exact .now h
end
end KG
namespace KG
open L2 PySem PyProof.Rows PySem.Spec
local macro_rules | `(tactic| walk_at "d") => `(tactic| first | simp only [startD, endK, List.map_cons, List.map_nil, List.length_cons, List.length_nil, List.replicate, List.cons_append, List.nil_append, Nat.reduceAdd, Nat.reduceSub, Nat.zero_add, Nat.add_zero, Nat.reduceLeDiff,
  mSeq, mAsg, mDrop, mRet, mRetN, mIfS, mCont, mNext, mNever, gN, gNil_eq, gCons_eq, gT_t, gT_l, gSet, mAsgG, mVar, slot, mC, mOp, mUn, mNil, mCons, mTup, mLst, mLstO, mCB, mIf, mB, mAnd, mOr, mNot, mOrV, mNotV, mYes, mNewK, mNewT, mBM, mTuF,
  wInt2, wIs, wIsN, wNeg, wInt, wAbs, mFld, Ob.d, isi_ii, isi_ib, isi_ss, isiS_t, isiS_f, isiS_l, len_t, len_f, len_l, len_q, tuple_t, tuple_f, tuple_l, eq_ii, ne_ii, eq_ss, ne_ss, add_ii, add_tt, add_ll, mul_ii, in_t, in_l, in_il, fld_cells, fld_programs, fld_modulus, fld_tables, mMeth, meth_mean, List.length_map,
  List.set_cons_zero, List.set_cons_succ, List.getElem?_cons_zero, List.getElem?_cons_succ, Option.some.injEq, exists_eq_left', exists_eq_left, exists_eq', exists_eq, D.int.injEq, D.bl.injEq, D.str.injEq, D.tup.injEq, D.lst.injEq, D.ptr.injEq, D.ty.injEq, List.cons.injEq, and_true, true_and, reduceCtorEq, false_or, or_false, false_and, and_false, exists_false, or_self,
  exists_and_left, exists_and_right, exists_const, ne_eq, not_true_eq_false, not_false_eq_true, decide_true, decide_false, Bool.false_eq_true, Bool.true_eq_false, false_implies, true_implies, forall_const, implies_true, Bool.not_true, Bool.not_false, Bool.not_eq_true', Bool.not_eq_true, Bool.not_eq_false', decide_eq_true_eq, decide_eq_false_iff_not, put_same, del_same, forall_eq', forall_eq, forall_apply_eq_imp_iff] | (try dsimp only))
/-! G8: the law's moves, parts. -/
section
theorem set_t {l : Addr} {kvs : List (List Key × D)} {s : List Int} {d : D} {Ω : Om} {R : Om → Prop} (h : Ω l = some (.dt kvs)) (hl : kvs.length < 100000) (p : R (put Ω l (.dt (dput kvs (s.map Sum.inl) d)))) : wSet (.ptr l) (tI s) d Ω R :=
  ⟨l, rfl, .inr (.inr ⟨kvs, s.map .int, _, h, rfl, keysD_tI s, hl, p⟩)⟩
theorem set_k {l : Addr} {kvs : List (Key × D)} {i : Int} {d : D} {Ω : Om} {R : Om → Prop} (h : Ω l = some (.dk kvs)) (hl : kvs.length < 100000) (p : R (put Ω l (.dk (dput kvs (.inl i) d)))) : wSet (.ptr l) (.int i) d Ω R :=
  ⟨l, rfl, .inr (.inl ⟨kvs, .inl i, h, rfl, hl, p⟩)⟩
def mvK (f : Mv) (S : List (List Int)) : List (List Key × D) := S.map fun s => (s.map Sum.inl, tI (f s))
theorem dput_new {κ : Type} [DecidableEq κ] {kvs : List (κ × D)} {k : κ} {d : D} (h : ∀ kv ∈ kvs, kv.1 ≠ k) : dput kvs k d = kvs ++ [(k, d)] := by
  unfold dput
  rw [if_neg]
  rw [List.any_eq_true]
  rintro ⟨kv, hm, e⟩
  exact h kv hm (of_decide_eq_true e)
theorem mvK_put {f : Mv} {S : List (List Int)} {s : List Int} (h : s ∉ S) : dput (mvK f S) (s.map Sum.inl) (tI (f s)) = mvK f (S ++ [s]) := by
  rw [dput_new]
  · unfold mvK; rw [List.map_append]; rfl
  · intro kv hm e
    obtain ⟨t, ht, rfl⟩ := List.mem_map.mp hm
    exact h (by rw [← inl_inj e]; exact ht)
theorem take_succ_of {α : Type} {l : List α} {i : Nat} {x : α} (h : l[i]? = some x) : l.take (i + 1) = l.take i ++ [x] := by rw [List.take_add_one, h]; rfl
theorem nd_take {α : Type} {l : List α} (nd : l.Nodup) {i : Nat} {x : α} (h : l[i]? = some x) : x ∉ l.take i := by
  have := nd.sublist (List.take_sublist (i + 1) l)
  rw [take_succ_of h, List.nodup_append] at this
  exact fun hm => this.2.2 x hm x (List.mem_singleton.mpr rfl) rfl
theorem nd_S (W : Wld) : W.S.Nodup := nd_allS _ _
def F_L_move : FD := fun ds Ω P => ∃ (W : Wld) (row : List Int) (d : D), ds = [W.here, .int W.m, tabsD W.tb, d] ∧ Wd W ∧ std d (row.map .int) ∧ RowOk W row ∧ P (mvD W.S (W.run row)) Ω
theorem g_L_move (ds Ω P) (h : F_L_move ds Ω P) : m_L_move F_L_stores F_L_meant Ω (startD 6 ds) (endK P) := by
  obtain ⟨W, row, d, rfl, wd, hd, hr, h⟩ := h
  have hc := wd.c
  have hm := wd.m
  have hS := len_S wd
  unfold m_L_move
  walk_at "d"
  intro l hl
  refine forL (Ω1 := put Ω l (.dt [])) (xs := W.S.map tI) (fun P p => by walk_at "d"; rw [show wIx W.here (.int 0) = wIx (.tup [.int W.c, progsD W.ps]) (.int 0) from rfl, ix_t (show atI [D.int W.c, progsD W.ps] 0 = some (.int W.c) from rfl)]; exact ⟨W.c, W.m, rfl, by omega, by omega, by omega, by omega, p⟩)
    (fun k Ω' Δ' => Ω' = put Ω l (.dt (mvK (W.run row) (W.S.take k))) ∧ ∃ x, Δ' = [some W.here, some (.int W.m), some (tabsD W.tb), some d, some (.ptr l), x]) ⟨rfl, none, rfl⟩ ?_ ?_
  · rintro k x Ω' Δ' hk ⟨rfl, x5, rfl⟩
    obtain ⟨s, hs, rfl⟩ := get_map hk
    have hmem := List.mem_of_getElem? hs
    walk_at "d"
    refine ⟨W, row, s, d, rfl, wd, hd, hr, (mem_S wd).mp hmem, ?_⟩
    walk_at "d"
    refine set_t put_same (by unfold mvK; rw [List.length_map, List.length_take]; omega) ?_
    rw [put_put, mvK_put (nd_take (nd_S W) hs), take_succ_of hs]
  · rintro Ω' Δ' ⟨rfl, x5, rfl⟩
    walk_at "d"
    rw [List.take_length]
    exact .frz put_same (by rw [del_put hl]; exact Sub.refl _) h
def F_L_program_moves : FD := fun ds Ω P => ∃ (W : Wld), ds = [W.here, .int W.m, tabsD W.tb] ∧ Wd W ∧ P (.lst (W.moves.map (mvD W.S))) Ω
theorem here_ps {W : Wld} {Ω : Om} {P : DK} : wIx W.here (.int 1) Ω P = P (progsD W.ps) Ω := ix_t rfl
theorem here_c {W : Wld} {Ω : Om} {P : DK} : wIx W.here (.int 0) Ω P = P (.int W.c) Ω := ix_t rfl
theorem ps_ix {W : Wld} {p : Int} (h0 : 0 ≤ p) (h1 : p < W.ps.length) {Ω : Om} {P : DK} : wIx (progsD W.ps) (.int p) Ω P = P (progD (W.ps.getD p.toNat [])) Ω := ix_t (atI_of h0 (by rw [List.getElem?_map, (ps_at h0 h1).1]; rfl))
theorem g_L_program_moves (ds Ω P) (h : F_L_program_moves ds Ω P) : m_L_program_moves F_L_move Ω (startD 4 ds) (endK P) := by
  obtain ⟨W, rfl, wd, h⟩ := h
  have hmany := wd.many
  unfold m_L_program_moves
  walk_at "d"
  refine lcMapR (n := W.ps.length) (e := fun p => mvD W.S (W.own p.toNat)) (Ω1 := Ω) (src_r1 W.ps.length (fun P p => by walk_at "d"; rw [here_ps]; walk_at "d"; exact p) (by omega) (by omega)) (by omega) (fun _ => trivial) ?_ ?_
  · intro l acc p p0 p1 hl R hR
    walk_at "d"
    rw [here_ps, ps_ix p0 p1]
    walk_at "d"
    have hlen := wd.len _ (ps_at p0 p1).2
    rw [mul_l]
    refine ⟨by omega, by omega, ?_⟩
    rw [rep_flat, rep_ints]
    refine ⟨W, List.replicate (W.ps.getD p.toNat []).length p, _, by rw [Int.toNat_natCast], wd, .inr (.inr rfl), row_own wd p0 p1, ?_⟩
    have e : W.own p.toNat = W.run (List.replicate (W.ps.getD p.toNat []).length p) := by
      unfold Wld.own
      rw [Int.toNat_of_nonneg p0]
    rw [e] at hR
    exact hR
  · have e : (rgL W.ps.length).map (fun p => mvD W.S (W.own p.toNat)) = W.moves.map (mvD W.S) := by
      unfold rgL Wld.moves
      rw [List.map_map, List.map_map, Int.toNat_natCast]
      rfl
    rw [e]
    exact .now h
end
end KG
namespace KG
open L2 PySem PyProof.Rows PySem.Spec
local macro_rules | `(tactic| walk_at "d") => `(tactic| first | simp only [startD, endK, List.map_cons, List.map_nil, List.length_cons, List.length_nil, List.replicate, List.cons_append, List.nil_append, Nat.reduceAdd, Nat.reduceSub, Nat.zero_add, Nat.add_zero, Nat.reduceLeDiff,
  mSeq, mAsg, mDrop, mRet, mRetN, mIfS, mCont, mNext, mNever, gN, gNil_eq, gCons_eq, gT_t, gT_l, gSet, mAsgG, mVar, slot, mC, mOp, mUn, mNil, mCons, mTup, mLst, mLstO, mCB, mIf, mB, mAnd, mOr, mNot, mOrV, mNotV, mYes, mNewK, mNewT, mBM, mTuF,
  wInt2, wIs, wIsN, wNeg, wInt, wAbs, mFld, Ob.d, isi_ii, isi_ib, isi_ss, isiS_t, isiS_f, isiS_l, len_t, len_f, len_l, len_q, tuple_t, tuple_f, tuple_l, eq_ii, ne_ii, eq_ss, ne_ss, add_ii, add_tt, add_ll, mul_ii, in_t, in_l, in_il, fld_cells, fld_programs, fld_modulus, fld_tables, mMeth, meth_mean, List.length_map,
  List.set_cons_zero, List.set_cons_succ, List.getElem?_cons_zero, List.getElem?_cons_succ, Option.some.injEq, exists_eq_left', exists_eq_left, exists_eq', exists_eq, D.int.injEq, D.bl.injEq, D.str.injEq, D.tup.injEq, D.lst.injEq, D.ptr.injEq, D.ty.injEq, List.cons.injEq, and_true, true_and, reduceCtorEq, false_or, or_false, false_and, and_false, exists_false, or_self,
  exists_and_left, exists_and_right, exists_const, ne_eq, not_true_eq_false, not_false_eq_true, decide_true, decide_false, Bool.false_eq_true, Bool.true_eq_false, false_implies, true_implies, forall_const, implies_true, Bool.not_true, Bool.not_false, Bool.not_eq_true', Bool.not_eq_true, Bool.not_eq_false', decide_eq_true_eq, decide_eq_false_iff_not, put_same, del_same, forall_eq', forall_eq, forall_apply_eq_imp_iff] | (try dsimp only))
/-! G9: the hand. -/
section
def HandO (o : Ob) : Prop := ∃ (cs : List Int) (i r t : Int), o = .lst [.lst (cs.map .int), .int i, .int r, .int t] ∧ cs.length ≤ 100 ∧ 0 ≤ i ∧ i ≤ cs.length ∧ 0 ≤ r ∧ 0 ≤ t ∧ t < 2147483647 ∧ ∀ c ∈ cs, 0 ≤ c
def F_L_take : FD := fun ds Ω P => ∃ (h : Addr) (many : Int) (o : Ob), ds = [.ptr h, .int many] ∧ 1 ≤ many ∧ many ≤ 1000000 ∧ Ω h = some o ∧ HandO o ∧ ∀ o' r, HandO o' → 0 ≤ r → r < many → P (.int r) (put Ω h o')
theorem mod_rng {a m : Int} (h : 1 ≤ m) : 0 ≤ a % m ∧ a % m < m := ⟨Int.emod_nonneg _ (by omega), Int.emod_lt_of_pos _ (by omega)⟩
def m_take2 (F_L_mixed : FD) : MS := (mSeq (mIfS (mB (mOp wGt (mOp wIx (mVar 0) (mC (.int 2))) (mC (.int 0)))) (mSeq (mAsg (mOp wIx (mVar 0) (mC (.int 2))) 3)
    (mSeq (mAsgG (mOp wDiv (mCB wInt (mCons (mVar 3) mNil)) (mVar 1)) (gSet (mVar 0) (mC (.int 2))))
    (mRet (mOp wMod (mCB wInt (mCons (mVar 3) mNil)) (mVar 1))))) mNext)
    (mSeq (mAsgG (mOp wMod (mCB wInt (mCons (mOp wAdd (mOp wIx (mVar 0) (mC (.int 3))) (mC (.int 1))) mNil)) (mC (.int 2147483549))) (gSet (mVar 0) (mC (.int 3))))
    (mRet (mOp wMod (mCB wInt (mCons (mCB F_L_mixed (mCons (mOp wIx (mVar 0) (mC (.int 3))) (mCons (mOp wIx (mVar 0) (mC (.int 1))) mNil))) mNil)) (mVar 1)))))
theorem set3 {a : Addr} {w x y z v : D} {Ω : Om} {i : Int} {R : Om → Prop} (h : Ω a = some (.lst [w, x, y, z])) (h0 : 0 ≤ i) (h1 : i < 4) (p : R (put Ω a (.lst ([w, x, y, z].set i.toNat v)))) : wSet (.ptr a) (.int i) v Ω R := set_p h h0 (by simpa using h1) p
theorem g_take2 {Ω : Om} {P : DK} {a : Addr} {many : Int} {o : Ob} {x2 x3 : Option D} (m1 : 1 ≤ many) (m2 : many ≤ 1000000) (ho : Ω a = some o) (hO : HandO o) (h : ∀ o' r, HandO o' → 0 ≤ r → r < many → P (.int r) (put Ω a o')) :
    m_take2 F_L_mixed Ω [some (.ptr a), some (.int many), x2, x3] (endK P) := by
  obtain ⟨cs, i, r, t, rfl, c1, i0, i1, r0, t0, t1, c0⟩ := hO
  have e1 : ∀ {Ω' : Om} {P : DK} {w x y z : D}, Ω' a = some (.lst [w, x, y, z]) → wIx (.ptr a) (.int 1) Ω' P = P x Ω' := fun h => ix_p h rfl
  have e2 : ∀ {Ω' : Om} {P : DK} {w x y z : D}, Ω' a = some (.lst [w, x, y, z]) → wIx (.ptr a) (.int 2) Ω' P = P y Ω' := fun h => ix_p h rfl
  have e3 : ∀ {Ω' : Om} {P : DK} {w x y z : D}, Ω' a = some (.lst [w, x, y, z]) → wIx (.ptr a) (.int 3) Ω' P = P z Ω' := fun h => ix_p h rfl
  unfold m_take2
  walk_at "d"
  rw [e2 ho]
  walk_at "d"
  refine ⟨fun hr => ?_, fun hr => ?_⟩
  · rw [e2 ho]
    walk_at "d"
    refine ⟨cdiv (by omega) (by omega), set3 ho (by omega) (by omega) ?_⟩
    refine ⟨by omega, .now (h _ _ ⟨cs, i, r / many, t, rfl, c1, i0, i1, Int.ediv_nonneg (by omega) (by omega), t0, t1, c0⟩ (mod_rng m1).1 (mod_rng m1).2)⟩
  · rw [e3 ho]
    walk_at "d"
    have hm := mod_rng (a := t + 1) (m := 2147483549) (by omega)
    refine ⟨by omega, set3 ho (by omega) (by omega) ?_⟩
    have q : put Ω a (.lst [.lst (cs.map .int), .int i, .int r, .int ((t + 1) % 2147483549)]) a = some (.lst [.lst (cs.map .int), .int i, .int r, .int ((t + 1) % 2147483549)]) := put_same
    show wIx (.ptr a) (.int 3) (put Ω a (.lst [.lst (cs.map .int), .int i, .int r, .int ((t + 1) % 2147483549)])) _
    rw [e3 q, e1 q]
    refine ⟨_, i, rfl, hm.1, by omega, i0, by omega, fun x x0 x1 => ?_⟩
    walk_at "d"
    exact ⟨by omega, .now (h _ _ ⟨cs, i, r, _, rfl, c1, i0, i1, r0, hm.1, by omega, c0⟩ (mod_rng m1).1 (mod_rng m1).2)⟩
theorem g_L_take (ds Ω P) (h : F_L_take ds Ω P) : m_L_take F_L_mixed Ω (startD 4 ds) (endK P) := by
  obtain ⟨a, many, o, rfl, m1, m2, ho, hO, h⟩ := h
  have e0 : ∀ {Ω' : Om} {P : DK} {w x y z : D}, Ω' a = some (.lst [w, x, y, z]) → wIx (.ptr a) (.int 0) Ω' P = P w Ω' := fun h => ix_p h rfl
  have e1 : ∀ {Ω' : Om} {P : DK} {w x y z : D}, Ω' a = some (.lst [w, x, y, z]) → wIx (.ptr a) (.int 1) Ω' P = P x Ω' := fun h => ix_p h rfl
  have e2 : ∀ {Ω' : Om} {P : DK} {w x y z : D}, Ω' a = some (.lst [w, x, y, z]) → wIx (.ptr a) (.int 2) Ω' P = P y Ω' := fun h => ix_p h rfl
  have hO2 := hO
  obtain ⟨cs, i, r, t, rfl, c1, i0, i1, r0, t0, t1, c0⟩ := hO
  rw [show m_L_take F_L_mixed = mSeq (mIfS (mAnd (mB (mOp wEq (mOp wIx (mVar 0) (mC (.int 2))) (mC (.int 0)))) (mB (mOp wLt (mOp wIx (mVar 0) (mC (.int 1))) (mCB wLen (mCons (mOp wIx (mVar 0) (mC (.int 0))) mNil))))) (mSeq (mAsg (mOp wIx (mOp wIx (mVar 0) (mC (.int 0))) (mOp wIx (mVar 0) (mC (.int 1)))) 2)
    (mSeq (mAsgG (mOp wAdd (mOp wIx (mVar 0) (mC (.int 1))) (mC (.int 1))) (gSet (mVar 0) (mC (.int 1))))
    (mSeq (mIfS (mB (mOp wLt (mVar 2) (mOp wPow (mC (.int 10)) (mC (.int 18))))) (mRet (mOp wMod (mCB wInt (mCons (mCB F_L_mixed (mCons (mOp wMod (mCB wInt (mCons (mVar 2) mNil)) (mC (.int 2147483399))) (mCons (mOp wIx (mVar 0) (mC (.int 1))) mNil))) mNil)) (mVar 1))) mNext)
    (mAsgG (mVar 2) (gSet (mVar 0) (mC (.int 2))))))) mNext) (m_take2 F_L_mixed) from rfl]
  generalize hM : m_take2 F_L_mixed = M
  unfold mSeq
  simp only [endK]
  show mIfS _ _ _ Ω _ _
  walk_at "d"
  rw [e2 ho]
  walk_at "d"
  have rest : ∀ (o' : Ob) (x2 x3 : Option D), HandO o' → M (put Ω a o') [some (.ptr a), some (.int many), x2, x3] (endK P) := fun o' x2 x3 hO' => by
    rw [← hM]
    exact g_take2 m1 m2 put_same hO' fun o2 r2 h1 h2 h3 => by rw [put_put]; exact h o2 r2 h1 h2 h3
  have rest0 : ∀ (x2 x3 : Option D), M Ω [some (.ptr a), some (.int many), x2, x3] (endK P) := fun x2 x3 => by
    rw [← hM]
    exact g_take2 m1 m2 ho hO2 h
  refine ⟨fun hr => ?_, fun hr => rest0 _ _⟩
  rw [e1 ho, e0 ho]
  walk_at "d"
  refine ⟨fun hlt => ?_, fun _ => rest0 _ _⟩
  have hc := at_mem i0 hlt
  have hc0 := c0 _ hc.2
  rw [e0 ho, e1 ho, ix_l (atI_of i0 (show (cs.map D.int)[i.toNat]? = some (.int (at_ cs i)) by rw [List.getElem?_map, hc.1]; rfl)), e1 ho]
  walk_at "d"
  refine set3 ho (by omega) (by omega) ?_
  have q : put Ω a (.lst [.lst (cs.map .int), .int (i + 1), .int r, .int t]) a = some (.lst [.lst (cs.map .int), .int (i + 1), .int r, .int t]) := put_same
  have hm := mod_rng (a := at_ cs i) (m := 2147483399) (by omega)
  refine ⟨by unfold CPow; decide, fun hs => ?_, fun hs => ?_⟩
  · refine ⟨by omega, ?_⟩
    show wIx (.ptr a) (.int 1) (put Ω a (.lst [.lst (cs.map .int), .int (i + 1), .int r, .int t])) _
    rw [e1 q]
    refine ⟨_, i + 1, rfl, hm.1, by omega, by omega, by omega, fun x x0 x1 => ?_⟩
    walk_at "d"
    exact ⟨by omega, .now (h _ _ ⟨cs, i + 1, r, t, rfl, c1, by omega, by omega, r0, t0, t1, c0⟩ (mod_rng m1).1 (mod_rng m1).2)⟩
  · refine set3 q (by omega) (by omega) ?_
    rw [put_put]
    exact rest _ _ _ ⟨cs, i + 1, at_ cs i, t, rfl, c1, by omega, by omega, hc0, t0, t1, c0⟩
end
end KG
namespace KG
open L2 PySem PyProof.Rows PySem.Spec
local macro_rules | `(tactic| walk_at "d") => `(tactic| first | simp only [startD, endK, List.map_cons, List.map_nil, List.length_cons, List.length_nil, List.replicate, List.cons_append, List.nil_append, Nat.reduceAdd, Nat.reduceSub, Nat.zero_add, Nat.add_zero, Nat.reduceLeDiff,
  mSeq, mAsg, mDrop, mRet, mRetN, mIfS, mCont, mNext, mNever, gN, gNil_eq, gCons_eq, gT_t, gT_l, gSet, mAsgG, mVar, slot, mC, mOp, mUn, mNil, mCons, mTup, mLst, mLstO, mCB, mIf, mB, mAnd, mOr, mNot, mOrV, mNotV, mYes, mNewK, mNewT, mBM, mTuF,
  wInt2, wIs, wIsN, wNeg, wInt, wAbs, mFld, Ob.d, isi_ii, isi_ib, isi_ss, isiS_t, isiS_f, isiS_l, len_t, len_f, len_l, len_q, tuple_t, tuple_f, tuple_l, eq_ii, ne_ii, eq_ss, ne_ss, add_ii, add_tt, add_ll, mul_ii, in_t, in_l, in_il, fld_cells, fld_programs, fld_modulus, fld_tables, mMeth, meth_mean, List.length_map,
  List.set_cons_zero, List.set_cons_succ, List.getElem?_cons_zero, List.getElem?_cons_succ, Option.some.injEq, exists_eq_left', exists_eq_left, exists_eq', exists_eq, D.int.injEq, D.bl.injEq, D.str.injEq, D.tup.injEq, D.lst.injEq, D.ptr.injEq, D.ty.injEq, List.cons.injEq, and_true, true_and, reduceCtorEq, false_or, or_false, false_and, and_false, exists_false, or_self,
  exists_and_left, exists_and_right, exists_const, ne_eq, not_true_eq_false, not_false_eq_true, decide_true, decide_false, Bool.false_eq_true, Bool.true_eq_false, false_implies, true_implies, forall_const, implies_true, Bool.not_true, Bool.not_false, Bool.not_eq_true', Bool.not_eq_true, Bool.not_eq_false', decide_eq_true_eq, decide_eq_false_iff_not, put_same, del_same, forall_eq', forall_eq, forall_apply_eq_imp_iff] | (try dsimp only))
/-! G10: the hand's making, parts by chance, subsets, the least among rules. -/
section
def F_L_hand : FD := fun ds Ω P => ∃ ns : List Int, ds = [.lsq (ns.map .int)] ∧ ns.length ≤ 100 ∧ ∀ h o, Ω h = none → HandO o → P (.ptr h) (put Ω h o)
theorem g_L_hand (ds Ω P) (h : F_L_hand ds Ω P) : m_L_hand Ω (startD 4 ds) (endK P) := by
  obtain ⟨ns, rfl, hl, h⟩ := h
  unfold m_L_hand
  walk_at "d"
  intro l hl0
  refine forS (Ω1 := put Ω l (.lst [])) (d := .lsq (ns.map .int)) (xs := ns.map .int) (fun P p => by walk_at "d"; exact p) (.inr (.inr (.inr (.inl rfl)))) (fun k Ω' Δ' => ∃ (cs : List Int) (t : Int) (x : Option D), Ω' = put Ω l (.lst (cs.map .int)) ∧ cs.length = k ∧ (∀ c ∈ cs, 0 ≤ c) ∧ 0 ≤ t ∧ t < 2147483647 ∧ Δ' = [some (.lsq (ns.map .int)), some (.int t), some (.ptr l), x])
    ⟨[], (ns.length : Int) + 43, none, rfl, rfl, by simp, by omega, by omega, rfl⟩ (fun _ _ _ _ _ => keep_lsq) ?_ ?_
  · rintro k x Ω' Δ' hk ⟨cs, t, x3, rfl, hcs, c0, t0, t1, rfl⟩
    obtain ⟨n, hn, rfl⟩ := get_map hk
    have hkl := (List.getElem?_eq_some_iff.mp hn).1
    walk_at "d"
    refine ⟨cmul64 (by omega) (by omega), by omega, app_p put_same (by rw [List.length_map]; omega) ?_⟩
    have hm := mod_rng (a := t * 2003 + n) (m := 2147483563) (by omega)
    refine ⟨cs ++ [if n < 0 then -n else n], ?_, by rw [List.length_append, hcs]; rfl, fun c hc => ?_, _, hm.1, by omega, rfl⟩
    · rw [put_put, List.map_append]; rfl
    · rcases List.mem_append.mp hc with hc | hc
      · exact c0 c hc
      · rw [List.mem_singleton] at hc
        subst hc
        split <;> omega
  · rintro Ω' Δ' ⟨cs, t, x3, rfl, hcs, c0, t0, t1, rfl⟩
    rw [List.length_map] at hcs
    walk_at "d"
    simp only [mFrz]
    walk_at "d"
    rw [del_put hl0]
    intro q hq
    exact .now (h q _ hq ⟨cs, 0, 0, t, rfl, by omega, by omega, by omega, by omega, t0, t1, c0⟩)
def subs : List (List Int) → List Rule
  | S => S.foldl (fun told x => told ++ told.map fun r => r ++ [x]) [[]]
theorem subs_take {S : List (List Int)} {k : Nat} {x : List Int} (h : S[k]? = some x) : subs (S.take (k + 1)) = subs (S.take k) ++ (subs (S.take k)).map fun r => r ++ [x] := by
  unfold subs
  rw [take_succ_of h, List.foldl_append]
  rfl
theorem len_subs : ∀ (S : List (List Int)) (told : List Rule), (S.foldl (fun told x => told ++ told.map fun r => r ++ [x]) told).length = told.length * 2 ^ S.length
  | [], told => by simp
  | x :: S, told => by
    rw [List.foldl_cons, len_subs S, List.length_append, List.length_map, List.length_cons, Nat.pow_succ]
    generalize 2 ^ S.length = z
    rw [← Nat.mul_assoc, Nat.add_mul, Nat.mul_two]
def F_L_subsets : FD := fun ds Ω P => ∃ S : List (List Int), ds = [.lst (S.map tI)] ∧ S.length ≤ 9 ∧ P (.lst ((subs S).map ruleD)) Ω
theorem g_L_subsets (ds Ω P) (h : F_L_subsets ds Ω P) : m_L_subsets Ω (startD 4 ds) (endK P) := by
  obtain ⟨S, rfl, hS, h⟩ := h
  have hlen : ∀ k, (subs (S.take k)).length ≤ 512 := fun k => by
    unfold subs
    rw [len_subs, List.length_take]
    have : 2 ^ (min k S.length) ≤ 2 ^ 9 := Nat.pow_le_pow_right (by decide) (by omega)
    simp
    omega
  unfold m_L_subsets
  walk_at "d"
  refine forL (Ω1 := Ω) (xs := S.map tI) (fun P p => by walk_at "d"; exact p) (fun k Ω' Δ' => Ω' = Ω ∧ ∃ x2 x3, Δ' = [some (.lst (S.map tI)), some (.lst ((subs (S.take k)).map ruleD)), x2, x3]) ⟨rfl, none, none, rfl⟩ ?_ ?_
  · rintro k x Ω' Δ' hk ⟨rfl, x2, x3, rfl⟩
    obtain ⟨s, hs, rfl⟩ := get_map hk
    walk_at "d"
    have hk2 := hlen k
    refine lcMap (xs := subs (S.take k)) (it := ruleD) (e := fun r => ruleD (r ++ [s])) (Ω1 := Ω') (src_s (d := .lst ((subs (S.take k)).map ruleD)) (fun P p => by walk_at "d"; exact p) (.inr (.inr (.inl rfl)))) (by omega) (fun _ _ _ => keep_lst) ?_ ?_
    · intro l acc r hr hl R hR
      walk_at "d"
      have hrl : r.length ≤ 100 := by
        have key : ∀ (S : List (List Int)) (told : List Rule) (n : Nat), (∀ r ∈ told, r.length ≤ n) → ∀ r ∈ S.foldl (fun told x => told ++ told.map fun r => r ++ [x]) told, r.length ≤ n + S.length := by
          intro S
          induction S with
          | nil => intro told n h r hr; exact h r hr
          | cons x S ih =>
            intro told n h r hr
            have := ih (told ++ told.map fun r => r ++ [x]) (n + 1) (fun r hr => by
              rcases List.mem_append.mp hr with hr | hr
              · have := h r hr; omega
              · obtain ⟨q, hq, rfl⟩ := List.mem_map.mp hr
                have := h q hq
                rw [List.length_append]; simp; omega) r hr
            rw [List.length_cons]
            omega
        have := key (S.take k) [[]] 0 (by simp) r hr
        rw [List.length_take] at this
        omega
      refine ⟨by omega, ?_⟩
      have e : r.map tI ++ [tI s] = (r ++ [s]).map tI := by rw [List.map_append]; rfl
      rw [e]
      exact hR
    · walk_at "d"
      refine ⟨by omega, ?_⟩
      rw [subs_take hs, List.map_append, List.map_map]
      rfl
  · rintro Ω' Δ' ⟨rfl, x2, x3, rfl⟩
    walk_at "d"
    rw [List.take_length]
    exact .now h
def subR (Q R : Rule) : Bool := decide (∀ x ∈ Q, x ∈ R)
def greedy (L : List Rule) : List Rule := L.foldl (fun told R => if (told.filter fun Q => subR Q R).length = 0 then told ++ [R] else told) []
theorem greedy_take {L : List Rule} {k : Nat} {R : Rule} (h : L[k]? = some R) : greedy (L.take (k + 1)) = if ((greedy (L.take k)).filter fun Q => subR Q R).length = 0 then greedy (L.take k) ++ [R] else greedy (L.take k) := by
  unfold greedy
  rw [take_succ_of h, List.foldl_append]
  rfl
theorem len_greedy (L : List Rule) : (greedy L).length ≤ L.length := by
  have key : ∀ (L told : List Rule), (L.foldl (fun told R => if (told.filter fun Q => subR Q R).length = 0 then told ++ [R] else told) told).length ≤ told.length + L.length := by
    intro L
    induction L with
    | nil => intro told; simp
    | cons R L ih =>
      intro told
      rw [List.foldl_cons, List.length_cons]
      refine Nat.le_trans (ih _) ?_
      split
      · rw [List.length_append]; simp; omega
      · omega
  have := key L []
  simpa [greedy] using this
def F_L_least_among : FD := fun ds Ω P => ∃ L : List Rule, ds = [.lst (L.map ruleD)] ∧ L.length ≤ 1000 ∧ P (.lst ((greedy L).map ruleD)) Ω
theorem g_L_least_among (ds Ω P) (h : F_L_least_among ds Ω P) : m_L_least_among F_L_holds Ω (startD 4 ds) (endK P) := by
  obtain ⟨L, rfl, hL, h⟩ := h
  unfold m_L_least_among
  walk_at "d"
  intro l hl
  refine forL (Ω1 := put Ω l (.lst [])) (xs := L.map ruleD) (fun P p => by walk_at "d"; exact p) (fun k Ω' Δ' => Ω' = put Ω l (.lst ((greedy (L.take k)).map ruleD)) ∧ ∃ x2 x3, Δ' = [some (.lst (L.map ruleD)), some (.ptr l), x2, x3]) ⟨rfl, none, none, rfl⟩ ?_ ?_
  · rintro k x Ω' Δ' hk ⟨rfl, x2, x3, rfl⟩
    obtain ⟨R, hR, rfl⟩ := get_map hk
    have hkl := (List.getElem?_eq_some_iff.mp hR).1
    have hg := len_greedy (L.take k)
    rw [List.length_take] at hg
    walk_at "d"
    generalize hΩ : put Ω l (.lst ((greedy (L.take k)).map ruleD)) = Ω1
    have ho : Ω1 l = some (.lst ((greedy (L.take k)).map ruleD)) := by rw [← hΩ]; exact put_same
    refine lcFil (xs := greedy (L.take k)) (it := ruleD) (e := ruleD) (p := fun Q => subR Q R) (Ω1 := Ω1) (src_s (d := .ptr l) (fun P p => by walk_at "d"; exact p) (.inr (.inr (.inr (.inr ⟨l, rfl, ho⟩))))) (by omega) (fun q acc hq => keep_ptr (put_keep ho hq)) ?_ ?_
    · intro q acc Q hQ hq Rr hRr
      unfold lcT
      walk_at "d"
      refine ⟨R, Q, rfl, ?_⟩
      walk_at "d"
      by_cases hs : subR Q R = true
      · rw [if_pos hs] at hRr
        exact ⟨fun _ => hRr, fun z => absurd (of_decide_eq_true hs) z⟩
      · rw [if_neg hs] at hRr
        exact ⟨fun z => absurd (decide_eq_true z) hs, fun _ => hRr⟩
    · walk_at "d"
      rw [greedy_take hR]
      refine ⟨fun e => ?_, fun e => ?_⟩
      · rw [if_pos (by omega)]
        refine app_p ho (by rw [List.length_map]; omega) ?_
        rw [← hΩ, put_put, List.map_append]
        rfl
      · rw [if_neg (by omega)]
        exact hΩ.symm
  · rintro Ω' Δ' ⟨rfl, x2, x3, rfl⟩
    walk_at "d"
    rw [List.take_length]
    exact .frz put_same (by rw [del_put hl]; exact Sub.refl _) h
end
end KG
namespace KG
open L2 PySem PyProof.Rows PySem.Spec
local macro_rules | `(tactic| walk_at "d") => `(tactic| first | simp only [startD, endK, List.map_cons, List.map_nil, List.length_cons, List.length_nil, List.replicate, List.cons_append, List.nil_append, Nat.reduceAdd, Nat.reduceSub, Nat.zero_add, Nat.add_zero, Nat.reduceLeDiff,
  mSeq, mAsg, mDrop, mRet, mRetN, mIfS, mCont, mNext, mNever, gN, gNil_eq, gCons_eq, gT_t, gT_l, gSet, mAsgG, mVar, slot, mC, mOp, mUn, mNil, mCons, mTup, mLst, mLstO, mCB, mIf, mB, mAnd, mOr, mNot, mOrV, mNotV, mYes, mNewK, mNewT, mBM, mTuF,
  wInt2, wIs, wIsN, wNeg, wInt, wAbs, mFld, Ob.d, isi_ii, isi_ib, isi_ss, isiS_t, isiS_f, isiS_l, len_t, len_f, len_l, len_q, tuple_t, tuple_f, tuple_l, eq_ii, ne_ii, eq_ss, ne_ss, add_ii, add_tt, add_ll, mul_ii, in_t, in_l, in_il, fld_cells, fld_programs, fld_modulus, fld_tables, mMeth, meth_mean, List.length_map,
  List.set_cons_zero, List.set_cons_succ, List.getElem?_cons_zero, List.getElem?_cons_succ, Option.some.injEq, exists_eq_left', exists_eq_left, exists_eq', exists_eq, D.int.injEq, D.bl.injEq, D.str.injEq, D.tup.injEq, D.lst.injEq, D.ptr.injEq, D.ty.injEq, List.cons.injEq, and_true, true_and, reduceCtorEq, false_or, or_false, false_and, and_false, exists_false, or_self,
  exists_and_left, exists_and_right, exists_const, ne_eq, not_true_eq_false, not_false_eq_true, decide_true, decide_false, Bool.false_eq_true, Bool.true_eq_false, false_implies, true_implies, forall_const, implies_true, Bool.not_true, Bool.not_false, Bool.not_eq_true', Bool.not_eq_true, Bool.not_eq_false', decide_eq_true_eq, decide_eq_false_iff_not, put_same, del_same, forall_eq', forall_eq, forall_apply_eq_imp_iff] | (try dsimp only))
/-! G11: what is drawn. -/
section
theorem put_self {Ω : Om} {h : Addr} {o : Ob} (e : Ω h = some o) : put Ω h o = Ω := by
  funext b; unfold put; split
  · rename_i hb; subst hb; exact e.symm
  · rfl
/-- a draw while a list is gathered -/
theorem take_in {Ω : Om} {h l : Addr} {o u : Ob} {many : Int} {R : DK} (hl : l ≠ h) (hO : HandO o) (m1 : 1 ≤ many) (m2 : many ≤ 1000000) (hR : ∀ o' r, HandO o' → 0 ≤ r → r < many → R (.int r) (put (put Ω h o') l u)) : F_L_take [.ptr h, .int many] (put (put Ω h o) l u) R :=
  ⟨h, many, o, rfl, m1, m2, by rw [put_ne (Ne.symm hl)]; exact put_same, hO, fun o' r h1 h2 h3 => by
    rw [put_comm hl, put_put]
    exact hR o' r h1 h2 h3⟩
theorem take_at {Ω : Om} {h : Addr} {o : Ob} {many : Int} {R : DK} (hO : HandO o) (m1 : 1 ≤ many) (m2 : many ≤ 1000000) (hR : ∀ o' r, HandO o' → 0 ≤ r → r < many → R (.int r) (put Ω h o')) : F_L_take [.ptr h, .int many] (put Ω h o) R :=
  ⟨h, many, o, rfl, m1, m2, put_same, hO, fun o' r h1 h2 h3 => by
    rw [put_put]
    exact hR o' r h1 h2 h3⟩
def F_L_some : FD := fun ds Ω P => ∃ (h : Addr) (S : List (List Int)) (share : Int) (o : Ob), ds = [.ptr h, .lst (S.map tI), .int share] ∧ 1 ≤ share ∧ share ≤ 1000 ∧ S.length ≤ 1000 ∧ Ω h = some o ∧ HandO o ∧ ∀ (o' : Ob) (R : List (List Int)), HandO o' → R.Sublist S → P (.lst (R.map tI)) (put Ω h o')
def someW (Ω : Om) (h : Addr) (S : List (List Int)) : Nat → List D → Om → Prop := fun i acc Ω' => ∃ (o : Ob) (R : List (List Int)), Ω' = put Ω h o ∧ HandO o ∧ acc = List.map tI R ∧ R.Sublist (S.take i)
theorem g_L_some (ds Ω P) (h : F_L_some ds Ω P) : m_L_some F_L_take Ω (startD 4 ds) (endK P) := by
  obtain ⟨a, S, share, o, rfl, s1, s2, hS, ho, hO, h⟩ := h
  unfold m_L_some
  walk_at "d"
  refine lcWF (Ω1 := Ω) (src_s (d := .lst (S.map tI)) (xs := S.map tI) (fun P p => by walk_at "d"; exact p) (.inr (.inr (.inl rfl)))) (by rw [List.length_map]; omega) (someW Ω a S) ⟨o, [], (put_self ho).symm, hO, rfl, List.nil_sublist _⟩ (fun l i acc Ω' _ _ _ => keep_lst) ?_ ?_
  · rintro l i acc Ω' hl1 hl2 hin ha ⟨o', R, rfl, hO', rfl, hR⟩
    have hla : l ≠ a := fun e => by rw [e, ho] at hl1; cases hl1
    rw [List.length_map] at hin
    have e0 : S[i]? = some S[i] := List.getElem?_eq_getElem hin
    have e1 : (S.map tI).getD i .non = tI S[i] := getD_of (by rw [List.getElem?_map, e0]; rfl)
    rw [e1]
    unfold lcT
    walk_at "d"
    refine take_in hla hO' s1 (by omega) fun o2 r h1 h2 h3 => ?_
    have hln : put Ω a o2 l = none := by rw [put_ne hla]; exact hl1
    walk_at "d"
    refine ⟨fun _ => nextW_some hln ha (by omega) ⟨o2, R ++ [S[i]], rfl, h1, by rw [List.map_append]; rfl, ?_⟩, fun _ => nextW_none hln ha ⟨o2, R, rfl, h1, rfl, ?_⟩⟩
    · rw [take_succ_of e0]
      exact hR.append (List.Sublist.refl _)
    · rw [take_succ_of e0]
      exact hR.trans (List.sublist_append_left _ _)
  · rintro acc Ω' ha ⟨o', R, rfl, hO', rfl, hR⟩
    rw [List.length_map, List.take_length] at hR
    exact .now (h o' R hO' hR)
def SmallOk (c m : Int) : Prop := 1 ≤ c ∧ c ≤ 3 ∧ 2 ≤ m ∧ m ≤ 3 ∧ (c ≤ 2 ∨ m = 2)
def F_L_small_world : FD := fun ds Ω P => ∃ (h : Addr) (o : Ob), ds = [.ptr h] ∧ Ω h = some o ∧ HandO o ∧ ∀ o' c m, HandO o' → SmallOk c m → P (.lst [.int c, .int m]) (put Ω h o')
theorem g_L_small_world (ds Ω P) (h : F_L_small_world ds Ω P) : m_L_small_world F_L_take Ω (startD 2 ds) (endK P) := by
  obtain ⟨a, o, rfl, ho, hO, h⟩ := h
  unfold m_L_small_world
  walk_at "d"
  rw [← put_self ho]
  refine take_at hO (by omega) (by omega) fun o1 r h1 r0 r1 => ?_
  walk_at "d"
  refine ⟨fun e => .now (h _ _ _ h1 ⟨by omega, by omega, by omega, by omega, by omega⟩), fun e => ?_⟩
  refine take_at h1 (by omega) (by omega) fun o2 q h2 q0 q1 => ?_
  walk_at "d"
  exact .now (h _ _ _ h2 ⟨by omega, by omega, by omega, by omega, by omega⟩)
def SizesOk (sz : List Int) : Prop := 2 ≤ sz.length ∧ sz.length ≤ 3 ∧ (∀ x ∈ sz, 1 ≤ x ∧ x ≤ 3) ∧ sz.sum ≤ 6
def F_L_sizes : FD := fun ds Ω P => ∃ (h : Addr) (o : Ob), ds = [.ptr h] ∧ Ω h = some o ∧ HandO o ∧ ∀ o' sz, HandO o' → SizesOk sz → P (.lst (sz.map .int)) (put Ω h o')
theorem g_L_sizes (ds Ω P) (h : F_L_sizes ds Ω P) : m_L_sizes F_L_take Ω (startD 1 ds) (endK P) := by
  obtain ⟨a, o, rfl, ho, hO, h⟩ := h
  have five : ∀ {r : Int} {Ω : Om} {Q : DK}, 0 ≤ r → r < 5 → (∀ x : Int, 1 ≤ x → x ≤ 3 → Q (.int x) Ω) → wIx (.lst [.int 2, .int 3, .int 2, .int 3, .int 1]) (.int r) Ω Q := fun {r Ω Q} r0 r1 hQ => by
    have : r = 0 ∨ r = 1 ∨ r = 2 ∨ r = 3 ∨ r = 4 := by omega
    rcases this with rfl | rfl | rfl | rfl | rfl
    · rw [ix_l rfl]; exact hQ _ (by omega) (by omega)
    · rw [ix_l rfl]; exact hQ _ (by omega) (by omega)
    · rw [ix_l rfl]; exact hQ _ (by omega) (by omega)
    · rw [ix_l rfl]; exact hQ _ (by omega) (by omega)
    · rw [ix_l rfl]; exact hQ _ (by omega) (by omega)
  unfold m_L_sizes
  walk_at "d"
  rw [← put_self ho]
  refine take_at hO (by omega) (by omega) fun o1 r h1 r0 r1 => ?_
  walk_at "d"
  refine ⟨fun e => ?_, fun e => ?_⟩
  · refine take_at h1 (by omega) (by omega) fun o2 q h2 q0 q1 => ?_
    have : q = 0 ∨ q = 1 ∨ q = 2 ∨ q = 3 := by omega
    rcases this with rfl | rfl | rfl | rfl
    · rw [ix_l rfl]; exact .now (h _ [2, 2, 1] h2 ⟨by decide, by decide, by simp, by decide⟩)
    · rw [ix_l rfl]; exact .now (h _ [2, 1, 2] h2 ⟨by decide, by decide, by simp, by decide⟩)
    · rw [ix_l rfl]; exact .now (h _ [1, 2, 2] h2 ⟨by decide, by decide, by simp, by decide⟩)
    · rw [ix_l rfl]; exact .now (h _ [2, 1, 1] h2 ⟨by decide, by decide, by simp, by decide⟩)
  · refine take_at h1 (by omega) (by omega) fun o2 q h2 q0 q1 => five q0 q1 fun x x0 x1 => ?_
    refine take_at h2 (by omega) (by omega) fun o3 q h3 q0 q1 => five q0 q1 fun y y0 y1 => ?_
    exact .now (h _ [x, y] h3 ⟨by simp, by simp, by simp; omega, by simp; omega⟩)
def F_L_shape : FD := fun ds Ω P => ∃ s : Stp, ds = [s.d] ∧ P (.tup [.str s.kind, .int s.by_.length, .int (if s.kind = kAdds then s.cell else -1)]) Ω
theorem stp_0 {s : Stp} {Ω : Om} {P : DK} : wIx s.d (.int 0) Ω P = P (.int s.cell) Ω := ix_t rfl
theorem stp_1 {s : Stp} {Ω : Om} {P : DK} : wIx s.d (.int 1) Ω P = P (.str s.kind) Ω := ix_t rfl
theorem stp_2 {s : Stp} {Ω : Om} {P : DK} : wIx s.d (.int 2) Ω P = P (tI s.by_) Ω := ix_t rfl
theorem stp_3 {s : Stp} {Ω : Om} {P : DK} : wIx s.d (.int 3) Ω P = P (.int s.name) Ω := ix_t rfl
theorem g_L_shape (ds Ω P) (h : F_L_shape ds Ω P) : m_L_shape Ω (startD 1 ds) (endK P) := by
  obtain ⟨s, rfl, h⟩ := h
  unfold m_L_shape
  walk_at "d"
  rw [stp_1]
  walk_at "d"
  rw [stp_1, stp_1]
  refine ⟨fun e => ?_, fun e => ?_⟩
  · rw [stp_2]
    walk_at "d"
    rw [stp_0]
    rw [if_pos e] at h
    exact .now h
  · rw [stp_2]
    walk_at "d"
    rw [if_neg e] at h
    exact .now h
def F_function_shape : FD := F_L_shape
theorem g_function_shape (ds Ω P) (h : F_function_shape ds Ω P) : m_function_shape Ω (startD 2 ds) (endK P) := by
  obtain ⟨s, rfl, h⟩ := h
  unfold m_function_shape
  walk_at "d"
  rw [stp_1]
  walk_at "d"
  refine ⟨fun e => ?_, fun e => ?_⟩
  · rw [stp_0, stp_1, stp_2]
    walk_at "d"
    rw [if_pos e] at h
    exact .now h
  · rw [stp_1, stp_2]
    walk_at "d"
    rw [if_neg e] at h
    exact .now h
end
end KG
namespace KG
open L2 PySem PyProof.Rows PySem.Spec
local macro_rules | `(tactic| walk_at "d") => `(tactic| first | simp only [startD, endK, List.map_cons, List.map_nil, List.length_cons, List.length_nil, List.replicate, List.cons_append, List.nil_append, Nat.reduceAdd, Nat.reduceSub, Nat.zero_add, Nat.add_zero, Nat.reduceLeDiff,
  mWhile, mSeq, mAsg, mDrop, mRet, mRetN, mIfS, mCont, mNext, mNever, gN, gNil_eq, gCons_eq, gT_t, gT_l, gSet, mAsgG, mVar, slot, mC, mOp, mUn, mNil, mCons, mTup, mLst, mLstO, mCB, mIf, mB, mAnd, mOr, mNot, mOrV, mNotV, mYes, mNewK, mNewT, mBM, mTuF,
  wInt2, wIs, wIsN, wNeg, wInt, wAbs, mFld, Ob.d, isi_ii, isi_ib, isi_ss, isiS_t, isiS_f, isiS_l, len_t, len_f, len_l, len_q, tuple_t, tuple_f, tuple_l, eq_ii, ne_ii, eq_ss, ne_ss, add_ii, add_tt, add_ll, mul_ii, in_t, in_l, in_il, fld_cells, fld_programs, fld_modulus, fld_tables, mMeth, meth_mean, List.length_map,
  List.set_cons_zero, List.set_cons_succ, List.getElem?_cons_zero, List.getElem?_cons_succ, Option.some.injEq, exists_eq_left', exists_eq_left, exists_eq', exists_eq, D.int.injEq, D.bl.injEq, D.str.injEq, D.tup.injEq, D.lst.injEq, D.ptr.injEq, D.ty.injEq, List.cons.injEq, and_true, true_and, reduceCtorEq, false_or, or_false, false_and, and_false, exists_false, or_self,
  exists_and_left, exists_and_right, exists_const, ne_eq, not_true_eq_false, not_false_eq_true, decide_true, decide_false, Bool.false_eq_true, Bool.true_eq_false, false_implies, true_implies, forall_const, implies_true, Bool.not_true, Bool.not_false, Bool.not_eq_true', Bool.not_eq_true, Bool.not_eq_false', decide_eq_true_eq, decide_eq_false_iff_not, put_same, del_same, forall_eq', forall_eq, forall_apply_eq_imp_iff] | (try dsimp only))
/-! G12: closures. -/
section
inductive Reach (fs : List Mv) (s : List Int) : List Int → Prop
  | base : Reach fs s s
  | step {x : List Int} {f : Mv} : Reach fs s x → f ∈ fs → Reach fs s (f x)
theorem nd_len {α : Type} [DecidableEq α] : ∀ {F S : List α}, F.Nodup → (∀ x ∈ F, x ∈ S) → F.length ≤ S.length
  | [], S, _, _ => Nat.zero_le _
  | x :: F, S, nd, h => by
    obtain ⟨n1, n2⟩ := List.nodup_cons.mp nd
    have hx := h x List.mem_cons_self
    have := nd_len (S := S.erase x) n2 fun y hy => (List.mem_erase_of_ne (fun e => n1 (by rw [← e]; exact hy))).mpr (h y (List.mem_cons_of_mem _ hy))
    rw [List.length_erase_of_mem hx] at this
    have hp := List.length_pos_of_mem hx
    rw [List.length_cons]
    omega
def kF (F : List (List Int)) : List (List Key × D) := F.map fun s => (s.map Sum.inl, .bl true)
theorem kF_get {F : List (List Int)} {x : List Int} : (dget (kF F) (x.map Sum.inl)).isSome = decide (x ∈ F) := by
  unfold dget
  rw [Option.isSome_map, List.isSome_find?, Bool.eq_iff_iff, List.any_eq_true, decide_eq_true_iff]
  constructor
  · rintro ⟨kv, hm, e⟩
    obtain ⟨y, hy, rfl⟩ := List.mem_map.mp hm
    rw [← inl_inj (of_decide_eq_true e)]
    exact hy
  · intro h
    exact ⟨_, List.mem_map.mpr ⟨x, h, rfl⟩, decide_eq_true rfl⟩
theorem kF_put {F : List (List Int)} {x : List Int} (h : x ∉ F) : dput (kF F) (x.map Sum.inl) (.bl true) = kF (F ++ [x]) := by
  rw [dput_new]
  · unfold kF; rw [List.map_append]; rfl
  · intro kv hm e
    obtain ⟨t, ht, rfl⟩ := List.mem_map.mp hm
    exact h (by rw [← inl_inj e]; exact ht)
theorem kD_inl : ∀ s : List Int, (s.map (Sum.inl : Int → Key)).map kD = s.map D.int
  | [] => rfl
  | x :: s => by rw [List.map_cons, List.map_cons, kD_inl s]; rfl
theorem listK_kF {F : List (List Int)} {l : Addr} {Ω : Om} {P : DK} (h : Ω l = some (.dt (kF F))) (p : P (.lst (F.map tI)) Ω) : wListK [.ptr l] Ω P := by
  refine ⟨.ptr l, kF F, rfl, .inr ⟨l, rfl, h⟩, ?_⟩
  have e : (kF F).map (fun kv => D.tup (kv.1.map kD)) = F.map tI := by
    unfold kF
    rw [List.map_map]
    exact List.map_congr_left fun s _ => congrArg D.tup (kD_inl s)
  rw [e]
  exact p
theorem sortA_l {F : List (List Int)} {k : Nat} {b : Int} {Ω : Om} {P : DK} (h1 : 1 ≤ k) (hl : F.length < 64) (hF : ∀ s ∈ F, s.length = k ∧ TS.Bd b s) (p : ∀ L : List (List Int), L.Perm F → L.Pairwise (fun n m => TS.code b n ≤ TS.code b m) → P (.lst (L.map tI)) Ω) : wSortA [.lst (F.map tI)] Ω P :=
  ⟨k, b, h1, _, F, rfl, .inl rfl, hl, hF, p⟩
def cuW (S : List (List Int)) (fs : List Mv) (s : List Int) (Ω : Om) (l1 l2 : Addr) : Nat → Om → Dl → Prop := fun n Ω' Δ' => ∃ (F Wt : List (List Int)) (x4 x5 : Option D), Ω' = put (put Ω l1 (.dt (kF F))) l2 (.lst (Wt.map tI)) ∧ F.Nodup ∧ (∀ x ∈ F, Reach fs s x) ∧ (∀ x ∈ Wt, Reach fs s x) ∧ (∀ x ∈ F, ∀ f ∈ fs, f x ∈ F ∨ f x ∈ Wt) ∧ (s ∈ F ∨ s ∈ Wt) ∧
    n = (S.length - F.length) * (fs.length + 1) + Wt.length ∧ n ≤ 64 * 101 + 1 ∧ Δ' = [some (.lst (fs.map (mvD S))), some (.tup [tI s]), some (.ptr l1), some (.ptr l2), x4, x5]
def F_closed_under : FD := fun ds Ω P => ∃ (S : List (List Int)) (fs : List Mv) (s : List Int) (k : Nat) (b : Int), ds = [.lst (fs.map (mvD S)), .tup [tI s]] ∧ S.Nodup ∧ S.length < 64 ∧ 1 ≤ k ∧ (∀ x ∈ S, x.length = k ∧ TS.Bd b x) ∧ fs.length ≤ 100 ∧ s ∈ S ∧ (∀ f ∈ fs, ∀ x ∈ S, f x ∈ S) ∧
  ∀ R : Rule, R.Nodup → (∀ x, x ∈ R ↔ Reach fs s x) → R.Pairwise (fun n m => TS.code b n ≤ TS.code b m) → P (ruleD R) Ω
theorem g_closed_under (ds Ω P) (h : F_closed_under ds Ω P) : m_closed_under Ω (startD 6 ds) (endK P) := by
  obtain ⟨S, fs, s, k, b, rfl, nd, hS, hk, hb, hfs, hs, hc, h⟩ := h
  have rS : ∀ x, Reach fs s x → x ∈ S := fun x hx => by
    induction hx with
    | base => exact hs
    | step _ hf ih => exact hc _ hf _ ih
  unfold m_closed_under
  walk_at "d"
  intro l1 hl1
  refine listO_d (xs := [tI s]) (.inl rfl) fun l2 hl2 => ?_
  obtain ⟨h21, hl2⟩ := put_none.mp hl2
  refine ⟨cuW S fs s Ω l1 l2, ⟨_, show cuW S fs s Ω l1 l2 ((S.length - 0) * (fs.length + 1) + 1) _ _ from ⟨[], [s], none, none, rfl, by simp, by simp, by simp; exact .base, by simp, by simp, rfl, ?_, rfl⟩⟩, ?_⟩
  · have : (S.length - 0) * (fs.length + 1) ≤ 64 * 101 := Nat.mul_le_mul (by omega) (by omega)
    simp at this ⊢
    omega
  rintro n Ω' Δ' ⟨F, Wt, x4, x5, rfl, ndF, rF, rW, cl, hs0, hn, hn2, rfl⟩
  have o2 : (put (put Ω l1 (.dt (kF F))) l2 (.lst (Wt.map tI))) l2 = some (.lst (Wt.map tI)) := put_same
  have o1 : (put (put Ω l1 (.dt (kF F))) l2 (.lst (Wt.map tI))) l1 = some (.dt (kF F)) := by rw [put_ne (Ne.symm h21)]; exact put_same
  unfold mTruL
  walk_at "d"
  refine ⟨Wt.map tI, .inr (.inr ⟨l2, rfl, o2⟩), fun he => ?_, fun he => ?_⟩
  · have hW0 : Wt = [] := by
      cases Wt with
      | nil => rfl
      | cons a b => simp at he
    subst hW0
    refine listK_kF o1 (sortA_l hk (by have := nd_len ndF (fun x hx => rS x (rF x hx)); omega) (fun x hx => hb x (rS x (rF x hx))) fun L hp hpw => ?_)
    rw [tuple_l]
    have key : ∀ x, x ∈ L ↔ Reach fs s x := fun x => by
      rw [hp.mem_iff]
      refine ⟨rF x, fun hx => ?_⟩
      induction hx with
      | base => exact hs0.resolve_right (by simp)
      | step _ hf ih => exact (cl _ ih _ hf).resolve_right (by simp)
    refine .sub ?_ (h L (hp.nodup_iff.mpr ndF) key hpw)
    exact (Sub.put hl1).putR hl2
  · obtain ⟨W', x, rfl⟩ : ∃ W' x, Wt = W' ++ [x] := by
      rcases List.eq_nil_or_concat Wt with e | ⟨q, x, e⟩
      · rw [e] at he; simp at he
      · exact ⟨q, x, by rw [e, List.concat_eq_append]⟩
    have hx := rW x (by simp)
    refine ⟨⟨_, .inr (.inr ⟨l2, rfl, o2⟩)⟩, l2, _, tI x, rfl, rfl, o2, by simp, ?_⟩
    rw [put_put, show ((W' ++ [x]).map tI).dropLast = W'.map tI by simp]
    have o2' : (put (put Ω l1 (.dt (kF F))) l2 (.lst (W'.map tI))) l2 = some (.lst (W'.map tI)) := put_same
    have o1' : (put (put Ω l1 (.dt (kF F))) l2 (.lst (W'.map tI))) l1 = some (.dt (kF F)) := by rw [put_ne (Ne.symm h21)]; exact put_same
    rw [List.length_append, List.length_singleton] at hn
    walk_at "d"
    rw [in_tp o1', kF_get]
    walk_at "d"
    refine ⟨fun hxF => ?_, fun hxF => ?_⟩
    · have hxF : x ∉ F := by simpa using hxF
      have ndF' : (F ++ [x]).Nodup := by
        rw [List.nodup_append]
        refine ⟨ndF, by simp, fun a ha b hb e => ?_⟩
        rw [List.mem_singleton] at hb
        subst hb e
        exact hxF ha
      have hFl : F.length + 1 ≤ S.length := by
        have := nd_len ndF' (fun y hy => rS y (by
          rcases List.mem_append.mp hy with hy | hy
          · exact rF y hy
          · rw [List.mem_singleton] at hy; rw [hy]; exact hx))
        rw [List.length_append] at this
        exact this
      refine set_t o1' (by unfold kF; rw [List.length_map]; omega) ?_
      rw [kF_put hxF, put_comm h21, put_put]
      refine forL (Ω1 := put (put Ω l1 (.dt (kF (F ++ [x])))) l2 (.lst (W'.map tI))) (xs := fs.map (mvD S)) (fun P p => by walk_at "d"; exact p) (fun i Ω' Δ' => Ω' = put (put Ω l1 (.dt (kF (F ++ [x])))) l2 (.lst ((W' ++ (fs.take i).map fun f => f x).map tI)) ∧ ∃ x5, Δ' = [some (.lst (fs.map (mvD S))), some (.tup [tI s]), some (.ptr l1), some (.ptr l2), some (tI x), x5]) ⟨by simp, _, rfl⟩ ?_ ?_
      · rintro i y Ω' Δ' hi ⟨rfl, x5', rfl⟩
        obtain ⟨f, hf, rfl⟩ := get_map hi
        walk_at "d"
        rw [ix_mv (rS x hx)]
        refine app_p put_same (by rw [List.length_map, List.length_append, List.length_map, List.length_take]; omega) ?_
        rw [put_put, take_succ_of hf]
        simp
      · rintro Ω' Δ' ⟨rfl, x5', rfl⟩
        rw [List.length_map, List.take_length]
        have e1 : (S.length - F.length) * (fs.length + 1) = (S.length - (F.length + 1)) * (fs.length + 1) + (fs.length + 1) := by
          rw [← Nat.succ_mul]
          congr 1
          omega
        refine ⟨(S.length - (F ++ [x]).length) * (fs.length + 1) + (W' ++ fs.map fun f => f x).length, ?_, show cuW S fs s Ω l1 l2 _ _ _ from ⟨F ++ [x], W' ++ fs.map (fun f => f x), _, _, rfl, ndF', ?_, ?_, ?_, ?_, rfl, ?_, rfl⟩⟩
        · rw [List.length_append, List.length_append, List.length_map, List.length_singleton]
          omega
        · intro y hy
          rcases List.mem_append.mp hy with hy | hy
          · exact rF y hy
          · rw [List.mem_singleton] at hy; rw [hy]; exact hx
        · intro y hy
          rcases List.mem_append.mp hy with hy | hy
          · exact rW y (List.mem_append_left _ hy)
          · obtain ⟨f, hf, rfl⟩ := List.mem_map.mp hy
            exact .step hx hf
        · intro y hy f hf
          rcases List.mem_append.mp hy with hy | hy
          · rcases cl y hy f hf with h1 | h1
            · exact .inl (List.mem_append_left _ h1)
            · rcases List.mem_append.mp h1 with h1 | h1
              · exact .inr (List.mem_append_left _ h1)
              · exact .inl (List.mem_append_right _ h1)
          · rw [List.mem_singleton] at hy
            rw [hy]
            exact .inr (List.mem_append_right _ (List.mem_map.mpr ⟨f, hf, rfl⟩))
        · rcases hs0 with h1 | h1
          · exact .inl (List.mem_append_left _ h1)
          · rcases List.mem_append.mp h1 with h1 | h1
            · exact .inr (List.mem_append_left _ h1)
            · exact .inl (List.mem_append_right _ h1)
        · rw [List.length_append, List.length_append, List.length_map, List.length_singleton]
          omega
    · have hxF : x ∈ F := by simpa using hxF
      refine ⟨(S.length - F.length) * (fs.length + 1) + W'.length, by omega, show cuW S fs s Ω l1 l2 _ _ _ from ⟨F, W', _, _, rfl, ndF, rF, fun y hy => rW y (List.mem_append_left _ hy), fun y hy f hf => ?_, ?_, rfl, by omega, rfl⟩⟩
      · rcases cl y hy f hf with h1 | h1
        · exact .inl h1
        · rcases List.mem_append.mp h1 with h1 | h1
          · exact .inr h1
          · rw [List.mem_singleton] at h1; rw [h1]; exact .inl hxF
      · rcases hs0 with h1 | h1
        · exact .inl h1
        · rcases List.mem_append.mp h1 with h1 | h1
          · exact .inr h1
          · rw [List.mem_singleton] at h1; rw [h1]; exact .inl hxF
end
end KG
namespace KG
open L2 PySem PyProof.Rows PySem.Spec
local macro_rules | `(tactic| walk_at "d") => `(tactic| first | simp only [startD, endK, List.map_cons, List.map_nil, List.length_cons, List.length_nil, List.replicate, List.cons_append, List.nil_append, Nat.reduceAdd, Nat.reduceSub, Nat.zero_add, Nat.add_zero, Nat.reduceLeDiff,
  mSetd, mSeq, mAsg, mDrop, mRet, mRetN, mIfS, mCont, mNext, mNever, gN, gNil_eq, gCons_eq, gT_t, gT_l, gSet, mAsgG, mVar, slot, mC, mOp, mUn, mNil, mCons, mTup, mLst, mLstO, mCB, mIf, mB, mAnd, mOr, mNot, mOrV, mNotV, mYes, mNewK, mNewT, mBM, mTuF,
  wInt2, wIs, wIsN, wNeg, wInt, wAbs, mFld, Ob.d, isi_ii, isi_ib, isi_ss, isiS_t, isiS_f, isiS_l, len_t, len_f, len_l, len_q, tuple_t, tuple_f, tuple_l, eq_ii, ne_ii, eq_ss, ne_ss, add_ii, add_tt, add_ll, mul_ii, in_t, in_l, in_il, fld_cells, fld_programs, fld_modulus, fld_tables, mMeth, meth_mean, List.length_map,
  List.set_cons_zero, List.set_cons_succ, List.getElem?_cons_zero, List.getElem?_cons_succ, Option.some.injEq, exists_eq_left', exists_eq_left, exists_eq', exists_eq, D.int.injEq, D.bl.injEq, D.str.injEq, D.tup.injEq, D.lst.injEq, D.ptr.injEq, D.ty.injEq, List.cons.injEq, and_true, true_and, reduceCtorEq, false_or, or_false, false_and, and_false, exists_false, or_self,
  exists_and_left, exists_and_right, exists_const, ne_eq, not_true_eq_false, not_false_eq_true, decide_true, decide_false, Bool.false_eq_true, Bool.true_eq_false, false_implies, true_implies, forall_const, implies_true, Bool.not_true, Bool.not_false, Bool.not_eq_true', Bool.not_eq_true, Bool.not_eq_false', decide_eq_true_eq, decide_eq_false_iff_not, put_same, del_same, forall_eq', forall_eq, forall_apply_eq_imp_iff] | (try dsimp only))
/-! G13: the program's checks of lots and tables. -/
section
def F_is_ascending : FD := fun ds Ω P => ∃ (bs : List Int) (hi : Int), ds = [tI bs, .int hi] ∧ bs.Pairwise (· < ·) ∧ (∀ b ∈ bs, 0 ≤ b ∧ b ≤ hi) ∧ P (.bl true) Ω
def ascW (bs : List Int) (hi : Int) (Ω : Om) : Nat → Om → Dl → Prop := fun k Ω' Δ' => Ω' = Ω ∧ ∃ (last : Int) (x : Option D), (∀ b ∈ bs.drop k, last < b) ∧ Δ' = [some (tI bs), some (.int hi), some (.int last), x]
theorem g_is_ascending (ds Ω P) (h : F_is_ascending ds Ω P) : m_is_ascending F_is_sequence F_is_whole Ω (startD 4 ds) (endK P) := by
  obtain ⟨bs, hi, rfl, hp, hb, h⟩ := h
  unfold m_is_ascending
  walk_at "d"
  refine ⟨_, _, rfl, .inl rfl, ?_⟩
  walk_at "d"
  refine forT (Ω1 := Ω) (xs := bs.map .int) (fun P p => by walk_at "d"; exact p) (ascW bs hi Ω) ⟨rfl, -1, none, fun b hm => by have := (hb b (List.mem_of_mem_drop hm)).1; omega, rfl⟩ ?_ ?_
  · rintro k x Ω' Δ' hk ⟨rfl, last, x3, hl, rfl⟩
    obtain ⟨n, hn, rfl⟩ := get_map hk
    have hd : bs.drop k = n :: bs.drop (k + 1) := by
      obtain ⟨h1, h2⟩ := List.getElem?_eq_some_iff.mp hn
      rw [List.drop_eq_getElem_cons h1, h2]
    have h1 := hl n (by rw [hd]; exact List.mem_cons_self)
    have h2 := hb n (List.mem_of_getElem? hn)
    have hp2 := hp.drop (i := k)
    rw [hd] at hp2
    walk_at "d"
    refine ⟨n, last + 1, hi, rfl, ?_⟩
    walk_at "d"
    refine ⟨fun z => absurd (by omega) z, fun _ => show ascW bs hi Ω' (k + 1) _ _ from ⟨rfl, n, _, fun b hm => List.rel_of_pairwise_cons hp2 hm, rfl⟩⟩
  · rintro Ω' Δ' ⟨rfl, last, x3, hl, rfl⟩
    walk_at "d"
    exact .now h
def F_check_step : FD := fun ds Ω P => ∃ (W : Wld) (pr : List Stp) (n : Nat) (s : Stp), ds = [s.d, .int W.c, .int n] ∧ StpOk W pr n s ∧ P s.d Ω
theorem g_check_step (ds Ω P) (h : F_check_step ds Ω P) : m_check_step F_is_sequence F_is_whole F_last_pocket F_is_ascending Ω (startD 7 ds) (endK P) := by
  obtain ⟨W, pr, n, s, rfl, ok, h⟩ := h
  have hk : s.kind ∈ kindL := by
    rcases ok.kind with e | e | e <;> rw [e] <;> decide +kernel
  unfold m_check_step
  unfold Stp.d at h ⊢
  walk_at "d"
  refine ⟨_, _, rfl, .inl rfl, ?_⟩
  walk_at "d"
  refine ⟨fun z => absurd rfl z, fun _ => ⟨_, 0, _, rfl, ?_⟩⟩
  walk_at "d"
  refine ⟨fun z => absurd (by have := ok.cell; omega) z, fun _ => ⟨s.kind, rfl, rfl, hk, ?_⟩⟩
  walk_at "d"
  refine ⟨s.kind, n, rfl, s.by_, _, rfl, ok.asc, ok.rng, ?_⟩
  walk_at "d"
  refine ⟨fun hkept => ⟨_, _, _, rfl, ?_⟩, fun hne => ?_⟩
  · have hn := ok.kept hkept
    walk_at "d"
    refine ⟨fun z => absurd (by omega) z, fun _ => ⟨fun z => absurd hkept z, fun _ => .now h⟩⟩
  · obtain ⟨h0, h1, _⟩ := ok.tab hne
    refine ⟨fun _ => ⟨_, _, _, rfl, ?_⟩, fun z => absurd z hne⟩
    walk_at "d"
    exact ⟨fun z => absurd ⟨h0, h1⟩ z, fun _ => .now h⟩
def F_goes_by_adds : FD := fun ds Ω P => ∃ (W : Wld) (pr : List Stp), ds = [progD pr] ∧ (∀ i s, pr[i]? = some s → StpOk W pr i s) ∧ P (.bl false) Ω
theorem g_goes_by_adds (ds Ω P) (h : F_goes_by_adds ds Ω P) : m_goes_by_adds Ω (startD 3 ds) (endK P) := by
  obtain ⟨W, pr, rfl, ok, h⟩ := h
  unfold m_goes_by_adds
  walk_at "d"
  refine forT (Ω1 := Ω) (xs := pr.map Stp.d) (fun P p => by walk_at "d"; exact p) (fun k Ω' Δ' => Ω' = Ω ∧ ∃ x y, Δ' = [some (progD pr), x, y]) ⟨rfl, none, none, rfl⟩ ?_ ?_
  · rintro k x Ω' Δ' hk ⟨rfl, x1, x2, rfl⟩
    obtain ⟨s, hs, rfl⟩ := get_map hk
    have oks := ok k s hs
    have hkl := (List.getElem?_eq_some_iff.mp hs).1
    walk_at "d"
    refine forT (Ω1 := Ω') (xs := s.by_.map .int) (fun P p => by walk_at "d"; rw [stp_2]; exact p) (fun k Ω2 Δ' => Ω2 = Ω' ∧ ∃ x y, Δ' = [some (progD pr), x, y]) ⟨rfl, _, _, rfl⟩ ?_ ?_
    · rintro j x Ω2 Δ' hj ⟨rfl, x1, x2, rfl⟩
      obtain ⟨b, hb, rfl⟩ := get_map hj
      have hbm := List.mem_of_getElem? hb
      have hr := oks.rng b hbm
      have hbl : b.toNat < pr.length := by
        have := hr.2
        unfold lastP at this
        split at this
        · omega
        · split at this <;> omega
      have e0 : pr[b.toNat]? = some pr[b.toNat] := List.getElem?_eq_getElem hbl
      have hpl := oks.plain b hbm _ e0
      walk_at "d"
      rw [ix_t (atI_of hr.1 (show (pr.map Stp.d)[b.toNat]? = some (pr[b.toNat]).d by rw [List.getElem?_map, e0]; rfl)), stp_1]
      walk_at "d"
      exact fun z => absurd z hpl
    · rintro Ω2 Δ' ⟨rfl, x1, x2, rfl⟩
      exact ⟨rfl, _, _, rfl⟩
  · rintro Ω' Δ' ⟨rfl, x1, x2, rfl⟩
    walk_at "d"
    exact .now h
end
end KG
namespace KG
open L2 PySem PyProof.Rows PySem.Spec
local macro_rules | `(tactic| walk_at "d") => `(tactic| first | simp only [startD, endK, List.map_cons, List.map_nil, List.length_cons, List.length_nil, List.replicate, List.cons_append, List.nil_append, Nat.reduceAdd, Nat.reduceSub, Nat.zero_add, Nat.add_zero, Nat.reduceLeDiff,
  mSetd, mSeq, mAsg, mDrop, mRet, mRetN, mIfS, mCont, mNext, mNever, gN, gNil_eq, gCons_eq, gT_t, gT_l, gSet, mAsgG, mVar, slot, mC, mOp, mUn, mNil, mCons, mTup, mLst, mLstO, mCB, mIf, mB, mAnd, mOr, mNot, mOrV, mNotV, mYes, mNewK, mNewT, mBM, mTuF,
  wInt2, wIs, wIsN, wNeg, wInt, wAbs, mFld, Ob.d, isi_ii, isi_ib, isi_ss, isiS_t, isiS_f, isiS_l, len_t, len_f, len_l, len_q, tuple_t, tuple_f, tuple_l, eq_ii, ne_ii, eq_ss, ne_ss, add_ii, add_tt, add_ll, mul_ii, in_t, in_l, in_il, fld_cells, fld_programs, fld_modulus, fld_tables, mMeth, meth_mean, List.length_map,
  List.set_cons_zero, List.set_cons_succ, List.getElem?_cons_zero, List.getElem?_cons_succ, Option.some.injEq, exists_eq_left', exists_eq_left, exists_eq', exists_eq, D.int.injEq, D.bl.injEq, D.str.injEq, D.tup.injEq, D.lst.injEq, D.ptr.injEq, D.ty.injEq, List.cons.injEq, and_true, true_and, reduceCtorEq, false_or, or_false, false_and, and_false, exists_false, or_self,
  exists_and_left, exists_and_right, exists_const, ne_eq, not_true_eq_false, not_false_eq_true, decide_true, decide_false, Bool.false_eq_true, Bool.true_eq_false, false_implies, true_implies, forall_const, implies_true, Bool.not_true, Bool.not_false, Bool.not_eq_true', Bool.not_eq_true, Bool.not_eq_false', decide_eq_true_eq, decide_eq_false_iff_not, put_same, del_same, forall_eq', forall_eq, forall_apply_eq_imp_iff] | (try dsimp only))
/-! G14: names alike, tables. -/
section
def shapeD (s : Stp) : D := .tup [.str s.kind, .int s.by_.length, .int (if s.kind = kAdds then s.cell else -1)]
theorem ok_shape {s : Stp} (h : s.kind ∈ kindL) : okD (shapeD s) = true := by
  have hk := kinds_ok s.kind h
  unfold okD shapeD plainD plainDs plainDs plainDs plainDs plainD
  simp [plainD, toPy, toPys, SeqAt.shaped, PyData.canLay0, PyData.canLayAll0, PyData.depth, PyData.depthAll, hk]
theorem beq_refl {d : D} (h : okD d = true) : beqD d d = true := by
  obtain ⟨_, h2⟩ := okD_s h
  unfold beqD
  exact PySem.SeqAt.eqv_refl _ (SeqAt.canLay_of_shaped h2)
theorem ne_same {d : D} {Ω : Om} {P : DK} (h : okD d = true) (p : P (.bl false) Ω) : wNe d d Ω P := ⟨beqD d d, .inr (.inr ⟨h, h, rfl⟩), by rw [beq_refl h]; exact p⟩
theorem dget_app {κ : Type} [DecidableEq κ] {kvs : List (κ × D)} {k k' : κ} {d : D} : dget (kvs ++ [(k, d)]) k' = match dget kvs k' with | some x => some x | none => if k = k' then some d else none := by
  unfold dget
  rw [List.find?_append]
  cases e : kvs.find? fun kv => decide (kv.1 = k') with
  | some x => rfl
  | none =>
    by_cases h : k = k'
    · simp [h]
    · simp [h]
theorem dget_none {κ : Type} [DecidableEq κ] {kvs : List (κ × D)} {k : κ} (h : dget kvs k = none) : ∀ kv ∈ kvs, kv.1 ≠ k := by
  unfold dget at h
  rw [Option.map_eq_none_iff, List.find?_eq_none] at h
  intro kv hm e
  exact h kv hm (decide_eq_true e)
def F_has_unlike_names : FD := fun ds Ω P => ∃ W : Wld, ds = [progsD W.ps] ∧ Wd W ∧ P (.bl false) Ω
def huW (W : Wld) (Ω : Om) (l : Addr) (n : Nat) (Ω' : Om) : Prop := ∃ kvs : List (Key × D), Ω' = put Ω l (.dk kvs) ∧ kvs.length ≤ n ∧ ∀ (i : Int) d, dget kvs (.inl i) = some d → ∃ p ∈ W.ps, ∃ s ∈ p, s.kind ≠ kKept ∧ s.name = i ∧ d = shapeD s
theorem g_has_unlike_names (ds Ω P) (h : F_has_unlike_names ds Ω P) : m_has_unlike_names F_function_shape Ω (startD 5 ds) (endK P) := by
  obtain ⟨W, rfl, wd, h⟩ := h
  unfold m_has_unlike_names
  walk_at "d"
  intro l hl
  refine forT (Ω1 := put Ω l (.dk [])) (xs := W.ps.map progD) (fun P p => by walk_at "d"; exact p) (fun k Ω' Δ' => huW W Ω l (4 * k) Ω' ∧ ∃ x2 x3 x4, Δ' = [some (progsD W.ps), some (.ptr l), x2, x3, x4]) ⟨⟨[], rfl, by simp, fun i d e => by simp [dget] at e⟩, none, none, none, rfl⟩ ?_ ?_
  · rintro k x Ω' Δ' hk ⟨hW, x2, x3, x4, rfl⟩
    obtain ⟨pr, hpr, rfl⟩ := get_map hk
    have hmem := List.mem_of_getElem? hpr
    have hkl := (List.getElem?_eq_some_iff.mp hpr).1
    have hpl := wd.len pr hmem
    have hmany := wd.many
    walk_at "d"
    refine forT (Ω1 := Ω') (xs := pr.map Stp.d) (fun P p => by walk_at "d"; exact p) (fun j Ω2 Δ' => huW W Ω l (4 * k + j) Ω2 ∧ ∃ x2 x3 x4, Δ' = [some (progsD W.ps), some (.ptr l), x2, x3, x4]) ⟨hW, _, _, _, rfl⟩ ?_ ?_
    · rintro j x Ω2 Δ' hj ⟨⟨kvs, rfl, hlen, hkv⟩, x2, x3, x4, rfl⟩
      obtain ⟨s, hs, rfl⟩ := get_map hj
      have hsm := List.mem_of_getElem? hs
      have hjl := (List.getElem?_eq_some_iff.mp hs).1
      have ok := wd.step pr hmem j s hs
      have hkk : s.kind ∈ kindL := by rcases ok.kind with e | e | e <;> rw [e] <;> decide +kernel
      walk_at "d"
      rw [stp_1]
      walk_at "d"
      refine ⟨fun hne => ⟨s, rfl, ⟨kvs, put_same⟩, ?_⟩, fun hkept => ?_⟩
      · rw [stp_3]
        refine ⟨kvs, put_same, .inl s.name, rfl, by omega, fun u hu => ?_, fun hn => ?_⟩
        · obtain ⟨q, hq, r, hr, hrk, hrn, rfl⟩ := hkv _ _ hu
          have e := wd.shape q hq r hr pr hmem s hsm hrk hne hrn
          have e2 : shapeD r = shapeD s := by
            unfold shapeS at e
            unfold shapeD
            simp only [Prod.mk.injEq] at e
            obtain ⟨a1, a2, a3⟩ := e
            rw [a2, a3, a1]
          rw [e2]
          refine ne_same (ok_shape hkk) ⟨false, rfl, nofun, fun _ => ⟨kvs, rfl, by omega, hkv⟩⟩
        · refine ne_same (ok_shape hkk) ⟨false, rfl, nofun, fun _ => ?_⟩
          rw [put_put, dput_new (dget_none hn)]
          refine ⟨_, rfl, by rw [List.length_append]; simp; omega, fun i d e => ?_⟩
          rw [dget_app] at e
          cases e2 : dget kvs (.inl i) with
          | some y =>
            rw [e2] at e
            cases e
            exact hkv i _ e2
          | none =>
            rw [e2] at e
            by_cases hi : s.name = i
            · subst hi
              simp at e
              exact ⟨pr, hmem, s, hsm, hne, rfl, e.symm⟩
            · have : ¬ ((Sum.inl s.name : Key) = Sum.inl i) := fun z => hi (by simpa using z)
              simp [this] at e
      · exact ⟨kvs, rfl, by omega, hkv⟩
    · rintro Ω2 Δ' ⟨⟨kvs, rfl, hlen, hkv⟩, x2, x3, x4, rfl⟩
      rw [List.length_map] at hlen
      first
        | exact ⟨⟨kvs, rfl, by omega, hkv⟩, _, _, _, rfl⟩
        | exact ⟨kvs, rfl, by omega, hkv⟩
  · rintro Ω' Δ' ⟨⟨kvs, rfl, hlen, hkv⟩, x2, x3, x4, rfl⟩
    walk_at "d"
    exact .sub (Sub.put hl) h
end
end KG
namespace KG
open L2 PySem PyProof.Rows PySem.Spec
local macro_rules | `(tactic| walk_at "d") => `(tactic| first | simp only [startD, endK, List.map_cons, List.map_nil, List.length_cons, List.length_nil, List.replicate, List.cons_append, List.nil_append, Nat.reduceAdd, Nat.reduceSub, Nat.zero_add, Nat.add_zero, Nat.reduceLeDiff,
  mSetF, mSetd, mSeq, mAsg, mDrop, mRet, mRetN, mIfS, mCont, mNext, mNever, gN, gNil_eq, gCons_eq, gT_t, gT_l, gSet, mAsgG, mVar, slot, mC, mOp, mUn, mNil, mCons, mTup, mLst, mLstO, mCB, mIf, mB, mAnd, mOr, mNot, mOrV, mNotV, mYes, mNewK, mNewT, mBM, mTuF,
  wInt2, wIs, wIsN, wNeg, wInt, wAbs, mFld, Ob.d, isi_ii, isi_ib, isi_ss, isiS_t, isiS_f, isiS_l, len_t, len_f, len_l, len_q, tuple_t, tuple_f, tuple_l, eq_ii, ne_ii, eq_ss, ne_ss, add_ii, add_tt, add_ll, mul_ii, in_t, in_l, in_il, fld_cells, fld_programs, fld_modulus, fld_tables, mMeth, meth_mean, List.length_map,
  List.set_cons_zero, List.set_cons_succ, List.getElem?_cons_zero, List.getElem?_cons_succ, Option.some.injEq, exists_eq_left', exists_eq_left, exists_eq', exists_eq, D.int.injEq, D.bl.injEq, D.str.injEq, D.tup.injEq, D.lst.injEq, D.ptr.injEq, D.ty.injEq, List.cons.injEq, and_true, true_and, reduceCtorEq, false_or, or_false, false_and, and_false, exists_false, or_self,
  exists_and_left, exists_and_right, exists_const, ne_eq, not_true_eq_false, not_false_eq_true, decide_true, decide_false, Bool.false_eq_true, Bool.true_eq_false, false_implies, true_implies, forall_const, implies_true, Bool.not_true, Bool.not_false, Bool.not_eq_true', Bool.not_eq_true, Bool.not_eq_false', decide_eq_true_eq, decide_eq_false_iff_not, put_same, del_same, forall_eq', forall_eq, forall_apply_eq_imp_iff] | (try dsimp only))
/-! G15: tables, the makers of meanings and lots. -/
section
def F_checked_table : FD := fun ds Ω P => ∃ (m : Int) (t : List Int) (k : Nat), ds = [.int m, tI t] ∧ 2 ≤ m ∧ m ≤ 3 ∧ k < 5 ∧ TabOk m t k ∧ P (tI t) Ω
theorem g_checked_table (ds Ω P) (h : F_checked_table ds Ω P) : m_checked_table F_power_of F_is_whole Ω (startD 5 ds) (endK P) := by
  obtain ⟨m, t, k, rfl, m0, m1, hk, ok, h⟩ := h
  unfold m_checked_table
  walk_at "d"
  refine lcMapR (n := 5) (e := fun i => .int (m ^ i.toNat)) (Ω1 := Ω) (src_r1 5 (fun P p => by walk_at "d"; exact p) (by omega) (by omega)) (by omega) (fun _ => trivial) ?_ ?_
  · intro l acc x x0 x1 hl R hR
    walk_at "d"
    exact ⟨m, x, rfl, by omega, by omega, by omega, by omega, hR⟩
  · have e : (rgL 5).map (fun i => D.int (m ^ i.toNat)) = ((rgL 5).map fun i => m ^ i.toNat).map D.int := by rw [List.map_map]; rfl
    rw [e]
    walk_at "d"
    have hin : (t.length : Int) ∈ (rgL 5).map fun i => m ^ i.toNat := by
      rw [ok.1]
      refine List.mem_map.mpr ⟨k, ?_, by rw [Int.toNat_natCast]⟩
      unfold rgL
      exact List.mem_map.mpr ⟨k, List.mem_range.mpr (by simpa using hk), rfl⟩
    rw [decide_eq_true hin]
    refine ⟨by simp, fun _ => ?_⟩
    refine forT (Ω1 := Ω) (xs := t.map .int) (fun P p => by walk_at "d"; exact p) (fun i Ω' Δ' => Ω' = Ω ∧ ∃ x2 x3, Δ' = [some (.int m), some (tI t), x2, x3, none]) ⟨rfl, _, _, rfl⟩ ?_ ?_
    · rintro i x Ω' Δ' hi ⟨rfl, x2, x3, rfl⟩
      obtain ⟨w, hw, rfl⟩ := get_map hi
      have hw := ok.2 w (List.mem_of_getElem? hw)
      walk_at "d"
      refine ⟨_, _, _, rfl, ?_⟩
      walk_at "d"
      exact fun z => absurd (by omega) z
    · rintro Ω' Δ' ⟨rfl, x2, x3, rfl⟩
      walk_at "d"
      exact .now h
def F_checked_name : FD := fun ds Ω P => ∃ (q : Int × List Int) (l : Addr) (kvs : List (Key × D)), ds = [pairD q, .ptr l] ∧ Ω l = some (.dk kvs) ∧ dget kvs (.inl q.1) = none ∧ 0 ≤ q.1 ∧ q.1 ≤ 99 ∧ P (.int q.1) Ω
theorem pair_0 {q : Int × List Int} {Ω : Om} {P : DK} : wIx (pairD q) (.int 0) Ω P = P (.int q.1) Ω := ix_t rfl
theorem pair_1 {q : Int × List Int} {Ω : Om} {P : DK} : wIx (pairD q) (.int 1) Ω P = P (tI q.2) Ω := ix_t rfl
theorem g_checked_name (ds Ω P) (h : F_checked_name ds Ω P) : m_checked_name F_is_whole Ω (startD 3 ds) (endK P) := by
  obtain ⟨q, l, kvs, rfl, ho, hn, h0, h1, h⟩ := h
  unfold m_checked_name
  walk_at "d"
  refine ⟨fun z => absurd rfl z, fun _ => ?_⟩
  rw [pair_0]
  walk_at "d"
  refine ⟨_, _, _, rfl, ?_⟩
  walk_at "d"
  refine ⟨fun z => absurd ⟨h0, h1⟩ z, fun _ => ?_⟩
  rw [in_kp ho, hn]
  exact ⟨false, rfl, nofun, fun _ => .now h⟩
theorem ix_dkp {kvs : List (Key × D)} {l : Addr} {i : Int} {d : D} {Ω : Om} {P : DK} (ho : Ω l = some (.dk kvs)) (h : dget kvs (.inl i) = some d) (p : P d Ω) : wIx (.ptr l) (.int i) Ω P := ⟨d, .inr ⟨l, _, rfl, ho, .inr (.inl ⟨kvs, .inl i, rfl, rfl, h⟩)⟩, p⟩
def tbK (tb : List (Int × List Int)) : List (Key × D) := tb.map fun p => (.inl p.1, tI p.2)
structure TbOk (m : Int) (tb : List (Int × List Int)) : Prop where
  nd : (tb.map (·.1)).Nodup
  tabs : ∀ q ∈ tb, 0 ≤ q.1 ∧ q.1 ≤ 99 ∧ ∃ k, k < 5 ∧ TabOk m q.2 k
  few : tb.length ≤ 20
theorem look_mem {tb : List (Int × List Int)} (nd : (tb.map (·.1)).Nodup) {q : Int × List Int} (h : q ∈ tb) : look tb q.1 = some q.2 := by
  induction tb with
  | nil => cases h
  | cons p tb ih =>
    rw [List.map_cons, List.nodup_cons] at nd
    unfold look
    rw [List.find?_cons]
    rcases List.mem_cons.mp h with rfl | h
    · simp
    · have : p.1 ≠ q.1 := fun e => nd.1 (List.mem_map.mpr ⟨q, h, e.symm⟩)
      simp only [this, decide_false]
      exact ih nd.2 h
theorem lcMapC {α : Type} {C : List α → Prop} {mi : MI} {j : Nat} {me : ME} {Ω Ω1 : Om} {Δ : Dl} {P : DK} {it e : α → D} (hi : ∀ Q : Nat → (Nat → D) → (Om → Prop) → Om → Prop, (∀ xs, C xs → Q (xs.map it).length (fun i => (xs.map it).getD i .non) (keepD (.lst (xs.map it)) (xs.map it)) Ω1) → mi Ω Δ Q) (hn : ∀ xs, C xs → xs.length ≤ 99999)
    (hs : ∀ xs, C xs → ∀ l acc x, x ∈ xs → Ω1 l = none → ∀ R : DK, R (e x) (put Ω1 l (.lst acc)) → me (put Ω1 l (.lst acc)) (Δ.set j (some (it x))) R) (wf : ∀ xs, C xs → P (.lst (xs.map e)) Ω1) : mFrz (mLc mi j mYes me) Ω Δ P :=
  hi _ fun xs hC => by
    have h := lcMap (P := P) (xs := xs) (it := it) (e := e) (Ω := Ω1) (Ω1 := Ω1) (Δ := Δ) (j := j) (me := me) (mi := fun _ _ Q => Q (xs.map it).length (fun i => (xs.map it).getD i .non) (keepD (.lst (xs.map it)) (xs.map it)) Ω1) (keep := keepD (.lst (xs.map it)) (xs.map it)) (fun Q q => q) (hn xs hC) (fun _ _ _ => keep_lst) (hs xs hC) (wf xs hC)
    exact h
def F_Meaning_init : FD := fun ds Ω P => ∃ (x dx : Addr) (m : Int) (tb : List (Int × List Int)), ds = [.ptr x, .int m, .lst (tb.map pairD)] ∧ Ω x = some (.ob 454 dx []) ∧ 2 ≤ m ∧ m ≤ 3 ∧ TbOk m tb ∧
  ∀ st : List (Int × List Int), st.Perm tb → P .non (put Ω x (.ob 454 dx [("modulus", .int m), ("tables", .tup (st.map pairD))]))
theorem g_Meaning_init (ds Ω P) (h : F_Meaning_init ds Ω P) : m_Meaning_init F_is_whole F_checked_name F_checked_table Ω (startD 6 ds) (endK P) := by
  obtain ⟨x, dx, m, tb, rfl, hx, m0, m1, ok, h⟩ := h
  unfold m_Meaning_init
  walk_at "d"
  refine ⟨_, _, _, rfl, ?_⟩
  walk_at "d"
  refine ⟨fun z => absurd (by omega) z, fun _ => ?_⟩
  intro l hl
  have hxl : x ≠ l := fun e => by rw [e, hl] at hx; cases hx
  refine forL (Ω1 := put Ω l (.dk [])) (xs := tb.map pairD) (fun P p => by walk_at "d"; exact p) (fun k Ω' Δ' => Ω' = put Ω l (.dk (tbK (tb.take k))) ∧ ∃ x4 x5, Δ' = [some (.ptr x), some (.int m), some (.lst (tb.map pairD)), some (.ptr l), x4, x5]) ⟨rfl, none, none, rfl⟩ ?_ ?_
  · rintro k y Ω' Δ' hk ⟨rfl, x4, x5, rfl⟩
    obtain ⟨q, hq, rfl⟩ := get_map hk
    have hqm := List.mem_of_getElem? hq
    have hkl := (List.getElem?_eq_some_iff.mp hq).1
    obtain ⟨q0, q1, kk, hkk, tok⟩ := ok.tabs q hqm
    have hnew : ∀ kv ∈ tbK (tb.take k), kv.1 ≠ (.inl q.1 : Key) := fun kv hm e => by
      obtain ⟨p, hp, rfl⟩ := List.mem_map.mp hm
      have e : p.1 = q.1 := by simpa using e
      have := nd_take ok.nd (show (tb.map (·.1))[k]? = some q.1 by rw [List.getElem?_map, hq]; rfl)
      rw [← List.map_take] at this
      exact this (List.mem_map.mpr ⟨p, hp, e⟩)
    have hg : dget (tbK (tb.take k)) (.inl q.1) = none := by
      unfold dget
      rw [Option.map_eq_none_iff, List.find?_eq_none]
      intro kv hm z
      exact hnew kv hm (of_decide_eq_true z)
    walk_at "d"
    refine ⟨q, l, _, rfl, put_same, hg, q0, q1, ?_⟩
    walk_at "d"
    rw [pair_1]
    refine ⟨m, q.2, kk, rfl, m0, m1, hkk, tok, ?_⟩
    walk_at "d"
    have hlt := ok.few
    refine set_k put_same (by unfold tbK; rw [List.length_map, List.length_take]; omega) ?_
    rw [put_put, dput_new hnew, take_succ_of hq]
    unfold tbK
    rw [List.map_append]
    first
      | rfl
      | exact ⟨rfl, _, _, rfl⟩
  · rintro Ω' Δ' ⟨rfl, x4, x5, rfl⟩
    rw [List.length_map, List.take_length]
    walk_at "d"
    have hx2 : (put Ω l (.dk (tbK tb))) x = some (.ob 454 dx []) := by rw [put_ne hxl]; exact hx
    refine ⟨dx, [], hx2, rfl, by decide, ?_⟩
    generalize hΩ3 : put (put Ω l (.dk (tbK tb))) x (.ob 454 dx (([] : List (Str × D)) ++ [(("modulus" : Str), D.int m)])) = Ω3
    have ho : Ω3 l = some (.dk (tbK tb)) := by rw [← hΩ3, put_ne (Ne.symm hxl)]; exact put_same
    have hx3 : Ω3 x = some (.ob 454 dx (([] : List (Str × D)) ++ [(("modulus" : Str), D.int m)])) := by rw [← hΩ3]; exact put_same
    have hsub : ∀ u, Sub (put Ω x u) (put Ω3 x u) := fun u => by
      rw [← hΩ3, put_put, put_comm (Ne.symm hxl)]
      refine Sub.put ?_
      rw [put_ne (Ne.symm hxl)]
      exact hl
    have few := ok.few
    have hsort : ∀ (P : DK), (∀ ms : List Int, ms.Perm (tb.map (·.1)) → P (.lst (ms.map .int)) Ω3) → wSortK [.ptr l] Ω3 P := fun P hP => ⟨_, tbK tb, tb.map (·.1), rfl, .inr ⟨l, rfl, ho⟩, by unfold tbK; rw [List.map_map, List.map_map]; rfl, by rw [List.length_map]; omega, fun ms hp _ => hP ms hp⟩
    refine lcMapC (C := fun ms : List Int => ms.Perm (tb.map (·.1))) (it := D.int) (e := fun n => pairD (n, (look tb n).getD [])) (Ω1 := Ω3) (fun Q hQ => ?_) (fun ms hp => by rw [hp.length_eq, List.length_map]; omega) (fun ms hp q acc n hn hq R hR => ?_) fun ms hp => ?_
    · unfold iSq
      walk_at "d"
      exact hsort _ fun ms hp => ⟨ms.map .int, .inr (.inr (.inl rfl)), hQ ms hp⟩
    · obtain ⟨t, ht⟩ : ∃ t, look tb n = some t := by
        obtain ⟨q, hq, rfl⟩ := List.mem_map.mp (hp.mem_iff.mp hn)
        exact ⟨_, look_mem ok.nd hq⟩
      walk_at "d"
      refine ix_dkp (put_keep ho hq) (dget_tab ht) ?_
      rw [ht] at hR
      exact hR
    · have hperm : (ms.map fun n => (n, (look tb n).getD [])).Perm tb := by
        have h1 := hp.map fun n => (n, (look tb n).getD [])
        rw [List.map_map] at h1
        have h2 : tb.map ((fun n => (n, (look tb n).getD [])) ∘ (·.1)) = tb := by
          conv => rhs; rw [← List.map_id tb]
          refine List.map_congr_left fun q hq => ?_
          show (q.1, (look tb q.1).getD []) = q
          rw [look_mem ok.nd hq]
          rfl
        rw [h2] at h1
        exact h1
      walk_at "d"
      refine ⟨dx, _, hx3, rfl, by simp, ?_⟩
      have := h _ hperm
      rw [List.map_map] at this
      exact .sub (hsub _) this
theorem lk00 {a b : Str} {x : D} (h : (b == a) = false) : ([(a, x)] : List (Str × D)).lookup b = none := by simp [List.lookup, h]
def F_checked_steps : FD := fun ds Ω P => ∃ (W : Wld) (pr : List Stp), ds = [.int W.c, progD pr] ∧ pr.length ≤ 4 ∧ (∀ i s, pr[i]? = some s → StpOk W pr i s) ∧ P (progD pr) Ω
def F_Lot_init : FD := fun ds Ω P => ∃ (x dx : Addr) (W : Wld), ds = [.ptr x, .int W.c, progsD W.ps] ∧ Ω x = some (.ob 331 dx []) ∧ Wd W ∧ P .non (put Ω x (.ob 331 dx [("cells", .int W.c), ("programs", progsD W.ps)]))
theorem sum_cast : ∀ l : List Nat, ((l.map fun n : Nat => (n : Int)).sum : Int) = (l.sum : Nat)
  | [] => rfl
  | n :: l => by rw [List.map_cons, List.sum_cons, sum_cast l, List.sum_cons]; omega
theorem g_Lot_init (ds Ω P) (h : F_Lot_init ds Ω P) : m_Lot_init F_is_whole F_is_sequence F_checked_steps F_goes_by_adds F_has_unlike_names Ω (startD 5 ds) (endK P) := by
  obtain ⟨x, dx, W, rfl, hx, wd, h⟩ := h
  have hmany := wd.many
  have hc := wd.c
  unfold m_Lot_init
  walk_at "d"
  refine ⟨_, _, _, rfl, ?_⟩
  walk_at "d"
  refine ⟨fun z => absurd (by omega) z, fun _ => ⟨_, _, rfl, .inl rfl, ?_⟩⟩
  walk_at "d"
  refine ⟨fun z => absurd z (by omega), fun _ => ⟨fun z => absurd z (by omega), fun _ => ?_⟩⟩
  refine forT (Ω1 := Ω) (xs := W.ps.map progD) (fun P p => by walk_at "d"; exact p) (fun k Ω' Δ' => Ω' = Ω ∧ ∃ x3 x4, Δ' = [some (.ptr x), some (.int W.c), some (progsD W.ps), x3, x4]) ⟨rfl, none, none, rfl⟩ ?_ ?_
  · rintro k y Ω' Δ' hk ⟨rfl, x3, x4, rfl⟩
    obtain ⟨pr, hpr, rfl⟩ := get_map hk
    have hl := wd.len pr (List.mem_of_getElem? hpr)
    walk_at "d"
    refine ⟨_, _, rfl, .inl rfl, ?_⟩
    walk_at "d"
    refine ⟨fun z => absurd z (by omega), fun _ z => absurd z (by omega)⟩
  · rintro Ω' Δ' ⟨rfl, x3, x4, rfl⟩
    walk_at "d"
    refine lcMap (xs := W.ps) (it := progD) (e := fun p => .int p.length) (Ω1 := Ω') (src_s (d := progsD W.ps) (fun P p => by walk_at "d"; exact p) (.inl rfl)) (by omega) (fun _ _ _ => keep_tup) (fun l acc pr hpr hl R hR => by walk_at "d"; exact hR) ?_
    have esum : (W.ps.map fun p => D.int p.length) = ((W.ps.map List.length).map fun n : Nat => (n : Int)).map D.int := by
      rw [List.map_map, List.map_map]; rfl
    rw [esum]
    walk_at "d"
    refine ⟨_, _, rfl, .inl rfl, ?_⟩
    rw [sum_cast]
    have hsum := wd.sum
    walk_at "d"
    refine ⟨fun z => absurd z (by omega), fun _ => ?_⟩
    refine lcMap (xs := W.ps) (it := progD) (e := progD) (Ω1 := Ω') (src_s (d := progsD W.ps) (fun P p => by walk_at "d"; exact p) (.inl rfl)) (by omega) (fun _ _ _ => keep_tup) (fun l acc pr hpr hl R hR => by walk_at "d"; exact ⟨W, pr, rfl, (wd.len pr hpr).2, wd.step pr hpr, hR⟩) ?_
    walk_at "d"
    refine forT (Ω1 := Ω') (xs := W.ps.map progD) (fun P p => by walk_at "d"; exact p) (fun k Ω2 Δ' => Ω2 = Ω' ∧ ∃ x3, Δ' = [some (.ptr x), some (.int W.c), some (progsD W.ps), x3, some (progsD W.ps)]) ⟨rfl, _, rfl⟩ ?_ ?_
    · rintro k y Ω2 Δ' hk ⟨rfl, x3, rfl⟩
      obtain ⟨pr, hpr, rfl⟩ := get_map hk
      walk_at "d"
      refine ⟨W, pr, rfl, wd.step pr (List.mem_of_getElem? hpr), ?_⟩
      walk_at "d"
    · rintro Ω2 Δ' ⟨rfl, x3, rfl⟩
      walk_at "d"
      refine ⟨W, rfl, wd, ?_⟩
      walk_at "d"
      refine ⟨dx, [], hx, rfl, by simp, ?_⟩
      walk_at "d"
      refine ⟨dx, _, rfl, lk00 (by decide), by simp, ?_⟩
      rw [put_put]
      exact .now h
end
end KG
namespace KG
open L2 PySem PyProof.Rows PySem.Spec
local macro_rules | `(tactic| walk_at "d") => `(tactic| first | simp only [startD, endK, List.map_cons, List.map_nil, List.length_cons, List.length_nil, List.replicate, List.cons_append, List.nil_append, Nat.reduceAdd, Nat.reduceSub, Nat.zero_add, Nat.add_zero, Nat.reduceLeDiff,
  mSetF, mSetd, mSeq, mAsg, mDrop, mRet, mRetN, mIfS, mCont, mNext, mNever, gN, gNil_eq, gCons_eq, gT_t, gT_l, gSet, mAsgG, mVar, slot, mC, mOp, mUn, mNil, mCons, mTup, mLst, mLstO, mCB, mIf, mB, mAnd, mOr, mNot, mOrV, mNotV, mYes, mNewK, mNewT, mBM, mTuF,
  wInt2, wIs, wIsN, wNeg, wInt, wAbs, mFld, Ob.d, isi_ii, isi_ib, isi_ss, isiS_t, isiS_f, isiS_l, len_t, len_f, len_l, len_q, tuple_t, tuple_f, tuple_l, eq_ii, ne_ii, eq_ss, ne_ss, add_ii, add_tt, add_ll, mul_ii, in_t, in_l, in_il, fld_cells, fld_programs, fld_modulus, fld_tables, mMeth, meth_mean, List.length_map,
  List.set_cons_zero, List.set_cons_succ, List.getElem?_cons_zero, List.getElem?_cons_succ, Option.some.injEq, exists_eq_left', exists_eq_left, exists_eq', exists_eq, D.int.injEq, D.bl.injEq, D.str.injEq, D.tup.injEq, D.lst.injEq, D.ptr.injEq, D.ty.injEq, List.cons.injEq, and_true, true_and, reduceCtorEq, false_or, or_false, false_and, and_false, exists_false, or_self,
  exists_and_left, exists_and_right, exists_const, ne_eq, not_true_eq_false, not_false_eq_true, decide_true, decide_false, Bool.false_eq_true, Bool.true_eq_false, false_implies, true_implies, forall_const, implies_true, Bool.not_true, Bool.not_false, Bool.not_eq_true', Bool.not_eq_true, Bool.not_eq_false', decide_eq_true_eq, decide_eq_false_iff_not, put_same, del_same, forall_eq', forall_eq, forall_apply_eq_imp_iff] | (try dsimp only))
/-! G16: weavings. -/
section
def filW (p : Int → Bool) (e : Int → D) (Ω1 : Om) : Nat → List D → Om → Prop := fun i acc Ω' => Ω' = Ω1 ∧ acc = (((List.range i).map fun i : Nat => (i : Int)).filter p).map e
theorem lcFilR {mi : MI} {j : Nat} {mt : MT} {me : ME} {Ω Ω1 : Om} {Δ : Dl} {P : DK} {n : Int} {p : Int → Bool} {e : Int → D} {keep : Om → Prop} (hi : src mi Ω Ω1 Δ n.toNat (fun i => .int i) keep) (hn : n ≤ 1000) (hk : ∀ Ω', keep Ω')
    (hs : ∀ l acc x, 0 ≤ x → x < n → Ω1 l = none → ∀ R : Option D → Om → Prop, R (if p x = true then some (e x) else none) (put Ω1 l (.lst acc)) → lcT mt me (put Ω1 l (.lst acc)) (Δ.set j (some (.int x))) R) (wf : P (.lst (((rgL n).filter p).map e)) Ω1) : mFrz (mLc mi j mt me) Ω Δ P := by
  refine lcWF hi (by omega) (filW p e Ω1) ⟨rfl, rfl⟩ (fun l i acc Ω' h1 h2 h => hk _) ?_ ?_
  · rintro l i acc Ω' h1 h2 hin ha ⟨rfl, rfl⟩
    refine hs l _ i (by omega) (by omega) h1 _ ?_
    have e2 : ((List.range (i + 1)).map fun i : Nat => (i : Int)).filter p = ((List.range i).map fun i : Nat => (i : Int)).filter p ++ (if p (i : Int) = true then [(i : Int)] else []) := by
      rw [List.range_succ, List.map_append, List.filter_append]
      simp [List.filter_cons]
    by_cases hp : p (i : Int) = true
    · rw [if_pos hp] at e2 ⊢
      refine nextW_some h1 ha (by omega) ⟨rfl, ?_⟩
      rw [e2, List.map_append]; rfl
    · rw [if_neg hp] at e2 ⊢
      refine nextW_none h1 ha ⟨rfl, ?_⟩
      rw [e2, List.append_nil]
  · rintro acc Ω' ha ⟨rfl, rfl⟩
    exact wf
theorem mem_rgL {n x : Int} : x ∈ rgL n ↔ 0 ≤ x ∧ x < n := by
  unfold rgL
  constructor
  · intro h
    obtain ⟨i, hi, rfl⟩ := List.mem_map.mp h
    have := List.mem_range.mp hi
    omega
  · rintro ⟨h0, h1⟩
    exact List.mem_map.mpr ⟨x.toNat, List.mem_range.mpr (by omega), by omega⟩
def WvS (sz row : List Int) : Prop := row.length ≤ 7 ∧ (∀ p ∈ row, 0 ≤ p ∧ p < sz.length) ∧ ∀ i : Nat, i < sz.length → (row.count (i : Int) : Int) = sz.getD i 0
def SzOk (sz : List Int) : Prop := 1 ≤ sz.length ∧ sz.length ≤ 3 ∧ (∀ x ∈ sz, 0 ≤ x) ∧ sz.sum ≤ 7
def WvP (sz lf row : List Int) (k : Nat) : Prop := lf.length = sz.length ∧ row.length = k ∧ (∀ x ∈ lf, 0 ≤ x) ∧ (∀ p ∈ row, 0 ≤ p ∧ p < sz.length) ∧ (∀ i : Nat, i < sz.length → lf.getD i 0 + (row.count (i : Int) : Int) = sz.getD i 0) ∧ lf.sum + k = sz.sum
theorem sum_set : ∀ {l : List Int} {i : Nat} {x y : Int}, l[i]? = some x → (l.set i y).sum = l.sum - x + y
  | [], i, x, y, h => by simp at h
  | a :: l, 0, x, y, h => by
    simp at h
    subst h
    simp
    omega
  | a :: l, i + 1, x, y, h => by
    have := sum_set (l := l) (i := i) (x := x) (y := y) (by simpa using h)
    rw [List.set_cons_succ, List.sum_cons, this, List.sum_cons]
    omega
theorem sum_zero : ∀ {l : List Int}, (∀ x ∈ l, 0 ≤ x) → (∀ x ∈ l, ¬ 0 < x) → l.sum = 0
  | [], _, _ => rfl
  | x :: l, h1, h2 => by
    rw [List.sum_cons, sum_zero (fun y hy => h1 y (List.mem_cons_of_mem _ hy)) fun y hy => h2 y (List.mem_cons_of_mem _ hy)]
    have := h1 x List.mem_cons_self
    have := h2 x List.mem_cons_self
    omega
theorem wvp_step {sz lf row : List Int} {k : Nat} {p x : Int} (h : WvP sz lf row k) (p0 : 0 ≤ p) (hp : lf[p.toNat]? = some x) (hx : 0 < x) : WvP sz (lf.set p.toNat (x - 1)) (row ++ [p]) (k + 1) := by
  obtain ⟨h1, h2, h3, h4, h5, h6⟩ := h
  have hpl := (List.getElem?_eq_some_iff.mp hp).1
  refine ⟨by rw [List.length_set]; exact h1, by rw [List.length_append, h2]; rfl, fun y hy => ?_, fun q hq => ?_, fun i hi => ?_, by rw [sum_set hp]; omega⟩
  · rcases List.mem_or_eq_of_mem_set hy with hy | hy
    · exact h3 y hy
    · omega
  · rcases List.mem_append.mp hq with hq | hq
    · exact h4 q hq
    · rw [List.mem_singleton] at hq
      omega
  · rw [count_snoc]
    have := h5 i hi
    by_cases e : p.toNat = i
    · subst e
      rw [getD_set_self hpl, if_pos (by omega)]
      rw [List.getD_eq_getElem?_getD, hp, Option.getD_some] at this
      omega
    · rw [getD_set_ne e, if_neg (by omega)]
      omega
def F_L_weaving : FD := fun ds Ω P => ∃ (h : Addr) (o : Ob) (sz : List Int), ds = [.ptr h, .lst (sz.map .int)] ∧ Ω h = some o ∧ HandO o ∧ SzOk sz ∧ ∀ o' row, HandO o' → WvS sz row → P (.tup (row.map .int)) (put Ω h o')
def weW (Ω : Om) (h a b : Addr) (sz : List Int) : Nat → Om → Dl → Prop := fun k Ω' Δ' => ∃ (o : Ob) (lf row : List Int), HandO o ∧ WvP sz lf row k ∧ Ω' = put (put (put Ω h o) a (.lst (lf.map .int))) b (.lst (row.map .int)) ∧ ∃ x4 x5 x6, Δ' = [some (.ptr h), some (.lst (sz.map .int)), some (.ptr a), some (.ptr b), x4, x5, x6]
theorem std_lst {xs : List D} : std (.lst xs) xs := .inr (.inr rfl)
theorem sum_std {d : D} {ns : List Int} {Ω : Om} {P : DK} (hd : lstD d Ω (ns.map .int)) (p : P (.int ns.sum) Ω) : wSum [d] Ω P := ⟨d, ns, rfl, hd, p⟩
theorem g_L_weaving (ds Ω P) (h : F_L_weaving ds Ω P) : m_L_weaving F_L_take Ω (startD 7 ds) (endK P) := by
  obtain ⟨a, o, sz, rfl, ho, hO, hsz, h⟩ := h
  obtain ⟨s1, s2, s3, s4⟩ := hsz
  have s5 : 0 ≤ sz.sum := by
    have : ∀ l : List Int, (∀ x ∈ l, 0 ≤ x) → 0 ≤ l.sum := by
      intro l
      induction l with
      | nil => intro _; simp
      | cons x l ih =>
        intro h
        have := ih fun y hy => h y (List.mem_cons_of_mem _ hy)
        have := h x List.mem_cons_self
        rw [List.sum_cons]
        omega
    exact this sz s3
  unfold m_L_weaving
  walk_at "d"
  refine listO_d std_lst fun b hb => ?_
  have hba : b ≠ a := fun e => by rw [e, ho] at hb; cases hb
  walk_at "d"
  intro c hc
  obtain ⟨hcb, hc⟩ := put_none.mp hc
  have hca : c ≠ a := fun e => by rw [e, ho] at hc; cases hc
  refine forR1 sz.sum (Ω1 := put (put Ω b (.lst (sz.map .int))) c (.lst [])) (fun P p => by walk_at "d"; exact sum_std (.inl rfl) p) (by omega) (by omega) (weW Ω a b c sz) ⟨o, sz, [], hO, ⟨rfl, rfl, s3, by simp, by simp, by simp⟩, by rw [put_self ho]; rfl, none, none, none, rfl⟩ ?_ ?_
  · rintro k Ω' Δ' hk ⟨o', lf, row, hO', wp, rfl, x4, x5, x6, rfl⟩
    obtain ⟨w1, w2, w3, w4, w5, w6⟩ := id wp
    have ob : (put (put (put Ω a o') b (.lst (lf.map .int))) c (.lst (row.map .int))) b = some (.lst (lf.map .int)) := by rw [put_ne (Ne.symm hcb)]; exact put_same
    have oc : (put (put (put Ω a o') b (.lst (lf.map .int))) c (.lst (row.map .int))) c = some (.lst (row.map .int)) := put_same
    have oa : (put (put (put Ω a o') b (.lst (lf.map .int))) c (.lst (row.map .int))) a = some o' := by rw [put_ne (Ne.symm hca), put_ne (Ne.symm hba)]; exact put_same
    generalize hΩ1 : put (put (put Ω a o') b (.lst (lf.map .int))) c (.lst (row.map .int)) = Ω1 at ob oc oa
    have hix : ∀ p : Int, 0 ≤ p → p < sz.length → lf[p.toNat]? = some (at_ lf p) := fun p p0 p1 => (at_mem p0 (by omega)).1
    walk_at "d"
    refine lcFilR (n := sz.length) (p := fun p => decide (0 < at_ lf p)) (e := D.int) (Ω1 := Ω1) (src_r1 sz.length (fun P p => by walk_at "d"; exact p) (by omega) (by omega)) (by omega) (fun _ => trivial) ?_ ?_
    · intro q acc p p0 p1 hq R hR
      unfold lcT
      walk_at "d"
      rw [ix_p (put_keep ob hq) (atI_of p0 (show (lf.map D.int)[p.toNat]? = some (.int (at_ lf p)) by rw [List.getElem?_map, hix p p0 p1]; rfl))]
      walk_at "d"
      by_cases hp : 0 < at_ lf p
      · rw [if_pos (decide_eq_true hp)] at hR
        exact ⟨fun _ => hR, fun z => absurd hp z⟩
      · rw [if_neg (by simpa using hp)] at hR
        exact ⟨fun z => absurd z hp, fun _ => hR⟩
    · generalize hab : (rgL sz.length).filter (fun p => decide (0 < at_ lf p)) = able
      have hable : ∀ p ∈ able, 0 ≤ p ∧ p < sz.length ∧ 0 < at_ lf p := fun p hp => by
        rw [← hab, List.mem_filter] at hp
        obtain ⟨h1, h2⟩ := hp
        obtain ⟨h3, h4⟩ := mem_rgL.mp h1
        exact ⟨h3, h4, of_decide_eq_true h2⟩
      have hlen : able.length ≤ 3 := by
        rw [← hab]
        refine Nat.le_trans (List.length_filter_le _ _) ?_
        rw [len_rgL]; omega
      have hpos : 1 ≤ able.length := by
        rcases Nat.eq_zero_or_pos able.length with e | e
        · exfalso
          have e0 : able = [] := List.length_eq_zero_iff.mp e
          have hz := sum_zero w3 fun x hx hx0 => by
            obtain ⟨i, hi⟩ := List.getElem?_of_mem hx
            have hil := (List.getElem?_eq_some_iff.mp hi).1
            have : (i : Int) ∈ able := by
              rw [← hab, List.mem_filter]
              refine ⟨mem_rgL.mpr ⟨by omega, by omega⟩, decide_eq_true ?_⟩
              unfold at_
              rw [Int.toNat_natCast, List.getD_eq_getElem?_getD, hi]
              exact hx0
            rw [e0] at this
            cases this
          omega
        · exact e
      walk_at "d"
      refine ⟨a, able.length, o', rfl, by omega, by omega, oa, hO', fun o2 r hO2 r0 r1 => ?_⟩
      have har := at_mem r0 r1
      obtain ⟨p0, p1, p2⟩ := hable _ har.2
      generalize at_ able r = p at har p0 p1 p2
      walk_at "d"
      rw [ix_l (atI_of r0 (show (able.map D.int)[r.toNat]? = some (.int p) by rw [List.getElem?_map, har.1]; rfl))]
      have ob2 : (put Ω1 a o2) b = some (.lst (lf.map .int)) := by rw [put_ne hba]; exact ob
      have oc2 : (put Ω1 a o2) c = some (.lst (row.map .int)) := by rw [put_ne hca]; exact oc
      have hxp := hix p p0 p1
      rw [ix_p ob2 (atI_of p0 (show (lf.map D.int)[p.toNat]? = some (.int (at_ lf p)) by rw [List.getElem?_map, hxp]; rfl))]
      walk_at "d"
      refine set_p ob2 p0 (by rw [List.length_map]; omega) ?_
      refine app_p (by rw [put_ne hcb]; exact oc2) (by rw [List.length_map]; omega) ?_
      refine show weW Ω a b c sz (k + 1) _ _ from ⟨o2, _, _, hO2, wvp_step wp p0 hxp p2, ?_, _, _, _, rfl⟩
      rw [← hΩ1, List.map_set, List.map_append]
      rw [put_comm (l := c) (b := a) hca, put_comm (l := b) (b := a) hba, put_put, put_comm (l := c) (b := b) hcb, put_put, put_put]
      rfl
  · rintro Ω' Δ' ⟨o', lf, row, hO', wp, rfl, x4, x5, x6, rfl⟩
    obtain ⟨w1, w2, w3, w4, w5, w6⟩ := id wp
    walk_at "d"
    rw [tuple_p put_same]
    refine .sub ?_ (h o' row hO' ⟨by omega, w4, fun i hi => ?_⟩)
    · refine Sub.trans (Sub.put ?_) (Sub.put ?_)
      · rw [put_ne hba]; exact hb
      · rw [put_ne hcb, put_ne hca]; exact hc
    · have h0 : lf.sum = 0 := by omega
      have hz : ∀ x ∈ lf, x = 0 := by
        have : ∀ l : List Int, (∀ x ∈ l, 0 ≤ x) → l.sum = 0 → ∀ x ∈ l, x = 0 := by
          intro l
          induction l with
          | nil => intro _ _ x hx; cases hx
          | cons y l ih =>
            intro h1 h2 x hx
            have hs : 0 ≤ l.sum := by
              have : ∀ l : List Int, (∀ x ∈ l, 0 ≤ x) → 0 ≤ l.sum := by
                intro l
                induction l with
                | nil => intro _; simp
                | cons x l ih =>
                  intro h
                  have := ih fun y hy => h y (List.mem_cons_of_mem _ hy)
                  have := h x List.mem_cons_self
                  rw [List.sum_cons]
                  omega
              exact this l fun z hz => h1 z (List.mem_cons_of_mem _ hz)
            rw [List.sum_cons] at h2
            have hy := h1 y List.mem_cons_self
            rcases List.mem_cons.mp hx with rfl | hx
            · omega
            · exact ih (fun z hz => h1 z (List.mem_cons_of_mem _ hz)) (by omega) x hx
        exact this lf w3 h0
      have h5 := w5 i hi
      have : lf.getD i 0 = 0 := by
        rw [List.getD_eq_getElem?_getD]
        cases e : lf[i]? with
        | none => rfl
        | some x => exact hz x (List.mem_of_getElem? e)
      omega
end
end KG
namespace KG
open L2 PySem PyProof.Rows PySem.Spec
local macro_rules | `(tactic| walk_at "d") => `(tactic| first | simp only [startD, endK, List.map_cons, List.map_nil, List.length_cons, List.length_nil, List.replicate, List.cons_append, List.nil_append, Nat.reduceAdd, Nat.reduceSub, Nat.zero_add, Nat.add_zero, Nat.reduceLeDiff,
  mCntF, mSetF, mSetd, mSeq, mAsg, mDrop, mRet, mRetN, mIfS, mCont, mNext, mNever, gN, gNil_eq, gCons_eq, gT_t, gT_l, gSet, mAsgG, mVar, slot, mC, mOp, mUn, mNil, mCons, mTup, mLst, mLstO, mCB, mIf, mB, mAnd, mOr, mNot, mOrV, mNotV, mYes, mNewK, mNewT, mBM, mTuF,
  wInt2, wIs, wIsN, wNeg, wInt, wAbs, mFld, Ob.d, isi_ii, isi_ib, isi_ss, isiS_t, isiS_f, isiS_l, len_t, len_f, len_l, len_q, tuple_t, tuple_f, tuple_l, eq_ii, ne_ii, eq_ss, ne_ss, add_ii, add_tt, add_ll, mul_ii, in_t, in_l, in_il, fld_cells, fld_programs, fld_modulus, fld_tables, mMeth, meth_mean, List.length_map,
  List.set_cons_zero, List.set_cons_succ, List.getElem?_cons_zero, List.getElem?_cons_succ, Option.some.injEq, exists_eq_left', exists_eq_left, exists_eq', exists_eq, D.int.injEq, D.bl.injEq, D.str.injEq, D.tup.injEq, D.lst.injEq, D.ptr.injEq, D.ty.injEq, List.cons.injEq, and_true, true_and, reduceCtorEq, false_or, or_false, false_and, and_false, exists_false, or_self,
  exists_and_left, exists_and_right, exists_const, ne_eq, not_true_eq_false, not_false_eq_true, decide_true, decide_false, Bool.false_eq_true, Bool.true_eq_false, false_implies, true_implies, forall_const, implies_true, Bool.not_true, Bool.not_false, Bool.not_eq_true', Bool.not_eq_true, Bool.not_eq_false', decide_eq_true_eq, decide_eq_false_iff_not, put_same, del_same, forall_eq', forall_eq, forall_apply_eq_imp_iff] | (try dsimp only))
/-! G17: all weavings; the law's choice. -/
section
def F_L_unwoven : FD := fun ds Ω P => ∃ row : List Int, ds = [tI row] ∧ row.length ≤ 7 ∧ ∀ b : Bool, P (.bl b) Ω
def F_L_woven : FD := F_L_weaving
def wvnW (Ω : Om) (h : Addr) (sz : List Int) : Nat → Om → Dl → Prop := fun _ Ω' Δ' => ∃ (o : Ob) (row : List Int), HandO o ∧ WvS sz row ∧ Ω' = put Ω h o ∧ ∃ x3, Δ' = [some (.ptr h), some (.lst (sz.map .int)), some (tI row), x3]
theorem g_L_woven (ds Ω P) (h : F_L_woven ds Ω P) : m_L_woven F_L_weaving F_L_unwoven Ω (startD 4 ds) (endK P) := by
  obtain ⟨a, o, sz, rfl, ho, hO, hsz, h⟩ := h
  unfold m_L_woven
  walk_at "d"
  refine ⟨a, o, sz, rfl, ho, hO, hsz, fun o1 row h1 hw => ?_⟩
  walk_at "d"
  refine forR1 3 (Ω1 := put Ω a o1) (fun P p => by walk_at "d"; exact p) (by omega) (by omega) (wvnW Ω a sz) ⟨o1, row, h1, hw, rfl, none, rfl⟩ ?_ ?_
  · rintro k Ω' Δ' hk ⟨o1, row, h1, hw, rfl, x3, rfl⟩
    walk_at "d"
    refine ⟨row, rfl, hw.1, fun b => ?_⟩
    walk_at "d"
    refine ⟨fun _ => ⟨a, o1, sz, rfl, put_same, h1, hsz, fun o2 row2 h2 hw2 => ?_⟩, fun _ => show wvnW Ω a sz (k + 1) _ _ from ⟨o1, row, h1, hw, rfl, _, rfl⟩⟩
    rw [put_put]
    exact show wvnW Ω a sz (k + 1) _ _ from ⟨o2, row2, h2, hw2, rfl, _, rfl⟩
  · rintro Ω' Δ' ⟨o1, row, h1, hw, rfl, x3, rfl⟩
    walk_at "d"
    exact .now (h o1 row h1 hw)
def tF (r : List Int) : D := .tuf (r.map .int)
def F_L_weavings : FD := fun ds Ω P => ∃ sz : List Int, ds = [.lst (sz.map .int)] ∧ SzOk sz ∧ ∀ rows : List (List Int), (∀ r ∈ rows, WvS sz r) → rows.length ≤ 3000 → P (.lst (rows.map tF)) Ω
def wsA (Ω : Om) (sz : List Int) : Nat → Om → Dl → Prop := fun k Ω' Δ' => Ω' = Ω ∧ ∃ rows : List (List Int), (∀ r ∈ rows, ∃ lf, WvP sz lf r k) ∧ rows.length ≤ 3 ^ k ∧ ∃ x2 x3 x4 x5, Δ' = [some (.lst (sz.map .int)), some (.lst (rows.map tF)), x2, x3, x4, x5]
def wsB (Ω : Om) (sz : List Int) (rows : List (List Int)) (k : Nat) (i : Nat) (Ω' : Om) (Δ' : Dl) : Prop := Ω' = Ω ∧ ∃ more : List (List Int), (∀ r ∈ more, ∃ lf, WvP sz lf r (k + 1)) ∧ more.length ≤ 3 * i ∧ ∃ x2 x4 x5, Δ' = [some (.lst (sz.map .int)), some (.lst (rows.map tF)), x2, some (.lst (more.map tF)), x4, x5]
theorem sum_nn : ∀ {l : List Int}, (∀ x ∈ l, 0 ≤ x) → 0 ≤ l.sum
  | [], _ => by simp
  | x :: l, h => by
    have := sum_nn fun y hy => h y (List.mem_cons_of_mem _ hy)
    have := h x List.mem_cons_self
    rw [List.sum_cons]
    omega
theorem sum0_all : ∀ {l : List Int}, (∀ x ∈ l, 0 ≤ x) → l.sum = 0 → ∀ x ∈ l, x = 0
  | [], _, _, x, hx => by cases hx
  | y :: l, h1, h2, x, hx => by
    have hs := sum_nn fun z hz => h1 z (List.mem_cons_of_mem _ hz)
    have hy := h1 y List.mem_cons_self
    rw [List.sum_cons] at h2
    rcases List.mem_cons.mp hx with rfl | hx
    · omega
    · exact sum0_all (fun z hz => h1 z (List.mem_cons_of_mem _ hz)) (by omega) x hx
theorem wvp_end {sz lf row : List Int} {k : Nat} (h : WvP sz lf row k) (hk : (k : Int) = sz.sum) (hs : sz.sum ≤ 7) : WvS sz row := by
  obtain ⟨h1, h2, h3, h4, h5, h6⟩ := h
  refine ⟨by omega, h4, fun i hi => ?_⟩
  have hz := sum0_all h3 (by omega)
  have h5 := h5 i hi
  have : lf.getD i 0 = 0 := by
    rw [List.getD_eq_getElem?_getD]
    cases e : lf[i]? with
    | none => rfl
    | some x => exact hz x (List.mem_of_getElem? e)
  omega
theorem g_L_weavings (ds Ω P) (h : F_L_weavings ds Ω P) : m_L_weavings Ω (startD 6 ds) (endK P) := by
  obtain ⟨sz, rfl, hsz, h⟩ := h
  obtain ⟨s1, s2, s3, s4⟩ := hsz
  have s5 := sum_nn s3
  unfold m_L_weavings
  walk_at "d"
  refine forR1 sz.sum (Ω1 := Ω) (fun P p => by walk_at "d"; exact sum_std (.inl rfl) p) (by omega) (by omega) (wsA Ω sz) ⟨rfl, [[]], fun r hr => ⟨sz, rfl, by rw [List.mem_singleton.mp hr]; rfl, s3, by rw [List.mem_singleton.mp hr]; simp, by rw [List.mem_singleton.mp hr]; simp, by simp⟩, by simp, none, none, none, none, rfl⟩ ?_ ?_
  · rintro k Ω' Δ' hk ⟨rfl, rows, hrows, hlen, x2, x3, x4, x5, rfl⟩
    have h3k : 3 ^ k ≤ 3 ^ 6 := Nat.pow_le_pow_right (by decide) (by omega)
    walk_at "d"
    refine forL (Ω1 := Ω') (xs := rows.map tF) (fun P p => by walk_at "d"; exact p) (wsB Ω' sz rows k) ⟨rfl, [], by simp, by simp, _, _, _, rfl⟩ ?_ ?_
    · rintro i x Ω2 Δ2 hi ⟨rfl, more, hmore, hml, x2, x4, x5, rfl⟩
      obtain ⟨r, hr, rfl⟩ := get_map hi
      have hil := (List.getElem?_eq_some_iff.mp hr).1
      obtain ⟨lf, wp⟩ := hrows r (List.mem_of_getElem? hr)
      obtain ⟨w1, w2, w3, w4, w5, w6⟩ := id wp
      unfold tF
      walk_at "d"
      refine lcFilR (n := sz.length) (p := fun p => decide ((r.count p : Int) < at_ sz p)) (e := fun p => tF (r ++ [p])) (Ω1 := Ω2) (src_r1 sz.length (fun P p => by walk_at "d"; exact p) (by omega) (by omega)) (by omega) (fun _ => trivial) ?_ ?_
      · intro q acc p p0 p1 hq R hR
        unfold lcT
        walk_at "d"
        refine ⟨r, rfl, ?_⟩
        rw [ix_l (atI_of p0 (show (sz.map D.int)[p.toNat]? = some (.int (at_ sz p)) by rw [List.getElem?_map, (at_mem p0 p1).1]; rfl))]
        walk_at "d"
        by_cases hp : (r.count p : Int) < at_ sz p
        · rw [if_pos (decide_eq_true hp)] at hR
          refine ⟨fun _ => ⟨r.map .int, [.int p], rfl, rfl, by simp; omega, ?_⟩, fun z => absurd hp z⟩
          have e : r.map D.int ++ [D.int p] = (r ++ [p]).map D.int := by rw [List.map_append]; rfl
          rw [e]
          exact hR
        · rw [if_neg (by simpa using hp)] at hR
          exact ⟨fun z => absurd z hp, fun _ => hR⟩
      · generalize hab : (rgL sz.length).filter (fun p => decide ((r.count p : Int) < at_ sz p)) = able
        have hal : able.length ≤ 3 := by
          rw [← hab]
          refine Nat.le_trans (List.length_filter_le _ _) ?_
          rw [len_rgL]; omega
        walk_at "d"
        refine ⟨by omega, show wsB Ω2 sz rows k (i + 1) _ _ from ⟨rfl, more ++ able.map (fun p => r ++ [p]), fun r' hr' => ?_, by rw [List.length_append, List.length_map]; omega, x2, some (.tuf (r.map .int)), x5, ?_⟩⟩
        · rcases List.mem_append.mp hr' with hr' | hr'
          · exact hmore r' hr'
          · obtain ⟨p, hp, rfl⟩ := List.mem_map.mp hr'
            rw [← hab, List.mem_filter] at hp
            obtain ⟨hp1, hp2⟩ := hp
            obtain ⟨p0, p1⟩ := mem_rgL.mp hp1
            have hp2 := of_decide_eq_true hp2
            have h5 := w5 p.toNat (by omega)
            rw [Int.toNat_of_nonneg p0] at h5
            have hlp : lf[p.toNat]? = some (lf.getD p.toNat 0) := by rw [List.getD_eq_getElem?_getD, List.getElem?_eq_getElem (by omega)]; rfl
            exact ⟨_, wvp_step wp p0 hlp (by unfold at_ at hp2; omega)⟩
        · rw [List.map_append, List.map_map]
          rfl
    · rintro Ω2 Δ2 ⟨rfl, more, hmore, hml, x2, x4, x5, rfl⟩
      rw [List.length_map] at hml
      walk_at "d"
      refine show wsA Ω2 sz (k + 1) _ _ from ⟨rfl, more, hmore, by rw [Nat.pow_succ]; omega, _, _, _, _, rfl⟩
  · rintro Ω' Δ' ⟨rfl, rows, hrows, hlen, x2, x3, x4, x5, rfl⟩
    walk_at "d"
    have h3k : 3 ^ sz.sum.toNat ≤ 3 ^ 7 := Nat.pow_le_pow_right (by decide) (by omega)
    refine .now (h rows (fun r hr => ?_) (by omega))
    obtain ⟨lf, wp⟩ := hrows r hr
    exact wvp_end wp (by omega) s4
end
end KG
namespace KG
open L2 PySem PyProof.Rows PySem.Spec
local macro_rules | `(tactic| walk_at "d") => `(tactic| first | simp only [startD, endK, List.map_cons, List.map_nil, List.length_cons, List.length_nil, List.replicate, List.cons_append, List.nil_append, Nat.reduceAdd, Nat.reduceSub, Nat.zero_add, Nat.add_zero, Nat.reduceLeDiff,
  mCntF, mSetF, mSetd, mSeq, mAsg, mDrop, mRet, mRetN, mIfS, mCont, mNext, mNever, gN, gNil_eq, gCons_eq, gT_t, gT_l, gSet, mAsgG, mVar, slot, mC, mOp, mUn, mNil, mCons, mTup, mLst, mLstO, mCB, mIf, mB, mAnd, mOr, mNot, mOrV, mNotV, mYes, mNewK, mNewT, mBM, mTuF,
  wInt2, wIs, wIsN, wNeg, wInt, wAbs, mFld, Ob.d, isi_ii, isi_ib, isi_ss, isiS_t, isiS_f, isiS_l, len_t, len_f, len_l, len_q, tuple_t, tuple_f, tuple_l, eq_ii, ne_ii, eq_ss, ne_ss, add_ii, add_tt, add_ll, mul_ii, in_t, in_l, in_il, fld_cells, fld_programs, fld_modulus, fld_tables, mMeth, meth_mean, List.length_map,
  List.set_cons_zero, List.set_cons_succ, List.getElem?_cons_zero, List.getElem?_cons_succ, Option.some.injEq, exists_eq_left', exists_eq_left, exists_eq', exists_eq, D.int.injEq, D.bl.injEq, D.str.injEq, D.tup.injEq, D.lst.injEq, D.ptr.injEq, D.ty.injEq, List.cons.injEq, and_true, true_and, reduceCtorEq, false_or, or_false, false_and, and_false, exists_false, or_self,
  exists_and_left, exists_and_right, exists_const, ne_eq, not_true_eq_false, not_false_eq_true, decide_true, decide_false, Bool.false_eq_true, Bool.true_eq_false, false_implies, true_implies, forall_const, implies_true, Bool.not_true, Bool.not_false, Bool.not_eq_true', Bool.not_eq_true, Bool.not_eq_false', decide_eq_true_eq, decide_eq_false_iff_not, put_same, del_same, forall_eq', forall_eq, forall_apply_eq_imp_iff] | (try dsimp only))
/-! G18: the weaving that is tried. -/
section
def lens (W : Wld) : List Int := W.ps.map fun p => (p.length : Int)
theorem szOk_lens {W : Wld} (wd : Wd W) : SzOk (lens W) := by
  have hmany := wd.many
  refine ⟨by unfold lens; rw [List.length_map]; omega, by unfold lens; rw [List.length_map]; omega, fun x hx => ?_, ?_⟩
  · obtain ⟨p, _, rfl⟩ := List.mem_map.mp hx
    omega
  · have : lens W = (W.ps.map List.length).map fun n : Nat => (n : Int) := by unfold lens; rw [List.map_map]; rfl
    rw [this, sum_cast]
    have := wd.sum
    omega
theorem weav_of {W : Wld} {row : List Int} (h : WvS (lens W) row) : WeavOk W row := by
  obtain ⟨h1, h2, h3⟩ := h
  have hl : (lens W).length = W.ps.length := by unfold lens; rw [List.length_map]
  refine ⟨h1, fun p hp => by have := h2 p hp; omega, fun i hi => ?_⟩
  have := h3 i (by omega)
  have e : (lens W).getD i 0 = ((W.ps.getD i []).length : Int) := by
    unfold lens
    rw [List.getD_eq_getElem?_getD, List.getElem?_map, List.getD_eq_getElem?_getD, List.getElem?_eq_getElem hi]
    rfl
  omega
/-- over a list of which only so much is known -/
theorem forLC {C : List D → Prop} {ma : ME} {g : MG} {tb : MS} {Ω Ω1 : Om} {Δ : Dl} {k : Ke} (hm : ∀ Q : D → Om → Prop, (∀ xs, C xs → Q (.lst xs) Ω1) → ma Ω Δ Q) (hx : ∀ xs, C xs → mForI (iSq fun _ _ P => P (.lst xs) Ω1) g tb Ω Δ k) : mForI (iSq ma) g tb Ω Δ k := hm _ fun xs h => hx xs h
def brW (Ω : Om) (a b : Addr) (o : Ob) (W : Wld) (Kt : List Rule) : Nat → Om → Dl → Prop := fun n Ω' Δ' => ∃ bad : List (List Int), (∀ r ∈ bad, WvS (lens W) r) ∧ bad.length ≤ n ∧ Ω' = put Ω b (.lst (bad.map tF)) ∧ ∃ x7 x8 x9 x10, Δ' = [some (.ptr a), some W.here, some (.int W.m), some (tabsD W.tb), some (.lst (Kt.map ruleD)), some (.lst ((lens W).map .int)), some (.ptr b), x7, x8, x9, x10]
def F_L_breaking : FD := fun ds Ω P => ∃ (h : Addr) (o : Ob) (W : Wld) (Kt : List Rule), ds = [.ptr h, W.here, .int W.m, tabsD W.tb, .lst (Kt.map ruleD)] ∧ Wd W ∧ Ω h = some o ∧ HandO o ∧ Kt.length ≤ 1000 ∧ (∀ R ∈ Kt, ∀ s ∈ R, s ∈ W.S) ∧
  ∀ o' d row, HandO o' → std d (row.map .int) → WeavOk W row → P d (put Ω h o')
theorem g_L_breaking (ds Ω P) (h : F_L_breaking ds Ω P) : m_L_breaking F_L_weavings F_L_move F_L_stays F_L_take F_L_woven Ω (startD 11 ds) (endK P) := by
  obtain ⟨a, o, W, Kt, rfl, wd, ho, hO, hKt, hK, h⟩ := h
  have hmany := wd.many
  have hsz := szOk_lens wd
  unfold m_L_breaking
  walk_at "d"
  refine lcMap (xs := W.ps) (it := progD) (e := fun p => .int p.length) (Ω1 := Ω) (src_s (d := progsD W.ps) (fun P p => by walk_at "d"; rw [here_ps]; exact p) (.inl rfl)) (by omega) (fun _ _ _ => keep_tup) (fun l acc pr hpr hl R hR => by walk_at "d"; exact hR) ?_
  rw [show (W.ps.map fun p => D.int p.length) = (lens W).map D.int by unfold lens; rw [List.map_map]; rfl]
  walk_at "d"
  intro b hb
  have hba : b ≠ a := fun e => by rw [e, ho] at hb; cases hb
  refine forLC (Ω1 := put Ω b (.lst [])) (C := fun xs => ∃ rows : List (List Int), (∀ r ∈ rows, WvS (lens W) r) ∧ rows.length ≤ 3000 ∧ xs = rows.map tF) (fun Q hQ => by walk_at "d"; exact ⟨lens W, rfl, hsz, fun rows h1 h2 => hQ _ ⟨rows, h1, h2, rfl⟩⟩) ?_
  rintro xs ⟨rows, hrows, hrl, rfl⟩
  refine forL (Ω1 := put Ω b (.lst [])) (xs := rows.map tF) (fun P p => p) (brW Ω a b o W Kt) ⟨[], by simp, by simp, rfl, none, none, none, none, rfl⟩ ?_ ?_
  · rintro k x Ω' Δ' hk ⟨bad, hbad, hbl, rfl, x7, x8, x9, x10, rfl⟩
    obtain ⟨row, hrow, rfl⟩ := get_map hk
    have hkl := (List.getElem?_eq_some_iff.mp hrow).1
    have hwv := hrows row (List.mem_of_getElem? hrow)
    have hw := weav_of hwv
    unfold tF
    walk_at "d"
    refine ⟨W, row, _, rfl, wd, .inr (.inl rfl), row_weav hw, ?_⟩
    walk_at "d"
    generalize hΩ1 : put Ω b (.lst (bad.map fun r => D.tuf (r.map D.int))) = Ω1
    have ob : Ω1 b = some (.lst (bad.map tF)) := by rw [← hΩ1]; exact put_same
    refine lcFil (xs := Kt) (it := ruleD) (e := ruleD) (p := fun R => !decide (Kept [W.run row] R)) (Ω1 := Ω1) (src_s (d := .lst (Kt.map ruleD)) (fun P p => by walk_at "d"; exact p) (.inr (.inr (.inl rfl)))) (by omega) (fun _ _ _ => keep_lst) ?_ ?_
    · intro q acc R hRm hq Rr hRr
      unfold lcT
      walk_at "d"
      refine ⟨W.S, [W.run row], R, rfl, hK R hRm, ?_⟩
      walk_at "d"
      by_cases hs : Kept [W.run row] R
      · rw [decide_eq_true hs, if_neg (by simp)] at hRr
        exact ⟨fun z => absurd hs z, fun _ => hRr⟩
      · rw [decide_eq_false hs, if_pos (by simp)] at hRr
        exact ⟨fun _ => hRr, fun z => absurd z hs⟩
    · walk_at "d"
      refine ⟨fun _ => ?_, fun _ => show brW Ω a b o W Kt (k + 1) _ _ from ⟨bad, hbad, by omega, hΩ1.symm, _, _, _, _, rfl⟩⟩
      refine app_p ob (by rw [List.length_map]; omega) ?_
      refine show brW Ω a b o W Kt (k + 1) _ _ from ⟨bad ++ [row], fun r hr => ?_, by rw [List.length_append]; simp; omega, ?_, _, _, _, _, rfl⟩
      · rcases List.mem_append.mp hr with hr | hr
        · exact hbad r hr
        · rw [List.mem_singleton] at hr
          rw [hr]; exact hwv
      · rw [← hΩ1, put_put, List.map_append]
        rfl
  · rintro Ω' Δ' ⟨bad, hbad, hbl, rfl, x7, x8, x9, x10, rfl⟩
    rw [List.length_map] at hbl
    have ob : (put Ω b (.lst (bad.map tF))) b = some (.lst (bad.map tF)) := put_same
    have oa : (put Ω b (.lst (bad.map tF))) a = some o := by rw [put_ne (Ne.symm hba)]; exact ho
    have hsub : ∀ o', Sub (put Ω a o') (put (put Ω b (.lst (bad.map tF))) a o') := fun o' => by
      rw [put_comm hba]
      exact Sub.put (by rw [put_ne hba]; exact hb)
    have hwoven : ∀ o1, HandO o1 → F_L_woven [.ptr a, .lst ((lens W).map .int)] (put (put Ω b (.lst (bad.map tF))) a o1) (Fin P) := fun o1 h1 => ⟨a, o1, lens W, rfl, put_same, h1, hsz, fun o' row hO' hw => by
      rw [put_put]
      exact .sub (hsub o') (h o' _ row hO' (.inl rfl) (weav_of hw))⟩
    walk_at "d"
    rw [len_p ob, List.length_map]
    walk_at "d"
    refine ⟨fun hpos => ?_, fun _ => ?_⟩
    · refine ⟨a, 4, o, rfl, by omega, by omega, oa, hO, fun o1 r h1 r0 r1 => ?_⟩
      have ob1 : (put (put Ω b (.lst (bad.map tF))) a o1) b = some (.lst (bad.map tF)) := by rw [put_ne hba]; exact ob
      walk_at "d"
      refine ⟨fun _ => ?_, fun _ => hwoven o1 h1⟩
      rw [len_p ob1, List.length_map]
      refine ⟨a, bad.length, o1, rfl, by omega, by omega, put_same, h1, fun o2 q h2 q0 q1 => ?_⟩
      rw [put_put]
      have ob2 : (put (put Ω b (.lst (bad.map tF))) a o2) b = some (.lst (bad.map tF)) := by rw [put_ne hba]; exact ob
      have hql : q.toNat < bad.length := by omega
      have e0 : bad[q.toNat]? = some bad[q.toNat] := List.getElem?_eq_getElem hql
      dsimp only
      rw [ix_p ob2 (atI_of q0 (show (bad.map tF)[q.toNat]? = some (tF bad[q.toNat]) by rw [List.getElem?_map, e0]; rfl))]
      exact .sub (hsub o2) (h o2 _ _ h2 (.inr (.inl rfl)) (weav_of (hbad _ (List.getElem_mem hql))))
    · rw [← put_self oa]
      exact hwoven o hO
end
end KG
/-! MD: orders of stores and rules. -/
namespace KG
open L2 PySem PyProof.Rows PySem.Spec
theorem code_snoc (b w : Int) : ∀ r : List Int, TS.code b (r ++ [w]) = TS.code b r * b + w
  | [] => by simp [TS.code]
  | d :: r => by
    show d * b ^ (r ++ [w]).length + TS.code b (r ++ [w]) = (d * b ^ r.length + TS.code b r) * b + w
    rw [code_snoc b w r, List.length_append, List.length_singleton, Int.pow_succ, Int.add_mul, ← Int.mul_assoc, Int.add_assoc]
theorem pw_flat {α β : Type} {f : α → List β} {R : β → β → Prop} {Q : α → α → Prop} : ∀ {l : List α}, l.Pairwise Q → (∀ x ∈ l, (f x).Pairwise R) → (∀ x ∈ l, ∀ y ∈ l, Q x y → ∀ a ∈ f x, ∀ b ∈ f y, R a b) → (l.flatMap f).Pairwise R
  | [], _, _, _ => by simp
  | x :: l, hp, h1, h2 => by
    rw [List.flatMap_cons, List.pairwise_append]
    cases hp with
    | cons p1 p2 =>
      refine ⟨h1 x List.mem_cons_self, pw_flat p2 (fun y hy => h1 y (List.mem_cons_of_mem _ hy)) (fun y hy z hz => h2 y (List.mem_cons_of_mem _ hy) z (List.mem_cons_of_mem _ hz)), fun a ha b hb => ?_⟩
      obtain ⟨y, hy, hb⟩ := List.mem_flatMap.mp hb
      exact h2 x List.mem_cons_self y (List.mem_cons_of_mem _ hy) (p1 y hy) a ha b hb
theorem pw_rgL (m : Int) : (rgL m).Pairwise (· < ·) := by
  unfold rgL
  rw [List.pairwise_map]
  exact List.pairwise_lt_range.imp fun h => by omega
theorem pw_allS {m : Int} (hm : 0 ≤ m) : ∀ c, (allS m c).Pairwise fun a b => TS.code m a < TS.code m b
  | 0 => by simp [allS]
  | c + 1 => by
    unfold allS
    refine pw_flat (pw_allS hm c) (fun x _ => ?_) fun x hx y hy hxy a ha b hb => ?_
    · rw [List.pairwise_map]
      refine (pw_rgL m).imp fun {a b} h => ?_
      rw [code_snoc, code_snoc]
      omega
    · obtain ⟨w, hw, rfl⟩ := List.mem_map.mp ha
      obtain ⟨v, hv, rfl⟩ := List.mem_map.mp hb
      obtain ⟨w0, w1⟩ := mem_rgL.mp hw
      obtain ⟨v0, v1⟩ := mem_rgL.mp hv
      rw [code_snoc, code_snoc]
      have : (TS.code m x + 1) * m ≤ TS.code m y * m := Int.mul_le_mul_of_nonneg_right (by omega) hm
      rw [Int.add_mul] at this
      omega
/-- two lists, strictly sorted, of the same members -/
theorem uniq_sorted {α : Type} {lt : α → α → Prop} (irr : ∀ a, ¬ lt a a) (tr : ∀ a b c, lt a b → lt b c → lt a c) : ∀ {l m : List α}, l.Pairwise lt → m.Pairwise lt → (∀ x, x ∈ l ↔ x ∈ m) → l = m
  | [], [], _, _, _ => rfl
  | [], y :: m, _, _, h => by have := (h y).mpr List.mem_cons_self; cases this
  | x :: l, [], _, _, h => by have := (h x).mp List.mem_cons_self; cases this
  | x :: l, y :: m, hl, hm, h => by
    cases hl with
    | cons l1 l2 =>
      cases hm with
      | cons m1 m2 =>
        have e : x = y := by
          rcases List.mem_cons.mp ((h x).mp List.mem_cons_self) with e | hx
          · exact e
          · rcases List.mem_cons.mp ((h y).mpr List.mem_cons_self) with e | hy
            · exact e.symm
            · exact absurd (tr _ _ _ (m1 x hx) (l1 y hy)) (irr _)
        subst e
        congr 1
        refine uniq_sorted irr tr l2 m2 fun z => ⟨fun hz => ?_, fun hz => ?_⟩
        · rcases List.mem_cons.mp ((h z).mp (List.mem_cons_of_mem _ hz)) with e | hz2
          · subst e; exact absurd (l1 z hz) (irr _)
          · exact hz2
        · rcases List.mem_cons.mp ((h z).mpr (List.mem_cons_of_mem _ hz)) with e | hz2
          · subst e; exact absurd (m1 z hz) (irr _)
          · exact hz2
open Classical in
/-- the closure of a store -/
noncomputable def clo (W : Wld) (s : List Int) : Rule := W.S.filter fun x => decide (Reach W.moves s x)
theorem clo_of {W : Wld} (wd : Wd W) {s : List Int} {R : Rule} (nd : R.Nodup) (hR : ∀ x, x ∈ R ↔ Reach W.moves s x) (hS : ∀ x, Reach W.moves s x → x ∈ W.S) (pw : R.Pairwise fun a b => TS.code W.m a ≤ TS.code W.m b) : R = clo W s := by
  have hm := wd.m
  have hs : W.S.Pairwise fun a b => TS.code W.m a < TS.code W.m b := pw_allS (by omega) _
  have inj : ∀ a ∈ W.S, ∀ b ∈ W.S, TS.code W.m a = TS.code W.m b → a = b := by
    have : ∀ {l : List (List Int)}, l.Pairwise (fun a b => TS.code W.m a < TS.code W.m b) → ∀ a ∈ l, ∀ b ∈ l, TS.code W.m a = TS.code W.m b → a = b := by
      intro l
      induction l with
      | nil => intro _ a ha; cases ha
      | cons x l ih =>
        intro hp a ha b hb e
        cases hp with
        | cons p1 p2 =>
          rcases List.mem_cons.mp ha with h1 | h1
          · rcases List.mem_cons.mp hb with h2 | h2
            · rw [h1, h2]
            · have := p1 b h2; rw [← h1] at this; omega
          · rcases List.mem_cons.mp hb with h2 | h2
            · have := p1 a h1; rw [← h2] at this; omega
            · exact ih p2 a h1 b h2 e
    exact this hs
  refine uniq_sorted (lt := fun a b => TS.code W.m a < TS.code W.m b) (fun a => Int.lt_irrefl _) (fun a b c => Int.lt_trans) ?_ (hs.sublist List.filter_sublist) fun x => ?_
  · have key : ∀ {l : List (List Int)}, (∀ x ∈ l, x ∈ W.S) → l.Nodup → l.Pairwise (fun a b => TS.code W.m a ≤ TS.code W.m b) → l.Pairwise fun a b => TS.code W.m a < TS.code W.m b := by
      intro l
      induction l with
      | nil => intro _ _ _; exact .nil
      | cons x l ih =>
        intro h1 h2 h3
        cases h3 with
        | cons p1 p2 =>
          obtain ⟨n1, n2⟩ := List.nodup_cons.mp h2
          refine .cons (fun y hy => ?_) (ih (fun y hy => h1 y (List.mem_cons_of_mem _ hy)) n2 p2)
          have := p1 y hy
          rcases Int.lt_or_eq_of_le this with h | h
          · exact h
          · exact absurd (inj x (h1 x List.mem_cons_self) y (h1 y (List.mem_cons_of_mem _ hy)) h) (fun e => n1 (by rw [e]; exact hy))
    exact key (fun x hx => hS x ((hR x).mp hx)) nd pw
  · rw [hR]
    unfold clo
    rw [List.mem_filter]
    simp only [decide_eq_true_eq]
    exact ⟨fun h => ⟨hS x h, h⟩, fun h => h.2⟩
end KG
/-! ME: the order of rules; the least among rules. -/
namespace KG
open L2 PySem PyProof.Rows PySem.Spec
def stPy (s : List Int) : PyData := .tuple (s.map .int)
def rulePy (R : Rule) : PyData := .tuple [.int R.length, .tuple (R.map stPy)]
abbrev Tk := Int ⊕ List Nat
def tkI : List Int → List Tk
  | [] => [.inl 0]
  | w :: s => .inl 1 :: .inl w :: tkI s
def tkR : Rule → List Tk
  | [] => [.inl 0]
  | s :: R => .inl 1 :: (tkI s ++ tkR R)
theorem tkI_eq : ∀ s : List Int, PySem.W.keyToksAll (s.map .int) = tkI s
  | [] => by simp [PySem.W.keyToksAll, tkI]
  | w :: s => by simp [PySem.W.keyToksAll, PySem.W.keyToks, tkI, tkI_eq s]
theorem tkR_eq : ∀ R : Rule, PySem.W.keyToksAll (R.map stPy) = tkR R
  | [] => by simp [PySem.W.keyToksAll, tkR]
  | s :: R => by
    rw [List.map_cons, PySem.W.keyToksAll, tkR_eq R]
    show Sum.inl 1 :: (PySem.W.keyToks (stPy s) ++ tkR R) = _
    unfold stPy
    rw [PySem.W.keyToks, tkI_eq]
    rfl
def ruleK (R : Rule) : List Tk := .inl 1 :: .inl R.length :: .inl 1 :: (tkR R ++ [.inl 0])
theorem ruleK_eq (R : Rule) : PySem.W.keyToks (rulePy R) = ruleK R := by
  unfold rulePy ruleK
  simp [PySem.W.keyToks, PySem.W.keyToksAll, tkR_eq]
theorem tkI_inj : ∀ {s t : List Int} {u v : List Tk}, tkI s ++ u = tkI t ++ v → s = t ∧ u = v
  | [], [], u, v, h => by simp [tkI] at h; exact ⟨rfl, h⟩
  | [], w :: t, u, v, h => by simp [tkI] at h
  | w :: s, [], u, v, h => by simp [tkI] at h
  | w :: s, x :: t, u, v, h => by
    simp only [tkI, List.cons_append, List.cons.injEq, Sum.inl.injEq, true_and] at h
    obtain ⟨h1, h2⟩ := h
    obtain ⟨h3, h4⟩ := tkI_inj h2
    exact ⟨by rw [h1, h3], h4⟩
theorem tkR_inj : ∀ {s t : Rule} {u v : List Tk}, tkR s ++ u = tkR t ++ v → s = t ∧ u = v
  | [], [], u, v, h => by simp [tkR] at h; exact ⟨rfl, h⟩
  | [], w :: t, u, v, h => by simp [tkR] at h
  | w :: s, [], u, v, h => by simp [tkR] at h
  | w :: s, x :: t, u, v, h => by
    simp only [tkR, List.cons_append, List.cons.injEq, true_and, List.append_assoc] at h
    obtain ⟨h1, h2⟩ := tkI_inj h
    obtain ⟨h3, h4⟩ := tkR_inj h2
    exact ⟨by rw [h1, h3], h4⟩
theorem ruleK_inj {a b : Rule} (h : ruleK a = ruleK b) : a = b := by
  unfold ruleK at h
  simp only [List.cons.injEq, true_and] at h
  exact (tkR_inj h.2).1
abbrev RO := listOrd itemOrd
def ruleLt (a b : Rule) : Prop := RO.blt (ruleK a) (ruleK b) = true
theorem ruleLt_irr (a : Rule) : ¬ ruleLt a a := fun h => by
  have := RO.irrefl (ruleK a)
  unfold ruleLt at h
  rw [this] at h
  cases h
theorem ruleLt_tr (a b c : Rule) (h1 : ruleLt a b) (h2 : ruleLt b c) : ruleLt a c := RO.trans _ _ _ h1 h2
theorem ruleLt_tot {a b : Rule} (h : ¬ ruleLt b a) (hne : a ≠ b) : ruleLt a b := by
  unfold ruleLt at h ⊢
  cases e : RO.blt (ruleK a) (ruleK b) with
  | true => rfl
  | false =>
    exact absurd (ruleK_inj (RO.total _ _ e (by simpa using h))) hne
theorem ruleLt_len {a b : Rule} (h : a.length < b.length) : ruleLt a b := by
  show lexLt itemOrd (ruleK a) (ruleK b) = true
  unfold ruleK
  rw [lex_self (O := itemOrd), lex_diff (O := itemOrd) (by simp; omega)]
  show decide ((a.length : Int) < b.length) = true
  exact decide_eq_true (by omega)
theorem len_of_lt {a b : Rule} (h : ruleLt a b) : a.length ≤ b.length := by
  rcases Nat.lt_or_ge b.length a.length with h2 | h2
  · exact absurd (ruleLt_tr _ _ _ h (ruleLt_len h2)) (ruleLt_irr _)
  · exact h2
def ruleLe : Rule → Rule → Bool := PySem.W.dataLe false rulePy
theorem ruleLe_iff {a b : Rule} : ruleLe a b = true ↔ ¬ ruleLt b a := by
  show (!RO.blt (PySem.W.keyToks (rulePy b)) (PySem.W.keyToks (rulePy a))) = true ↔ _
  rw [ruleK_eq, ruleK_eq]
  unfold ruleLt
  simp
def ruleSort (L : List Rule) : List Rule := L.mergeSort ruleLe
theorem ruleSort_perm (L : List Rule) : (ruleSort L).Perm L := List.mergeSort_perm L ruleLe
theorem ruleSort_pw {L : List Rule} (nd : L.Nodup) : (ruleSort L).Pairwise ruleLt := by
  have h : (ruleSort L).Pairwise fun a b => ruleLe a b = true := PySem.W.sort_pairwise (PySem.W.sortLe_total RO false fun b => PySem.W.keyToks (rulePy b)) L
  have nd' := (ruleSort_perm L).nodup_iff.mpr nd
  have key : ∀ {l : List Rule}, l.Pairwise (fun a b => ruleLe a b = true) → l.Nodup → l.Pairwise ruleLt := by
    intro l
    induction l with
    | nil => intro _ _; exact .nil
    | cons x l ih =>
      intro h1 h2
      cases h1 with
      | cons p1 p2 =>
        obtain ⟨n1, n2⟩ := List.nodup_cons.mp h2
        exact .cons (fun y hy => ruleLt_tot (ruleLe_iff.mp (p1 y hy)) fun e => n1 (by rw [e]; exact hy)) (ih p2 n2)
  exact key h nd'
end KG
/-! DS: sorted(rules, key=lambda r: (len(r), r)). -/
namespace KG
open L2 PySem PyProof.Rows PySem.Spec
section
variable {P : Program} {w : World} {K : PySem.W.Frag} {G H : Hp} {h : Heap}
theorem reads_ints : ∀ {ns : List Int} {us : List Value}, Vals (ns.map V.int) us → ReadsAll h us (ns.map .int) []
  | [], _, .nil => .nil
  | n :: ns, _, .cons r t => by
    obtain ⟨k, rfl⟩ := r
    exact .cons (as := []) (.int n k) (reads_ints t)
theorem tup_obj {a : Addr} {vs : List V} (ok : HOk P w H h) (ha : H a = some (.tup vs)) : ∃ (o : Obj) (its : List Value) (n : Nat), h.get? a = some o ∧ o.cls = .type "tuple" ∧ o.data = .seq its.toArray n ∧ Vals vs its ∧ its.length ≤ sizeLine := by
  obtain ⟨z, its, r, o, h1, h2, n, h3⟩ := (show ObjOk P w H h a (.tup vs) from ok a _ ha)
  exact ⟨o, its, n, h1, h2, h3, r, by rw [← r.length]; exact z⟩
theorem reads_st {y : V} {v : Value} {s : List Int} (ok : HOk P w H h) (e : Ex G H) (r : Rp K G y (tI s)) (rv : RelV y v) : Reads h v (stPy s) [] := by
  obtain ⟨a, vs, rfl, ha, _, rb⟩ := rp_tup e r
  rw [ints_of rb] at ha
  obtain rfl : v = Value.ref a := rv
  obtain ⟨o, its, n, h1, h2, h3, rr, _⟩ := tup_obj ok ha
  exact .tuple h1 h2 h3 (by simpa using reads_ints rr)
theorem reads_sts (ok : HOk P w H h) (e : Ex G H) : ∀ {R : Rule} {vs : List V} {us : List Value}, RpAll K G vs (R.map tI) → Vals vs us → ReadsAll h us (R.map stPy) []
  | [], _, _, .nil, .nil => .nil
  | s :: R, _, _, .cons q r, .cons a t => .cons (as := []) (reads_st ok e q a) (reads_sts ok e r t)
theorem reads_rule {y : V} {v : Value} {R : Rule} (ok : HOk P w H h) (e : Ex G H) (r : Rp K G y (ruleD R)) (rv : RelV y v) : Reads h v (.tuple (R.map stPy)) [] := by
  obtain ⟨a, vs, rfl, ha, _, rb⟩ := rp_tup e r
  obtain rfl : v = Value.ref a := rv
  obtain ⟨o, its, n, h1, h2, h3, rr, _⟩ := tup_obj ok ha
  exact .tuple h1 h2 h3 (by simpa using reads_sts ok e rb rr)
end
theorem alike_st (s t : List Int) : PySem.W.alike (stPy s) (stPy t) = true := PySem.W.alike_ints s t
theorem alike_sts : ∀ R Q : Rule, PySem.W.alikeAll (R.map stPy) (Q.map stPy) = true
  | [], _ => by simp [PySem.W.alikeAll]
  | _ :: _, [] => by simp [PySem.W.alikeAll]
  | s :: R, t :: Q => by
    rw [List.map_cons, List.map_cons]
    simp only [PySem.W.alikeAll, alike_st, alike_sts R Q, Bool.and_self]
theorem alike_rule (R Q : Rule) : PySem.W.alike (rulePy R) (rulePy Q) = true := by
  unfold rulePy
  simp [PySem.W.alike, PySem.W.alikeAll, alike_sts]
theorem depth_sts : ∀ R : Rule, PyData.depthAll (R.map stPy) ≤ 1
  | [] => by simp [PyData.depthAll]
  | s :: R => by
    rw [List.map_cons, PyData.depthAll]
    have h1 := depth_sts R
    have h2 : PyData.depth (stPy s) = 1 := by unfold stPy; rw [PyData.depth, depth_ints']
    omega
theorem depth_rulePy (R : Rule) : (rulePy R).depth ≤ 3 := by
  have := depth_sts R
  unfold rulePy
  simp only [PyData.depth, PyData.depthAll]
  omega
/-- a local name is read -/
theorem ldN {M : Model} {A : Around} {E : Value → Shared → Prop} {s : Shared} {env : Env} {m : Str → Option Value} {x : Str} {pos : Pos} {v : Value} {Q : Value → Shared → Prop} (hn : s.heap.Ns env.locals m) (hv : m x = some v) (h : Q v s)
    (hk : env.scope.kind = .function) (hl : env.kindOf x = some .local) (hd : (x == ("__debug__" : Str)) = false) : wpAny M A (eval (.Name x pos) env) Q E s :=
  wpAny_Name (wpAny_loadName_local hk hl hn hv h) hd
/-- the lambda's text and scope -/
structure LamK (params : Arguments) (body : Expr) (scope : Scope) : Prop where
  ex : ∃ (a : Str) (p1 p2 p3 p4 p5 : Pos) (x1 : Nat), body = .Tuple [.Call (.Name "len" p1) [.Name a p2] [] p3, .Name a p4] x1 p5 ∧ scope.names.lookup a = some .local ∧ (a == ("__debug__" : Str)) = false ∧
    ∀ (q : Str) (pm cv ctv v : Value), bindArgs (PySem.W.kla_fn "<lambda>" q params body scope [] pm cv ctv) ⟨[v], []⟩ = pure [(a, v)]
  kind : scope.kind = .function
  co : scope.isCoroutine = false
  gen : scope.isGenerator = false
  cell : ∀ y ∈ scope.names, y.2 ≠ .cell
  free : ∀ y ∈ scope.names, y.2 ≠ .free
  len : scope.names.lookup ("len" : Str) = some .globalImplicit
section
variable {X : Cx} {pins : List (Addr × Obj)} {σ : L2.St} {H G : Hp} {s : Shared}
theorem lam_key {f c' : Addr} {q : Str} {pm ctv : Value} {params : Arguments} {body : Expr} {scope : Scope} {k : Nat} {y : V} {v : Value} {R : Rule} (I : Inv X pins σ H s) (hr : Room k X.A) (hm : X.mg "len" = none) (L : LamK params body scope)
    (hf : s.heap.get? f = some (PySem.W.kla_obj "<lambda>" q params body scope [] pm c' ctv)) (hc : H c' = some (LamX.CodeO c' q)) (ex : Ex G H) (r : Rp X.K G y (ruleD R)) (rv : RelV y v) (hl : R.length ≤ 1000) (h : Heap) (tk : Nat) (kp : ∀ b o, s.heap.get? b = some o → h.get? b = some o) :
    wpAny (model X.prog X.w) X.A.in1.in1 (call (.ref f) [v]) (PySem.W.KeyPure (rulePy R) { s with heap := h, toks := tk }) (fun _ _ => False) { s with heap := h, toks := tk } := by
  have I1 : Inv X pins σ H { s with heap := h, toks := tk } := I.kept kp
  obtain ⟨a, p1, p2, p3, p4, p5, x1, hb, ha, hdb, hbind⟩ := L.ex
  obtain ⟨⟨oc, vs, t, hoc, hdc, hvc⟩, _, _⟩ := (show ObjOk X.prog X.w H h c' (LamX.CodeO c' q) from I1.hok c' _ hc)
  have hdep : X.A.in1.in1.depth < recursionLimit := by have := hr.dp; show X.A.depth < _; omega
  refine wpAny_call (codeAny_mono (PySem.W.kla_callFunE (R := fun r s' => ∃ u, r = .ok (.ret u) ∧ PySem.W.KeyPure (rulePy R) { s with heap := h, toks := tk } u s') hdep (kp _ _ hf) rfl L.co L.gen rfl ⟨c', oc, vs, t, rfl, hoc, hdc, hvc⟩ ?_) fun r s' hq => ?_)
  · rw [hbind]
    refine wpAny_pure (wpAny_newFunctionEnv L.cell (fun z hz => by rw [List.mem_singleton] at hz; subst hz; exact ha) (fun h₁ hns hsb => ⟨I1.nolimit.fresh _ hsb, ?_⟩) L.kind)
    have kp1 : ∀ b o, h.get? b = some o → h₁.get? b = some o := fun b o e => hsb.extBut b o (Nat.ne_of_lt (Heap.lt_size e)) (Heap.get?_push_of_some _ e)
    have I2 : Inv X pins σ H { s with heap := h₁, toks := tk + 1 } := I1.kept kp1
    refine PySem.W.kla_codeExpr ?_
    show wpAny _ _ (eval body (PySem.W.envX q scope h.objs.size f (.ref c') [])) _ _ _
    rw [hb]
    have hk : (PySem.W.envX q scope h.objs.size f (.ref c') []).scope.kind = .function := L.kind
    have hkl : (PySem.W.envX q scope h.objs.size f (.ref c') []).kindOf a = some .local := ha
    have hv : (fun x => [(a, v)].reverse.lookup x) a = some v := by simp
    obtain ⟨b, ws, rfl, hbt, _, rb⟩ := rp_tup ex r
    obtain rfl : v = Value.ref b := rv
    obtain ⟨o, its, n, ho1, ho2, ho3, rr, hz⟩ := tup_obj I2.hok hbt
    obtain ⟨mb, m1, m2⟩ := I2.mod.blt
    refine wpAny_Tuple_spliced ?_
    refine Calls.spliced_cons (wpAny_Call_Name_kw (Calls.Name_function_global hk L.len (Calls.loadGlobal_builtin (I2.mod.glob.keeps I2.bk) hm (m1.keeps I2.bk) ((m2 "len" (by decide)).trans boot_len) ?_) (by decide)))
    refine PyProof.Rows.callWith_builtin1 (PyProof.Rows.args_cons (ldN hns hv (PyProof.Rows.args_nil ?_) hk hkl hdb) rfl) rfl rfl
    have hil : its.length = R.length := by rw [← rr.length, rb.length, List.length_map]
    refine PyProof.Rows.len_tuple ⟨o, ho1, ho2, n, ho3⟩ (by rw [List.size_toArray]; have := line63; omega) ?_
    refine Calls.spliced_cons (ldN (s := { s with heap := h₁, toks := tk + 1 + 1 + 1 }) hns hv (Calls.spliced_nil ⟨by show 2 ≤ sizeLine; decide, _, rfl, ?_⟩) hk hkl hdb)
    refine ⟨_, _, rfl, fun b o e => Heap.get?_push_of_some _ (kp1 b o e), ?_⟩
    have rd := reads_rule I2.hok ex r (rfl : RelV (.ref b) (.ref b))
    refine .tuple (Heap.get?_push_size _ rfl) rfl rfl ?_
    rw [List.size_toArray, hil]
    exact .cons (as := []) (.int _ _) (.cons (as := []) (PyProof.Rows.Reads.keeps (fun b o e => Heap.get?_push_of_some _ e) rd) .nil)
  · obtain ⟨u, rfl, hu⟩ := hq
    exact hu
end
end KG
/-! DT: sorted by such a lambda, over data. -/
namespace KG
open L2 PySem PyProof.Rows PySem.Spec
/-- G without tables -/
def strip (G : Hp) : Hp := fun a => match G a with
  | some (.tbl _) => none
  | x => x
theorem strip_at {G : Hp} {a : Addr} {o : HO} (e : G a = some o) (n : ∀ ps, o ≠ .tbl ps) : strip G a = some o := by
  unfold strip
  rw [e]
  cases o <;> first
    | rfl
    | exact absurd rfl (n _)
theorem strip_of {G : Hp} {a : Addr} {o : HO} (e : strip G a = some o) : G a = some o ∧ ∀ ps, o ≠ .tbl ps := by
  unfold strip at e
  split at e
  · cases e
  · rename_i n
    exact ⟨e, fun ps z => n ps (by rw [e, z])⟩
theorem strip_none {G : Hp} {a : Addr} (e : G a = none) : strip G a = none := by unfold strip; rw [e]
theorem strip_rdK {G : Hp} {a : Addr} {k : List (Key × V)} (e : Rd G a (.dK k)) : Rd (strip G) a (.dK k) := e.elim (fun e => .inl (strip_at e (fun _ z => by cases z))) fun ⟨o, e⟩ => .inr ⟨o, strip_at e (fun _ z => by cases z)⟩
theorem strip_rdT {G : Hp} {a : Addr} {k : List (List Key × V)} (e : Rd G a (.dT k)) : Rd (strip G) a (.dT k) := e.elim (fun e => .inl (strip_at e (fun _ z => by cases z))) fun ⟨o, e⟩ => .inr ⟨o, strip_at e (fun _ z => by cases z)⟩
theorem strip_rdL {G : Hp} {a : Addr} {k : List V} (e : Rd G a (.lst k)) : Rd (strip G) a (.lst k) := e.elim (fun e => .inl (strip_at e (fun _ z => by cases z))) fun ⟨o, e⟩ => .inr ⟨o, strip_at e (fun _ z => by cases z)⟩
theorem strip_tup {G : Hp} {a : Addr} {vs : List V} (e : G a = some (.tup vs)) : strip G a = some (.tup vs) := strip_at e fun _ z => by cases z
theorem strip_lst {G : Hp} {a : Addr} {vs : List V} (e : G a = some (.lst vs)) : strip G a = some (.lst vs) := strip_at e fun _ z => by cases z
theorem strip_frz {G : Hp} {a : Addr} {o : Obj} {u : HO} (e : G a = some (.frz o u)) : strip G a = some (.frz o u) := strip_at e fun _ z => by cases z
theorem strip_ins {G : Hp} {a C dx : Addr} {fs : List (Str × V)} (e : G a = some (.ins C dx fs)) : strip G a = some (.ins C dx fs) := strip_at e fun _ z => by cases z
section
variable {K : PySem.W.Frag} {G : Hp}
mutual
theorem Rp.strip : ∀ {v : V} {d : D}, Rp K G v d → Rp K (strip G) v d
  | _, _, .non => .non
  | _, _, .bl b => .bl b
  | _, _, .int i => .int i
  | _, _, .str x => .str x
  | _, _, .ty n => .ty n
  | _, _, .ptr a => .ptr a
  | _, _, .tup e r => .tup (strip_tup e) (RpAll.strip r)
  | _, _, .tuf e c n r => .tuf (strip_frz e) c n (RpAll.strip r)
  | _, _, .lst e r => .lst (strip_lst e) (RpAll.strip r)
  | _, _, .lsq e r => .lsq (e.elim (fun e => .inl (strip_rdL e)) .inr) (RpAll.strip r)
  | _, _, .dk e r l => .dk (strip_rdK e) (RpAll.strip r) l
  | _, _, .dt e r l => .dt (strip_rdT e) (RpAll.strip r) l
  | _, _, .ob e r l => .ob (strip_ins e) (RpAll.strip r) l
theorem RpAll.strip : ∀ {vs : List V} {ds : List D}, RpAll K G vs ds → RpAll K (strip G) vs ds
  | _, _, .nil => .nil
  | _, _, .cons q r => .cons (Rp.strip q) (RpAll.strip r)
end
end
/-- the tables grow -/
theorem Sat.grow {K : PySem.W.Frag} {T : TabL} {B G H H' : Hp} {Ω : Om} (s : Sat K T B G H Ω) (e : LamX.ExtN H H') (t : LamX.Tabs T H') : Sat K T B (strip G) H' Ω ∧ Le K G (strip G) := by
  have le : Le K G (strip G) := fun _ _ r => r.strip
  refine ⟨⟨fun a o q => ?_, fun l ob q => ?_, t, s.base.trans le⟩, le⟩
  · obtain ⟨h1, h2⟩ := strip_of q
    exact e a o (s.ex a o h1) h2
  · obtain ⟨h1, h2⟩ := s.own l ob q
    obtain ⟨u, hu, ho⟩ := h2.own
    refine ⟨strip_none h1, h2.le le ?_⟩
    rw [hu]
    exact e l u hu fun ps z => by rw [z] at ho; exact ho
section
variable {X : Cx} {T : TabL} {B : Hp} {e : Expr} {es : List Expr} {pos p lpos kpos : Pos} {params : Arguments} {body : Expr} {scope : Scope} {c P0 : Addr} {k : Nat}
def tSortL (K : PySem.W.Frag) (T : TabL) (te : TE) : TE := fun σ H Q => te σ H fun x H1 => ∃ (l : Addr) (ys : List V) (L : List Rule) (G : Hp), x = .ref l ∧ SqL K H1 l ys ∧ (∀ a o, G a = some o → H1 a = some o ∧ ∀ ps, o ≠ .tbl ps) ∧ RpAll K G ys (L.map ruleD) ∧ L.length ≤ 1000 ∧ (∀ R ∈ L, R.length ≤ 1000) ∧ LamX.Tabs T H1 ∧
  ∀ H2 q zs, LamX.ExtN H1 H2 → LamX.Tabs T H2 → H2 q = none → RpAll K G zs ((ruleSort L).map ruleD) → Q (.ref q) (upd H2 q (.lst zs))
theorem each_of {K : PySem.W.Frag} {G : Hp} : ∀ {ys : List V} {us : List Value} {L : List Rule}, RpAll K G ys (L.map ruleD) → Vals ys us → PySem.W.EachIs (fun v R => ∃ y, RelV y v ∧ Rp K G y (ruleD R) ∧ R ∈ L) us L := by
  intro ys us L r rv
  suffices h : ∀ (M : List Rule) (ys : List V) (us : List Value), (∀ R ∈ M, R ∈ L) → RpAll K G ys (M.map ruleD) → Vals ys us → PySem.W.EachIs (fun v R => ∃ y, RelV y v ∧ Rp K G y (ruleD R) ∧ R ∈ L) us M from h L ys us (fun _ h => h) r rv
  intro M
  induction M with
  | nil =>
    intro ys us _ r rv
    cases r
    cases rv
    exact .nil
  | cons R M ih =>
    intro ys us hm r rv
    cases r with
    | cons q r =>
      cases rv with
      | cons a t => exact .cons ⟨_, a, q, hm R List.mem_cons_self⟩ (ih _ _ (fun Q hQ => hm Q (List.mem_cons_of_mem _ hQ)) r t)
theorem of_each {K : PySem.W.Frag} {G : Hp} {L : List Rule} : ∀ {us : List Value} {M : List Rule}, PySem.W.EachIs (fun v R => ∃ y, RelV y v ∧ Rp K G y (ruleD R) ∧ R ∈ L) us M → ∃ zs, Vals zs us ∧ RpAll K G zs (M.map ruleD)
  | [], [], _ => ⟨[], .nil, .nil⟩
  | _ :: _, _ :: _, .cons ⟨y, a, q, _⟩ t => by
    obtain ⟨zs, h1, h2⟩ := of_each t
    exact ⟨y :: zs, .cons a h1, .cons q h2⟩
theorem pe_sortLam {te : TE} (hr : Room k X.A) (hm : X.mg "sorted" = none) (hml : X.mg "len" = none) (hg : Gl X "sorted") (he : PE X e te) (L : LamK params body scope) (TB : LamX.TabB X.base X.mg c P0) (hcode : X.env.code = .ref c)
    (hT : (P0, X.env.qual ++ "<lambda>") ∈ T) (hu : ∀ p ∈ T, p.1 = P0 → p.2 = X.env.qual ++ "<lambda>") (hdef : defaultsOf params X.env = ([], [])) (hcl : ∀ cells, cloFrom cells scope.names [] = [])
    (hse : starEach [e] X.env = (false, eval e X.env) :: starEach [] X.env := by rfl) (h1 : backTo pos (starEach [e] X.env) = (false, eval e X.env) :: backTo pos (starEach [] X.env) := by rfl) (hpl : (backTo pos (starEach [e] X.env)).any (·.1) = false := by rfl)
    (hall : (backToKw pos (keywordEach [⟨some "key", .Lambda params body scope lpos, kpos⟩] X.env)).all (·.1.isSome) = true := by rfl) (hnone : (backToKw pos (keywordEach [⟨some "key", .Lambda params body scope lpos, kpos⟩] X.env)).any (·.1.isNone) = false := by rfl) (hks : (backToKw pos (keywordEach [⟨some "key", .Lambda params body scope lpos, kpos⟩] X.env)).filterMap (·.1) = [("key" : Str)] := by rfl) :
    PE X (.Call (.Name "sorted" p) [e] [⟨some "key", .Lambda params body scope lpos, kpos⟩] pos) (tSortL X.K T te) := by
  refine ⟨fun pins s σ H Q I h => wpAny_Call_Name_kw (ld_blt I hg hm (show bootBuiltins "sorted" = some (.builtin "sorted") from rfl) ?_ (by decide) (by decide))⟩
  have one := pa_cons (X := X) he pa_nil hse
  refine PyProof.Rows.callWith_kw (thn (one.run pos pins s σ H (fun vs H1 => match vs with
    | [x] => ∃ (l : Addr) (ys : List V) (L : List Rule) (G : Hp), x = .ref l ∧ SqL X.K H1 l ys ∧ (∀ a o, G a = some o → H1 a = some o ∧ ∀ ps, o ≠ .tbl ps) ∧ RpAll X.K G ys (L.map ruleD) ∧ L.length ≤ 1000 ∧ (∀ R ∈ L, R.length ≤ 1000) ∧ LamX.Tabs T H1 ∧
        ∀ H2 q zs, LamX.ExtN H1 H2 → LamX.Tabs T H2 → H2 q = none → RpAll X.K G zs ((ruleSort L).map ruleD) → Q (.ref q) (upd H2 q (.lst zs))
    | _ => False) I h) fun us s1 ⟨vs, H1, I1, r1, q1⟩ => ?_) h1 hpl hall hnone
  match vs, r1, q1 with
  | [x], r1, q1 =>
    obtain ⟨l, ys, Ls, G, rfl, hq, exG, rL, z1, z2, tabs, fin⟩ := q1
    obtain ⟨u, rfl, ru⟩ := r1.one
    obtain rfl : u = Value.ref l := ru
    show wpAny _ _ (evalAll ((do let v ← eval (.Lambda params body scope lpos) X.env; standAt pos; pure v) :: [])) _ _ s1
    refine wpAny_evalAll_cons (wpAny_bind (LamX.lam_make2 I1 TB hcode hT hu tabs hdef (fun y hy e => absurd e (L.free y hy)) fun f c' pm ctv H2 s2 I2 eN T2 hf hfn hfr hco => wpAny_bind (wpAny_standAt (wpAny_pure (wpAny_evalAll_nil ?_)))))
    rw [hks]
    rw [hcl] at hf
    have exG2 : Ex G H2 := fun a o e => eN a o (exG a o e).1 (exG a o e).2
    have hq2 : SqL X.K H2 l ys := by
      rcases hq with (e | ⟨o, e⟩) | e
      · exact .inl (.inl (eN _ _ e (fun _ z => by cases z)))
      · exact .inl (.inr ⟨o, eN _ _ e (fun _ z => by cases z)⟩)
      · exact .inr e
    obtain ⟨its, rv, pl, _⟩ := I2.list hq2
    show wpAny _ _ (call (.builtin "sorted") [.ref l] [(("key" : Str), .ref f)]) _ _ _
    have un := hr.un
    refine PySem.W.sorted_key_data (b := false) (vs := its) (bs := Ls) rulePy pl.isList (each_of rL rv) (PySem.W.AllAlike.of alike_rule) (PySem.W.Sortable.tuples fun _ => ⟨_, _, rfl⟩) (Nat.le_trans z1 (by decide)) (fun R _ => ?_) (PyProof.Rows.ksk_s1 _ _) (fun _ => PyProof.Rows.ksk_l1 _ _) (fun _ => PyProof.Rows.ksk_t1 _ _)
      (fun v R ⟨y, hy, ry, hRm⟩ _ h tk kp => lam_key I2 hr hml L hf hco exG2 ry hy (z2 R hRm) h tk kp) fun out cc h' tk kp hn hD hl eo => ?_
    · have := depth_rulePy R
      omega
    · obtain ⟨zs, hz, rz⟩ := of_each eo
      have hsz : s2.heap.objs.size ≤ s2.heap.objs.size + 1 := Nat.le_succ _
      have hfree : H2 (s2.heap.objs.size + 1) = none := I2.hok.fresh hsz
      refine ⟨.ref (s2.heap.objs.size + 1), _, I2.laid (t' := tk) (o := .lst zs) kp hsz ?_, rfl, fin H2 _ zs eN T2 hfree rz⟩
      refine ⟨?_, out, cc, hz, hD⟩
      rw [hz.length, hl]
      exact Nat.le_trans z1 (by decide)
  | [], _, q1 => exact q1.elim
  | _ :: _ :: _, _, q1 => exact q1.elim
end
end KG
/-! DU: a dict whose keys are rules; sorted by a lambda, the rule. -/
namespace KG
open L2 PySem PyProof.Rows PySem.Spec
section
variable {X : Cx} {T : TabL} {B : Hp} {e : Expr} {pos p lpos kpos : Pos} {params : Arguments} {body : Expr} {scope : Scope} {c P0 : Addr} {k : Nat} {ma : ME}
def mSortL (ma : ME) : ME := fun Ω Δ P => ma Ω Δ fun d Ω1 => ∃ L : List Rule, lstD d Ω1 (L.map ruleD) ∧ L.length ≤ 1000 ∧ (∀ R ∈ L, R.length ≤ 1000) ∧ P (.lst ((ruleSort L).map ruleD)) Ω1
theorem re_sortL (hr : Room k X.A) (hm : X.mg "sorted" = none) (hml : X.mg "len" = none) (hg : Gl X "sorted") (he : RE X T B e ma) (L : LamK params body scope) (TB : LamX.TabB X.base X.mg c P0) (hcode : X.env.code = .ref c)
    (hT : (P0, X.env.qual ++ "<lambda>") ∈ T) (hu : ∀ p ∈ T, p.1 = P0 → p.2 = X.env.qual ++ "<lambda>") (hdef : defaultsOf params X.env = ([], [])) (hcl : ∀ cells, cloFrom cells scope.names [] = [])
    (hse : starEach [e] X.env = (false, eval e X.env) :: starEach [] X.env := by rfl) (h1 : backTo pos (starEach [e] X.env) = (false, eval e X.env) :: backTo pos (starEach [] X.env) := by rfl) (hpl : (backTo pos (starEach [e] X.env)).any (·.1) = false := by rfl)
    (hall : (backToKw pos (keywordEach [⟨some "key", .Lambda params body scope lpos, kpos⟩] X.env)).all (·.1.isSome) = true := by rfl) (hnone : (backToKw pos (keywordEach [⟨some "key", .Lambda params body scope lpos, kpos⟩] X.env)).any (·.1.isNone) = false := by rfl) (hks : (backToKw pos (keywordEach [⟨some "key", .Lambda params body scope lpos, kpos⟩] X.env)).filterMap (·.1) = [("key" : Str)] := by rfl) :
    RE X T B (.Call (.Name "sorted" p) [e] [⟨some "key", .Lambda params body scope lpos, kpos⟩] pos) (mSortL ma) :=
  peM (pe_sortLam hr hm hml hg he L TB hcode hT hu hdef hcl hse h1 hpl hall hnone hks) fun σ H Q ⟨G, Ω, Δ, P, s, e, m, wk⟩ => ⟨G, Ω, Δ, _, s, e, m, fun v d Ω1 G1 H1 l1 s1 r1 ⟨L, hl, z1, z2, p⟩ => by
    obtain ⟨a, vs, rfl, hq, ra⟩ := lst_at s1 r1 hl
    refine ⟨a, vs, L, KG.strip G1, rfl, hq, fun a o e => ⟨s1.ex _ _ (strip_of e).1, (strip_of e).2⟩, ra.strip, z1, z2, s1.tab, fun H2 q zs eN T2 hq rz => ?_⟩
    obtain ⟨s2, l2⟩ := s1.grow eN T2
    exact (wk.le (l1.trans l2)).lst s2 rz p hq⟩
end
/-! ### rules as keys -/
def stNK (s : List Int) : NestedKey := .tup (s.map .num)
def ruleNK (R : Rule) : NestedKey := .tup (R.map stNK)
theorem stNK_inj {s t : List Int} (h : stNK s = stNK t) : s = t := by
  unfold stNK at h
  have h := NestedKey.tup.inj h
  have key : ∀ {s t : List Int}, s.map NestedKey.num = t.map NestedKey.num → s = t := by
    intro s
    induction s with
    | nil => intro t h; cases t with
      | nil => rfl
      | cons _ _ => cases h
    | cons a s ih => intro t h; cases t with
      | nil => cases h
      | cons b t =>
        simp only [List.map_cons, List.cons.injEq, NestedKey.num.injEq] at h
        rw [h.1, ih h.2]
  exact key h
theorem ruleNK_inj {R Q : Rule} (h : ruleNK R = ruleNK Q) : R = Q := by
  unfold ruleNK at h
  have h := NestedKey.tup.inj h
  have key : ∀ {s t : Rule}, s.map stNK = t.map stNK → s = t := by
    intro s
    induction s with
    | nil => intro t h; cases t with
      | nil => rfl
      | cons _ _ => cases h
    | cons a s ih => intro t h; cases t with
      | nil => cases h
      | cons b t =>
        simp only [List.map_cons, List.cons.injEq] at h
        rw [stNK_inj h.1, ih h.2]
  exact key h
section
variable {P : Program} {w : World} {K : PySem.W.Frag} {G H : Hp} {h : Heap}
theorem nk_ints : ∀ {ns : List Int} {us : List Value}, Vals (ns.map V.int) us → NestedAll h (ns.map .num) us
  | [], _, .nil => .nil
  | n :: ns, _, .cons r t => by
    obtain ⟨k, rfl⟩ := r
    exact .cons (.int n k) (nk_ints t)
theorem nk_st {y : V} {v : Value} {s : List Int} (ok : HOk P w H h) (e : Ex G H) (r : Rp K G y (tI s)) (rv : RelV y v) : NestedIs h (stNK s) v := by
  obtain ⟨a, vs, rfl, ha, _, rb⟩ := rp_tup e r
  rw [ints_of rb] at ha
  obtain rfl : v = Value.ref a := rv
  obtain ⟨o, its, n, h1, h2, h3, rr, _⟩ := tup_obj ok ha
  exact .tup h1 h2 h3 (by simpa using nk_ints rr)
theorem nk_sts (ok : HOk P w H h) (e : Ex G H) : ∀ {R : Rule} {vs : List V} {us : List Value}, RpAll K G vs (R.map tI) → Vals vs us → NestedAll h (R.map stNK) us
  | [], _, _, .nil, .nil => .nil
  | s :: R, _, _, .cons q r, .cons a t => .cons (nk_st ok e q a) (nk_sts ok e r t)
theorem nk_rule {a : Addr} {R : Rule} (ok : HOk P w H h) (e : Ex G H) (r : Rp K G (.ref a) (ruleD R)) : (nestedKind P w).is h (ruleNK R) a := by
  obtain ⟨b, vs, eb, ha, _, rb⟩ := rp_tup e r
  cases eb
  obtain ⟨o, its, n, h1, h2, h3, rr, _⟩ := tup_obj ok ha
  refine ⟨.tup h1 h2 h3 (by simpa using nk_sts ok e rb rr), ?_⟩
  have d0 : ∀ s : List Int, NestedKey.depthAll (s.map .num) = 0 := by
    intro s
    induction s with
    | nil => simp [NestedKey.depthAll]
    | cons a s ih => simp [NestedKey.depthAll, NestedKey.depth, ih]
  have d1 : ∀ R : Rule, NestedKey.depthAll (R.map stNK) ≤ 1 := by
    intro R
    induction R with
    | nil => simp [NestedKey.depthAll]
    | cons a s ih =>
      rw [List.map_cons, NestedKey.depthAll]
      have : (stNK a).depth = 1 := by unfold stNK; rw [NestedKey.depth, d0]
      omega
  have := d1 R
  unfold ruleNK
  rw [NestedKey.depth]
  omega
end
/-- the pairs: rules, where they stand, True -/
def XS (M : List Rule) (as : List Addr) : List (NestedKey × Addr × Value) := (M.zip as).map fun p => (ruleNK p.1, p.2, .bool true)
theorem xs_len {M : List Rule} {as : List Addr} (h : M.length = as.length) : (XS M as).length = M.length := by unfold XS; rw [List.length_map, List.length_zip]; omega
theorem xs_keys {M : List Rule} {as : List Addr} (h : M.length = as.length) : (XS M as).map (·.1) = M.map ruleNK := by
  unfold XS
  rw [List.map_map]
  exact map_zip1 ruleNK h
theorem xs_adr {M : List Rule} {as : List Addr} (h : M.length = as.length) : (XS M as).map (fun x => x.2.1) = as := by
  induction M generalizing as with
  | nil => cases as with
    | nil => rfl
    | cons _ _ => cases h
  | cons R M ih => cases as with
    | nil => cases h
    | cons a as =>
      unfold XS at ih ⊢
      rw [List.zip_cons_cons, List.map_cons, List.map_cons, ih (by simpa using h)]
theorem xs_nd {M : List Rule} {as : List Addr} (h : M.length = as.length) (nd : M.Nodup) : ((XS M as).map (·.1)).Nodup := by
  rw [xs_keys h]
  exact List.Pairwise.map _ (fun a b hne e => hne (ruleNK_inj e)) nd
theorem xs_put {M : List Rule} {as : List Addr} {R : Rule} {a : Addr} (h : M.length = as.length) : storedH (XS M as) (ruleNK R) a (.bool true) = if R ∈ M then XS M as else XS (M ++ [R]) (as ++ [a]) := by
  have fnd : (atKey (XS M as) (ruleNK R)).isSome = decide (R ∈ M) := by
    have q1 : ∀ x ∈ XS M as, ∃ Q ∈ M, x.1 = ruleNK Q := fun x hx => by
      have hx1 : x.1 ∈ (XS M as).map (·.1) := List.mem_map.mpr ⟨x, hx, rfl⟩
      rw [xs_keys h] at hx1
      obtain ⟨Q, hQ, e2⟩ := List.mem_map.mp hx1
      exact ⟨Q, hQ, e2.symm⟩
    unfold atKey
    rw [Option.isSome_map]
    by_cases hR : R ∈ M
    · rw [decide_eq_true hR]
      have : ruleNK R ∈ (XS M as).map (·.1) := by rw [xs_keys h]; exact List.mem_map.mpr ⟨R, hR, rfl⟩
      obtain ⟨x, hx, e⟩ := List.mem_map.mp this
      exact List.find?_isSome.mpr ⟨x, hx, decide_eq_true e⟩
    · rw [decide_eq_false hR]
      cases e : (XS M as).find? (fun x => decide (x.1 = ruleNK R)) with
      | none => rfl
      | some x =>
        obtain ⟨Q, hQ, e2⟩ := q1 x (List.mem_of_find?_eq_some e)
        have e3 := List.find?_some e
        have e3 : x.1 = ruleNK R := of_decide_eq_true e3
        rw [e2] at e3
        exact absurd (by rw [← ruleNK_inj e3]; exact hQ) hR
  unfold storedH
  rw [fnd]
  by_cases hR : R ∈ M
  · rw [if_pos (decide_eq_true hR), if_pos hR]
    unfold XS
    rw [List.map_map]
    refine List.map_congr_left fun p _ => ?_
    show putAt (ruleNK R) (.bool true) (ruleNK p.1, p.2, .bool true) = _
    unfold putAt
    split <;> rfl
  · rw [if_neg (by simp [hR]), if_neg hR]
    unfold XS
    rw [List.zip_append h, List.map_append]
    rfl
/-- the dict at d: its entries as they stand -/
def RawD (P : Program) (w : World) (d : Addr) (xs : List (NestedKey × Addr × Value)) : HO := .ext fun h => (d == sysModules) = false ∧ ∃ o es ep, h.get? d = some o ∧ o.ExactDict ∧ o.data = .dict es ep ∧ es.toList = xs.map (entryOfKey (nestedKind P w))
theorem rawD_ok {P : Program} {w : World} {H : Hp} {h : Heap} {d : Addr} {xs : List (NestedKey × Addr × Value)} (hs : (d == sysModules) = false) (e : ∃ o es ep, h.get? d = some o ∧ o.ExactDict ∧ o.data = .dict es ep ∧ es.toList = xs.map (entryOfKey (nestedKind P w))) : ObjOk P w H h d (RawD P w d xs) :=
  ⟨⟨hs, e⟩, let ⟨o, _, _, ho, _⟩ := e; ⟨o, ho⟩, fun h1 h2 ⟨z0, o, es, ep, z1, z2⟩ k => ⟨z0, o, es, ep, k _ z1, z2⟩⟩
theorem rawD_at {P : Program} {w : World} {H : Hp} {h : Heap} {d : Addr} {xs : List (NestedKey × Addr × Value)} (ok : HOk P w H h) (e : H d = some (RawD P w d xs)) : (d == sysModules) = false ∧ ∃ o es ep, h.get? d = some o ∧ o.ExactDict ∧ o.data = .dict es ep ∧ es.toList = xs.map (entryOfKey (nestedKind P w)) :=
  (show ObjOk P w H h d (RawD P w d xs) from ok d _ e).1
theorem rawD_ne {P : Program} {w : World} {d : Addr} {xs : List (NestedKey × Addr × Value)} {o : HO} (h : ∀ φ, o ≠ .ext φ) : RawD P w d xs ≠ o := fun z => by
  unfold RawD at z
  exact h _ z.symm
section
variable {X : Cx} {pos p q : Pos}
theorem pe_newR : PE X (.Dict [] [] pos) (fun _ H Q => ∀ p, H p = none → Q (.ref p) (upd H p (RawD X.prog X.w p []))) := ⟨fun pins s σ H Q I h =>
  wpAny_Dict_empty ⟨.ref s.heap.objs.size, _, I.laid (a := s.heap.objs.size) (o := RawD X.prog X.w s.heap.objs.size []) (t' := s.toks) (fun _ _ q => Heap.get?_push_of_some _ q) (Nat.le_refl _)
    (rawD_ok (beq_eq_false_iff_ne.mpr (Ne.symm (Nat.ne_of_lt I.big))) ⟨_, #[], 0, Heap.get?_push_size _ rfl, ⟨rfl, rfl, rfl⟩, rfl, rfl⟩), rfl, h _ (I.hok.fresh (Nat.le_refl _))⟩⟩
/-- what stands in the dict -/
def RulesAt (K : PySem.W.Frag) (G : Hp) (M : List Rule) (as : List Addr) : Prop := M.Nodup ∧ RpAll K G (as.map V.ref) (M.map ruleD)
theorem RulesAt.len {K : PySem.W.Frag} {G : Hp} {M : List Rule} {as : List Addr} (h : RulesAt K G M as) : M.length = as.length := by
  have := h.2.length
  rw [List.length_map, List.length_map] at this
  exact this.symm
theorem raw_is {P : Program} {w : World} {K : PySem.W.Frag} {G H : Hp} {h : Heap} (ok : HOk P w H h) (e : Ex G H) : ∀ {M : List Rule} {as : List Addr}, RpAll K G (as.map V.ref) (M.map ruleD) → ∀ x ∈ XS M as, (nestedKind P w).is h x.1 x.2.1
  | [], as, _, x, hx => by simp [XS] at hx
  | R :: M, [], r, x, hx => by simp [XS] at hx
  | R :: M, a :: as, r, x, hx => by
    cases r with
    | cons q r =>
      unfold XS at hx
      rw [List.zip_cons_cons, List.map_cons] at hx
      rcases List.mem_cons.mp hx with rfl | hx
      · exact nk_rule ok e q
      · exact raw_is ok e r x hx
def rSetR (P : Program) (w : World) (K : PySem.W.Frag) : TSet := fun o i v H Q => ∃ (d a : Addr) (M : List Rule) (as : List Addr) (R : Rule) (G : Hp), o = .ref d ∧ i = .ref a ∧ v = .bl true ∧ H d = some (RawD P w d (XS M as)) ∧ Ex G H ∧ RulesAt K G M as ∧ Rp K G (.ref a) (ruleD R) ∧ M.length ≤ 1000 ∧
  Q (upd H d (RawD P w d (if R ∈ M then XS M as else XS (M ++ [R]) (as ++ [a]))))
theorem set_raw (hu : X.A.units + 9 < cLine) : PSet X (rSetR X.prog X.w X.K) := by
  intro pins s σ H o i v ov iv u Q I ro ri rv ⟨d, a, M, as, R, G, eo, ei, ev, hd, ex, hM, hR, hl, q⟩
  subst eo ei ev
  obtain rfl : ov = Value.ref d := ro
  obtain rfl : iv = Value.ref a := ri
  obtain rfl : u = Value.bool true := rv
  obtain ⟨hs, ob, es, ep, h1, h2, h3, h4⟩ := rawD_at I.hok hd
  have hlen := hM.len
  have room : (nestedKind X.prog X.w).room X.A.in1 := by show X.A.units + 1 + 8 < cLine; omega
  refine wpAny_setItem_heap (knd := nestedKind X.prog X.w) (xs := XS M as) (k := ruleNK R) (hsz := by rw [xs_len hlen]; exact Nat.le_trans hl (by decide)) room (nk_rule I.hok ex hR) ⟨ob, es, ep, h1, h2, h3, h4, raw_is I.hok ex hM.2, xs_nd hlen hM.1⟩ fun h' dd same => ?_
  obtain ⟨o2, es2, ep2, k1, k2, k3, k4, _, _⟩ := dd
  rw [xs_put hlen] at k4
  exact ⟨_, d_write I (by rw [hd]; exact trivial) same ⟨o2, k1⟩ (rawD_ok hs ⟨o2, es2, ep2, k1, k2, k3, k4⟩), q⟩
/-- list(d) -/
def rListR (P : Program) (w : World) : List V → Hp → VK → Prop := fun xs H Q => ∃ (d : Addr) (M : List Rule) (as : List Addr), xs = [.ref d] ∧ H d = some (RawD P w d (XS M as)) ∧ M.length = as.length ∧ M.length ≤ 1000 ∧ ∀ p, H p = none → Q (.ref p) (upd H p (.lst (as.map V.ref)))
theorem vals_ref : ∀ as : List Addr, Vals (as.map V.ref) (as.map Value.ref)
  | [] => .nil
  | _ :: as => .cons rfl (vals_ref as)
theorem call_listR (hc : X.calm = true) : CallR X (.type "list") (rListR X.prog X.w) := by
  intro pins s σ H xs us Q I r ⟨d, M, as, ex, hd, hlen, hl, q⟩
  subst ex
  obtain ⟨u, rfl, rx⟩ := r.one
  obtain rfl : u = Value.ref d := rx
  obtain ⟨hs, ob, es, ep, h1, h2, h3, h4⟩ := rawD_at I.hok hd
  have e1 : es.size = M.length := by rw [← Array.length_toList, h4, List.length_map, xs_len hlen]
  refine PySem.W.kdl_call (kdl_raw hs h2 h3) (I.ok.hd hc) h1 (by rw [e1]; exact Nat.le_trans hl (by decide)) fun h' tk acc c kp e it => ?_
  have hal : acc.toList.length = as.length := by rw [Array.length_toList, it.1, e1, hlen]
  have ea : acc.toList = as.map Value.ref := by
    apply List.ext_getElem?
    intro j
    rw [List.getElem?_map]
    rcases Nat.lt_or_ge j as.length with hj | hj
    · have hv := List.getElem?_eq_getElem (l := acc.toList) (i := j) (by omega)
      obtain ⟨en, hen, ev⟩ := it.2 j _ (by rw [← Array.getElem?_toList]; exact hv)
      rw [hv, ev]
      rw [← Array.getElem?_toList, h4, List.getElem?_map] at hen
      have ha := List.getElem?_eq_getElem hj
      have hx : ((XS M as).map fun x => x.2.1)[j]? = some as[j] := by rw [xs_adr hlen]; exact ha
      rw [List.getElem?_map] at hx
      cases e2 : (XS M as)[j]? with
      | none => rw [e2] at hx; cases hx
      | some x =>
        rw [e2] at hx hen
        have hx : x.2.1 = as[j] := Option.some.inj hx
        have hen : entryOfKey (nestedKind X.prog X.w) x = en := Option.some.inj hen
        rw [ha, ← hen, ← hx]
        rfl
    · rw [List.getElem?_eq_none (by omega), List.getElem?_eq_none hj]
      rfl
  refine ⟨.ref s.heap.objs.size, _, I.laid (t' := tk) (o := .lst (as.map V.ref)) kp (Nat.le_refl _) ?_, rfl, q _ (I.hok.fresh (Nat.le_refl _))⟩
  exact ⟨by rw [List.length_map, ← hlen]; exact Nat.le_trans hl (by decide), acc.toList, c, by rw [ea]; exact vals_ref as, by rw [Array.toArray_toList]; exact e⟩
end
end KG
/-! DZ: defs that say repr: promised where no repr is under way; NotKept's maker; defs with a lambda. -/
namespace KG
open L2 PySem PyProof.Rows PySem.Spec
/-- a promise where no guard stands -/
structure FnOkG (P : Program) (w : World) (K : PySem.W.Frag) (mg : Str → Option Value) (base : Heap) (k : Nat) (f : Addr) (fd : FuncData) (ps : List Str) (sp : Sp) : Prop where
  len : ∀ vs H Q E, sp vs H Q E → vs.length = ps.length
  run : ∀ (A : Around) (outer : List Env) (s : Shared) (H : Hp) (args : Args) (us : List Value) (vs : List V) (Q : VK) (E : XK), Room k A → A.guards = some [] → Env0 P w K mg base A outer s H → BindsTo s fd args (ps.zip us) → Vals vs us → sp vs H Q E →
    codeAny (model P w) A (.call (.ref f) args) (CR C8.CX0 outer P w H s Q E) s
structure FnG (P : Program) (w : World) (K : PySem.W.Frag) (mg : Str → Option Value) (base : Heap) (T : TabL) (k : Nat) (x : Str) (F : FD) : Prop where
  ex : ∃ (f : Addr) (fd : FuncData) (ps : List Str), FnOkG P w K mg base k f fd ps (spO K T F) ∧ mg x = some (.ref f) ∧ PySem.W.keepIn K (.ref f) = true ∧ Binds K fd ps []
section
variable {P : Program} {w : World} {K : PySem.W.Frag} {mg : Str → Option Value} {base : Heap} {T : TabL} {x qual : Str} {params : Arguments} {body : List Stmt} {sc : Scope} {dvs : List V} {kws : List (Str × V)} {f : Addr} {fd : FuncData} {N ps : List Str} {k : Nat} {F : FD} {m : MS}
theorem fnOkG (Fd : FunD K x qual params body sc dvs kws f fd) (S : FnScope N ps sc) (len : ∀ ds Ω P, F ds Ω P → ds.length = ps.length)
    (hb : ∀ (cdv : Value) (A : Around) (outer : List Env) (s : Shared) (H B : Hp) (E : XK), Room k (A.deeper (envOfC qual sc s.heap.objs.size f cdv)) → A.guards = some [] → RSs (CD P w K mg base N qual sc f cdv A outer s H E) T B body m)
    (goal : ∀ ds Ω P, F ds Ω P → m Ω (startD N.length ds) (endK P)) : FnOkG P w K mg base (k + 1) f fd ps (spO K T F) := by
  obtain ⟨oc, od, dV, kV, doc, pm, an, cdv, ct, osl, rfl, lk, hcd, _, _⟩ := Fd.ex
  have ln : ∀ vs H Q E, spO K T F vs H Q E → vs.length = ps.length := fun vs H Q E ⟨G, Ω, ds, P', _, r, h, _⟩ => by
    rw [r.length]
    exact len _ _ _ h
  refine ⟨ln, fun A outer s H args us vs Q E hr hG e0 hbd rv h => LamX.run_ofS lk hcd S hr e0 hbd rv (ln _ _ _ _ h) fun hr' => ?_⟩
  obtain ⟨G, Ω, ds, P', st, r, h, wk⟩ := h
  refine ⟨_, (hb cdv A outer s H G E hr' hG).nox, G, Ω, startD N.length ds, endK P', st, ?_, goal ds Ω P' h, endK_ok (N := N) wk⟩
  unfold startD L2.start
  rw [← r.length]
  exact r.slots _
end
section
variable {X : Cx} {T : TabL} {B : Hp} {a b e o : Expr} {ma mb mo : ME} {es : List Expr} {mr : MA} {pos p apos : Pos} {k j : Nat} {x : Str} {F : FD}
theorem re_defG (c : FnG X.prog X.w X.K X.mg X.base T k x F) (hr : Room j X.A) (hk : k ≤ j) (hG : X.A.guards = some []) (hg : Gl X x) (ha : RA X T B (a :: es) mr)
    (hdb : (x == ("__debug__" : Str)) = false := by decide) (he : starEach (a :: es) X.env = (false, eval a X.env) :: starEach es X.env := by rfl) (hpl : (backTo pos (starEach es X.env)).any (·.1) = false := by rfl) :
    RE X T B (.Call (.Name x p) (a :: es) [] pos) (mCB F mr) := by
  obtain ⟨f, fd, ps, h1, h2, h3, h4⟩ := c.ex
  have pe : PE X (.Call (.Name x p) (a :: es) [] pos) (tCall (spO X.K T F) [] C8.E0 (rA X.K T B mr)) := by
    refine ⟨fun pins s σ H Q I h => wpAny_Call_Name_kw (ld_glob I hg h2 ?_ hdb)⟩
    refine PySem.W.callWith_K (h₀ := X.base) I.ok.mod.kin h3 (thn (ha.run pos pins s σ H _ I h) fun us s1 ⟨vs, H1, I1, rv, q⟩ => ⟨I1.kIn, ?_⟩) he hpl
    dsimp only at q
    rw [List.append_nil] at q
    have hl : us.length = ps.length := by rw [← rv.length]; exact h1.len _ _ _ _ q
    have bd := h4 s1 us I1.kIn (by rw [List.append_nil]; exact hl)
    rw [List.append_nil] at bd
    refine wpAny_call (codeAny_mono (h1.run X.A X.stack s1 H1 ⟨us, []⟩ us vs Q C8.E0 (hr.mono hk) hG I1.env0 bd rv q) fun r s2 hq => ?_)
    cases r with
    | error er => exact (show False from hq).elim
    | ok fl =>
      cases fl with
      | ret u => exact I1.after hq
      | next => exact False.elim hq
      | brk => exact False.elim hq
      | cont => exact False.elim hq
  refine peM pe fun σ H Q h => tCall_of (t := rA X.K T B mr) [] [] (fun _ => .nil) σ H Q ?_
  obtain ⟨G, Ω, Δ, P, s, e, m, wk⟩ := h
  refine ⟨G, Ω, Δ, P, s, e, ?_, wk⟩
  show mr Ω Δ fun ds Ω1 => F (ds ++ []) Ω1 P
  have e0 : (fun (ds : List D) (Ω1 : Om) => F (ds ++ []) Ω1 P) = fun ds Ω1 => F ds Ω1 P := by
    funext ds Ω1
    rw [List.append_nil]
  rw [e0]
  exact m
end
/-- nothing may be let out -/
def R0 : XR := fun _ _ _ _ => False
theorem xw0 {K : PySem.W.Frag} {T : TabL} {B : Hp} : XW K T B R0 (fun _ _ _ _ => False) := fun _ _ _ _ _ _ _ _ _ _ _ _ _ _ _ _ _ _ z => z
/-! ### NotKept's maker -/
structure FnNK (P : Program) (w : World) (K : PySem.W.Frag) (mg : Str → Option Value) (base : Heap) : Prop where
  ex : ∃ fI : FuncData, FnOk P w K mg base C8.CX0 1 181 fI ["self", "program", "store"] (spNK K) ∧ Binds K fI ["self", "program", "store"] []
section
variable {X : Cx} {T : TabL} {B : Hp} {a b : Expr} {ma mb : ME} {pos p : Pos} {j : Nat} {R : XR} {W : WX}
theorem rs_raiseN (t : Top X.K X.mg) (c : FnNK X.prog X.w X.K X.mg X.base) (hr : Room j X.A) (hk : 2 ≤ j) (hc : X.calm = true) (tk : Takes X W) (xw : XW X.K T B R W) (hg : Gl X "NotKept") (h1 : RE X T B a ma) (h2 : RE X T B b mb)
    (he : starEach [a, b] X.env = (false, eval a X.env) :: starEach [b] X.env := by rfl) (he2 : starEach [b] X.env = (false, eval b X.env) :: starEach [] X.env := by rfl) (hpl : (backTo pos (starEach [b] X.env)).any (·.1) = false := by rfl) {pos' : Pos} :
    RS X T B (.Raise (some (.Call (.Name "NotKept" p) [a, b] [] pos)) none pos') (mRaise R ma mb) := by
  obtain ⟨fI, h3, h4⟩ := c.ex
  exact rs_raiseNK t h3 (hr.mono hk) h4 hc tk xw hg h1 h2 he he2 hpl
end
end KG
/-! TN: more defs' readings and TERMs. Printed by gen_defs.py. -/
namespace KG
open L2 PySem PyProof.Rows PySem.Spec
section
variable {P : Program} {w : World} {K : PySem.W.Frag} {mg : Str → Option Value} {base : Heap}
abbrev N_checked_steps : List Str := ["cells", "program", "told", "place"]
def m_checked_steps (F_check_step : FD) : MS := (mSeq (mAsg (mLstO mNil) 2)
    (mSeq (mForI (iRg1 (mCons (mCB wLen (mCons (mVar 1) mNil)) mNil)) (gN 3) (mDrop (mBM wApp (mVar 2) (mCons (mCB F_check_step (mCons (mOp wIx (mVar 1) (mVar 3)) (mCons (mVar 0) (mCons (mVar 3) mNil)))) mNil))))
    (mRet (mCB wTuple (mCons (mVar 2) mNil)))))
theorem t_checked_steps (t : Top K mg) {F_check_step : FD} (f_check_step : Fn P w K mg base T0 3 "check_step" F_check_step) {cdv : Value} {A : Around} {outer : List Env} {s : Shared} {H B : Hp} {E : XK} (hr : Room 3 (A.deeper (envOfC d_checked_steps.qual d_checked_steps.scope s.heap.objs.size 237 cdv))) :
    RSs (CD P w K mg base N_checked_steps d_checked_steps.qual d_checked_steps.scope 237 cdv A outer s H E) T0 B d_checked_steps.body (m_checked_steps F_check_step) := by
  have hN : N_checked_steps.Nodup := by decide
  exact (rss_cons (rs_set hN rfl (.inl rfl) (re_lstO ra_nil))
    (rss_cons (rs_forI .never rfl (ri_range1 rfl t.n_range (ra_cons (re_len rfl t.n_len (ra_cons (rv 1) ra_nil)) ra_nil)) (rg_n hN rfl (.inl rfl)) (rss_one (rs_try0 (fun _ _ h => h) (rss_one (rs_expr (re_app (rv 2) (ra_cons (re_def f_check_step hr (by decide) rfl (ra_cons (re_sb hr (rv 1) (rv 3)) (ra_cons (rv 0) (ra_cons (rv 3) ra_nil)))) ra_nil)))))))
    (rss_one (rs_ret (re_tuple rfl t.n_tuple (ra_cons (rv 2) ra_nil))))))
abbrev N_check_stores : List Str := ["lot", "meaning", "stores", "told", "index"]
def m_check_stores (F_check_meaning : FD) (F_is_sequence : FD) (F_check_store : FD) : MS := (mSeq (mDrop (mCB F_check_meaning (mCons (mVar 0) (mCons (mVar 1) mNil))))
    (mSeq (mIfS (mNot (mB (mCB F_is_sequence (mCons (mVar 2) mNil)))) mNever mNext)
    (mSeq (mAsg mNewT 3)
    (mSeq (mForI (iRg1 (mCons (mCB wLen (mCons (mVar 2) mNil)) mNil)) (gN 4) (mAsgG (mC (.bl true)) (gSet (mVar 3) (mCB F_check_store (mCons (mVar 0) (mCons (mVar 1) (mCons (mOp wIx (mVar 2) (mVar 4)) mNil)))))))
    (mRet (mCB wTuple (mCons (mCB wSortA (mCons (mCB wListK (mCons (mVar 3) mNil)) mNil)) mNil)))))))
theorem t_check_stores (t : Top K mg) {F_check_meaning : FD} {F_is_sequence : FD} {F_check_store : FD} (f_check_meaning : Fn P w K mg base T0 3 "check_meaning" F_check_meaning) (f_is_sequence : Fn P w K mg base T0 1 "is_sequence" F_is_sequence) (f_check_store : Fn P w K mg base T0 3 "check_store" F_check_store) {cdv : Value} {A : Around} {outer : List Env} {s : Shared} {H B : Hp} {E : XK} (hr : Room 3 (A.deeper (envOfC d_check_stores.qual d_check_stores.scope s.heap.objs.size 465 cdv))) :
    RSs (CD P w K mg base N_check_stores d_check_stores.qual d_check_stores.scope 465 cdv A outer s H E) T0 B d_check_stores.body (m_check_stores F_check_meaning F_is_sequence F_check_store) := by
  have hN : N_check_stores.Nodup := by decide
  exact (rss_cons (rs_expr (re_def f_check_meaning hr (by decide) rfl (ra_cons (rv 0) (ra_cons (rv 1) ra_nil))))
    (rss_cons (rs_if (rt_not (rt_val (re_def f_is_sequence hr (by decide) rfl (ra_cons (rv 2) ra_nil)))) (rss_one rs_never) rss_nil)
    (rss_cons (rs_set hN rfl (.inl rfl) re_newT)
    (rss_cons (rs_forI .never rfl (ri_range1 rfl t.n_range (ra_cons (re_len rfl t.n_len (ra_cons (rv 2) ra_nil)) ra_nil)) (rg_n hN rfl (.inl rfl)) (rss_one (rs_try0 (fun _ _ h => h) (rss_one (rs_asg re_bl (rg_s hr (rv 3) (re_def f_check_store hr (by decide) rfl (ra_cons (rv 0) (ra_cons (rv 1) (ra_cons (re_sb hr (rv 2) (rv 4)) ra_nil))))))))))
    (rss_one (rs_ret (re_tuple rfl t.n_tuple (ra_cons (re_sortA rfl t.n_sorted (ra_cons (re_listK rfl rfl t.n_list (ra_cons (rv 3) ra_nil)) ra_nil)) ra_nil))))))))
abbrev N_weaving_move : List Str := ["lot", "meaning", "weaving", "store"]
def m_weaving_move (F_all_stores : FD) (F_run_weaving : FD) : MS := (mRet (mFrz (mDcT (iSq (mCB F_all_stores (mCons (mVar 0) (mCons (mFld 454 (mVar 1) "modulus") mNil)))) 3 (mVar 3) (mCB F_run_weaving (mCons (mVar 0) (mCons (mVar 1) (mCons (mVar 2) (mCons (mVar 3) mNil))))))))
theorem t_weaving_move (t : Top K mg) {F_all_stores : FD} {F_run_weaving : FD} (f_all_stores : Fn P w K mg base T0 1 "all_stores" F_all_stores) (f_run_weaving : Fn P w K mg base T0 5 "run_weaving" F_run_weaving) {cdv : Value} {A : Around} {outer : List Env} {s : Shared} {H B : Hp} {E : XK} (hr : Room 5 (A.deeper (envOfC d_weaving_move.qual d_weaving_move.scope s.heap.objs.size 470 cdv))) :
    RSs (CD P w K mg base N_weaving_move d_weaving_move.qual d_weaving_move.scope 470 cdv A outer s H E) T0 B d_weaving_move.body (m_weaving_move F_all_stores F_run_weaving) := by
  have hN : N_weaving_move.Nodup := by decide
  exact (rss_one (rs_ret (re_frz (re_dcT hr rfl hN (j := 3) rfl (show blkC N_weaving_move d_weaving_move.scope _ [("store", 3)] = true from by decide +kernel) (fun _ _ => rfl) (ri_seq (re_def f_all_stores hr (by decide) rfl (ra_cons (rv 0) (ra_cons (re_fld (rv 1) t.cls_Meaning t.no_modulus) ra_nil)))) (fun _ _ _ _ _ => (rv 3)) (fun _ _ _ _ _ => (re_def f_run_weaving hr (by decide) rfl (ra_cons (rv 0) (ra_cons (rv 1) (ra_cons (rv 2) (ra_cons (rv 3) ra_nil))))))))))
abbrev N_moves_of : List Str := ["lot", "meaning", "weavings", "stores", "told", "program", "weaving", "store"]
def m_moves_of (F_all_stores : FD) (F_run_program : FD) (F_weaving_move : FD) : MS := (mSeq (mAsg (mCB F_all_stores (mCons (mVar 0) (mCons (mFld 454 (mVar 1) "modulus") mNil))) 3)
    (mSeq (mAsg (mLstO mNil) 4)
    (mSeq (mForI (iRg1 (mCons (mCB wLen (mCons (mFld 331 (mVar 0) "programs") mNil)) mNil)) (gN 5) (mDrop (mBM wApp (mVar 4) (mCons (mFrz (mDcT (iSq (mVar 3)) 7 (mVar 7) (mCB F_run_program (mCons (mVar 0) (mCons (mVar 1) (mCons (mVar 5) (mCons (mVar 7) mNil))))))) mNil))))
    (mSeq (mForI (iSq (mVar 2)) (gN 6) (mDrop (mBM wApp (mVar 4) (mCons (mCB F_weaving_move (mCons (mVar 0) (mCons (mVar 1) (mCons (mVar 6) mNil)))) mNil))))
    (mRet (mVar 4))))))
theorem t_moves_of (t : Top K mg) {F_all_stores : FD} {F_run_program : FD} {F_weaving_move : FD} (f_all_stores : Fn P w K mg base T0 1 "all_stores" F_all_stores) (f_run_program : Fn P w K mg base T0 5 "run_program" F_run_program) (f_weaving_move : Fn P w K mg base T0 6 "weaving_move" F_weaving_move) {cdv : Value} {A : Around} {outer : List Env} {s : Shared} {H B : Hp} {E : XK} (hr : Room 6 (A.deeper (envOfC d_moves_of.qual d_moves_of.scope s.heap.objs.size 475 cdv))) :
    RSs (CD P w K mg base N_moves_of d_moves_of.qual d_moves_of.scope 475 cdv A outer s H E) T0 B d_moves_of.body (m_moves_of F_all_stores F_run_program F_weaving_move) := by
  have hN : N_moves_of.Nodup := by decide
  exact (rss_cons (rs_set hN rfl (.inl rfl) (re_def f_all_stores hr (by decide) rfl (ra_cons (rv 0) (ra_cons (re_fld (rv 1) t.cls_Meaning t.no_modulus) ra_nil))))
    (rss_cons (rs_set hN rfl (.inl rfl) (re_lstO ra_nil))
    (rss_cons (rs_forI .never rfl (ri_range1 rfl t.n_range (ra_cons (re_len rfl t.n_len (ra_cons (re_fld (rv 0) t.cls_Lot t.no_programs) ra_nil)) ra_nil)) (rg_n hN rfl (.inr rfl)) (rss_one (rs_expr (re_app (rv 4) (ra_cons (re_frz (re_dcT hr rfl hN (j := 7) rfl (show blkC N_moves_of d_moves_of.scope _ [("store", 7)] = true from by decide +kernel) (fun _ _ => rfl) (ri_seq (rv 3)) (fun _ _ _ _ _ => (rv 7)) (fun _ _ _ _ _ => (re_def f_run_program hr (by decide) rfl (ra_cons (rv 0) (ra_cons (rv 1) (ra_cons (rv 5) (ra_cons (rv 7) ra_nil)))))))) ra_nil)))))
    (rss_cons (rs_forI .never rfl (ri_seq (rv 2)) (rg_n hN rfl (.inl rfl)) (rss_one (rs_expr (re_app (rv 4) (ra_cons (re_def f_weaving_move hr (by decide) rfl (ra_cons (rv 0) (ra_cons (rv 1) (ra_cons (rv 6) ra_nil)))) ra_nil)))))
    (rss_one (rs_ret (rv 4)))))))
abbrev N_L_unwoven : List Str := ["_law_weaving_here", "_law_k"]
def m_L_unwoven : MS := (mRet (mOp wEq (mCB wLen (mCons (mFrz (mLc (iRg2 (mCons (mC (.int 1)) (mCons (mCB wLen (mCons (mVar 0) mNil)) mNil))) 1 (mB (mOp wNe (mOp wIx (mVar 0) (mVar 1)) (mOp wIx (mVar 0) (mOp wSub (mVar 1) (mC (.int 1)))))) (mVar 1))) mNil)) (mOp wSub (mLenSet (mVar 0)) (mC (.int 1)))))
theorem t_L_unwoven (t : Top K mg)  {cdv : Value} {A : Around} {outer : List Env} {s : Shared} {H B : Hp} {E : XK} (hr : Room 0 (A.deeper (envOfC d_L_unwoven.qual d_L_unwoven.scope s.heap.objs.size 603 cdv))) :
    RSs (CD P w K mg base N_L_unwoven d_L_unwoven.qual d_L_unwoven.scope 603 cdv A outer s H E) T0 B d_L_unwoven.body (m_L_unwoven ) := by
  have hN : N_L_unwoven.Nodup := by decide
  exact (rss_one (rs_ret ((cm_eq hr).re (re_len rfl t.n_len (ra_cons (re_frz (re_lc rfl hN (j := 1) rfl (show blkC N_L_unwoven d_L_unwoven.scope _ [("_law_k", 1)] = true from by decide +kernel) (fun _ _ => rfl) (ri_range2 rfl t.n_range (ra_cons re_int (ra_cons (re_len rfl t.n_len (ra_cons (rv 0) ra_nil)) ra_nil))) (fun _ _ _ _ _ => (rts_one ((cm_ne hr).rt (re_sb hr (rv 0) (rv 1)) (re_sb hr (rv 0) (re_sub (rv 1) re_int))))) (fun _ _ _ _ _ => (rv 1)))) ra_nil)) (re_sub (re_lenSet rfl rfl t.n_len rfl t.n_set (rv 0)) re_int))))
abbrev N_L_told_meaning : List Str := ["_law_m", "_law_tables", "_law_name"]
def m_L_told_meaning (F_Meaning_init : FD) : MS := (mRet (mMake 454 F_Meaning_init (mCons (mVar 0) (mCons (mPairs 1) mNil))))
theorem t_L_told_meaning (t : Top K mg) {F_Meaning_init : FD} (f_Meaning_init : FnMk P w K mg base T0 4 "Meaning" 454 F_Meaning_init) {cdv : Value} {A : Around} {outer : List Env} {s : Shared} {H B : Hp} {E : XK} (hr : Room 5 (A.deeper (envOfC d_L_told_meaning.qual d_L_told_meaning.scope s.heap.objs.size 637 cdv))) :
    RSs (CD P w K mg base N_L_told_meaning d_L_told_meaning.qual d_L_told_meaning.scope 637 cdv A outer s H E) T0 B d_L_told_meaning.body (m_L_told_meaning F_Meaning_init) := by
  have hN : N_L_told_meaning.Nodup := by decide
  exact (rss_one (rs_ret (re_make f_Meaning_init hr (by decide) rfl (ra_cons (rv 0) (ra_cons (re_pairs hr rfl hN (i := 1) (j := 2) (by decide) rfl rfl (.inr (.inl rfl)) (show blkC N_L_told_meaning d_L_told_meaning.scope _ [("_law_name", 2)] = true from by decide +kernel) (fun _ _ => rfl) (fun _ _ => .inr (.inl rfl))) ra_nil)))))
abbrev N_check_kept : List Str := ["lot", "meaning", "rule", "wrong"]
def m_check_kept (F_moves_of : FD) (F_first_leaving : FD) (R : XR) : MS := (mSeq (mAsg (mCB F_first_leaving (mCons (mCB F_moves_of (mCons (mVar 0) (mCons (mVar 1) (mCons (mTup mNil) mNil)))) (mCons (mVar 2) mNil))) 3)
    (mIfS (mB (mOp wIsN (mVar 3) (mC .non))) (mRaise R (mOp wIx (mVar 3) (mC (.int 0))) (mOp wIx (mVar 3) (mC (.int 1)))) mNext))
theorem t_check_kept (t : Top K mg) {F_moves_of : FD} {F_first_leaving : FD} (f_moves_of : Fn P w K mg base T0 7 "moves_of" F_moves_of) (f_first_leaving : Fn P w K mg base T0 1 "first_leaving" F_first_leaving) (f_NotKept_init : FnNK P w K mg base) {cdv : Value} {A : Around} {outer : List Env} {s : Shared} {H B : Hp} {E : XK} (hr : Room 7 (A.deeper (envOfC d_check_kept.qual d_check_kept.scope s.heap.objs.size 503 cdv))) {W : WX} {R : XR} (tk : Takes (cxOf (L2.CX P w) P w K mg base N_check_kept d_check_kept.qual d_check_kept.scope 503 cdv A outer s H E) W) (xw : XW K T0 B R W) :
    RSs (cxOf (L2.CX P w) P w K mg base N_check_kept d_check_kept.qual d_check_kept.scope 503 cdv A outer s H E) T0 B d_check_kept.body (m_check_kept F_moves_of F_first_leaving R) := by
  have hN : N_check_kept.Nodup := by decide
  exact (rss_cons (rs_set hN rfl (.inl rfl) (re_def f_first_leaving hr (by decide) rfl (ra_cons (re_def f_moves_of hr (by decide) rfl (ra_cons (rv 0) (ra_cons (rv 1) (ra_cons (re_tup ra_nil) ra_nil)))) (ra_cons (rv 2) ra_nil))))
    (rss_one (rs_if (cm_isn.rt (rv 3) re_non) (rss_one (rs_raiseN t f_NotKept_init hr (by decide) rfl tk xw rfl (re_sb hr (rv 3) re_int) (re_sb hr (rv 3) re_int))) rss_nil)))
abbrev N_right_fault : List Str := ["lot", "meaning", "stores", "weaving", "rule", "checked", "wrong"]
def m_right_fault (F_check_stores : FD) (F_check_weaving : FD) (F_check_kept : FDX) (F_weaving_move : FD) (F_first_leaving : FD) (R : XR) : MS := (mSeq (mAsg (mCB F_check_stores (mCons (mVar 0) (mCons (mVar 1) (mCons (mVar 2) mNil)))) 4)
    (mSeq (mAsg (mCB F_check_weaving (mCons (mVar 0) (mCons (mVar 3) mNil))) 5)
    (mSeq (mDrop (mCX F_check_kept R (mCons (mVar 0) (mCons (mVar 1) (mCons (mVar 4) mNil)))))
    (mSeq (mAsg (mCB F_first_leaving (mCons (mLst (mCons (mCB F_weaving_move (mCons (mVar 0) (mCons (mVar 1) (mCons (mVar 5) mNil)))) mNil)) (mCons (mVar 4) mNil))) 6)
    (mSeq (mIfS (mB (mOp wIs (mVar 6) (mC .non))) (mRet (mC .non)) mNext)
    (mRet (mOp wIx (mVar 6) (mC (.int 1)))))))))
theorem t_right_fault (t : Top K mg) {F_check_stores : FD} {F_check_weaving : FD} {F_check_kept : FDX} {F_weaving_move : FD} {F_first_leaving : FD} (f_check_stores : Fn P w K mg base T0 4 "check_stores" F_check_stores) (f_check_weaving : Fn P w K mg base T0 3 "check_weaving" F_check_weaving) (f_check_kept : FnX P w K mg base T0 8 "check_kept" F_check_kept) (f_weaving_move : Fn P w K mg base T0 6 "weaving_move" F_weaving_move) (f_first_leaving : Fn P w K mg base T0 1 "first_leaving" F_first_leaving) {cdv : Value} {A : Around} {outer : List Env} {s : Shared} {H B : Hp} {E : XK} (hr : Room 8 (A.deeper (envOfC d_right_fault.qual d_right_fault.scope s.heap.objs.size 510 cdv))) {W : WX} {R : XR} (tk : Takes (cxOf (L2.CX P w) P w K mg base N_right_fault d_right_fault.qual d_right_fault.scope 510 cdv A outer s H E) W) (xw : XW K T0 B R W) :
    RSs (cxOf (L2.CX P w) P w K mg base N_right_fault d_right_fault.qual d_right_fault.scope 510 cdv A outer s H E) T0 B d_right_fault.body (m_right_fault F_check_stores F_check_weaving F_check_kept F_weaving_move F_first_leaving R) := by
  have hN : N_right_fault.Nodup := by decide
  exact (rss_cons (rs_set hN rfl (.inl rfl) (re_def f_check_stores hr (by decide) rfl (ra_cons (rv 0) (ra_cons (rv 1) (ra_cons (rv 2) ra_nil)))))
    (rss_cons (rs_set hN rfl (.inl rfl) (re_def f_check_weaving hr (by decide) rfl (ra_cons (rv 0) (ra_cons (rv 3) ra_nil))))
    (rss_cons (rs_expr (re_defX f_check_kept tk xw hr (by decide) rfl (ra_cons (rv 0) (ra_cons (rv 1) (ra_cons (rv 4) ra_nil)))))
    (rss_cons (rs_set hN rfl (.inl rfl) (re_def f_first_leaving hr (by decide) rfl (ra_cons (re_lst (ra_cons (re_def f_weaving_move hr (by decide) rfl (ra_cons (rv 0) (ra_cons (rv 1) (ra_cons (rv 5) ra_nil)))) ra_nil)) (ra_cons (rv 4) ra_nil))))
    (rss_cons (rs_if (cm_is.rt (rv 6) re_non) (rss_one (rs_ret re_non)) rss_nil)
    (rss_one (rs_ret (re_sb hr (rv 6) re_int))))))))
abbrev N_L_broken : List Str := ["_law_hand_here", "_law_lot_here", "_law_m", "_law_tables", "_law_kept", "_law_given", "_law_meaning", "_law_weaving_here", "_law_move_here", "_law_broken_here", "_law_least", "_law_handed", "_law_rules", "_law_rule", "_law_out", "_law_wanted", "_law_k"]
def m_L_broken (F_L_move : FD) (F_L_stays : FD) (F_L_least_among : FD) (F_L_take : FD) (F_least_broken : FD) (F_L_leaves : FD) (F_right_fault : FDX) : MS := (mSeq (mAsg (mCB F_L_move (mCons (mVar 1) (mCons (mVar 2) (mCons (mVar 3) (mCons (mVar 7) mNil))))) 8)
    (mSeq (mAsg (mFrz (mLc (iSq (mVar 4)) 13 (mNot (mB (mCB F_L_stays (mCons (mLst (mCons (mVar 8) mNil)) (mCons (mVar 13) mNil))))) (mVar 13))) 9)
    (mSeq (mAsg (mCB F_L_least_among (mCons (mVar 9) mNil)) 10)
    (mSeq (mAsg (mIf (mB (mOp wEq (mCB F_L_take (mCons (mVar 0) (mCons (mC (.int 2)) mNil))) (mC (.int 0)))) (mCB wList (mCons (mVar 7) mNil)) (mVar 7)) 11)
    (mSeq (mIfS (mB (mOp wNe (mCB wRepr (mCons (mCB F_least_broken (mCons (mVar 5) (mCons (mVar 6) (mCons (mVar 11) mNil)))) mNil)) (mCB wRepr (mCons (mCB wTuple (mCons (mVar 10) mNil)) mNil)))) (mRet (mC (.bl false))) mNext)
    (mSeq (mAsg (mOp wAddO (mVar 10) (mFrz (mLc (iRg1 (mCons (mC (.int 3)) mNil)) 16 mYes (mOp wIx (mVar 4) (mCB F_L_take (mCons (mVar 0) (mCons (mCB wLen (mCons (mVar 4) mNil)) mNil))))))) 12)
    (mSeq (mIfS (mB (mOp wGt (mCB wLen (mCons (mVar 9) mNil)) (mC (.int 0)))) (mDrop (mBM wApp (mVar 12) (mCons (mOp wIx (mVar 9) (mCB F_L_take (mCons (mVar 0) (mCons (mCB wLen (mCons (mVar 9) mNil)) mNil)))) mNil))) mNext)
    (mSeq (mForI (iSq (mVar 12)) (gN 13) (mSeq (mAsg (mCB F_L_leaves (mCons (mLst (mCons (mVar 8) mNil)) (mCons (mVar 13) mNil))) 14)
    (mSeq (mAsg (mIf (mB (mOp wIs (mVar 14) (mC .non))) (mC .non) (mOp wIx (mVar 14) (mC (.int 1)))) 15)
    (mIfS (mB (mOp wNe (mCB wRepr (mCons (mCX F_right_fault R0 (mCons (mVar 5) (mCons (mVar 6) (mCons (mVar 13) (mCons (mVar 11) mNil))))) mNil)) (mCB wRepr (mCons (mVar 15) mNil)))) (mRet (mC (.bl false))) mNext))))
    (mRet (mC (.bl true)))))))))))
theorem t_L_broken (t : Top K mg) {F_L_move : FD} {F_L_stays : FD} {F_L_least_among : FD} {F_L_take : FD} {F_least_broken : FD} {F_L_leaves : FD} {F_right_fault : FDX} (f_L_move : Fn P w K mg base T0 3 "_law_move" F_L_move) (f_L_stays : Fn P w K mg base T0 1 "_law_stays" F_L_stays) (f_L_least_among : Fn P w K mg base T0 2 "_law_least_among" F_L_least_among) (f_L_take : Fn P w K mg base T0 2 "_law_take" F_L_take) (f_least_broken : Fn P w K mg base T0 8 "least_broken" F_least_broken) (f_L_leaves : Fn P w K mg base T0 1 "_law_leaves" F_L_leaves) (f_right_fault : FnX P w K mg base T0 9 "right_fault" F_right_fault) {cdv : Value} {A : Around} {outer : List Env} {s : Shared} {H B : Hp} {E : XK} (hr : Room 9 (A.deeper (envOfC d_L_broken.qual d_L_broken.scope s.heap.objs.size 712 cdv))) (hG : A.guards = some []) :
    RSs (CD P w K mg base N_L_broken d_L_broken.qual d_L_broken.scope 712 cdv A outer s H E) T0 B d_L_broken.body (m_L_broken F_L_move F_L_stays F_L_least_among F_L_take F_least_broken F_L_leaves F_right_fault) := by
  have hN : N_L_broken.Nodup := by decide
  exact (rss_cons (rs_set hN rfl (.inr rfl) (re_def f_L_move hr (by decide) rfl (ra_cons (rv 1) (ra_cons (rv 2) (ra_cons (rv 3) (ra_cons (rv 7) ra_nil))))))
    (rss_cons (rs_setLcF rfl hN rfl rfl (sw_true rfl rfl rfl rfl) (j := 13) rfl (show blkC N_L_broken d_L_broken.scope _ [("_law_rule", 13)] = true from by decide +kernel) (fun _ _ => rfl) (ri_seq (rv 4)) (fun _ _ _ _ _ => (rts_one (rt_not (rt_val (re_def f_L_stays hr (by decide) rfl (ra_cons (re_lst (ra_cons (rv 8) ra_nil)) (ra_cons (rv 13) ra_nil))))))) (fun _ _ _ _ _ => (rv 13)))
    (rss_cons (rs_set hN rfl (.inl rfl) (re_def f_L_least_among hr (by decide) rfl (ra_cons (rv 9) ra_nil)))
    (rss_cons (rs_set hN rfl (.inl rfl) (re_if ((cm_eq hr).rt (re_def f_L_take hr (by decide) rfl (ra_cons (rv 0) (ra_cons re_int ra_nil))) re_int) (re_list rfl t.n_list (ra_cons (rv 7) ra_nil)) (rv 7)))
    (rss_cons (rs_if ((cm_ne hr).rt (re_repr hr hG rfl t.n_repr (ra_cons (re_def f_least_broken hr (by decide) rfl (ra_cons (rv 5) (ra_cons (rv 6) (ra_cons (rv 11) ra_nil)))) ra_nil)) (re_repr hr hG rfl t.n_repr (ra_cons (re_tuple rfl t.n_tuple (ra_cons (rv 10) ra_nil)) ra_nil))) (rss_one (rs_ret re_bl)) rss_nil)
    (rss_cons (rs_set hN rfl (.inl rfl) (re_addO (rv 10) (re_frz (re_lc rfl hN (j := 16) rfl (show blkC N_L_broken d_L_broken.scope _ [("_law_k", 16)] = true from by decide +kernel) (fun _ _ => rfl) (ri_range1 rfl t.n_range (ra_cons re_int ra_nil)) (fun _ _ _ _ _ => rts_nil) (fun _ _ _ _ _ => (re_sb hr (rv 4) (re_def f_L_take hr (by decide) rfl (ra_cons (rv 0) (ra_cons (re_len rfl t.n_len (ra_cons (rv 4) ra_nil)) ra_nil)))))))))
    (rss_cons (rs_if (cm_gt.rt (re_len rfl t.n_len (ra_cons (rv 9) ra_nil)) re_int) (rss_one (rs_expr (re_app (rv 12) (ra_cons (re_sb hr (rv 9) (re_def f_L_take hr (by decide) rfl (ra_cons (rv 0) (ra_cons (re_len rfl t.n_len (ra_cons (rv 9) ra_nil)) ra_nil)))) ra_nil)))) rss_nil)
    (rss_cons (rs_forI .never rfl (ri_seq (rv 12)) (rg_n hN rfl (.inl rfl)) (rss_cons (rs_set hN rfl (.inl rfl) (re_def f_L_leaves hr (by decide) rfl (ra_cons (re_lst (ra_cons (rv 8) ra_nil)) (ra_cons (rv 13) ra_nil))))
    (rss_cons (rs_set hN rfl (.inl rfl) (re_if (cm_is.rt (rv 14) re_non) re_non (re_sb hr (rv 14) re_int)))
    (rss_one (rs_if ((cm_ne hr).rt (re_repr hr hG rfl t.n_repr (ra_cons (re_defX f_right_fault LamX.takes0 xw0 hr (by decide) rfl (ra_cons (rv 5) (ra_cons (rv 6) (ra_cons (rv 13) (ra_cons (rv 11) ra_nil))))) ra_nil)) (re_repr hr hG rfl t.n_repr (ra_cons (rv 15) ra_nil))) (rss_one (rs_ret re_bl)) rss_nil)))))
    (rss_one (rs_ret re_bl))))))))))
abbrev N_L_unkept : List Str := ["_law_hand_here", "_law_lot_here", "_law_m", "_law_tables", "_law_given", "_law_meaning", "_law_weaving_here", "_law_moves", "_law_turn", "_law_chosen", "_law_left", "_law_told", "e", "_law_out", "_law_wanted"]
def m_L_unkept (F_L_program_moves : FD) (F_L_stores : FD) (F_L_some : FD) (F_L_leaves : FD) (F_rule_fault : FD) (F_right_fault : FDX) (F_L_move : FD) : MS := (mSeq (mAsg (mCB F_L_program_moves (mCons (mVar 1) (mCons (mVar 2) (mCons (mVar 3) mNil)))) 7)
    (mSeq (mForI (iRg1 (mCons (mC (.int 3)) mNil)) (gN 8) (mSeq (mAsg (mCB F_L_some (mCons (mVar 0) (mCons (mCB F_L_stores (mCons (mOp wIx (mVar 1) (mC (.int 0))) (mCons (mVar 2) mNil))) (mCons (mC (.int 2)) mNil)))) 9)
    (mSeq (mAsg (mCB F_L_leaves (mCons (mVar 7) (mCons (mVar 9) mNil))) 10)
    (mSeq (mIfS (mB (mOp wNe (mCB wRepr (mCons (mCB F_rule_fault (mCons (mVar 4) (mCons (mVar 5) (mCons (mVar 9) mNil)))) mNil)) (mCB wRepr (mCons (mVar 10) mNil)))) (mRet (mC (.bl false))) mNext)
    (mSeq (mAsg (mC .non) 11)
    (mSeq (mTryNK (fun R => (mAsg (mLst (mCons (mC (.str "let")) (mCons (mCX F_right_fault R (mCons (mVar 4) (mCons (mVar 5) (mCons (mVar 9) (mCons (mVar 6) mNil))))) mNil))) 11)) 11 12 "kept")
    (mSeq (mAsg (mCB F_L_leaves (mCons (mLst (mCons (mCB F_L_move (mCons (mVar 1) (mCons (mVar 2) (mCons (mVar 3) (mCons (mVar 6) mNil))))) mNil)) (mCons (mVar 9) mNil))) 13)
    (mSeq (mAsg (mLst (mCons (mC (.str "let")) (mCons (mIf (mB (mOp wIs (mVar 13) (mC .non))) (mC .non) (mOp wIx (mVar 13) (mC (.int 1)))) mNil))) 14)
    (mSeq (mIfS (mB (mOp wIsN (mVar 10) (mC .non))) (mAsg (mLst (mCons (mC (.str "kept")) (mCons (mOp wIx (mVar 10) (mC (.int 0))) (mCons (mOp wIx (mVar 10) (mC (.int 1))) mNil)))) 14) mNext)
    (mIfS (mB (mOp wNe (mCB wRepr (mCons (mVar 11) mNil)) (mCB wRepr (mCons (mVar 14) mNil)))) (mRet (mC (.bl false))) mNext))))))))))
    (mRet (mC (.bl true)))))
theorem t_L_unkept (t : Top K mg) {F_L_program_moves : FD} {F_L_stores : FD} {F_L_some : FD} {F_L_leaves : FD} {F_rule_fault : FD} {F_right_fault : FDX} {F_L_move : FD} (f_L_program_moves : Fn P w K mg base T0 4 "_law_program_moves" F_L_program_moves) (f_L_stores : Fn P w K mg base T0 1 "_law_stores" F_L_stores) (f_L_some : Fn P w K mg base T0 3 "_law_some" F_L_some) (f_L_leaves : Fn P w K mg base T0 1 "_law_leaves" F_L_leaves) (f_rule_fault : Fn P w K mg base T0 8 "rule_fault" F_rule_fault) (f_right_fault : FnX P w K mg base T0 9 "right_fault" F_right_fault) (f_L_move : Fn P w K mg base T0 3 "_law_move" F_L_move) {cdv : Value} {A : Around} {outer : List Env} {s : Shared} {H B : Hp} {E : XK} (hr : Room 9 (A.deeper (envOfC d_L_unkept.qual d_L_unkept.scope s.heap.objs.size 724 cdv))) (hG : A.guards = some []) :
    RSs (CD P w K mg base N_L_unkept d_L_unkept.qual d_L_unkept.scope 724 cdv A outer s H E) T0 B d_L_unkept.body (m_L_unkept F_L_program_moves F_L_stores F_L_some F_L_leaves F_rule_fault F_right_fault F_L_move) := by
  have hN : N_L_unkept.Nodup := by decide
  exact (rss_cons (rs_set hN rfl (.inl rfl) (re_def f_L_program_moves hr (by decide) rfl (ra_cons (rv 1) (ra_cons (rv 2) (ra_cons (rv 3) ra_nil)))))
    (rss_cons (rs_forI .never rfl (ri_range1 rfl t.n_range (ra_cons re_int ra_nil)) (rg_n hN rfl (.inl rfl)) (rss_cons (rs_set hN rfl (.inl rfl) (re_def f_L_some hr (by decide) rfl (ra_cons (rv 0) (ra_cons (re_def f_L_stores hr (by decide) rfl (ra_cons (re_sb hr (rv 1) re_int) (ra_cons (rv 2) ra_nil))) (ra_cons re_int ra_nil)))))
    (rss_cons (rs_set hN rfl (.inl rfl) (re_def f_L_leaves hr (by decide) rfl (ra_cons (rv 7) (ra_cons (rv 9) ra_nil))))
    (rss_cons (rs_if ((cm_ne hr).rt (re_repr hr hG rfl t.n_repr (ra_cons (re_def f_rule_fault hr (by decide) rfl (ra_cons (rv 4) (ra_cons (rv 5) (ra_cons (rv 9) ra_nil)))) ra_nil)) (re_repr hr hG rfl t.n_repr (ra_cons (rv 10) ra_nil))) (rss_one (rs_ret re_bl)) rss_nil)
    (rss_cons (rs_set hN rfl (.inl rfl) re_non)
    (rss_cons (rs_tryNK t (it := 11) (ie := 12) rfl rfl hN rfl rfl rfl rfl rfl (by decide) (fun W pn xe R B' tk xw => (rss_one (rs_set hN rfl (.inl rfl) (re_lst (ra_cons re_str (ra_cons (re_defX f_right_fault tk xw hr (by decide) rfl (ra_cons (rv 4) (ra_cons (rv 5) (ra_cons (rv 9) (ra_cons (rv 6) ra_nil))))) ra_nil)))))))
    (rss_cons (rs_set hN rfl (.inl rfl) (re_def f_L_leaves hr (by decide) rfl (ra_cons (re_lst (ra_cons (re_def f_L_move hr (by decide) rfl (ra_cons (rv 1) (ra_cons (rv 2) (ra_cons (rv 3) (ra_cons (rv 6) ra_nil))))) ra_nil)) (ra_cons (rv 9) ra_nil))))
    (rss_cons (rs_set hN rfl (.inl rfl) (re_lst (ra_cons re_str (ra_cons (re_if (cm_is.rt (rv 13) re_non) re_non (re_sb hr (rv 13) re_int)) ra_nil))))
    (rss_cons (rs_if (cm_isn.rt (rv 10) re_non) (rss_one (rs_set hN rfl (.inl rfl) (re_lst (ra_cons re_str (ra_cons (re_sb hr (rv 10) re_int) (ra_cons (re_sb hr (rv 10) re_int) ra_nil)))))) rss_nil)
    (rss_one (rs_if ((cm_ne hr).rt (re_repr hr hG rfl t.n_repr (ra_cons (rv 11) ra_nil)) (re_repr hr hG rfl t.n_repr (ra_cons (rv 14) ra_nil))) (rss_one (rs_ret re_bl)) rss_nil)))))))))))
    (rss_one (rs_ret re_bl))))
abbrev N_law : List Str := ["_law_script", "_law_hand_here", "_law_cells", "_law_m", "_law_lot_here", "_law_tables", "_law_sizes_here", "_law_kept", "_law_given", "_law_meaning", "_law_weavings_here", "_law_k", "_law_program"]
def m_law (F_L_hand : FD) (F_L_small_world : FD) (F_L_world : FD) (F_L_stores : FD) (F_L_program_moves : FD) (F_L_all_kept : FD) (F_Lot_init : FD) (F_L_told_meaning : FD) (F_L_woven : FD) (F_L_breaking : FD) (F_L_broken : FD) (F_L_unkept : FD) : MS := (mSeq (mAsg (mCB F_L_hand (mCons (mVar 0) mNil)) 1)
    (mSeq (mAsgG (mCB F_L_small_world (mCons (mVar 1) mNil)) (gT 2 (gCons' (gN 2) (gCons' (gN 3) gNil'))))
    (mSeq (mAsgG (mCB F_L_world (mCons (mVar 1) (mCons (mVar 2) (mCons (mVar 3) mNil)))) (gT 2 (gCons' (gN 4) (gCons' (gN 5) gNil'))))
    (mSeq (mAsg (mFrz (mLc (iSq (mOp wIx (mVar 4) (mC (.int 1)))) 12 mYes (mCB wLen (mCons (mVar 12) mNil)))) 6)
    (mSeq (mAsg (mCB F_L_all_kept (mCons (mCB F_L_program_moves (mCons (mVar 4) (mCons (mVar 3) (mCons (mVar 5) mNil)))) (mCons (mCB F_L_stores (mCons (mVar 2) (mCons (mVar 3) mNil))) mNil))) 7)
    (mSeq (mAsg (mFrz (mMake 331 F_Lot_init (mCons (mVar 2) (mCons (mOp wIx (mVar 4) (mC (.int 1))) mNil)))) 8)
    (mSeq (mAsg (mCB F_L_told_meaning (mCons (mVar 3) (mCons (mVar 5) mNil))) 9)
    (mSeq (mAsg (mLst (mCons (mCB F_L_breaking (mCons (mVar 1) (mCons (mVar 4) (mCons (mVar 3) (mCons (mVar 5) (mCons (mVar 7) mNil)))))) (mCons (mCB F_L_woven (mCons (mVar 1) (mCons (mVar 6) mNil))) mNil))) 10)
    (mSeq (mForI (iSq (mLst (mCons (mC (.int 0)) (mCons (mC (.int 1)) (mCons (mC (.int 0)) mNil))))) (gN 11) (mIfS (mNot (mB (mCB F_L_broken (mCons (mVar 1) (mCons (mVar 4) (mCons (mVar 3) (mCons (mVar 5) (mCons (mVar 7) (mCons (mVar 8) (mCons (mVar 9) (mCons (mOp wIx (mVar 10) (mVar 11)) mNil))))))))))) (mRet (mC (.bl false))) mNext))
    (mRet (mCB F_L_unkept (mCons (mVar 1) (mCons (mVar 4) (mCons (mVar 3) (mCons (mVar 5) (mCons (mVar 8) (mCons (mVar 9) (mCons (mOp wIx (mVar 10) (mC (.int 1))) mNil))))))))))))))))))
theorem t_law (t : Top K mg) {F_L_hand : FD} {F_L_small_world : FD} {F_L_world : FD} {F_L_stores : FD} {F_L_program_moves : FD} {F_L_all_kept : FD} {F_Lot_init : FD} {F_L_told_meaning : FD} {F_L_woven : FD} {F_L_breaking : FD} {F_L_broken : FD} {F_L_unkept : FD} (f_L_hand : Fn P w K mg base T0 1 "_law_hand" F_L_hand) (f_L_small_world : Fn P w K mg base T0 3 "_law_small_world" F_L_small_world) (f_L_world : Fn P w K mg base T0 5 "_law_world" F_L_world) (f_L_stores : Fn P w K mg base T0 1 "_law_stores" F_L_stores) (f_L_program_moves : Fn P w K mg base T0 4 "_law_program_moves" F_L_program_moves) (f_L_all_kept : Fn P w K mg base T0 2 "_law_all_kept" F_L_all_kept) (f_Lot_init : FnMk P w K mg base T0 5 "Lot" 331 F_Lot_init) (f_L_told_meaning : Fn P w K mg base T0 6 "_law_told_meaning" F_L_told_meaning) (f_L_woven : Fn P w K mg base T0 4 "_law_woven" F_L_woven) (f_L_breaking : Fn P w K mg base T0 5 "_law_breaking" F_L_breaking) (f_L_broken : FnG P w K mg base T0 10 "_law_broken" F_L_broken) (f_L_unkept : FnG P w K mg base T0 10 "_law_unkept" F_L_unkept) {cdv : Value} {A : Around} {outer : List Env} {s : Shared} {H B : Hp} {E : XK} (hr : Room 10 (A.deeper (envOfC d_law.qual d_law.scope s.heap.objs.size 729 cdv))) (hG : A.guards = some []) :
    RSs (CD P w K mg base N_law d_law.qual d_law.scope 729 cdv A outer s H E) T0 B d_law.body (m_law F_L_hand F_L_small_world F_L_world F_L_stores F_L_program_moves F_L_all_kept F_Lot_init F_L_told_meaning F_L_woven F_L_breaking F_L_broken F_L_unkept) := by
  have hN : N_law.Nodup := by decide
  exact (rss_cons (rs_set hN rfl (.inl rfl) (re_def f_L_hand hr (by decide) rfl (ra_cons (rv 0) ra_nil)))
    (rss_cons (rs_asg (re_def f_L_small_world hr (by decide) rfl (ra_cons (rv 1) ra_nil)) (rg_t rfl (rgs_cons (rg_n hN rfl (.inl rfl)) (rgs_cons (rg_n hN rfl (.inl rfl)) rgs_nil))))
    (rss_cons (rs_asg (re_def f_L_world hr (by decide) rfl (ra_cons (rv 1) (ra_cons (rv 2) (ra_cons (rv 3) ra_nil)))) (rg_t rfl (rgs_cons (rg_n hN rfl (.inl rfl)) (rgs_cons (rg_n hN rfl (.inl rfl)) rgs_nil))))
    (rss_cons (rs_setLcF rfl hN rfl rfl (sw_true rfl rfl rfl rfl) (j := 12) rfl (show blkC N_law d_law.scope _ [("_law_program", 12)] = true from by decide +kernel) (fun _ _ => rfl) (ri_seq (re_sb hr (rv 4) re_int)) (fun _ _ _ _ _ => rts_nil) (fun _ _ _ _ _ => (re_len rfl t.n_len (ra_cons (rv 12) ra_nil))))
    (rss_cons (rs_set hN rfl (.inl rfl) (re_def f_L_all_kept hr (by decide) rfl (ra_cons (re_def f_L_program_moves hr (by decide) rfl (ra_cons (rv 4) (ra_cons (rv 3) (ra_cons (rv 5) ra_nil)))) (ra_cons (re_def f_L_stores hr (by decide) rfl (ra_cons (rv 2) (ra_cons (rv 3) ra_nil))) ra_nil))))
    (rss_cons (rs_set hN rfl (.inl rfl) (re_frz (re_make f_Lot_init hr (by decide) rfl (ra_cons (rv 2) (ra_cons (re_sb hr (rv 4) re_int) ra_nil)))))
    (rss_cons (rs_set hN rfl (.inl rfl) (re_def f_L_told_meaning hr (by decide) rfl (ra_cons (rv 3) (ra_cons (rv 5) ra_nil))))
    (rss_cons (rs_set hN rfl (.inl rfl) (re_lst (ra_cons (re_def f_L_breaking hr (by decide) rfl (ra_cons (rv 1) (ra_cons (rv 4) (ra_cons (rv 3) (ra_cons (rv 5) (ra_cons (rv 7) ra_nil)))))) (ra_cons (re_def f_L_woven hr (by decide) rfl (ra_cons (rv 1) (ra_cons (rv 6) ra_nil))) ra_nil))))
    (rss_cons (rs_forI .never rfl (ri_seq (re_lst (ra_cons re_int (ra_cons re_int (ra_cons re_int ra_nil))))) (rg_n hN rfl (.inl rfl)) (rss_one (rs_if (rt_not (rt_val (re_defG f_L_broken hr (by decide) hG rfl (ra_cons (rv 1) (ra_cons (rv 4) (ra_cons (rv 3) (ra_cons (rv 5) (ra_cons (rv 7) (ra_cons (rv 8) (ra_cons (rv 9) (ra_cons (re_sb hr (rv 10) (rv 11)) ra_nil))))))))))) (rss_one (rs_ret re_bl)) rss_nil)))
    (rss_one (rs_ret (re_defG f_L_unkept hr (by decide) hG rfl (ra_cons (rv 1) (ra_cons (rv 4) (ra_cons (rv 3) (ra_cons (rv 5) (ra_cons (rv 8) (ra_cons (rv 9) (ra_cons (re_sb hr (rv 10) re_int) ra_nil)))))))))))))))))))
end
end KG
namespace KG
open L2 PySem PyProof.Rows PySem.Spec
local macro_rules | `(tactic| walk_at "d") => `(tactic| first | simp only [startD, endK, List.map_cons, List.map_nil, List.length_cons, List.length_nil, List.replicate, List.cons_append, List.nil_append, Nat.reduceAdd, Nat.reduceSub, Nat.zero_add, Nat.add_zero, Nat.reduceLeDiff,
  mCntF, mSetF, mSetd, mSeq, mAsg, mDrop, mRet, mRetN, mIfS, mCont, mNext, mNever, gN, gNil_eq, gCons_eq, gT_t, gT_l, gSet, mAsgG, mVar, slot, mC, mOp, mUn, mNil, mCons, mTup, mLst, mLstO, mCB, mIf, mB, mAnd, mOr, mNot, mOrV, mNotV, mYes, mNewK, mNewT, mBM, mTuF,
  wInt2, wIs, wIsN, wNeg, wInt, wAbs, mFld, Ob.d, isi_ii, isi_ib, isi_ss, isiS_t, isiS_f, isiS_l, len_t, len_f, len_l, len_q, tuple_t, tuple_f, tuple_l, eq_ii, ne_ii, eq_ss, ne_ss, add_ii, add_tt, add_ll, mul_ii, in_t, in_l, in_il, fld_cells, fld_programs, fld_modulus, fld_tables, mMeth, meth_mean, List.length_map,
  List.set_cons_zero, List.set_cons_succ, List.getElem?_cons_zero, List.getElem?_cons_succ, Option.some.injEq, exists_eq_left', exists_eq_left, exists_eq', exists_eq, D.int.injEq, D.bl.injEq, D.str.injEq, D.tup.injEq, D.lst.injEq, D.ptr.injEq, D.ty.injEq, List.cons.injEq, and_true, true_and, reduceCtorEq, false_or, or_false, false_and, and_false, exists_false, or_self,
  exists_and_left, exists_and_right, exists_const, ne_eq, not_true_eq_false, not_false_eq_true, decide_true, decide_false, Bool.false_eq_true, Bool.true_eq_false, false_implies, true_implies, forall_const, implies_true, Bool.not_true, Bool.not_false, Bool.not_eq_true', Bool.not_eq_true, Bool.not_eq_false', decide_eq_true_eq, decide_eq_false_iff_not, put_same, del_same, forall_eq', forall_eq, forall_apply_eq_imp_iff] | (try dsimp only))
/-! G19: all rules that are kept. -/
section
def F_L_by_size : FD := fun ds Ω P => ∃ L : List Rule, ds = [.lst (L.map ruleD)] ∧ L.length ≤ 1000 ∧ (∀ R ∈ L, R.length ≤ 9 ∧ ∀ s ∈ R, s.length ≤ 3) ∧ P (.lst ((ruleSort L).map ruleD)) Ω
def keptL (W : Wld) : List Rule := (ruleSort (subs W.S)).filter fun R => decide (Kept W.moves R)
theorem mem_subs : ∀ {S : List (List Int)} {R : Rule}, R ∈ subs S ↔ R.Sublist S := by
  intro S
  unfold subs
  have key : ∀ (S : List (List Int)) (told : List Rule) (R : Rule), R ∈ S.foldl (fun told x => told ++ told.map fun r => r ++ [x]) told ↔ ∃ A ∈ told, ∃ C, C.Sublist S ∧ R = A ++ C := by
    intro S
    induction S with
    | nil =>
      intro told R
      simp
    | cons x S ih =>
      intro told R
      rw [List.foldl_cons, ih]
      constructor
      · rintro ⟨A, hA, C, hC, rfl⟩
        rcases List.mem_append.mp hA with hA | hA
        · exact ⟨A, hA, C, hC.cons x, rfl⟩
        · obtain ⟨A', hA', rfl⟩ := List.mem_map.mp hA
          exact ⟨A', hA', x :: C, hC.cons_cons x, by simp⟩
      · rintro ⟨A, hA, C, hC, rfl⟩
        cases hC with
        | cons _ h => exact ⟨A, List.mem_append.mpr (.inl hA), _, h, rfl⟩
        | cons_cons _ h => exact ⟨A ++ [x], List.mem_append.mpr (.inr (List.mem_map.mpr ⟨A, hA, rfl⟩)), _, h, by simp⟩
  intro R
  rw [key]
  simp
theorem few_S {W : Wld} (wd : Wd W) : W.S.length ≤ 9 := by
  unfold Wld.S
  rw [len_allS]
  have hc := wd.c
  have hm := wd.m
  rcases wd.small with h | h
  · have h1 : W.c = 1 ∨ W.c = 2 := by omega
    have h2 : W.m = 2 ∨ W.m = 3 := by omega
    rcases h1 with h1 | h1 <;> rcases h2 with h2 | h2 <;> rw [h1, h2] <;> decide
  · have h1 : W.c = 1 ∨ W.c = 2 ∨ W.c = 3 := by omega
    rcases h1 with h1 | h1 | h1 <;> rw [h1, h] <;> decide
def F_L_all_kept : FD := fun ds Ω P => ∃ W : Wld, ds = [.lst (W.moves.map (mvD W.S)), .lst (W.S.map tI)] ∧ Wd W ∧ P (.lst ((keptL W).map ruleD)) Ω
theorem g_L_all_kept (ds Ω P) (h : F_L_all_kept ds Ω P) : m_L_all_kept F_L_subsets F_L_by_size F_L_stays Ω (startD 3 ds) (endK P) := by
  obtain ⟨W, rfl, wd, h⟩ := h
  have hS := few_S wd
  have hl : (subs W.S).length ≤ 512 := by
    unfold subs
    rw [len_subs]
    have := Nat.pow_le_pow_right (n := 2) (by omega) hS
    simpa using this
  have hl2 : (ruleSort (subs W.S)).length ≤ 512 := by rw [(ruleSort_perm _).length_eq]; exact hl
  unfold m_L_all_kept
  walk_at "d"
  refine lcFil (xs := ruleSort (subs W.S)) (it := ruleD) (e := ruleD) (p := fun R => decide (Kept W.moves R)) (Ω1 := Ω) (src_s (d := .lst ((ruleSort (subs W.S)).map ruleD)) (fun P p => by
    walk_at "d"
    refine ⟨W.S, rfl, hS, subs W.S, rfl, by omega, fun R hR => ?_, p⟩
    have hR := mem_subs.mp hR
    refine ⟨Nat.le_trans hR.length_le hS, fun s hs => ?_⟩
    have h1 := ((mem_S wd).mp (hR.subset hs)).1
    have h2 := wd.c
    omega) (.inr (.inr (.inl rfl)))) (by omega) (fun _ _ _ => keep_lst) ?_ ?_
  · intro q acc R hR hq Rr hRr
    have hR := mem_subs.mp ((ruleSort_perm _).mem_iff.mp hR)
    unfold lcT
    walk_at "d"
    refine ⟨W.S, W.moves, R, rfl, fun s hs => hR.subset hs, ?_⟩
    walk_at "d"
    by_cases hp : Kept W.moves R
    · rw [if_pos (decide_eq_true hp)] at hRr
      exact ⟨fun _ => hRr, fun z => absurd hp z⟩
    · rw [if_neg (by simpa using hp)] at hRr
      exact ⟨fun z => absurd z hp, fun _ => hRr⟩
  · exact .now h
end
end KG
namespace KG
open L2 PySem PyProof.Rows PySem.Spec
local macro_rules | `(tactic| walk_at "d") => `(tactic| first | simp only [startD, endK, List.map_cons, List.map_nil, List.length_cons, List.length_nil, List.replicate, List.cons_append, List.nil_append, Nat.reduceAdd, Nat.reduceSub, Nat.zero_add, Nat.add_zero, Nat.reduceLeDiff,
  mCntF, mSetF, mSetd, mSeq, mAsg, mDrop, mRet, mRetN, mIfS, mCont, mNext, mNever, gN, gNil_eq, gCons_eq, gT_t, gT_l, gSet, mAsgG, mVar, slot, mC, mOp, mUn, mNil, mCons, mTup, mLst, mLstO, mCB, mIf, mB, mAnd, mOr, mNot, mOrV, mNotV, mYes, mNewK, mNewT, mBM, mTuF,
  wInt2, wIs, wIsN, wNeg, wInt, wAbs, mFld, Ob.d, isi_ii, isi_ib, isi_ss, isiS_t, isiS_f, isiS_l, len_t, len_f, len_l, len_q, tuple_t, tuple_f, tuple_l, eq_ii, ne_ii, eq_ss, ne_ss, add_ii, add_tt, add_ll, mul_ii, in_t, in_l, in_il, fld_cells, fld_programs, fld_modulus, fld_tables, mMeth, meth_mean, List.length_map,
  List.set_cons_zero, List.set_cons_succ, List.getElem?_cons_zero, List.getElem?_cons_succ, Option.some.injEq, exists_eq_left', exists_eq_left, exists_eq', exists_eq, D.int.injEq, D.bl.injEq, D.str.injEq, D.tup.injEq, D.lst.injEq, D.ptr.injEq, D.ty.injEq, List.cons.injEq, and_true, true_and, reduceCtorEq, false_or, or_false, false_and, and_false, exists_false, or_self,
  exists_and_left, exists_and_right, exists_const, ne_eq, not_true_eq_false, not_false_eq_true, decide_true, decide_false, Bool.false_eq_true, Bool.true_eq_false, false_implies, true_implies, forall_const, implies_true, Bool.not_true, Bool.not_false, Bool.not_eq_true', Bool.not_eq_true, Bool.not_eq_false', decide_eq_true_eq, decide_eq_false_iff_not, put_same, del_same, forall_eq', forall_eq, forall_apply_eq_imp_iff] | (try dsimp only))
/-! G20: the least rules that are broken, in the program; the fault of a rule. -/
section
def F_weaving_move : FD := fun ds Ω P => ∃ (W : Wld) (st : List (Int × List Int)) (row : List Int) (d : D), ds = [W.lot, meanO W.m st, d] ∧ Wd W ∧ st.Perm W.tb ∧ std d (row.map .int) ∧ WeavOk W row ∧ P (mvD W.S (W.run row)) Ω
def F_moves_of : FD := fun ds Ω P => ∃ (W : Wld) (st : List (Int × List Int)), ds = [W.lot, meanO W.m st, .tup []] ∧ Wd W ∧ st.Perm W.tb ∧ P (.lst (W.moves.map (mvD W.S))) Ω
def smallR (L : List Rule) : Prop := L.length ≤ 9 ∧ ∀ R ∈ L, R.length ≤ 9 ∧ ∀ s ∈ R, s.length ≤ 3
def F_in_rule_order : FD := fun ds Ω P => ∃ (l : Addr) (L : List Rule), ds = [.ptr l] ∧ Ω l = some (.lst (L.map ruleD)) ∧ smallR L ∧ ∀ M : List Rule, M.Pairwise ruleLt → (∀ x, x ∈ M ↔ x ∈ L) → P (.lst (M.map ruleD)) Ω
def F_check_stores : FD := fun ds Ω P => ∃ (W : Wld) (st : List (Int × List Int)) (R : Rule) (d : D), ds = [W.lot, meanO W.m st, d] ∧ Wd W ∧ st.Perm W.tb ∧ (d = ruleD R ∨ d = .lst (R.map tI)) ∧ R.Sublist W.S ∧ P (ruleD R) Ω
def F_rule_fault : FD := fun ds Ω P => ∃ (W : Wld) (st : List (Int × List Int)) (R : Rule) (d : D), ds = [W.lot, meanO W.m st, d] ∧ Wd W ∧ st.Perm W.tb ∧ (d = ruleD R ∨ d = .lst (R.map tI)) ∧ R.Sublist W.S ∧ P (leaveD (leave W.moves R)) Ω
theorem few_moves {W : Wld} (wd : Wd W) : W.moves.length ≤ 3 := by
  unfold Wld.moves
  rw [List.length_map, List.length_range]
  exact wd.many.2
theorem moves_ok {W : Wld} (wd : Wd W) {f : Mv} (hf : f ∈ W.moves) {x : List Int} (hx : x ∈ W.S) : f x ∈ W.S := by
  unfold Wld.moves at hf
  obtain ⟨i, hi, rfl⟩ := List.mem_map.mp hf
  have hi := List.mem_range.mp hi
  have h := row_own wd (p := (i : Int)) (by omega) (by omega)
  rw [Int.toNat_natCast] at h
  exact (mem_S wd).mpr (run_ok wd h ((mem_S wd).mp hx))
theorem g_rule_fault (ds Ω P) (h : F_rule_fault ds Ω P) : m_rule_fault F_check_stores F_moves_of F_first_leaving Ω (startD 4 ds) (endK P) := by
  obtain ⟨W, st, R, d, rfl, wd, hst, hd, hR, h⟩ := h
  have hm := few_moves wd
  unfold m_rule_fault
  walk_at "d"
  refine ⟨W, st, R, d, rfl, wd, hst, hd, hR, ?_⟩
  walk_at "d"
  refine ⟨W, st, rfl, wd, hst, ?_⟩
  walk_at "d"
  exact ⟨W.S, W.moves, R, _, rfl, .inl rfl, by omega, fun s hs => hR.subset hs, .now h⟩
def brk (W : Wld) (row : List Int) (s : List Int) : Prop := W.run row s ∉ clo W s
noncomputable instance (W : Wld) (row s : List Int) : Decidable (brk W row s) := by unfold brk; infer_instance
noncomputable def brL (W : Wld) (row : List Int) (n : Nat) : List Rule := ((W.S.take n).filter fun s => decide (brk W row s)).map (clo W)
def F_least_broken : FD := fun ds Ω P => ∃ (W : Wld) (st : List (Int × List Int)) (row : List Int) (d : D), ds = [W.lot, meanO W.m st, d] ∧ Wd W ∧ st.Perm W.tb ∧ std d (row.map .int) ∧ WeavOk W row ∧
  ∀ M : List Rule, M.Pairwise ruleLt → (∀ x, x ∈ M ↔ ∃ s ∈ W.S, brk W row s ∧ x = clo W s) → P (.tup ((greedy M).map ruleD)) Ω
def lb1W (Ω : Om) (l : Addr) (W : Wld) (st : List (Int × List Int)) (row : List Int) (d d' : D) : Nat → Om → Dl → Prop := fun k Ω' Δ' => Ω' = put Ω l (.lst ((brL W row k).map ruleD)) ∧ ∃ x7 x8 x9 x10, Δ' = [some W.lot, some (meanO W.m st), some d, some d', some (.lst (W.moves.map (mvD W.S))), some (mvD W.S (W.run row)), some (.ptr l), x7, x8, x9, x10]
def lb2W (Ω1 : Om) (l q : Addr) (W : Wld) (st : List (Int × List Int)) (row : List Int) (d d' : D) (M : List Rule) : Nat → Om → Dl → Prop := fun k Ω' Δ' => Ω' = put Ω1 q (.lst ((greedy (M.take k)).map ruleD)) ∧ ∃ x7 x8 x10, Δ' = [some W.lot, some (meanO W.m st), some d, some d', some (.lst (W.moves.map (mvD W.S))), some (mvD W.S (W.run row)), some (.ptr l), x7, x8, some (.ptr q), x10]
theorem any_d {bs : List Bool} {Ω : Om} {P : DK} (p : P (.bl (bs.any id)) Ω) : wAny [.lst (bs.map .bl)] Ω P := ⟨_, bs, rfl, .inl rfl, p⟩
theorem any_zero {α : Type} {p : α → Bool} : ∀ {l : List α}, (l.map p).any id = true ↔ ¬ (l.filter p).length = 0
  | [] => by simp
  | x :: l => by
    have ih := any_zero (p := p) (l := l)
    rw [List.map_cons, List.any_cons, List.filter_cons]
    by_cases h : p x = true
    · simp [h]
    · have h : p x = false := by simpa using h
      rw [h]
      simpa using ih
theorem g_least_broken (ds Ω P) (h : F_least_broken ds Ω P) : m_least_broken F_check_meaning F_check_weaving F_moves_of F_weaving_move F_all_stores F_closed_under F_in_rule_order F_holds_all Ω (startD 11 ds) (endK P) := by
  obtain ⟨W, st, row, d, rfl, wd, hst, hd, hrow, h⟩ := h
  have hS := few_S wd
  have hmv := few_moves wd
  have hc := wd.c
  have hm := wd.m
  unfold m_least_broken
  walk_at "d"
  refine ⟨W, st, rfl, wd, hst, ?_⟩
  walk_at "d"
  refine ⟨W, d, row, rfl, wd, hd, hrow, fun d' hd' => ?_⟩
  walk_at "d"
  refine ⟨W, st, rfl, wd, hst, ?_⟩
  walk_at "d"
  refine ⟨W, st, row, d', rfl, wd, hst, hd', hrow, ?_⟩
  walk_at "d"
  intro l hl
  refine forT (Ω1 := put Ω l (.lst [])) (xs := W.S.map tI) (fun P p => by walk_at "d"; exact ⟨W, rfl, wd, p⟩) (lb1W Ω l W st row d d') ⟨rfl, none, none, none, none, rfl⟩ ?_ ?_
  · rintro k x Ω' Δ' hk ⟨rfl, x7, x8, x9, x10, rfl⟩
    obtain ⟨s, hs, rfl⟩ := get_map hk
    have hsS := List.mem_of_getElem? hs
    have hlen : (brL W row k).length ≤ 9 := by
      unfold brL
      rw [List.length_map]
      refine Nat.le_trans (List.length_filter_le _ _) ?_
      rw [List.length_take]
      omega
    walk_at "d"
    refine ⟨W.S, W.moves, s, W.c.toNat, W.m, rfl, nd_S W, by omega, by omega, fun x hx => ?_, by omega, hsS, fun f hf x hx => moves_ok wd hf hx, fun R r1 r2 r3 => ?_⟩
    · have := (mem_S wd).mp hx
      exact ⟨by have := this.1; omega, this.2⟩
    have hR : R = clo W s := clo_of wd r1 r2 (fun x hx => by
      induction hx with
      | base => exact hsS
      | step _ hf ih => exact moves_ok wd hf ih) r3
    subst hR
    walk_at "d"
    rw [ix_mv hsS]
    walk_at "d"
    have hb : brL W row (k + 1) = brL W row k ++ (if brk W row s then [clo W s] else []) := by
      unfold brL
      rw [take_succ_of hs, List.filter_append, List.map_append]
      by_cases hp : brk W row s
      · rw [if_pos hp]; simp [hp]
      · rw [if_neg hp]; simp [hp]
    simp only [if_true, Bool.not_eq_true', Bool.not_eq_false', decide_eq_true_eq, decide_eq_false_iff_not]
    refine ⟨fun hp => ?_, fun hp => ?_⟩
    · refine app_p put_same (by rw [List.length_map]; omega) ?_
      refine ⟨?_, _, _, _, _, rfl⟩
      rw [hb, if_pos (show brk W row s from hp), put_put, List.map_append]
      rfl
    · refine ⟨?_, _, _, _, _, rfl⟩
      rw [hb, if_neg (show ¬ brk W row s from fun z => z hp), List.append_nil]
  · rintro Ω' Δ' ⟨rfl, x7, x8, x9, x10, rfl⟩
    walk_at "d"
    intro q hq
    obtain ⟨hql, hq⟩ := put_none.mp hq
    have hlen : (brL W row W.S.length).length ≤ 9 := by
      unfold brL
      rw [List.length_map]
      refine Nat.le_trans (List.length_filter_le _ _) ?_
      rw [List.length_take]
      omega
    have hmem : ∀ x, x ∈ brL W row W.S.length ↔ ∃ s ∈ W.S, brk W row s ∧ x = clo W s := fun x => by
      unfold brL
      rw [List.take_length, List.mem_map]
      constructor
      · rintro ⟨s, h1, rfl⟩
        obtain ⟨h1, h2⟩ := List.mem_filter.mp h1
        exact ⟨s, h1, of_decide_eq_true h2, rfl⟩
      · rintro ⟨s, h1, h2, rfl⟩
        exact ⟨s, List.mem_filter.mpr ⟨h1, decide_eq_true h2⟩, rfl⟩
    refine forLC (C := fun xs => ∃ M : List Rule, M.Pairwise ruleLt ∧ (∀ x, x ∈ M ↔ x ∈ brL W row W.S.length) ∧ xs = M.map ruleD) (Ω1 := put (put Ω l (.lst ((brL W row W.S.length).map ruleD))) q (.lst [])) (fun Q hQ => ?_) ?_
    · walk_at "d"
      refine ⟨l, _, rfl, by rw [put_ne (Ne.symm hql)]; exact put_same, ⟨hlen, fun R hR => ?_⟩, fun M m1 m2 => hQ _ ⟨M, m1, m2, rfl⟩⟩
      obtain ⟨s, _, _, rfl⟩ := (hmem R).mp hR
      have hsub : (clo W s).Sublist W.S := List.filter_sublist
      refine ⟨Nat.le_trans hsub.length_le hS, fun x hx => ?_⟩
      have := ((mem_S wd).mp (hsub.subset hx)).1
      omega
    · rintro _ ⟨M, m1, m2, rfl⟩
      have hM : M.length ≤ 1000 := by
        have nd : M.Nodup := List.Pairwise.imp (fun {a b} (hab : ruleLt a b) (e : a = b) => ruleLt_irr a (by rw [← e] at hab; exact hab)) m1
        have := nd_len nd fun x hx => (m2 x).mp hx
        omega
      refine forL (xs := M.map ruleD) (Ω1 := put (put Ω l (.lst ((brL W row W.S.length).map ruleD))) q (.lst [])) (fun P p => p) (lb2W (put Ω l (.lst ((brL W row W.S.length).map ruleD))) l q W st row d d' M) ⟨rfl, _, _, _, rfl⟩ ?_ ?_
      · rintro k x Ω' Δ' hk ⟨rfl, x7, x8, x10, rfl⟩
        obtain ⟨R, hR, rfl⟩ := get_map hk
        have hkl := (List.getElem?_eq_some_iff.mp hR).1
        have hg := len_greedy (M.take k)
        rw [List.length_take] at hg
        walk_at "d"
        generalize hΩ : put (put Ω l (.lst ((brL W row W.S.length).map ruleD))) q (.lst ((greedy (M.take k)).map ruleD)) = Ω1
        have ho : Ω1 q = some (.lst ((greedy (M.take k)).map ruleD)) := by rw [← hΩ]; exact put_same
        refine lcMap (xs := greedy (M.take k)) (it := ruleD) (e := fun Q => .bl (subR Q R)) (Ω1 := Ω1) (src_s (d := .ptr q) (fun P p => by walk_at "d"; exact p) (.inr (.inr (.inr (.inr ⟨q, rfl, ho⟩))))) (by omega) (fun z acc hz => keep_ptr (put_keep ho hz)) ?_ ?_
        · intro z acc Q hQ hz Rr hRr
          walk_at "d"
          exact ⟨R, Q, rfl, hRr⟩
        · have e0 : (greedy (M.take k)).map (fun Q => D.bl (subR Q R)) = ((greedy (M.take k)).map fun Q => subR Q R).map .bl := by rw [List.map_map]; rfl
          rw [e0]
          refine any_d ?_
          walk_at "d"
          rw [any_zero]
          refine ⟨fun e => ?_, fun e => ?_⟩
          · have e2 : ((greedy (M.take k)).filter fun Q => subR Q R).length = 0 := by
              rcases Nat.eq_zero_or_pos ((greedy (M.take k)).filter fun Q => subR Q R).length with z | z
              · exact z
              · rw [any_zero.mpr (by omega)] at e
                cases e
            refine app_p ho (by rw [List.length_map]; omega) ?_
            refine ⟨?_, _, _, _, rfl⟩
            rw [← hΩ, put_put, greedy_take hR, if_pos e2, List.map_append]
            rfl
          · refine ⟨?_, _, _, _, rfl⟩
            rw [← hΩ, greedy_take hR, if_neg e]
      · rintro Ω' Δ' ⟨rfl, x7, x8, x10, rfl⟩
        walk_at "d"
        rw [tuple_p put_same, List.take_length]
        refine .sub ?_ (h M m1 fun x => (m2 x).trans (hmem x))
        refine Sub.trans (Sub.put ?_) (Sub.put ?_)
        · exact hl
        · rw [put_ne hql]; exact hq
end
end KG
/-! EA: defs with a lambda. -/
namespace KG
open L2 PySem PyProof.Rows PySem.Spec
section
variable {P : Program} {w : World} {K : PySem.W.Frag} {mg : Str → Option Value} {base : Heap} {T : TabL} {x qual : Str} {params : Arguments} {body : List Stmt} {sc : Scope} {dvs : List V} {kws : List (Str × V)} {f c : Addr} {fd : FuncData} {N ps : List Str} {k : Nat} {F : FD} {m : MS}
/-- a def's promise, its code object known -/
theorem fnOkP (tp : Top K mg) (Fd : FunD K x qual params body sc dvs kws f fd) (hcB : codB K f c = true) (S : FnScope N ps sc) (len : ∀ ds Ω P, F ds Ω P → ds.length = ps.length)
    (hb : ∀ (A : Around) (outer : List Env) (s : Shared) (H G : Hp) (Ω : Om) (ds : List D) (P' : DK) (vs : List V) (Q : VK) (E : XK), Room k (A.deeper (envOfC qual sc s.heap.objs.size f (.ref c))) → Sat K T G G H Ω → RpAll K G vs ds → F ds Ω P' → WK K T G G P' Q →
      ∃ t, PSs (cxOf C8.CX0 P w K mg base N qual sc f (.ref c) A outer s H E) body t ∧ t { nx := fun _ H' => Q .non H', rt := Q } (L2.start N vs) H) : FnOk P w K mg base C8.CX0 (k + 1) f fd ps (spO K T F) := by
  obtain ⟨oc, od, dV, kV, doc, pm, an, cdv, ct, osl, rfl, lk, hcd, _, _⟩ := Fd.ex
  have ec : cdv = Value.ref c := codB_ok tp hcB lk
  subst ec
  have ln : ∀ vs H Q E, spO K T F vs H Q E → vs.length = ps.length := fun vs H Q E ⟨G, Ω, ds, P', _, r, h, _⟩ => by
    rw [r.length]
    exact len _ _ _ h
  refine ⟨ln, fun A outer s H args us vs Q E hr e0 hbd rv h => LamX.run_ofS lk hcd S hr e0 hbd rv (ln _ _ _ _ h) fun hr' => ?_⟩
  obtain ⟨G, Ω, ds, P', st, r, h, wk⟩ := h
  exact hb A outer s H G Ω ds P' vs Q E hr' st r h wk
theorem fnOkL (tp : Top K mg) (Fd : FunD K x qual params body sc dvs kws f fd) (hcB : codB K f c = true) (S : FnScope N ps sc) (len : ∀ ds Ω P, F ds Ω P → ds.length = ps.length)
    (hb : ∀ (A : Around) (outer : List Env) (s : Shared) (H B : Hp) (E : XK), Room k (A.deeper (envOfC qual sc s.heap.objs.size f (.ref c))) → RSs (CD P w K mg base N qual sc f (.ref c) A outer s H E) T B body m)
    (goal : ∀ ds Ω P, F ds Ω P → m Ω (startD N.length ds) (endK P)) : FnOk P w K mg base C8.CX0 (k + 1) f fd ps (spO K T F) :=
  fnOkP tp Fd hcB S len fun A outer s H G Ω ds P' vs Q E hr' st r h wk => by
    refine ⟨_, (hb A outer s H G E hr').nox, G, Ω, startD N.length ds, endK P', st, ?_, goal ds Ω P' h, endK_ok (N := N) wk⟩
    unfold startD L2.start
    rw [← r.length]
    exact r.slots _
end
section
variable {P : Program} {w : World} {K : PySem.W.Frag} {mg : Str → Option Value} {base : Heap}
abbrev N_L_by_size : List Str := ["_law_rows"]
def m_L_by_size : MS := mRet (mSortL (mVar 0))
theorem lamK_bs : ∃ (params : Arguments) (body : Expr) (scope : Scope) (p : Pos) (p2 : Pos) (lpos kpos pos pos' : Pos), d_L_by_size.body = [.Return (some (.Call (.Name "sorted" p) [.Name "_law_rows" p2] [⟨some "key", .Lambda params body scope lpos, kpos⟩] pos)) pos'] ∧ LamK params body scope ∧ (∀ env, defaultsOf params env = ([], [])) ∧ ∀ cells, cloFrom cells scope.names [] = [] :=
  ⟨_, _, _, _, _, _, _, _, _, rfl, ⟨⟨_, _, _, _, _, _, _, rfl, rfl, by decide, fun q pm cv ctv v => by rfl⟩, rfl, rfl, rfl, by decide, by decide, rfl⟩, fun _ => rfl, fun _ => rfl⟩
end
end KG
namespace KG
open L2 PySem PyProof.Rows PySem.Spec
local macro_rules | `(tactic| walk_at "d") => `(tactic| first | simp only [startD, endK, List.map_cons, List.map_nil, List.length_cons, List.length_nil, List.replicate, List.cons_append, List.nil_append, Nat.reduceAdd, Nat.reduceSub, Nat.zero_add, Nat.add_zero, Nat.reduceLeDiff,
  mCntF, mSetF, mSetd, mSeq, mAsg, mDrop, mRet, mRetN, mIfS, mCont, mNext, mNever, gN, gNil_eq, gCons_eq, gT_t, gT_l, gSet, mAsgG, mVar, slot, mC, mOp, mUn, mNil, mCons, mTup, mLst, mLstO, mCB, mIf, mB, mAnd, mOr, mNot, mOrV, mNotV, mYes, mNewK, mNewT, mBM, mTuF,
  wInt2, wIs, wIsN, wNeg, wInt, wAbs, mFld, Ob.d, isi_ii, isi_ib, isi_ss, isiS_t, isiS_f, isiS_l, len_t, len_f, len_l, len_q, tuple_t, tuple_f, tuple_l, eq_ii, ne_ii, eq_ss, ne_ss, add_ii, add_tt, add_ll, mul_ii, in_t, in_l, in_il, fld_cells, fld_programs, fld_modulus, fld_tables, mMeth, meth_mean, List.length_map,
  List.set_cons_zero, List.set_cons_succ, List.getElem?_cons_zero, List.getElem?_cons_succ, Option.some.injEq, exists_eq_left', exists_eq_left, exists_eq', exists_eq, D.int.injEq, D.bl.injEq, D.str.injEq, D.tup.injEq, D.lst.injEq, D.ptr.injEq, D.ty.injEq, List.cons.injEq, and_true, true_and, reduceCtorEq, false_or, or_false, false_and, and_false, exists_false, or_self,
  exists_and_left, exists_and_right, exists_const, ne_eq, not_true_eq_false, not_false_eq_true, decide_true, decide_false, Bool.false_eq_true, Bool.true_eq_false, false_implies, true_implies, forall_const, implies_true, Bool.not_true, Bool.not_false, Bool.not_eq_true', Bool.not_eq_true, Bool.not_eq_false', decide_eq_true_eq, decide_eq_false_iff_not, put_same, del_same, forall_eq', forall_eq, forall_apply_eq_imp_iff] | (try dsimp only))
/-! G21: a program and its way back. -/
section
def rowTb : Int → List (List Int) → List (Int × List Int)
  | _, [] => []
  | f, r :: rs => (f, r) :: rowTb (f + 1) rs
structure BackOk (c m first : Int) (pr : List Stp) (rows : List (List Int)) : Prop where
  len : 1 ≤ pr.length ∧ pr.length ≤ 3
  few : rows.length ≤ 2
  tab : ∀ r ∈ rows, TabOk m r 1 ∨ TabOk m r 0
  step : ∀ i s, pr[i]? = some s → StpOk ⟨c, m, [], rowTb first rows⟩ pr i s
  names : pr.Pairwise fun s r => s.kind ≠ kKept → r.kind ≠ kKept → s.name ≠ r.name
  name : ∀ s ∈ pr, s.kind ≠ kKept → first ≤ s.name ∧ s.name < first + 2
theorem stp_any {W : Wld} {p : List Stp} {i : Nat} {a n : Int} {by_ : List Int} {t : List Int} (hp : ∀ r ∈ p, r.kind ≠ kAdds) (hc : 0 ≤ a ∧ a < W.c) (hb : (by_ = [] ∨ ∃ b, by_ = [b] ∧ 0 ≤ b ∧ b ≤ i)) (hn : 0 ≤ n ∧ n ≤ 99) (ht : look W.tb n = some t) (htab : TabOk W.m t by_.length) :
    StpOk W p i ⟨a, kAny, by_, n⟩ := by
  refine ⟨hc, .inl rfl, ?_, fun b hb2 => ?_, (fun b hb2 r hr => hp r (List.mem_of_getElem? hr)), (fun z => by cases z), fun _ => ⟨hn.1, hn.2, t, ht, htab⟩⟩
  · rcases hb with rfl | ⟨b, rfl, _⟩ <;> simp
  · show 0 ≤ b ∧ b ≤ lastP kAny i
    unfold lastP
    rw [if_pos rfl]
    rcases hb with rfl | ⟨b', rfl, h1, h2⟩
    · cases hb2
    · rw [List.mem_singleton] at hb2
      omega
theorem stp_kept {W : Wld} {p : List Stp} {i : Nat} {a : Int} (hc : 0 ≤ a ∧ a < W.c) : StpOk W p i ⟨a, kKept, [], -1⟩ :=
  ⟨hc, .inr (.inl rfl), .nil, (fun b hb => by cases hb), (fun b hb => by cases hb), fun _ => rfl, fun z => absurd rfl z⟩
theorem look0 {f : Int} {r : List Int} {rs : List (List Int)} : look (rowTb f (r :: rs)) f = some r := by simp [look, rowTb]
theorem look1 {f : Int} {r q : List Int} {rs : List (List Int)} : look (rowTb f (r :: q :: rs)) (f + 1) = some q := by
  unfold look rowTb
  rw [List.find?_cons, show decide (f = f + 1) = false from decide_eq_false (by omega)]
  unfold rowTb
  simp
theorem tab1 {m : Int} {r : List Int} (hl : (r.length : Int) = m) (hr : RngL m r) : TabOk m r 1 := ⟨by rw [hl, Int.pow_succ, Int.pow_zero, Int.one_mul], hr⟩
theorem tab0 {m x : Int} (h : 0 ≤ x ∧ x < m) : TabOk m [x] 0 := ⟨by simp, fun e he => by rw [List.mem_singleton] at he; omega⟩
theorem back0 {c m f a : Int} {r b : List Int} (f0 : 0 ≤ f ∧ f ≤ 90) (hc : 0 ≤ a ∧ a < c) (h1 : TabOk m r 1) (h2 : TabOk m b 1) : BackOk c m f [⟨a, kAny, [0], f⟩, ⟨a, kAny, [1], f + 1⟩] [r, b] := by
  have hp : ∀ s ∈ [(⟨a, kAny, [0], f⟩ : Stp), ⟨a, kAny, [1], f + 1⟩], s.kind ≠ kAdds := fun s hs => by
    simp only [List.mem_cons, List.not_mem_nil, or_false] at hs
    rcases hs with rfl | rfl <;> exact fun z => by cases z
  refine ⟨by simp, by simp, fun t ht => ?_, fun i s h => ?_, ?_, fun s hs _ => ?_⟩
  · simp only [List.mem_cons, List.not_mem_nil, or_false] at ht
    rcases ht with rfl | rfl
    · exact .inl h1
    · exact .inl h2
  · match i, h with
    | 0, h => cases h; exact stp_any hp hc (.inr ⟨0, rfl, by omega, by omega⟩) (by omega) look0 h1
    | 1, h => cases h; exact stp_any hp hc (.inr ⟨1, rfl, by omega, by omega⟩) (by omega) look1 h2
  · simp
    omega
  · simp only [List.mem_cons, List.not_mem_nil, or_false] at hs
    rcases hs with rfl | rfl
    · exact ⟨Int.le_refl _, by show f < f + 2; omega⟩
    · exact ⟨by show f ≤ f + 1; omega, by show f + 1 < f + 2; omega⟩
theorem back1 {c m f a : Int} {r b : List Int} (f0 : 0 ≤ f ∧ f ≤ 90) (hc : 0 ≤ a ∧ a < c) (h1 : TabOk m r 0) (h2 : TabOk m b 1) : BackOk c m f [⟨a, kAny, [], f⟩, ⟨a, kAny, [0], f + 1⟩] [r, b] := by
  have hp : ∀ s ∈ [(⟨a, kAny, [], f⟩ : Stp), ⟨a, kAny, [0], f + 1⟩], s.kind ≠ kAdds := fun s hs => by
    simp only [List.mem_cons, List.not_mem_nil, or_false] at hs
    rcases hs with rfl | rfl <;> exact fun z => by cases z
  refine ⟨by simp, by simp, fun t ht => ?_, fun i s h => ?_, ?_, fun s hs _ => ?_⟩
  · simp only [List.mem_cons, List.not_mem_nil, or_false] at ht
    rcases ht with rfl | rfl
    · exact .inr h1
    · exact .inl h2
  · match i, h with
    | 0, h => cases h; exact stp_any hp hc (.inl rfl) (by omega) look0 h1
    | 1, h => cases h; exact stp_any hp hc (.inr ⟨0, rfl, by omega, by omega⟩) (by omega) look1 h2
  · simp
    omega
  · simp only [List.mem_cons, List.not_mem_nil, or_false] at hs
    rcases hs with rfl | rfl
    · exact ⟨Int.le_refl _, by show f < f + 2; omega⟩
    · exact ⟨by show f ≤ f + 1; omega, by show f + 1 < f + 2; omega⟩
theorem back2 {c m f a b : Int} {r : List Int} (f0 : 0 ≤ f ∧ f ≤ 90) (hc : 0 ≤ a ∧ a < c) (hb : 0 ≤ b ∧ b < c) (h1 : TabOk m r 1) : BackOk c m f [⟨a, kKept, [], -1⟩, ⟨b, kAny, [0], f⟩] [r] := by
  have hp : ∀ s ∈ [(⟨a, kKept, [], -1⟩ : Stp), ⟨b, kAny, [0], f⟩], s.kind ≠ kAdds := fun s hs => by
    simp only [List.mem_cons, List.not_mem_nil, or_false] at hs
    rcases hs with rfl | rfl <;> exact fun z => by cases z
  refine ⟨by simp, by simp, fun t ht => ?_, fun i s h => ?_, ?_, fun s hs hk => ?_⟩
  · simp only [List.mem_cons, List.not_mem_nil, or_false] at ht
    subst ht
    exact .inl h1
  · match i, h with
    | 0, h => cases h; exact stp_kept hc
    | 1, h => cases h; exact stp_any hp hb (.inr ⟨0, rfl, by omega, by omega⟩) (by omega) look0 h1
  · simp
  · simp only [List.mem_cons, List.not_mem_nil, or_false] at hs
    rcases hs with rfl | rfl
    · exact absurd rfl hk
    · exact ⟨Int.le_refl _, by show f < f + 2; omega⟩
theorem back3 {c m f a b : Int} {r q : List Int} (f0 : 0 ≤ f ∧ f ≤ 90) (hc : 0 ≤ a ∧ a < c) (hb : 0 ≤ b ∧ b < c) (h1 : TabOk m r 1) (h2 : TabOk m q 1) : BackOk c m f [⟨a, kKept, [], -1⟩, ⟨a, kAny, [0], f⟩, ⟨b, kAny, [2], f + 1⟩] [r, q] := by
  have hp : ∀ s ∈ [(⟨a, kKept, [], -1⟩ : Stp), ⟨a, kAny, [0], f⟩, ⟨b, kAny, [2], f + 1⟩], s.kind ≠ kAdds := fun s hs => by
    simp only [List.mem_cons, List.not_mem_nil, or_false] at hs
    rcases hs with rfl | rfl | rfl <;> exact fun z => by cases z
  refine ⟨by simp, by simp, fun t ht => ?_, fun i s h => ?_, ?_, fun s hs hk => ?_⟩
  · simp only [List.mem_cons, List.not_mem_nil, or_false] at ht
    rcases ht with rfl | rfl
    · exact .inl h1
    · exact .inl h2
  · match i, h with
    | 0, h => cases h; exact stp_kept hc
    | 1, h => cases h; exact stp_any hp hc (.inr ⟨0, rfl, by omega, by omega⟩) (by omega) look0 h1
    | 2, h => cases h; exact stp_any hp hb (.inr ⟨2, rfl, by omega, by omega⟩) (by omega) look1 h2
  · simp
    omega
  · simp only [List.mem_cons, List.not_mem_nil, or_false] at hs
    rcases hs with rfl | rfl | rfl
    · exact absurd rfl hk
    · exact ⟨Int.le_refl _, by show f < f + 2; omega⟩
    · exact ⟨by show f ≤ f + 1; omega, by show f + 1 < f + 2; omega⟩
end
end KG
namespace KG
open L2 PySem PyProof.Rows PySem.Spec
local macro_rules | `(tactic| walk_at "d") => `(tactic| first | simp only [startD, endK, List.map_cons, List.map_nil, List.length_cons, List.length_nil, List.replicate, List.cons_append, List.nil_append, Nat.reduceAdd, Nat.reduceSub, Nat.zero_add, Nat.add_zero, Nat.reduceLeDiff,
  mCntF, mSetF, mSetd, mSeq, mAsg, mDrop, mRet, mRetN, mIfS, mCont, mNext, mNever, gN, gNil_eq, gCons_eq, gT_t, gT_l, gSet, mAsgG, mVar, slot, mC, mOp, mUn, mNil, mCons, mTup, mLst, mLstO, mCB, mIf, mB, mAnd, mOr, mNot, mOrV, mNotV, mYes, mNewK, mNewT, mBM, mTuF,
  wInt2, wIs, wIsN, wNeg, wInt, wAbs, mFld, Ob.d, isi_ii, isi_ib, isi_ss, isiS_t, isiS_f, isiS_l, len_t, len_f, len_l, len_q, tuple_t, tuple_f, tuple_l, eq_ii, ne_ii, eq_ss, ne_ss, add_ii, add_tt, add_ll, mul_ii, in_t, in_l, in_il, fld_cells, fld_programs, fld_modulus, fld_tables, mMeth, meth_mean, List.length_map,
  List.set_cons_zero, List.set_cons_succ, List.getElem?_cons_zero, List.getElem?_cons_succ, Option.some.injEq, exists_eq_left', exists_eq_left, exists_eq', exists_eq, D.int.injEq, D.bl.injEq, D.str.injEq, D.tup.injEq, D.lst.injEq, D.ptr.injEq, D.ty.injEq, List.cons.injEq, and_true, true_and, reduceCtorEq, false_or, or_false, false_and, and_false, exists_false, or_self,
  exists_and_left, exists_and_right, exists_const, ne_eq, not_true_eq_false, not_false_eq_true, decide_true, decide_false, Bool.false_eq_true, Bool.true_eq_false, false_implies, true_implies, forall_const, implies_true, Bool.not_true, Bool.not_false, Bool.not_eq_true', Bool.not_eq_true, Bool.not_eq_false', decide_eq_true_eq, decide_eq_false_iff_not, put_same, del_same, forall_eq', forall_eq, forall_apply_eq_imp_iff] | (try dsimp only))
/-! G22: a program and its way back, drawn. -/
section
def F_L_back_program : FD := fun ds Ω P => ∃ (h : Addr) (c m f : Int) (long : Bool) (o : Ob), ds = [.ptr h, .int c, .int m, .int f, .bl long] ∧ 1 ≤ c ∧ c ≤ 3 ∧ 2 ≤ m ∧ m ≤ 3 ∧ 0 ≤ f ∧ f ≤ 90 ∧ Ω h = some o ∧ HandO o ∧
  ∀ (o' : Ob) (pr : List Stp) (rows : List (List Int)), HandO o' → BackOk c m f pr rows → (long = false → pr.length ≤ 2) → P (.lst [progD pr, .lst (rows.map tI)]) (put Ω h o')
def PermOk (m : Int) (ns : List Int) : Prop := (ns.length : Int) = m ∧ RngL m ns ∧ ∀ k : Int, 0 ≤ k → k < m → k ∈ ns
theorem six {r : Int} {Ω : Om} {Q : DK} (r0 : 0 ≤ r) (r1 : r < 6) (hQ : ∀ ns : List Int, PermOk 3 ns → Q (.lst (ns.map .int)) Ω) : wIx (.lst [.lst [.int 0, .int 1, .int 2], .lst [.int 1, .int 2, .int 0], .lst [.int 2, .int 0, .int 1], .lst [.int 1, .int 0, .int 2], .lst [.int 2, .int 1, .int 0], .lst [.int 0, .int 2, .int 1]]) (.int r) Ω Q := by
  have h : r = 0 ∨ r = 1 ∨ r = 2 ∨ r = 3 ∨ r = 4 ∨ r = 5 := by omega
  have key : ∀ ns : List Int, (ns.length = 3 ∧ (∀ x ∈ ns, x = 0 ∨ x = 1 ∨ x = 2) ∧ 0 ∈ ns ∧ 1 ∈ ns ∧ 2 ∈ ns) → PermOk 3 ns := fun ns ⟨a1, a2, a3, a4, a5⟩ => ⟨by omega, fun x hx => by have := a2 x hx; omega, fun k k0 k1 => by
    have : k = 0 ∨ k = 1 ∨ k = 2 := by omega
    rcases this with rfl | rfl | rfl <;> assumption⟩
  rcases h with rfl | rfl | rfl | rfl | rfl | rfl
  · rw [ix_l rfl]; exact hQ [0, 1, 2] (key _ (by simp))
  · rw [ix_l rfl]; exact hQ [1, 2, 0] (key _ (by simp))
  · rw [ix_l rfl]; exact hQ [2, 0, 1] (key _ (by simp))
  · rw [ix_l rfl]; exact hQ [1, 0, 2] (key _ (by simp))
  · rw [ix_l rfl]; exact hQ [2, 1, 0] (key _ (by simp))
  · rw [ix_l rfl]; exact hQ [0, 2, 1] (key _ (by simp))
theorem three {r : Int} {Ω : Om} {Q : DK} (r0 : 0 ≤ r) (r1 : r < 3) (hQ : ∀ ns : List Int, PermOk 2 ns → Q (.lst (ns.map .int)) Ω) : wIx (.lst [.lst [.int 0, .int 1], .lst [.int 1, .int 0], .lst [.int 1, .int 0]]) (.int r) Ω Q := by
  have h : r = 0 ∨ r = 1 ∨ r = 2 := by omega
  have key : ∀ ns : List Int, (ns.length = 2 ∧ (∀ x ∈ ns, x = 0 ∨ x = 1) ∧ 0 ∈ ns ∧ 1 ∈ ns) → PermOk 2 ns := fun ns ⟨a1, a2, a3, a4⟩ => ⟨by omega, fun x hx => by have := a2 x hx; omega, fun k k0 k1 => by
    have : k = 0 ∨ k = 1 := by omega
    rcases this with rfl | rfl <;> assumption⟩
  rcases h with rfl | rfl | rfl
  · rw [ix_l rfl]; exact hQ [0, 1] (key _ (by simp))
  · rw [ix_l rfl]; exact hQ [1, 0] (key _ (by simp))
  · rw [ix_l rfl]; exact hQ [1, 0] (key _ (by simp))
/-- a comprehension over range(m) that gives ints -/
theorem lcInts {mr : MA} {j : Nat} {me : ME} {Ω Ω1 : Om} {Δ : Dl} {P : DK} {m : Int} (g : Int → Int) (hi : ∀ P : List D → Om → Prop, P [.int m] Ω1 → mr Ω Δ P) (h0 : 0 ≤ m) (h1 : m ≤ 1000)
    (hs : ∀ l acc x, 0 ≤ x → x < m → Ω1 l = none → ∀ R : DK, R (.int (g x)) (put Ω1 l (.lst acc)) → me (put Ω1 l (.lst acc)) (Δ.set j (some (.int x))) R) (wf : P (.lst (((rgL m).map g).map .int)) Ω1) : mFrz (mLc (iRg1 mr) j mYes me) Ω Δ P :=
  lcFilR (n := m) (p := fun _ => true) (e := fun x => .int (g x)) (Ω1 := Ω1) (src_r1 m hi (by omega) (by omega)) (by omega) (fun _ => trivial) (fun l acc x x0 x1 hl R hR => lcT_mono_true (R' := R) (hs l acc x x0 x1 hl (fun y Ω4 => R (some y) Ω4) hR)) (by rw [List.filter_eq_self.mpr (fun _ _ => rfl)]; rw [List.map_map] at wf; exact wf)
theorem tab_map {m : Int} {g : Int → Int} (h0 : 0 ≤ m) (hg : ∀ x, 0 ≤ x → x < m → 0 ≤ g x ∧ g x < m) : TabOk m ((rgL m).map g) 1 := tab1 (by rw [List.length_map, len_rgL]; omega) fun w hw => by
  obtain ⟨x, hx, rfl⟩ := List.mem_map.mp hw
  obtain ⟨x0, x1⟩ := mem_rgL.mp hx
  exact hg x x0 x1
def tkW (Ω : Om) (h : Addr) (m : Int) : Nat → List D → Om → Prop := fun i acc Ω' => ∃ (o : Ob) (ns : List Int), Ω' = put Ω h o ∧ HandO o ∧ acc = ns.map .int ∧ ns.length = i ∧ RngL m ns
/-- draws, gathered -/
theorem lcTakes {mr : MA} {i j : Nat} {Ω : Om} {Δ : Dl} {P : DK} {n m : Int} {h : Addr} {o : Ob} (hi : ∀ P : List D → Om → Prop, P [.int n] (put Ω h o) → mr (put Ω h o) Δ P) (hO : HandO o) (h0 : 0 ≤ n) (h1 : n ≤ 1000) (m1 : 1 ≤ m) (m2 : m ≤ 1000)
    (d0 : ∀ x, (Δ.set j x)[0]? = some (some (.ptr h))) (d1 : ∀ x, (Δ.set j x)[i]? = some (some (.int m)))
    (wf : ∀ (o' : Ob) (ns : List Int), HandO o' → (ns.length : Int) = n → RngL m ns → P (.lst (ns.map .int)) (put Ω h o')) : mFrz (mLc (iRg1 mr) j mYes (mCB F_L_take (mCons (mVar 0) (mCons (mVar i) mNil)))) (put Ω h o) Δ P := by
  refine lcWF (Ω1 := put Ω h o) (src_r1 n hi (by omega) (by omega)) (by omega) (tkW Ω h m) ⟨o, [], rfl, hO, rfl, rfl, fun w hw => by cases hw⟩ (fun _ _ _ _ _ _ _ => trivial) ?_ ?_
  · rintro l k acc Ω' hl1 hl2 hk ha ⟨o', ns, rfl, hO', rfl, hlen, hrng⟩
    obtain ⟨hlh, _⟩ := put_none.mp hl1
    refine lcT_mono_true (R' := nextW (tkW Ω h m) l k) ?_
    show slot _ 0 _
    refine ⟨_, d0 _, ?_⟩
    show slot _ i _
    refine ⟨_, d1 _, ?_⟩
    show F_L_take [.ptr h, .int m] (put (put Ω h o') l (.lst (ns.map .int))) (fun y Ω4 => nextW (tkW Ω h m) l k (some y) Ω4)
    refine take_in hlh hO' m1 (by omega) fun o2 r h1 h2 h3 => ?_
    have hln : put Ω h o2 l = none := put_none.mpr ⟨hlh, (put_none.mp hl1).2⟩
    refine nextW_some hln ha (by omega) ⟨o2, ns ++ [r], rfl, h1, by rw [List.map_append]; rfl, by rw [List.length_append, hlen]; rfl, fun w hw => ?_⟩
    rcases List.mem_append.mp hw with hw | hw
    · exact hrng w hw
    · rw [List.mem_singleton] at hw; omega
  · rintro acc Ω' ha ⟨o', ns, rfl, hO', rfl, hlen, hrng⟩
    exact wf o' ns hO' (by omega) hrng
end
end KG
namespace KG
open L2 PySem PyProof.Rows PySem.Spec
local macro_rules | `(tactic| walk_at "d") => `(tactic| first | simp only [startD, endK, List.map_cons, List.map_nil, List.length_cons, List.length_nil, List.replicate, List.cons_append, List.nil_append, Nat.reduceAdd, Nat.reduceSub, Nat.zero_add, Nat.add_zero, Nat.reduceLeDiff,
  mCntF, mSetF, mSetd, mSeq, mAsg, mDrop, mRet, mRetN, mIfS, mCont, mNext, mNever, gN, gNil_eq, gCons_eq, gT_t, gT_l, gSet, mAsgG, mVar, slot, mC, mOp, mUn, mNil, mCons, mTup, mLst, mLstO, mCB, mIf, mB, mAnd, mOr, mNot, mOrV, mNotV, mYes, mNewK, mNewT, mBM, mTuF,
  wInt2, wIs, wIsN, wNeg, wInt, wAbs, mFld, Ob.d, isi_ii, isi_ib, isi_ss, isiS_t, isiS_f, isiS_l, len_t, len_f, len_l, len_q, tuple_t, tuple_f, tuple_l, eq_ii, ne_ii, eq_ss, ne_ss, add_ii, add_tt, add_ll, mul_ii, in_t, in_l, in_il, fld_cells, fld_programs, fld_modulus, fld_tables, mMeth, meth_mean, List.length_map,
  List.set_cons_zero, List.set_cons_succ, List.getElem?_cons_zero, List.getElem?_cons_succ, Option.some.injEq, exists_eq_left', exists_eq_left, exists_eq', exists_eq, D.int.injEq, D.bl.injEq, D.str.injEq, D.tup.injEq, D.lst.injEq, D.ptr.injEq, D.ty.injEq, List.cons.injEq, and_true, true_and, reduceCtorEq, false_or, or_false, false_and, and_false, exists_false, or_self,
  exists_and_left, exists_and_right, exists_const, ne_eq, not_true_eq_false, not_false_eq_true, decide_true, decide_false, Bool.false_eq_true, Bool.true_eq_false, false_implies, true_implies, forall_const, implies_true, Bool.not_true, Bool.not_false, Bool.not_eq_true', Bool.not_eq_true, Bool.not_eq_false', decide_eq_true_eq, decide_eq_false_iff_not, put_same, del_same, forall_eq', forall_eq, forall_apply_eq_imp_iff] | (try dsimp only))
/-! G23: a program and its way back, drawn: the def. -/
section
def m_back2 (F_L_take : FD) : MS := (mSeq (mIfS (mB (mOp wEq (mVar 6) (mC (.int 0)))) (mSeq (mAsg (mOp wIx (mLst (mCons (mLst (mCons (mC (.int 0)) (mCons (mC (.int 1)) (mCons (mC (.int 2)) mNil)))) (mCons (mLst (mCons (mC (.int 1)) (mCons (mC (.int 2)) (mCons (mC (.int 0)) mNil)))) (mCons (mLst (mCons (mC (.int 2)) (mCons (mC (.int 0)) (mCons (mC (.int 1)) mNil)))) (mCons (mLst (mCons (mC (.int 1)) (mCons (mC (.int 0)) (mCons (mC (.int 2)) mNil)))) (mCons (mLst (mCons (mC (.int 2)) (mCons (mC (.int 1)) (mCons (mC (.int 0)) mNil)))) (mCons (mLst (mCons (mC (.int 0)) (mCons (mC (.int 2)) (mCons (mC (.int 1)) mNil)))) mNil))))))) (mCB F_L_take (mCons (mVar 0) (mCons (mC (.int 6)) mNil)))) 7)
    (mSeq (mIfS (mB (mOp wEq (mVar 2) (mC (.int 2)))) (mAsg (mOp wIx (mLst (mCons (mLst (mCons (mC (.int 0)) (mCons (mC (.int 1)) mNil))) (mCons (mLst (mCons (mC (.int 1)) (mCons (mC (.int 0)) mNil))) (mCons (mLst (mCons (mC (.int 1)) (mCons (mC (.int 0)) mNil))) mNil)))) (mCB F_L_take (mCons (mVar 0) (mCons (mC (.int 3)) mNil)))) 7) mNext)
    (mSeq (mAsg (mFrz (mLc (iRg1 (mCons (mVar 2) mNil)) 15 mYes (mBM wInd (mVar 7) (mCons (mVar 15) mNil)))) 8)
    (mRet (mLst (mCons (mTup (mCons (mTup (mCons (mVar 5) (mCons (mC (.str "any")) (mCons (mTup (mCons (mC (.int 0)) mNil)) (mCons (mVar 3) mNil))))) (mCons (mTup (mCons (mVar 5) (mCons (mC (.str "any")) (mCons (mTup (mCons (mC (.int 1)) mNil)) (mCons (mOp wAdd (mVar 3) (mC (.int 1))) mNil))))) mNil))) (mCons (mLst (mCons (mCB wTuple (mCons (mVar 7) mNil)) (mCons (mCB wTuple (mCons (mVar 8) mNil)) mNil))) mNil))))))) mNext)
    (mSeq (mIfS (mB (mOp wEq (mVar 6) (mC (.int 1)))) (mSeq (mAsg (mTup (mCons (mCB F_L_take (mCons (mVar 0) (mCons (mVar 2) mNil))) mNil)) 9)
    (mRet (mLst (mCons (mTup (mCons (mTup (mCons (mVar 5) (mCons (mC (.str "any")) (mCons (mTup mNil) (mCons (mVar 3) mNil))))) (mCons (mTup (mCons (mVar 5) (mCons (mC (.str "any")) (mCons (mTup (mCons (mC (.int 0)) mNil)) (mCons (mOp wAdd (mVar 3) (mC (.int 1))) mNil))))) mNil))) (mCons (mLst (mCons (mVar 9) (mCons (mTupRg (mVar 2)) mNil))) mNil))))) mNext)
    (mSeq (mIfS (mB (mOp wEq (mVar 6) (mC (.int 2)))) (mSeq (mAsg (mCB wTuple (mCons (mFrz (mLc (iRg1 (mCons (mVar 2) mNil)) 15 mYes (mCB F_L_take (mCons (mVar 0) (mCons (mVar 2) mNil))))) mNil)) 10)
    (mSeq (mAsg (mCB F_L_take (mCons (mVar 0) (mCons (mVar 1) mNil))) 11)
    (mRet (mLst (mCons (mTup (mCons (mTup (mCons (mVar 5) (mCons (mC (.str "kept")) (mCons (mTup mNil) (mCons (mUn wNeg (mC (.int 1))) mNil))))) (mCons (mTup (mCons (mVar 11) (mCons (mC (.str "any")) (mCons (mTup (mCons (mC (.int 0)) mNil)) (mCons (mVar 3) mNil))))) mNil))) (mCons (mLst (mCons (mVar 10) mNil)) mNil)))))) mNext)
    (mSeq (mAsg (mOp wAdd (mC (.int 1)) (mCB F_L_take (mCons (mVar 0) (mCons (mOp wSub (mVar 2) (mC (.int 1))) mNil)))) 12)
    (mSeq (mAsg (mCB wTuple (mCons (mFrz (mLc (iRg1 (mCons (mVar 2) mNil)) 15 mYes (mOp wMod (mCB wInt (mCons (mOp wAdd (mVar 15) (mVar 12)) mNil)) (mVar 2)))) mNil)) 13)
    (mSeq (mAsg (mCB wTuple (mCons (mFrz (mLc (iRg1 (mCons (mVar 2) mNil)) 15 mYes (mOp wMod (mCB wInt (mCons (mOp wSub (mVar 15) (mVar 12)) mNil)) (mVar 2)))) mNil)) 14)
    (mSeq (mAsg (mOp wMod (mCB wInt (mCons (mOp wAdd (mVar 5) (mC (.int 1))) mNil)) (mVar 1)) 11)
    (mRet (mLst (mCons (mTup (mCons (mTup (mCons (mVar 5) (mCons (mC (.str "kept")) (mCons (mTup mNil) (mCons (mUn wNeg (mC (.int 1))) mNil))))) (mCons (mTup (mCons (mVar 5) (mCons (mC (.str "any")) (mCons (mTup (mCons (mC (.int 0)) mNil)) (mCons (mVar 3) mNil))))) (mCons (mTup (mCons (mVar 11) (mCons (mC (.str "any")) (mCons (mTup (mCons (mC (.int 2)) mNil)) (mCons (mOp wAdd (mVar 3) (mC (.int 1))) mNil))))) mNil)))) (mCons (mLst (mCons (mVar 13) (mCons (mVar 14) mNil))) mNil)))))))))))
theorem ind_row {m : Int} {ns : List Int} {x : Int} {Ω : Om} {P : DK} (hp : PermOk m ns) (x0 : 0 ≤ x) (x1 : x < m) (p : P (.int (ns.idxOf x : Nat)) Ω) : isL (.lst (ns.map .int)) Ω ∧ wInd (.lst (ns.map .int)) [.int x] Ω P := by
  have hx := hp.2.2 x x0 x1
  have hl := List.idxOf_lt_length_iff.mpr hx
  refine ⟨⟨_, .inl rfl⟩, ns, x, ns.idxOf x, .inl rfl, rfl, ?_, fun k z hk hz e => ?_, p⟩
  · rw [List.getElem?_eq_getElem hl, List.getElem_idxOf hl]
  · subst e
    obtain ⟨hkl, hz⟩ := List.getElem?_eq_some_iff.mp hz
    have := List.not_of_lt_findIdx (p := fun y => y == z) (xs := ns) hk
    rw [hz] at this
    simp at this
theorem g_way0 {Ω : Om} {m r cell c f : Int} {long : Bool} {a : Addr} {ns : List Int} {Q : D → D → Om → Prop} (m0 : 2 ≤ m) (m1 : m ≤ 3) (hp : PermOk m ns) (q : Q (tI ns) (tI ((rgL m).map fun x => (ns.idxOf x : Int))) Ω) :
    mFrz (mLc (iRg1 (mCons (mVar 2) mNil)) 15 mYes (mBM wInd (mVar 7) (mCons (mVar 15) mNil))) Ω [some (.ptr a), some (.int c), some (.int m), some (.int f), some (.bl long), some (.int cell), some (.int r), some (.lst (ns.map .int)), none, none, none, none, none, none, none, none]
      (fun d Ω1 => wTuple [.lst (ns.map .int)] Ω1 fun x Ω1 => wTuple [d] Ω1 fun x_1 Ω1 => Q x x_1 Ω1) := by
  refine lcInts (m := m) (Ω1 := Ω) (fun x => (ns.idxOf x : Int)) (fun P p => by walk_at "d"; exact p) (by omega) (by omega) (fun l acc x x0 x1 hl R hR => ?_) ?_
  · walk_at "d"
    exact ind_row hp x0 x1 hR
  · rw [tuple_l, tuple_l]
    exact q
theorem tab_idx {m : Int} {ns : List Int} (h0 : 0 ≤ m) (hp : PermOk m ns) : TabOk m ((rgL m).map fun x => (ns.idxOf x : Int)) 1 := tab_map h0 fun x x0 x1 => by
  have := List.idxOf_lt_length_iff.mpr (hp.2.2 x x0 x1)
  have := hp.1
  omega
theorem g_back2 {Ω : Om} {P : DK} {a : Addr} {c m f cell r : Int} {long : Bool} {o : Ob} (c1 : 1 ≤ c) (c2 : c ≤ 3) (m1 : 2 ≤ m) (m2 : m ≤ 3) (f0 : 0 ≤ f) (f1 : f ≤ 90) (hO : HandO o) (z0 : 0 ≤ cell) (z1 : cell < c) (r0 : 0 ≤ r) (r1 : r < 4) (r2 : long = false → r < 3)
    (h : ∀ (o' : Ob) (pr : List Stp) (rows : List (List Int)), HandO o' → BackOk c m f pr rows → (long = false → pr.length ≤ 2) → P (.lst [progD pr, .lst (rows.map tI)]) (put Ω a o')) :
    m_back2 F_L_take (put Ω a o) [some (.ptr a), some (.int c), some (.int m), some (.int f), some (.bl long), some (.int cell), some (.int r), none, none, none, none, none, none, none, none, none] (endK P) := by
  unfold m_back2
  walk_at "d"
  refine ⟨fun e => ?_, fun e0 => ⟨fun e => ?_, fun e1 => ⟨fun e => ?_, fun e2 => ?_⟩⟩⟩
  · refine take_at hO (by omega) (by omega) fun o2 x h2 x0 x1 => ?_
    refine six x0 x1 fun ns hn => ?_
    refine ⟨fun e2 => ?_, fun e2 => ?_⟩
    · refine take_at h2 (by omega) (by omega) fun o3 y h3 y0 y1 => ?_
      refine three y0 y1 fun ns hn => ?_
      subst e2
      exact g_way0 (by omega) (by omega) hn (.now (h o3 _ [ns, _] h3 (back0 ⟨f0, f1⟩ ⟨z0, z1⟩ (tab1 hn.1 hn.2.1) (tab_idx (by omega) hn)) fun _ => Nat.le_refl _))
    · have e3 : m = 3 := by omega
      subst e3
      exact g_way0 (by omega) (by omega) hn (.now (h o2 _ [ns, _] h2 (back0 ⟨f0, f1⟩ ⟨z0, z1⟩ (tab1 hn.1 hn.2.1) (tab_idx (by omega) hn)) fun _ => Nat.le_refl _))
  · refine take_at hO (by omega) (by omega) fun o2 x h2 x0 x1 => ?_
    unfold mTupRg
    walk_at "d"
    refine ⟨by omega, by omega, ?_⟩
    exact .now (h o2 _ [[x], rgL m] h2 (back1 ⟨f0, f1⟩ ⟨z0, z1⟩ (tab0 ⟨x0, x1⟩) (by have := tab_map (m := m) (g := fun x => x) (by omega) fun x x0 x1 => ⟨x0, x1⟩; rw [List.map_id'] at this; exact this)) fun _ => Nat.le_refl _)
  · refine lcTakes (n := m) (fun P p => by walk_at "d"; exact p) hO (by omega) (by omega) (by omega) (by omega) (fun _ => rfl) (fun _ => rfl) fun o2 ns h2 n1 n2 => ?_
    rw [tuple_l]
    refine take_at h2 (by omega) (by omega) fun o3 y h3 y0 y1 => ?_
    walk_at "d"
    exact .now (h o3 _ [ns] h3 (back2 ⟨f0, f1⟩ ⟨z0, z1⟩ ⟨y0, y1⟩ (tab1 n1 n2)) fun _ => Nat.le_refl _)
  · refine take_at hO (by omega) (by omega) fun o2 y h2 y0 y1 => ?_
    rw [add_ii]
    refine lcInts (m := m) (Ω1 := put Ω a o2) (fun x => (x + (1 + y)) % m) (fun P p => by walk_at "d"; exact p) (by omega) (by omega) (fun l acc x x0 x1 hl R hR => ?_) ?_
    · walk_at "d"
      exact ⟨by omega, hR⟩
    · rw [tuple_l]
      refine lcInts (m := m) (Ω1 := put Ω a o2) (fun x => (x - (1 + y)) % m) (fun P p => by walk_at "d"; exact p) (by omega) (by omega) (fun l acc x x0 x1 hl R hR => ?_) ?_
      · walk_at "d"
        exact ⟨by omega, hR⟩
      · rw [tuple_l]
        refine ⟨by omega, .now (h o2 _ [_, _] h2 (back3 ⟨f0, f1⟩ ⟨z0, z1⟩ (mod_rng c1) (tab_map (by omega) fun x _ _ => mod_rng (by omega)) (tab_map (by omega) fun x _ _ => mod_rng (by omega))) fun z => ?_)⟩
        have := r2 z
        omega
theorem g_L_back_program (ds Ω P) (h : F_L_back_program ds Ω P) : m_L_back_program F_L_take Ω (startD 16 ds) (endK P) := by
  obtain ⟨a, c, m, f, long, o, rfl, c1, c2, m1, m2, f0, f1, ho, hO, h⟩ := h
  rw [show m_L_back_program F_L_take = mSeq (mAsg (mCB F_L_take (mCons (mVar 0) (mCons (mVar 1) mNil))) 5) (mSeq (mAsg (mCB F_L_take (mCons (mVar 0) (mCons (mIf (mB (mVar 4)) (mC (.int 4)) (mC (.int 3))) mNil))) 6) (m_back2 F_L_take)) from rfl]
  have key := @g_back2 Ω P a c m f
  generalize hM : m_back2 F_L_take = M at key
  walk_at "d"
  rw [← put_self ho]
  refine take_at hO (by omega) (by omega) fun o1 cell h1 z0 z1 => ?_
  refine ⟨fun e => ?_, fun e => ?_⟩
  · refine take_at h1 (by omega) (by omega) fun o2 r h2 r0 r1 => ?_
    exact key c1 c2 m1 m2 f0 f1 h2 z0 z1 r0 r1 (fun z => by rw [e] at z; cases z) h
  · refine take_at h1 (by omega) (by omega) fun o2 r h2 r0 r1 => ?_
    exact key c1 c2 m1 m2 f0 f1 h2 z0 z1 r0 (by omega) (fun _ => r1) h
end
end KG
/-! PL: the plain law: the least broken rules by closures are the least among all. -/
namespace KG
open L2 PySem PyProof.Rows PySem.Spec
theorem subR_iff {Q R : Rule} : subR Q R = true ↔ ∀ x ∈ Q, x ∈ R := by unfold subR; simp
def minIn (L : List Rule) (R : Rule) : Prop := ∀ Q ∈ L, subR Q R = true → Q = R
theorem greedy_spec {L : List Rule} (pw : L.Pairwise ruleLt) (hs : ∀ Q ∈ L, ∀ R ∈ L, subR Q R = true → Q = R ∨ ruleLt Q R) : ∀ k, k ≤ L.length →
    (∀ x, x ∈ greedy (L.take k) ↔ x ∈ L.take k ∧ minIn (L.take k) x) ∧ (∀ x ∈ L.take k, ∃ y ∈ greedy (L.take k), subR y x = true) ∧ (greedy (L.take k)).Sublist (L.take k)
  | 0, _ => by simp [greedy]
  | k + 1, hk => by
    obtain ⟨h1, h2, h3⟩ := greedy_spec pw hs k (by omega)
    have hR : L[k]? = some L[k] := List.getElem?_eq_getElem (by omega)
    generalize L[k] = R at hR
    have ht := take_succ_of hR
    have hRL := List.mem_of_getElem? hR
    have pw1 : (L.take (k + 1)).Pairwise ruleLt := pw.sublist (List.take_sublist _ _)
    rw [ht, List.pairwise_append] at pw1
    have hlt : ∀ x ∈ L.take k, ruleLt x R := fun x hx => pw1.2.2 x hx R (List.mem_singleton_self R)
    have hin : ∀ x ∈ L.take k, x ∈ L := fun x hx => List.mem_of_mem_take hx
    have hold : ∀ x ∈ L.take k, minIn (L.take k) x → minIn (L.take (k + 1)) x := fun x hx hm Q hQ hsub => by
      rw [ht] at hQ
      rcases List.mem_append.mp hQ with hQ | hQ
      · exact hm Q hQ hsub
      · rw [List.mem_singleton] at hQ
        subst hQ
        rcases hs Q hRL x (hin x hx) hsub with e | e
        · exact e
        · exact absurd (ruleLt_tr _ _ _ e (hlt x hx)) (ruleLt_irr _)
    have hold2 : ∀ x, minIn (L.take (k + 1)) x → minIn (L.take k) x := fun x hm Q hQ hsub => hm Q (by rw [ht]; exact List.mem_append.mpr (.inl hQ)) hsub
    rw [greedy_take hR]
    by_cases hz : ((greedy (L.take k)).filter fun Q => subR Q R).length = 0
    · rw [if_pos hz]
      have hno : ∀ Q ∈ greedy (L.take k), ¬ subR Q R = true := fun Q hQ hsub => by
        have := List.mem_filter (p := fun Q => subR Q R) |>.mpr ⟨hQ, hsub⟩
        rw [List.length_eq_zero_iff.mp hz] at this
        cases this
      have hmR : minIn (L.take (k + 1)) R := fun Q hQ hsub => by
        rw [ht] at hQ
        rcases List.mem_append.mp hQ with hQ | hQ
        · obtain ⟨y, hy, hyQ⟩ := h2 Q hQ
          exact absurd (subR_iff.mpr fun x hx => subR_iff.mp hsub x (subR_iff.mp hyQ x hx)) (hno y hy)
        · exact List.mem_singleton.mp hQ
      refine ⟨fun x => ?_, fun x hx => ?_, by rw [ht]; exact h3.append (List.Sublist.refl _)⟩
      · rw [List.mem_append, List.mem_singleton, h1]
        constructor
        · rintro (⟨hx, hm⟩ | rfl)
          · exact ⟨by rw [ht]; exact List.mem_append.mpr (.inl hx), hold x hx hm⟩
          · exact ⟨by rw [ht]; simp, hmR⟩
        · rintro ⟨hx, hm⟩
          rw [ht] at hx
          rcases List.mem_append.mp hx with hx | hx
          · exact .inl ⟨hx, hold2 x hm⟩
          · exact .inr (List.mem_singleton.mp hx)
      · rw [ht] at hx
        rcases List.mem_append.mp hx with hx | hx
        · obtain ⟨y, hy, hyx⟩ := h2 x hx
          exact ⟨y, List.mem_append.mpr (.inl hy), hyx⟩
        · rw [List.mem_singleton] at hx
          subst hx
          exact ⟨x, by simp, subR_iff.mpr fun z hz => hz⟩
    · rw [if_neg hz]
      obtain ⟨y, hy⟩ := List.exists_mem_of_length_pos (Nat.pos_of_ne_zero hz)
      obtain ⟨hyG, hyR⟩ := List.mem_filter.mp hy
      have hyt := (h1 y).mp hyG
      refine ⟨fun x => ?_, fun x hx => ?_, by rw [ht]; exact h3.trans (List.sublist_append_left _ _)⟩
      · rw [h1]
        constructor
        · rintro ⟨hx, hm⟩
          exact ⟨by rw [ht]; exact List.mem_append.mpr (.inl hx), hold x hx hm⟩
        · rintro ⟨hx, hm⟩
          rw [ht] at hx
          rcases List.mem_append.mp hx with hx | hx
          · exact ⟨hx, hold2 x hm⟩
          · rw [List.mem_singleton] at hx
            subst hx
            have e := hold2 x hm y hyt.1 hyR
            subst e
            exact absurd (hlt y hyt.1) (ruleLt_irr _)
      · rw [ht] at hx
        rcases List.mem_append.mp hx with hx | hx
        · exact h2 x hx
        · rw [List.mem_singleton] at hx
          subst hx
          exact ⟨y, hyG, hyR⟩
theorem greedy_min {L : List Rule} (pw : L.Pairwise ruleLt) (hs : ∀ Q ∈ L, ∀ R ∈ L, subR Q R = true → Q = R ∨ ruleLt Q R) : (∀ x, x ∈ greedy L ↔ x ∈ L ∧ minIn L x) ∧ (greedy L).Pairwise ruleLt := by
  obtain ⟨h1, h2, h3⟩ := greedy_spec pw hs L.length (Nat.le_refl _)
  rw [List.take_length] at h1 h3
  exact ⟨h1, pw.sublist h3⟩
end KG
/-! PM: the plain law, ended. -/
namespace KG
open L2 PySem PyProof.Rows PySem.Spec
theorem pw_S {W : Wld} (wd : Wd W) : W.S.Pairwise fun a b => TS.code W.m a < TS.code W.m b := pw_allS (by have := wd.m; omega) _
theorem sub_lem {W : Wld} (wd : Wd W) {Q R : Rule} (hQ : Q.Sublist W.S) (hR : R.Sublist W.S) (h : subR Q R = true) : Q.Sublist R := by
  have e : Q = R.filter fun x => decide (x ∈ Q) := uniq_sorted (lt := fun a b => TS.code W.m a < TS.code W.m b) (fun a => Int.lt_irrefl _) (fun a b c => Int.lt_trans) ((pw_S wd).sublist hQ) ((pw_S wd).sublist (List.filter_sublist.trans hR)) fun x => by
    rw [List.mem_filter, decide_eq_true_eq]
    exact ⟨fun hx => ⟨subR_iff.mp h x hx, hx⟩, fun hx => hx.2⟩
  rw [e]
  exact List.filter_sublist
theorem sub_lt {W : Wld} (wd : Wd W) {Q R : Rule} (hQ : Q.Sublist W.S) (hR : R.Sublist W.S) (h : subR Q R = true) : Q = R ∨ ruleLt Q R := by
  have hs := sub_lem wd hQ hR h
  rcases Nat.lt_or_ge Q.length R.length with hl | hl
  · exact .inr (ruleLt_len hl)
  · exact .inl (hs.eq_of_length_le hl)
theorem reach_in {W : Wld} {R : Rule} (hk : Kept W.moves R) {s : List Int} (hs : s ∈ R) {x : List Int} (h : Reach W.moves s x) : x ∈ R := by
  induction h with
  | base => exact hs
  | step _ hf ih => exact hk _ hf _ ih
theorem reach_S {W : Wld} (wd : Wd W) {s x : List Int} (hs : s ∈ W.S) (h : Reach W.moves s x) : x ∈ W.S := by
  induction h with
  | base => exact hs
  | step _ hf ih => exact moves_ok wd hf ih
open Classical in
theorem mem_clo {W : Wld} (wd : Wd W) {s x : List Int} (hs : s ∈ W.S) : x ∈ clo W s ↔ Reach W.moves s x := by
  unfold clo
  rw [List.mem_filter]
  exact ⟨fun h => of_decide_eq_true h.2, fun h => ⟨reach_S wd hs h, decide_eq_true h⟩⟩
theorem clo_kept {W : Wld} (wd : Wd W) {s : List Int} (hs : s ∈ W.S) : Kept W.moves (clo W s) := fun f hf x hx => (mem_clo wd hs).mpr (.step ((mem_clo wd hs).mp hx) hf)
theorem clo_sub {W : Wld} (s : List Int) : (clo W s).Sublist W.S := List.filter_sublist
def brokenL (W : Wld) (row : List Int) : List Rule := (keptL W).filter fun R => !decide (Kept [W.run row] R)
theorem mem_keptL {W : Wld} {R : Rule} : R ∈ keptL W ↔ R.Sublist W.S ∧ Kept W.moves R := by
  unfold keptL
  rw [List.mem_filter, decide_eq_true_eq, (ruleSort_perm _).mem_iff, mem_subs]
theorem not_kept1 {f : Mv} {R : Rule} : ¬ Kept [f] R ↔ ∃ s ∈ R, f s ∉ R := by
  unfold Kept
  constructor
  · intro h
    exact Classical.byContradiction fun hn => h fun g hg s hs => by
      rw [List.mem_singleton] at hg
      subst hg
      exact Classical.byContradiction fun z => hn ⟨s, hs, z⟩
  · rintro ⟨s, hs, hn⟩ h
    exact hn (h f (List.mem_singleton_self f) s hs)
theorem mem_brokenL {W : Wld} {row : List Int} {R : Rule} : R ∈ brokenL W row ↔ R.Sublist W.S ∧ Kept W.moves R ∧ ∃ s ∈ R, W.run row s ∉ R := by
  unfold brokenL
  rw [List.mem_filter, mem_keptL, and_assoc]
  simp only [Bool.not_eq_true', decide_eq_false_iff_not, not_kept1]
theorem nd_subs {S : List (List Int)} (nd : S.Nodup) : (subs S).Nodup := by
  have key : ∀ (S : List (List Int)) (told : List Rule), S.Nodup → told.Nodup → (∀ r ∈ told, ∀ x ∈ S, x ∉ r) → (S.foldl (fun told x => told ++ told.map fun r => r ++ [x]) told).Nodup := by
    intro S
    induction S with
    | nil => intro told _ h _; exact h
    | cons x S ih =>
      intro told hS ht hd
      obtain ⟨hx, hS⟩ := List.nodup_cons.mp hS
      rw [List.foldl_cons]
      refine ih _ hS (List.nodup_append.mpr ⟨ht, ?_, ?_⟩) ?_
      · exact List.Pairwise.map _ (fun a b (h : a ≠ b) e => h (List.append_cancel_right e)) ht
      · intro a ha b hb e
        obtain ⟨r, _, rfl⟩ := List.mem_map.mp hb
        subst e
        exact hd _ ha x List.mem_cons_self (by simp)
      · intro r hr y hy
        rcases List.mem_append.mp hr with hr | hr
        · exact hd r hr y (List.mem_cons_of_mem _ hy)
        · obtain ⟨q, hq, rfl⟩ := List.mem_map.mp hr
          intro z
          rcases List.mem_append.mp z with z | z
          · exact hd q hq y (List.mem_cons_of_mem _ hy) z
          · rw [List.mem_singleton] at z
            subst z
            exact hx hy
  exact key S [[]] nd (by simp) (by simp)
theorem pw_brokenL (W : Wld) (row : List Int) : (brokenL W row).Pairwise ruleLt := (ruleSort_pw (nd_subs (nd_S W))).sublist (List.filter_sublist.trans List.filter_sublist)
theorem least_same {W : Wld} (wd : Wd W) {row : List Int} {M : List Rule} (pw : M.Pairwise ruleLt) (hM : ∀ x, x ∈ M ↔ ∃ s ∈ W.S, brk W row s ∧ x = clo W s) : greedy M = greedy (brokenL W row) := by
  have inL : ∀ x ∈ M, x ∈ brokenL W row := fun x hx => by
    obtain ⟨s, hs, hb, rfl⟩ := (hM x).mp hx
    exact mem_brokenL.mpr ⟨clo_sub s, clo_kept wd hs, s, (mem_clo wd hs).mpr .base, hb⟩
  have subS : ∀ x ∈ brokenL W row, x.Sublist W.S := fun x hx => (mem_brokenL.mp hx).1
  have below : ∀ R ∈ brokenL W row, ∃ Q ∈ M, subR Q R = true := fun R hR => by
    obtain ⟨h1, h2, s, hs, hn⟩ := mem_brokenL.mp hR
    have hsub : subR (clo W s) R = true := subR_iff.mpr fun x hx => reach_in h2 hs ((mem_clo wd (h1.subset hs)).mp hx)
    exact ⟨clo W s, (hM _).mpr ⟨s, h1.subset hs, fun z => hn (subR_iff.mp hsub _ z), rfl⟩, hsub⟩
  have gM := greedy_min pw fun Q hQ R hR => sub_lt wd (subS Q (inL Q hQ)) (subS R (inL R hR))
  have gL := greedy_min (pw_brokenL W row) fun Q hQ R hR => sub_lt wd (subS Q hQ) (subS R hR)
  refine uniq_sorted ruleLt_irr ruleLt_tr gM.2 gL.2 fun x => ?_
  rw [gM.1, gL.1]
  constructor
  · rintro ⟨hx, hm⟩
    refine ⟨inL x hx, fun Q hQ hsub => ?_⟩
    obtain ⟨T, hT, hTQ⟩ := below Q hQ
    have e := hm T hT (subR_iff.mpr fun z hz => subR_iff.mp hsub z (subR_iff.mp hTQ z hz))
    subst e
    have s1 := sub_lem wd (subS _ hQ) (subS _ (inL _ hT)) hsub
    have s2 := sub_lem wd (subS _ (inL _ hT)) (subS _ hQ) hTQ
    exact s1.eq_of_length_le s2.length_le
  · rintro ⟨hx, hm⟩
    obtain ⟨T, hT, hTx⟩ := below x hx
    have e := hm T (inL T hT) hTx
    subst e
    exact ⟨hT, fun Q hQ hsub => hm Q (inL Q hQ) hsub⟩
end KG
/-! PN: worlds of programs with a way back. -/
namespace KG
open L2 PySem PyProof.Rows PySem.Spec
structure BInv (c m : Int) (k : Nat) (ps : List (List Stp)) (tb : List (Int × List Int)) : Prop where
  len : ps.length = k
  lens : ∀ p ∈ ps, 1 ≤ p.length ∧ p.length ≤ 3
  step : ∀ p ∈ ps, ∀ i s, p[i]? = some s → StpOk ⟨c, m, [], tb⟩ p i s
  names : ps.flatten.Pairwise fun s r => s.kind ≠ kKept → r.kind ≠ kKept → s.name ≠ r.name
  name : ∀ p ∈ ps, ∀ s ∈ p, s.kind ≠ kKept → 0 ≤ s.name ∧ s.name < 2 * k
  keys : ∀ q ∈ tb, 0 ≤ q.1 ∧ q.1 < 2 * k
  nd : (tb.map (·.1)).Nodup
  tabs : ∀ q ∈ tb, TabOk m q.2 1 ∨ TabOk m q.2 0
  few : tb.length ≤ 2 * k
theorem BInv.start (c m : Int) : BInv c m 0 [] [] := ⟨rfl, by simp, by simp, by simp, by simp, by simp, by simp, by simp, by simp⟩
theorem stp_same {c m : Int} {ps qs : List (List Stp)} {tb tb' : List (Int × List Int)} {p : List Stp} {i : Nat} {s : Stp} (h : StpOk ⟨c, m, ps, tb⟩ p i s) (hl : ∀ n t, look tb n = some t → look tb' n = some t) : StpOk ⟨c, m, qs, tb'⟩ p i s :=
  ⟨h.cell, h.kind, h.asc, h.rng, h.plain, h.kept, fun z => by
    obtain ⟨h1, h2, t, h3, h4⟩ := h.tab z
    exact ⟨h1, h2, t, hl _ _ h3, h4⟩⟩
theorem look_left {a b : List (Int × List Int)} {n : Int} {t : List Int} (h : look a n = some t) : look (a ++ b) n = some t := by
  unfold look at h ⊢
  rw [List.find?_append]
  cases e : a.find? (fun p => decide (p.1 = n)) with
  | none => rw [e] at h; cases h
  | some q => rw [e] at h; exact h
theorem look_right {a b : List (Int × List Int)} {n : Int} {t : List Int} (ha : ∀ q ∈ a, q.1 ≠ n) (h : look b n = some t) : look (a ++ b) n = some t := by
  unfold look at h ⊢
  rw [List.find?_append, List.find?_eq_none.mpr (fun q hq => by simpa using ha q hq)]
  simpa using h
theorem rowTb_keys : ∀ (rows : List (List Int)) (f : Int), (∀ q ∈ rowTb f rows, f ≤ q.1 ∧ q.1 < f + rows.length ∧ q.2 ∈ rows) ∧ ((rowTb f rows).map (·.1)).Nodup ∧ (rowTb f rows).length = rows.length
  | [], f => by simp [rowTb]
  | r :: rows, f => by
    obtain ⟨h1, h2, h3⟩ := rowTb_keys rows (f + 1)
    unfold rowTb
    refine ⟨fun q hq => ?_, ?_, by simp [h3]⟩
    · rcases List.mem_cons.mp hq with rfl | hq
      · exact ⟨Int.le_refl _, by simp; omega, by simp⟩
      · obtain ⟨a1, a2, a3⟩ := h1 q hq
        exact ⟨by omega, by rw [List.length_cons]; omega, List.mem_cons_of_mem _ a3⟩
    · rw [List.map_cons, List.nodup_cons]
      refine ⟨fun z => ?_, h2⟩
      obtain ⟨q, hq, e⟩ := List.mem_map.mp z
      have := h1 q hq
      omega
theorem BInv.next {c m : Int} {k : Nat} {ps : List (List Stp)} {tb : List (Int × List Int)} {pr : List Stp} {rows : List (List Int)} (I : BInv c m k ps tb) (hb : BackOk c m (2 * k) pr rows) : BInv c m (k + 1) (ps ++ [pr]) (tb ++ rowTb (2 * k) rows) := by
  obtain ⟨r1, r2, r3⟩ := rowTb_keys rows (2 * k)
  have hfew := hb.few
  refine ⟨by rw [List.length_append, I.len]; rfl, fun p hp => ?_, fun p hp i s hs => ?_, ?_, fun p hp s hs hk => ?_, fun q hq => ?_, ?_, fun q hq => ?_, ?_⟩
  · rcases List.mem_append.mp hp with hp | hp
    · exact I.lens p hp
    · rw [List.mem_singleton] at hp; subst hp; exact hb.len
  · rcases List.mem_append.mp hp with hp | hp
    · exact stp_same (I.step p hp i s hs) fun n t h => look_left h
    · rw [List.mem_singleton] at hp
      subst hp
      have h0 := hb.step i s hs
      refine ⟨h0.cell, h0.kind, h0.asc, h0.rng, h0.plain, h0.kept, fun z => ?_⟩
      obtain ⟨h1, h2, t, h3, h4⟩ := h0.tab z
      refine ⟨h1, h2, t, look_right (fun q hq e => ?_) h3, h4⟩
      have := I.keys q hq
      have := hb.name s (List.mem_of_getElem? hs) z
      omega
  · rw [List.flatten_append, List.pairwise_append]
    refine ⟨I.names, by simpa using hb.names, fun s hs r hr k1 k2 e => ?_⟩
    obtain ⟨p, hp, hs⟩ := List.mem_flatten.mp hs
    have a1 := I.name p hp s hs k1
    have a2 := hb.name r (by simpa using hr) k2
    omega
  · rcases List.mem_append.mp hp with hp | hp
    · have := I.name p hp s hs hk; omega
    · rw [List.mem_singleton] at hp; subst hp
      have := hb.name s hs hk; omega
  · rcases List.mem_append.mp hq with hq | hq
    · have := I.keys q hq; omega
    · have := r1 q hq; omega
  · rw [List.map_append, List.nodup_append]
    refine ⟨I.nd, r2, fun a ha b hb e => ?_⟩
    obtain ⟨q, hq, rfl⟩ := List.mem_map.mp ha
    obtain ⟨q2, hq2, rfl⟩ := List.mem_map.mp hb
    have := I.keys q hq
    have := r1 q2 hq2
    omega
  · rcases List.mem_append.mp hq with hq | hq
    · exact I.tabs q hq
    · exact hb.tab _ (r1 q hq).2.2
  · rw [List.length_append, r3]
    have := I.few
    omega
end KG
/-! PO: such a world fulfils Wd. -/
namespace KG
open L2 PySem PyProof.Rows PySem.Spec
theorem pw_same {α : Type} {f : α → Prop} {g : α → Int} : ∀ {l : List α}, l.Pairwise (fun s r => f s → f r → g s ≠ g r) → ∀ s ∈ l, ∀ r ∈ l, f s → f r → g s = g r → s = r
  | [], _, s, hs, _, _, _, _, _ => by cases hs
  | x :: l, h, s, hs, r, hr, fs, fr, e => by
    cases h with
    | cons h1 h2 =>
      rcases List.mem_cons.mp hs with e1 | hs1
      · rcases List.mem_cons.mp hr with e2 | hr1
        · rw [e1, e2]
        · subst e1; exact absurd e (h1 r hr1 fs fr)
      · rcases List.mem_cons.mp hr with e2 | hr1
        · subst e2; exact absurd e.symm (h1 s hs1 fr fs)
        · exact pw_same h2 s hs1 r hr1 fs fr e
theorem BInv.wd {c m : Int} {k : Nat} {ps : List (List Stp)} {tb : List (Int × List Int)} (I : BInv c m k ps tb) (hs : SmallOk c m) (hk : 1 ≤ k ∧ k ≤ 3) (h7 : (ps.map List.length).sum ≤ 7) : Wd ⟨c, m, ps, tb⟩ := by
  obtain ⟨c1, c2, m1, m2, sm⟩ := hs
  refine ⟨⟨c1, c2⟩, ⟨m1, m2⟩, sm, ?_, fun p hp => ?_, h7, fun p hp i s h => stp_same (I.step p hp i s h) fun n t z => z, fun p hp s hs q hq r hr k1 k2 e => ?_, I.nd, fun q hq => ?_, ?_⟩
  · have := I.len
    show 1 ≤ ps.length ∧ ps.length ≤ 3
    omega
  · have := I.lens p hp
    omega
  · have := pw_same (f := fun s : Stp => s.kind ≠ kKept) (g := Stp.name) I.names s (List.mem_flatten.mpr ⟨p, hp, hs⟩) r (List.mem_flatten.mpr ⟨q, hq, hr⟩) k1 k2 e
    rw [this]
  · have := I.keys q hq
    refine ⟨by omega, by omega, ?_⟩
    rcases I.tabs q hq with h | h
    · exact ⟨1, by omega, h⟩
    · exact ⟨0, by omega, h⟩
  · have := I.few
    show tb.length ≤ 20
    omega
end KG
/-! PQ: lots that are drawn, before their tables. -/
namespace KG
open L2 PySem PyProof.Rows PySem.Spec
structure StpPre (c : Int) (p : List Stp) (i : Nat) (s : Stp) : Prop where
  cell : 0 ≤ s.cell ∧ s.cell < c
  kind : s.kind = kAny ∨ s.kind = kKept ∨ s.kind = kAdds
  asc : s.by_.Pairwise (· < ·)
  rng : ∀ b ∈ s.by_, 0 ≤ b ∧ b ≤ lastP s.kind i
  plain : ∀ b ∈ s.by_, ∀ r, p[b.toNat]? = some r → r.kind ≠ kAdds
  kept : s.kind = kKept → s.name = -1
  name : s.kind ≠ kKept → 0 ≤ s.name ∧ s.name ≤ 99
def PreL (c : Int) (p : List Stp) : Prop := ∀ i s, p[i]? = some s → StpPre c p i s
theorem lastP_le (k : Str) (i : Nat) : lastP k i ≤ i := by
  unfold lastP
  split
  · exact Int.le_refl _
  · split <;> omega
theorem PreL.snoc {c : Int} {p : List Stp} {s : Stp} (h : PreL c p) (hs : StpPre c (p ++ [s]) p.length s) : PreL c (p ++ [s]) := fun i r hr => by
  rcases Nat.lt_or_ge i p.length with hi | hi
  · rw [List.getElem?_append_left hi] at hr
    have h0 := h i r hr
    refine ⟨h0.cell, h0.kind, h0.asc, h0.rng, fun b hb t ht => ?_, h0.kept, h0.name⟩
    have h1 := h0.rng b hb
    have h2 := lastP_le r.kind i
    rw [List.getElem?_append_left (by omega)] at ht
    exact h0.plain b hb t ht
  · rcases Nat.eq_or_lt_of_le hi with e | e
    · subst e
      rw [List.getElem?_append_right (Nat.le_refl _), Nat.sub_self] at hr
      cases hr
      exact hs
    · rw [List.getElem?_eq_none (by rw [List.length_append, List.length_singleton]; omega)] at hr
      cases hr
structure TellOk (T : List Stp) : Prop where
  name : ∀ s ∈ T, s.kind ≠ kKept → 0 ≤ s.name ∧ s.name < T.length
  shape : ∀ s ∈ T, ∀ r ∈ T, s.kind ≠ kKept → r.kind ≠ kKept → s.name = r.name → shapeS s = shapeS r
theorem TellOk.snoc {T : List Stp} {s : Stp} (h : TellOk T) (hs : s.kind = kKept ∨ s.name = T.length ∨ ∃ r ∈ T, r.kind ≠ kKept ∧ s.name = r.name ∧ shapeS s = shapeS r) : TellOk (T ++ [s]) := by
  have hl : (T ++ [s]).length = T.length + 1 := by simp
  refine ⟨fun q hq hk => ?_, fun q hq r hr k1 k2 e => ?_⟩
  · rcases List.mem_append.mp hq with hq | hq
    · have := h.name q hq hk; omega
    · rw [List.mem_singleton] at hq
      subst hq
      rcases hs with z | z | ⟨r, hr, k1, e, _⟩
      · exact absurd z hk
      · omega
      · have := h.name r hr k1; omega
  · rcases List.mem_append.mp hq with hq1 | hq1
    · rcases List.mem_append.mp hr with hr1 | hr1
      · exact h.shape q hq1 r hr1 k1 k2 e
      · rw [List.mem_singleton] at hr1
        subst hr1
        rcases hs with z | z | ⟨t, ht, k3, e2, e3⟩
        · exact absurd z k2
        · have := h.name q hq1 k1; omega
        · rw [e3]; exact h.shape q hq1 t ht k1 k3 (by omega)
    · rw [List.mem_singleton] at hq1
      subst hq1
      rcases List.mem_append.mp hr with hr1 | hr1
      · rcases hs with z | z | ⟨t, ht, k3, e2, e3⟩
        · exact absurd z k1
        · have := h.name r hr1 k2; omega
        · rw [e3]; exact h.shape t ht r hr1 k3 k2 (by omega)
      · rw [List.mem_singleton] at hr1
        rw [hr1]
end KG
namespace KG
open L2 PySem PyProof.Rows PySem.Spec
local macro_rules | `(tactic| walk_at "d") => `(tactic| first | simp only [startD, endK, List.map_cons, List.map_nil, List.length_cons, List.length_nil, List.replicate, List.cons_append, List.nil_append, Nat.reduceAdd, Nat.reduceSub, Nat.zero_add, Nat.add_zero, Nat.reduceLeDiff,
  mCntF, mSetF, mSetd, mSeq, mAsg, mDrop, mRet, mRetN, mIfS, mCont, mNext, mNever, gN, gNil_eq, gCons_eq, gT_t, gT_l, gSet, mAsgG, mVar, slot, mC, mOp, mUn, mNil, mCons, mTup, mLst, mLstO, mCB, mIf, mB, mAnd, mOr, mNot, mOrV, mNotV, mYes, mNewK, mNewT, mBM, mTuF,
  wInt2, wIs, wIsN, wNeg, wInt, wAbs, mFld, Ob.d, isi_ii, isi_ib, isi_ss, isiS_t, isiS_f, isiS_l, len_t, len_f, len_l, len_q, tuple_t, tuple_f, tuple_l, eq_ii, ne_ii, eq_ss, ne_ss, add_ii, add_tt, add_ll, mul_ii, in_t, in_l, in_il, fld_cells, fld_programs, fld_modulus, fld_tables, mMeth, meth_mean, List.length_map,
  List.set_cons_zero, List.set_cons_succ, List.getElem?_cons_zero, List.getElem?_cons_succ, Option.some.injEq, exists_eq_left', exists_eq_left, exists_eq', exists_eq, D.int.injEq, D.bl.injEq, D.str.injEq, D.tup.injEq, D.lst.injEq, D.ptr.injEq, D.ty.injEq, List.cons.injEq, and_true, true_and, reduceCtorEq, false_or, or_false, false_and, and_false, exists_false, or_self,
  exists_and_left, exists_and_right, exists_const, ne_eq, not_true_eq_false, not_false_eq_true, decide_true, decide_false, Bool.false_eq_true, Bool.true_eq_false, false_implies, true_implies, forall_const, implies_true, Bool.not_true, Bool.not_false, Bool.not_eq_true', Bool.not_eq_true, Bool.not_eq_false', decide_eq_true_eq, decide_eq_false_iff_not, put_same, del_same, forall_eq', forall_eq, forall_apply_eq_imp_iff] | (try dsimp only))
/-! G24: the steps of a program, drawn. -/
section
def F_L_steps : FD := fun ds Ω P => ∃ (h t : Addr) (c size : Int) (o : Ob) (T : List Stp), ds = [.ptr h, .int c, .int size, .ptr t] ∧ 1 ≤ c ∧ c ≤ 3 ∧ 0 ≤ size ∧ size ≤ 4 ∧ Ω h = some o ∧ HandO o ∧ Ω t = some (.lst (T.map Stp.d)) ∧ TellOk T ∧ (∀ s ∈ T, s.kind ∈ kindL) ∧ T.length ≤ 20 ∧
  ∀ (o' : Ob) (pr : List Stp), HandO o' → PreL c pr → (pr.length : Int) = size → TellOk (T ++ pr) → P (progD pr) (put (put Ω h o') t (.lst ((T ++ pr).map Stp.d)))
def Fr (Ω : Om) (h t l : Addr) (Ω1 : Om) : Prop := ∀ a u, a ≠ h → a ≠ t → a ≠ l → Ω a = some u → Ω1 a = some u
theorem Fr.put {Ω Ω1 : Om} {h t l b : Addr} {u : Ob} (f : Fr Ω h t l Ω1) (hb : b = h ∨ b = t ∨ b = l ∨ Ω1 b = none) : Fr Ω h t l (KG.put Ω1 b u) := fun a v a1 a2 a3 e => by
  have := f a v a1 a2 a3 e
  by_cases z : a = b
  · subst z
    rcases hb with z | z | z | z
    · exact absurd z a1
    · exact absurd z a2
    · exact absurd z a3
    · rw [z] at this; cases this
  · rw [put_ne z]; exact this
theorem kinds {r : Int} {Ω : Om} {Q : DK} (r0 : 0 ≤ r) (r1 : r < 6) (hQ : ∀ k : Str, (k = kAny ∨ k = kKept ∨ k = kAdds) → Q (.str k) Ω) : wIx (.lst [.str "any", .str "any", .str "any", .str "kept", .str "kept", .str "adds"]) (.int r) Ω Q := by
  have h : r = 0 ∨ r = 1 ∨ r = 2 ∨ r = 3 ∨ r = 4 ∨ r = 5 := by omega
  rcases h with rfl | rfl | rfl | rfl | rfl | rfl
  · rw [ix_l rfl]; exact hQ _ (.inl rfl)
  · rw [ix_l rfl]; exact hQ _ (.inl rfl)
  · rw [ix_l rfl]; exact hQ _ (.inl rfl)
  · rw [ix_l rfl]; exact hQ _ (.inr (.inl rfl))
  · rw [ix_l rfl]; exact hQ _ (.inr (.inl rfl))
  · rw [ix_l rfl]; exact hQ _ (.inr (.inr rfl))
end
end KG
namespace KG
open L2 PySem PyProof.Rows PySem.Spec
local macro_rules | `(tactic| walk_at "d") => `(tactic| first | simp only [startD, endK, List.map_cons, List.map_nil, List.length_cons, List.length_nil, List.replicate, List.cons_append, List.nil_append, Nat.reduceAdd, Nat.reduceSub, Nat.zero_add, Nat.add_zero, Nat.reduceLeDiff,
  mCntF, mSetF, mSetd, mSeq, mAsg, mDrop, mRet, mRetN, mIfS, mCont, mNext, mNever, gN, gNil_eq, gCons_eq, gT_t, gT_l, gSet, mAsgG, mVar, slot, mC, mOp, mUn, mNil, mCons, mTup, mLst, mLstO, mCB, mIf, mB, mAnd, mOr, mNot, mOrV, mNotV, mYes, mNewK, mNewT, mBM, mTuF,
  wInt2, wIs, wIsN, wNeg, wInt, wAbs, mFld, Ob.d, isi_ii, isi_ib, isi_ss, isiS_t, isiS_f, isiS_l, len_t, len_f, len_l, len_q, tuple_t, tuple_f, tuple_l, eq_ii, ne_ii, eq_ss, ne_ss, add_ii, add_tt, add_ll, mul_ii, in_t, in_l, in_il, fld_cells, fld_programs, fld_modulus, fld_tables, mMeth, meth_mean, List.length_map,
  List.set_cons_zero, List.set_cons_succ, List.getElem?_cons_zero, List.getElem?_cons_succ, Option.some.injEq, exists_eq_left', exists_eq_left, exists_eq', exists_eq, D.int.injEq, D.bl.injEq, D.str.injEq, D.tup.injEq, D.lst.injEq, D.ptr.injEq, D.ty.injEq, List.cons.injEq, and_true, true_and, reduceCtorEq, false_or, or_false, false_and, and_false, exists_false, or_self,
  exists_and_left, exists_and_right, exists_const, ne_eq, not_true_eq_false, not_false_eq_true, decide_true, decide_false, Bool.false_eq_true, Bool.true_eq_false, false_implies, true_implies, forall_const, implies_true, Bool.not_true, Bool.not_false, Bool.not_eq_true', Bool.not_eq_true, Bool.not_eq_false', decide_eq_true_eq, decide_eq_false_iff_not, put_same, del_same, forall_eq', forall_eq, forall_apply_eq_imp_iff] | (try dsimp only))
/-! G25: the steps of a program, drawn: the turn. -/
section
def m_st1 (F_L_take : FD) : MS := (mIfS (mB (mOp wNe (mVar 6) (mC (.str "kept")))) (mForI (iRg1 (mCons (mVar 5) mNil)) (gN 9) (mIfS (mAnd (mB (mOp wNe (mOp wIx (mOp wIx (mVar 4) (mVar 9)) (mC (.int 1))) (mC (.str "adds")))) (mB (mOp wEq (mCB F_L_take (mCons (mVar 0) (mCons (mC (.int 2)) mNil))) (mC (.int 0))))) (mDrop (mBM wApp (mVar 8) (mCons (mVar 9) mNil))) mNext)) mNext)
def m_st2 (F_L_take : FD) : MS := (mIfS (mAnd (mB (mOp wEq (mVar 6) (mC (.str "any")))) (mB (mOp wGt (mCB F_L_take (mCons (mVar 0) (mCons (mC (.int 5)) mNil))) (mC (.int 0))))) (mDrop (mBM wApp (mVar 8) (mCons (mVar 5) mNil))) mNext)
def m_st3 (F_L_take F_L_shape : FD) : MS := (mIfS (mB (mOp wNe (mVar 6) (mC (.str "kept")))) (mSeq (mAsg (mCB wLen (mCons (mVar 3) mNil)) 10)
    (mIfS (mB (mOp wEq (mCB F_L_take (mCons (mVar 0) (mCons (mC (.int 3)) mNil))) (mC (.int 0)))) (mSeq (mAsg (mFrz (mLc (iSq (mVar 3)) 12 (mB (mOp wEq (mCB F_L_shape (mCons (mVar 12) mNil)) (mCB F_L_shape (mCons (mTup (mCons (mVar 7) (mCons (mVar 6) (mCons (mCB wTuple (mCons (mVar 8) mNil)) (mCons (mC (.int 0)) mNil))))) mNil)))) (mVar 12))) 11)
    (mIfS (mB (mOp wGt (mCB wLen (mCons (mVar 11) mNil)) (mC (.int 0)))) (mAsg (mOp wIx (mOp wIx (mVar 11) (mCB F_L_take (mCons (mVar 0) (mCons (mCB wLen (mCons (mVar 11) mNil)) mNil)))) (mC (.int 3))) 10) mNext)) mNext)) mNext)
def m_st4 : MS := (mSeq (mDrop (mBM wApp (mVar 4) (mCons (mTup (mCons (mVar 7) (mCons (mVar 6) (mCons (mCB wTuple (mCons (mVar 8) mNil)) (mCons (mVar 10) mNil))))) mNil)))
    (mDrop (mBM wApp (mVar 3) (mCons (mOp wIx (mVar 4) (mVar 5)) mNil))))
def m_stB (F_L_take F_L_shape : FD) : MS := (mSeq (mAsg (mOp wIx (mLst (mCons (mC (.str "any")) (mCons (mC (.str "any")) (mCons (mC (.str "any")) (mCons (mC (.str "kept")) (mCons (mC (.str "kept")) (mCons (mC (.str "adds")) mNil))))))) (mCB F_L_take (mCons (mVar 0) (mCons (mC (.int 6)) mNil)))) 6)
    (mSeq (mAsg (mCB F_L_take (mCons (mVar 0) (mCons (mVar 1) mNil))) 7)
    (mSeq (mAsg (mLstO mNil) 8)
    (mSeq (m_st1 F_L_take)
    (mSeq (m_st2 F_L_take)
    (mSeq (mAsg (mUn wNeg (mC (.int 1))) 10)
    (mSeq (m_st3 F_L_take F_L_shape)
    m_st4)))))))
structure StF (Ω : Om) (h t l q : Addr) (T here : List Stp) (by_ : List Int) (Ω1 : Om) : Prop where
  hand : ∃ o, HandO o ∧ Ω1 h = some o
  told : Ω1 t = some (.lst ((T ++ here).map Stp.d))
  her : Ω1 l = some (.lst (here.map Stp.d))
  byl : Ω1 q = some (.lst (by_.map .int))
  fr : Fr Ω h t l Ω1
structure StA (Ω : Om) (h t l q : Addr) : Prop where
  lh : l ≠ h
  lt : l ≠ t
  th : t ≠ h
  qh : q ≠ h
  qt : q ≠ t
  ql : q ≠ l
  q : Ω q = none
section
variable {Ω : Om} {h t l q : Addr} {T here : List Stp} {by_ : List Int} {Ω1 : Om}
theorem Fr.put2 {b : Addr} {u : Ob} (f : Fr Ω h t l Ω1) (hb : b = h ∨ b = t ∨ b = l ∨ Ω b = none) : Fr Ω h t l (KG.put Ω1 b u) := fun a v a1 a2 a3 e => by
  have := f a v a1 a2 a3 e
  by_cases z : a = b
  · subst z
    rcases hb with z | z | z | z
    · exact absurd z a1
    · exact absurd z a2
    · exact absurd z a3
    · rw [z] at e; cases e
  · rw [put_ne z]; exact this
theorem StF.setH (A : StA Ω h t l q) (f : StF Ω h t l q T here by_ Ω1) {o : Ob} (hO : HandO o) : StF Ω h t l q T here by_ (put Ω1 h o) :=
  ⟨⟨o, hO, put_same⟩, by rw [put_ne A.th]; exact f.told, by rw [put_ne A.lh]; exact f.her, by rw [put_ne A.qh]; exact f.byl, f.fr.put2 (.inl rfl)⟩
theorem StF.setQ (A : StA Ω h t l q) (f : StF Ω h t l q T here by_ Ω1) {b2 : List Int} : StF Ω h t l q T here b2 (put Ω1 q (.lst (b2.map .int))) :=
  ⟨by obtain ⟨o, h1, h2⟩ := f.hand; exact ⟨o, h1, by rw [put_ne (Ne.symm A.qh)]; exact h2⟩, by rw [put_ne (Ne.symm A.qt)]; exact f.told, by rw [put_ne (Ne.symm A.ql)]; exact f.her, put_same, f.fr.put2 (.inr (.inr (.inr A.q)))⟩
theorem StF.take (A : StA Ω h t l q) (f : StF Ω h t l q T here by_ Ω1) {many : Int} {R : DK} (m1 : 1 ≤ many) (m2 : many ≤ 1000000) (hR : ∀ Ω2 r, StF Ω h t l q T here by_ Ω2 → 0 ≤ r → r < many → R (.int r) Ω2) : F_L_take [.ptr h, .int many] Ω1 R := by
  obtain ⟨o, h1, h2⟩ := f.hand
  exact ⟨h, many, o, rfl, m1, m2, h2, h1, fun o' r h3 r0 r1 => hR _ _ (f.setH A h3) r0 r1⟩
end
end
end KG
namespace KG
open L2 PySem PyProof.Rows PySem.Spec
local macro_rules | `(tactic| walk_at "d") => `(tactic| first | simp only [startD, endK, List.map_cons, List.map_nil, List.length_cons, List.length_nil, List.replicate, List.cons_append, List.nil_append, Nat.reduceAdd, Nat.reduceSub, Nat.zero_add, Nat.add_zero, Nat.reduceLeDiff,
  mCntF, mSetF, mSetd, mSeq, mAsg, mDrop, mRet, mRetN, mIfS, mCont, mNext, mNever, gN, gNil_eq, gCons_eq, gT_t, gT_l, gSet, mAsgG, mVar, slot, mC, mOp, mUn, mNil, mCons, mTup, mLst, mLstO, mCB, mIf, mB, mAnd, mOr, mNot, mOrV, mNotV, mYes, mNewK, mNewT, mBM, mTuF,
  wInt2, wIs, wIsN, wNeg, wInt, wAbs, mFld, Ob.d, isi_ii, isi_ib, isi_ss, isiS_t, isiS_f, isiS_l, len_t, len_f, len_l, len_q, tuple_t, tuple_f, tuple_l, eq_ii, ne_ii, eq_ss, ne_ss, add_ii, add_tt, add_ll, mul_ii, in_t, in_l, in_il, fld_cells, fld_programs, fld_modulus, fld_tables, mMeth, meth_mean, List.length_map,
  List.set_cons_zero, List.set_cons_succ, List.getElem?_cons_zero, List.getElem?_cons_succ, Option.some.injEq, exists_eq_left', exists_eq_left, exists_eq', exists_eq, D.int.injEq, D.bl.injEq, D.str.injEq, D.tup.injEq, D.lst.injEq, D.ptr.injEq, D.ty.injEq, List.cons.injEq, and_true, true_and, reduceCtorEq, false_or, or_false, false_and, and_false, exists_false, or_self,
  exists_and_left, exists_and_right, exists_const, ne_eq, not_true_eq_false, not_false_eq_true, decide_true, decide_false, Bool.false_eq_true, Bool.true_eq_false, false_implies, true_implies, forall_const, implies_true, Bool.not_true, Bool.not_false, Bool.not_eq_true', Bool.not_eq_true, Bool.not_eq_false', decide_eq_true_eq, decide_eq_false_iff_not, put_same, del_same, forall_eq', forall_eq, forall_apply_eq_imp_iff] | (try dsimp only))
/-! G26: the steps of a program, drawn: its parts, the def. -/
section
theorem pw_len' : ∀ {l : List Int} {lo n : Int}, l.Pairwise (· < ·) → (∀ b ∈ l, lo ≤ b ∧ b < n) → lo ≤ n → lo + (l.length : Int) ≤ n
  | [], lo, n, _, _, h => by simpa using h
  | x :: l, lo, n, hp, hr, h => by
    rw [List.pairwise_cons] at hp
    have hx := hr x List.mem_cons_self
    have := pw_len' (l := l) (lo := x + 1) (n := n) hp.2 (fun b hb => ⟨by have := hp.1 b hb; omega, (hr b (List.mem_cons_of_mem _ hb)).2⟩) (by omega)
    rw [List.length_cons]
    omega
theorem pw_len {l : List Int} {n : Nat} (hp : l.Pairwise (· < ·)) (hr : ∀ b ∈ l, 0 ≤ b ∧ b < n) : l.length ≤ n := by
  have := pw_len' (lo := 0) (n := n) hp hr (by omega)
  omega
structure ByOk (here : List Stp) (n : Nat) (bs : List Int) : Prop where
  asc : bs.Pairwise (· < ·)
  rng : ∀ b ∈ bs, 0 ≤ b ∧ b < n
  plain : ∀ b ∈ bs, ∀ r, here[b.toNat]? = some r → r.kind ≠ kAdds
theorem ByOk.nil {here : List Stp} {n : Nat} : ByOk here n [] := ⟨.nil, by simp, by simp⟩
theorem ByOk.up {here : List Stp} {n m : Nat} {bs : List Int} (h : ByOk here n bs) (e : n ≤ m) : ByOk here m bs := ⟨h.asc, fun b hb => by have := h.rng b hb; omega, h.plain⟩
theorem ByOk.snoc {here : List Stp} {n : Nat} {bs : List Int} (h : ByOk here n bs) (hp : ∀ r, here[n]? = some r → r.kind ≠ kAdds) : ByOk here (n + 1) (bs ++ [(n : Int)]) := by
  refine ⟨?_, fun b hb => ?_, fun b hb r hr => ?_⟩
  · rw [List.pairwise_append]
    refine ⟨h.asc, by simp, fun a ha b hb => ?_⟩
    rw [List.mem_singleton] at hb
    have := h.rng a ha
    omega
  · rcases List.mem_append.mp hb with hb | hb
    · have := h.rng b hb; omega
    · rw [List.mem_singleton] at hb; omega
  · rcases List.mem_append.mp hb with hb | hb
    · exact h.plain b hb r hr
    · rw [List.mem_singleton] at hb
      subst hb
      exact hp r hr
def st1W (Ω : Om) (h t l q : Addr) (T here : List Stp) (c size : Int) (i : Nat) (kd : Str) (x7 x10 x11 x12 : Option D) : Nat → Om → Dl → Prop := fun j Ω' Δ' => ∃ bs y9, StF Ω h t l q T here bs Ω' ∧ ByOk here j bs ∧
  Δ' = [some (.ptr h), some (.int c), some (.int size), some (.ptr t), some (.ptr l), some (.int i), some (.str kd), x7, some (.ptr q), y9, x10, x11, x12]
section
variable {Ω : Om} {h t l q : Addr} {T here : List Stp} {Ω1 : Om} {i : Nat} {kd : Str} {c size : Int} {x7 x9 x10 x11 x12 : Option D} {k : Ke}
theorem g_st1 (A : StA Ω h t l q) (f : StF Ω h t l q T here [] Ω1) (hi : here.length = i) (h4 : i ≤ 4)
    (nx : ∀ Ω2 bs y9, StF Ω h t l q T here bs Ω2 → ByOk here i bs → (kd = kKept → bs = []) → k.nx Ω2 [some (.ptr h), some (.int c), some (.int size), some (.ptr t), some (.ptr l), some (.int i), some (.str kd), x7, some (.ptr q), y9, x10, x11, x12]) :
    m_st1 F_L_take Ω1 [some (.ptr h), some (.int c), some (.int size), some (.ptr t), some (.ptr l), some (.int i), some (.str kd), x7, some (.ptr q), x9, x10, x11, x12] k := by
  unfold m_st1
  walk_at "d"
  refine ⟨fun hne => ?_, fun he => nx Ω1 [] x9 f .nil fun _ => rfl⟩
  refine forR1 i (Ω1 := Ω1) (fun P p => by walk_at "d"; exact p) (by omega) (by omega) (st1W Ω h t l q T here c size i kd x7 x10 x11 x12) ⟨[], x9, f, .nil, rfl⟩ ?_ ?_
  · rintro j Ω' Δ' hj ⟨bs, y9, f', hb, rfl⟩
    have hjl : j < here.length := by omega
    have e0 : here[j]? = some here[j] := List.getElem?_eq_getElem hjl
    walk_at "d"
    rw [ix_p f'.her (atI_nat (show (here.map Stp.d)[j]? = some here[j].d by rw [List.getElem?_map, e0]; rfl)), stp_1]
    walk_at "d"
    refine ⟨fun hn => f'.take A (by omega) (by omega) fun Ω2 r f2 r0 r1 => ?_, fun _ => ⟨bs, _, f', hb.up (Nat.le_succ j), rfl⟩⟩
    walk_at "d"
    have hbl : bs.length ≤ 10 := by
      have := pw_len hb.asc hb.rng
      omega
    refine ⟨fun _ => app_p f2.byl (by rw [List.length_map]; omega) ?_, fun _ => ⟨bs, _, f2, hb.up (Nat.le_succ j), rfl⟩⟩
    have f3 := f2.setQ A (b2 := bs ++ [(j : Int)])
    rw [List.map_append] at f3
    exact ⟨bs ++ [(j : Int)], _, f3, hb.snoc (fun r hr => by rw [e0] at hr; cases hr; exact hn), rfl⟩
  · rintro Ω' Δ' ⟨bs, y9, f', hb, rfl⟩
    exact nx Ω' bs y9 f' (by simpa using hb) fun z => absurd z hne
theorem g_st2 {bs : List Int} (A : StA Ω h t l q) (f : StF Ω h t l q T here bs Ω1) (hi : here.length = i) (h4 : i ≤ 4) (hb : ByOk here i bs)
    (nx : ∀ Ω2 bs', StF Ω h t l q T here bs' Ω2 → ((kd = kAny ∧ bs' = bs ++ [(i : Int)]) ∨ bs' = bs) → k.nx Ω2 [some (.ptr h), some (.int c), some (.int size), some (.ptr t), some (.ptr l), some (.int i), some (.str kd), x7, some (.ptr q), x9, x10, x11, x12]) :
    m_st2 F_L_take Ω1 [some (.ptr h), some (.int c), some (.int size), some (.ptr t), some (.ptr l), some (.int i), some (.str kd), x7, some (.ptr q), x9, x10, x11, x12] k := by
  unfold m_st2
  walk_at "d"
  refine ⟨fun he => f.take A (by omega) (by omega) fun Ω2 r f2 r0 r1 => ?_, fun _ => nx Ω1 bs f (.inr rfl)⟩
  walk_at "d"
  have hbl : bs.length ≤ 10 := by
    have := pw_len hb.asc hb.rng
    omega
  refine ⟨fun _ => app_p f2.byl (by rw [List.length_map]; omega) ?_, fun _ => nx Ω2 bs f2 (.inr rfl)⟩
  have f3 := f2.setQ A (b2 := bs ++ [(i : Int)])
  rw [List.map_append] at f3
  exact nx _ _ f3 (.inl ⟨he, rfl⟩)
end
/-- without the places -/
structure StG (Ω : Om) (h t l : Addr) (T here : List Stp) (Ω1 : Om) : Prop where
  hand : ∃ o, HandO o ∧ Ω1 h = some o
  told : Ω1 t = some (.lst ((T ++ here).map Stp.d))
  her : Ω1 l = some (.lst (here.map Stp.d))
  fr : Fr Ω h t l Ω1
structure StH (h t l : Addr) : Prop where
  lh : l ≠ h
  lt : l ≠ t
  th : t ≠ h
theorem StG.take {Ω : Om} {h t l : Addr} {T here : List Stp} {Ω1 : Om} (A : StH h t l) (f : StG Ω h t l T here Ω1) {many : Int} {R : DK} (m1 : 1 ≤ many) (m2 : many ≤ 1000000) (hR : ∀ Ω2 r, StG Ω h t l T here Ω2 → 0 ≤ r → r < many → R (.int r) Ω2) : F_L_take [.ptr h, .int many] Ω1 R := by
  obtain ⟨o, h1, h2⟩ := f.hand
  exact ⟨h, many, o, rfl, m1, m2, h2, h1, fun o' r h3 r0 r1 => hR _ _ ⟨⟨o', h3, put_same⟩, by rw [put_ne A.th]; exact f.told, by rw [put_ne A.lh]; exact f.her, f.fr.put2 (.inl rfl)⟩ r0 r1⟩
theorem StG.open_ {Ω : Om} {h t l q : Addr} {T here : List Stp} {Ω1 : Om} (A : StH h t l) (f : StG Ω h t l T here Ω1) (hq : Ω1 q = none) : StA Ω h t l q ∧ StF Ω h t l q T here [] (put Ω1 q (.lst [])) := by
  obtain ⟨o, h1, h2⟩ := f.hand
  have nh : q ≠ h := fun e => by rw [e, h2] at hq; cases hq
  have nt : q ≠ t := fun e => by rw [e, f.told] at hq; cases hq
  have nl : q ≠ l := fun e => by rw [e, f.her] at hq; cases hq
  have nq : Ω q = none := by
    cases e : Ω q with
    | none => rfl
    | some u => rw [f.fr q u nh nt nl e] at hq; cases hq
  exact ⟨⟨A.lh, A.lt, A.th, nh, nt, nl, nq⟩, ⟨o, h1, by rw [put_ne (Ne.symm nh)]; exact h2⟩, by rw [put_ne (Ne.symm nt)]; exact f.told, by rw [put_ne (Ne.symm nl)]; exact f.her, put_same, f.fr.put2 (.inr (.inr (.inr nq)))⟩
def NameOk (T' : List Stp) (s : Stp) : Prop := (s.kind = kKept → s.name = -1) ∧ (s.kind ≠ kKept → s.name = T'.length ∨ ∃ r ∈ T', r.kind ≠ kKept ∧ s.name = r.name ∧ shapeS s = shapeS r)
theorem beq_shape {s r : Stp} (h : beqD (shapeD s) (shapeD r) = true) : shapeS s = shapeS r := by
  unfold beqD shapeD at h
  rw [toPy_tup, toPy_tup] at h
  simp only [toPys, toPy, PyData.eqv, PyData.eqvAll, Bool.and_eq_true, beq_iff_eq, and_true] at h
  unfold shapeS
  obtain ⟨h1, h2, h3⟩ := h
  have : s.by_.length = r.by_.length := by omega
  rw [h3, this, h1]
theorem eq_shape {s r : Stp} (hs : s.kind ∈ kindL) (hr : r.kind ∈ kindL) {Ω : Om} {P : DK} (p : P (.bl (beqD (shapeD s) (shapeD r))) Ω) : wEq (shapeD s) (shapeD r) Ω P := ⟨_, .inr (.inr ⟨ok_shape hs, ok_shape hr, rfl⟩), p⟩
section
variable {Ω : Om} {h t l q : Addr} {T here : List Stp} {Ω1 : Om} {i : Nat} {kd : Str} {c size cell : Int} {x7 x9 x10 x11 x12 : Option D} {k : Ke}
theorem g_st3 {bs : List Int} (A : StA Ω h t l q) (f : StF Ω h t l q T here bs Ω1) (hk : kd ∈ kindL) (hT : ∀ s ∈ T ++ here, s.kind ∈ kindL) (h20 : (T ++ here).length ≤ 1000)
    (nx : ∀ Ω2 nm y11, StF Ω h t l q T here bs Ω2 → NameOk (T ++ here) ⟨cell, kd, bs, nm⟩ → k.nx Ω2 [some (.ptr h), some (.int c), some (.int size), some (.ptr t), some (.ptr l), some (.int i), some (.str kd), some (.int cell), some (.ptr q), x9, some (.int nm), y11, x12]) :
    m_st3 F_L_take F_L_shape Ω1 [some (.ptr h), some (.int c), some (.int size), some (.ptr t), some (.ptr l), some (.int i), some (.str kd), some (.int cell), some (.ptr q), x9, some (.int (-1)), x11, x12] k := by
  unfold m_st3
  walk_at "d"
  refine ⟨fun hne => ?_, fun he => nx Ω1 (-1) x11 f ⟨fun _ => rfl, fun z => absurd he z⟩⟩
  rw [len_p f.told, List.length_map]
  walk_at "d"
  refine f.take A (by omega) (by omega) fun Ω2 r f2 r0 r1 => ?_
  walk_at "d"
  have new : NameOk (T ++ here) ⟨cell, kd, bs, (T ++ here).length⟩ := ⟨fun z => absurd z hne, fun _ => .inl rfl⟩
  refine ⟨fun _ => ?_, fun _ => nx Ω2 _ x11 f2 new⟩
  refine lcFil (xs := T ++ here) (it := Stp.d) (e := Stp.d) (p := fun s => beqD (shapeD s) (shapeD ⟨cell, kd, bs, 0⟩)) (Ω1 := Ω2) (src_s (d := .ptr t) (fun P p => by walk_at "d"; exact p) (.inr (.inr (.inr (.inr ⟨t, rfl, f2.told⟩))))) (by omega) (fun m acc hm => keep_ptr (put_keep f2.told hm)) ?_ ?_
  · intro m acc s hs hm R hR
    unfold lcT
    walk_at "d"
    refine ⟨s, rfl, ?_⟩
    dsimp only
    rw [tuple_p (put_keep f2.byl hm)]
    refine ⟨⟨cell, kd, bs, 0⟩, rfl, ?_⟩
    refine eq_shape (r := ⟨cell, kd, bs, 0⟩) (hT s hs) hk ⟨_, rfl, fun e => ?_, fun e => ?_⟩
    · rw [if_pos e] at hR; exact hR
    · rw [if_neg (by rw [e]; simp)] at hR; exact hR
  · generalize hal : (T ++ here).filter (fun s => beqD (shapeD s) (shapeD ⟨cell, kd, bs, 0⟩)) = al
    have hm : ∀ s ∈ al, s ∈ T ++ here ∧ shapeS s = shapeS ⟨cell, kd, bs, 0⟩ := fun s hs => by
      rw [← hal, List.mem_filter] at hs
      exact ⟨hs.1, beq_shape hs.2⟩
    have hlen : al.length ≤ 1000 := by
      rw [← hal]
      exact Nat.le_trans (List.length_filter_le _ _) h20
    walk_at "d"
    refine ⟨fun hpos => ?_, fun _ => nx Ω2 _ _ f2 new⟩
    refine f2.take A (by omega) (by omega) fun Ω3 r3 f3 r30 r31 => ?_
    have hrl : r3.toNat < al.length := by omega
    have e0 : al[r3.toNat]? = some al[r3.toNat] := List.getElem?_eq_getElem hrl
    rw [ix_l (atI_of r30 (show (al.map Stp.d)[r3.toNat]? = some al[r3.toNat].d by rw [List.getElem?_map, e0]; rfl)), stp_3]
    obtain ⟨m1, m2⟩ := hm _ (List.getElem_mem hrl)
    refine nx Ω3 _ _ f3 ⟨fun z => absurd z hne, fun _ => .inr ⟨_, m1, ?_, rfl, m2.symm⟩⟩
    have := congrArg Prod.fst m2
    intro z
    exact hne (this.symm.trans z)
theorem g_st4 {bs : List Int} {nm : Int} (A : StA Ω h t l q) (f : StF Ω h t l q T here bs Ω1) (hi : here.length = i) (h4 : i ≤ 10) (h20 : (T ++ here).length ≤ 1000)
    (nx : ∀ Ω2, StG Ω h t l T (here ++ [⟨cell, kd, bs, nm⟩]) Ω2 → k.nx Ω2 [some (.ptr h), some (.int c), some (.int size), some (.ptr t), some (.ptr l), some (.int i), some (.str kd), some (.int cell), some (.ptr q), x9, some (.int nm), x11, x12]) :
    m_st4 Ω1 [some (.ptr h), some (.int c), some (.int size), some (.ptr t), some (.ptr l), some (.int i), some (.str kd), some (.int cell), some (.ptr q), x9, some (.int nm), x11, x12] k := by
  unfold m_st4
  walk_at "d"
  refine ⟨isL_p f.her, ?_⟩
  rw [tuple_p f.byl]
  refine ⟨l, here.map Stp.d, _, rfl, rfl, f.her, by rw [List.length_map]; omega, ?_⟩
  have el : here.map Stp.d ++ [D.tup [.int cell, .str kd, tI bs, .int nm]] = (here ++ [(⟨cell, kd, bs, nm⟩ : Stp)]).map Stp.d := by rw [List.map_append]; rfl
  rw [el]
  have hl2 : (put Ω1 l (.lst ((here ++ [(⟨cell, kd, bs, nm⟩ : Stp)]).map Stp.d))) l = some (.lst ((here ++ [(⟨cell, kd, bs, nm⟩ : Stp)]).map Stp.d)) := put_same
  have ht2 : (put Ω1 l (.lst ((here ++ [(⟨cell, kd, bs, nm⟩ : Stp)]).map Stp.d))) t = some (.lst ((T ++ here).map Stp.d)) := by rw [put_ne (Ne.symm A.lt)]; exact f.told
  generalize hΩ2 : put Ω1 l (.lst ((here ++ [(⟨cell, kd, bs, nm⟩ : Stp)]).map Stp.d)) = Ω2 at hl2 ht2 ⊢
  walk_at "d"
  refine ⟨isL_p ht2, ?_⟩
  rw [ix_p hl2 (atI_nat (show ((here ++ [(⟨cell, kd, bs, nm⟩ : Stp)]).map Stp.d)[i]? = some (Stp.d ⟨cell, kd, bs, nm⟩) by rw [List.getElem?_map, List.getElem?_append_right (by omega), hi, Nat.sub_self]; rfl))]
  refine ⟨t, (T ++ here).map Stp.d, _, rfl, rfl, ht2, by rw [List.length_map]; omega, nx _ ?_⟩
  obtain ⟨o, h1, h2⟩ := f.hand
  refine ⟨⟨o, h1, ?_⟩, ?_, ?_, ?_⟩
  · rw [put_ne (Ne.symm A.th), ← hΩ2, put_ne (Ne.symm A.lh)]; exact h2
  · rw [put_same, ← List.append_assoc, List.map_append (l₁ := T ++ here)]; rfl
  · rw [put_ne A.lt]; exact hl2
  · rw [← hΩ2]
    exact (f.fr.put2 (.inr (.inr (.inl rfl)))).put2 (.inr (.inl rfl))
end
def stW (Ω : Om) (h t l : Addr) (T : List Stp) (c size : Int) : Nat → Om → Dl → Prop := fun i Ω' Δ' => ∃ here x5 x6 x7 x8 x9 x10 x11 x12, StG Ω h t l T here Ω' ∧ here.length = i ∧ PreL c here ∧ TellOk (T ++ here) ∧
  Δ' = [some (.ptr h), some (.int c), some (.int size), some (.ptr t), some (.ptr l), x5, x6, x7, x8, x9, x10, x11, x12]
theorem kind_mem {k : Str} (h : k = kAny ∨ k = kKept ∨ k = kAdds) : k ∈ kindL := by rcases h with e | e | e <;> rw [e] <;> decide +kernel
theorem g_stB {Ω : Om} {h t l : Addr} {T here : List Stp} {Ω1 : Om} {i : Nat} {c size : Int} {x6 x7 x8 x9 x10 x11 x12 : Option D} {k : Ke} (A : StH h t l) (f : StG Ω h t l T here Ω1) (hi : here.length = i) (h4 : i < 4) (c1 : 1 ≤ c) (c2 : c ≤ 3) (hp : PreL c here) (hT : TellOk (T ++ here)) (hkT : ∀ s ∈ T, s.kind ∈ kindL) (h20 : T.length ≤ 20)
    (nx : ∀ Ω2 Δ2, stW Ω h t l T c size (i + 1) Ω2 Δ2 → k.nx Ω2 Δ2) :
    m_stB F_L_take F_L_shape Ω1 [some (.ptr h), some (.int c), some (.int size), some (.ptr t), some (.ptr l), some (.int i), x6, x7, x8, x9, x10, x11, x12] k := by
  unfold m_stB
  have hkh : ∀ s ∈ T ++ here, s.kind ∈ kindL := fun s hs => by
    rcases List.mem_append.mp hs with hs | hs
    · exact hkT s hs
    · obtain ⟨j, hj⟩ := List.getElem?_of_mem hs
      exact kind_mem (hp j s hj).kind
  have hlen : (T ++ here).length ≤ 1000 := by rw [List.length_append]; omega
  have k1 := @g_st1 Ω h t l
  have k2 := @g_st2 Ω h t l
  have k3 := @g_st3 Ω h t l
  have k4 := @g_st4 Ω h t l
  generalize m_st1 F_L_take = M1 at k1 ⊢
  generalize m_st2 F_L_take = M2 at k2 ⊢
  generalize m_st3 F_L_take F_L_shape = M3 at k3 ⊢
  generalize m_st4 = M4 at k4 ⊢
  walk_at "d"
  refine f.take A (by omega) (by omega) fun Ω2 r f2 r0 r1 => kinds r0 r1 fun kd hkd => ?_
  refine f2.take A c1 (by omega) fun Ω3 cell f3 z0 z1 => ?_
  intro q hq
  obtain ⟨B, f4⟩ := f3.open_ A hq
  refine k1 B f4 hi (by omega) fun Ω5 bs y9 f5 hb hb0 => ?_
  walk_at "d"
  refine k2 B f5 hi (by omega) hb fun Ω6 bs' f6 hb' => ?_
  walk_at "d"
  refine k3 B f6 (kind_mem hkd) hkh hlen fun Ω7 nm y11 f7 hn => ?_
  walk_at "d"
  refine k4 B f7 hi (by omega) hlen fun Ω8 f8 => nx _ _ ?_
  have hby : ByOk here (i + 1) bs' := by
    rcases hb' with ⟨_, e⟩ | e
    · rw [e]
      exact hb.snoc fun r hr => by rw [List.getElem?_eq_none (by omega)] at hr; cases hr
    · rw [e]; exact hb.up (Nat.le_succ i)
  have hkept : kd = kKept → bs' = [] := fun e => by
    rcases hb' with ⟨e2, _⟩ | e2
    · rw [e] at e2; cases e2
    · rw [e2]; exact hb0 e
  have hrange : ∀ b ∈ bs', 0 ≤ b ∧ b ≤ lastP kd i := fun b hbm => by
    have h1 := hby.rng b hbm
    unfold lastP
    split
    · omega
    · rename_i hna
      have hb2 : bs' = bs := by
        rcases hb' with ⟨e2, _⟩ | e2
        · exact absurd e2 hna
        · exact e2
      have h2 := hb.rng b (by rw [← hb2]; exact hbm)
      split
      · omega
      · rename_i hnd
        have : kd = kKept := by
          rcases hkd with e | e | e
          · exact absurd e hna
          · exact e
          · exact absurd e hnd
        rw [hkept this] at hbm
        cases hbm
  have hs : StpPre c (here ++ [(⟨cell, kd, bs', nm⟩ : Stp)]) here.length ⟨cell, kd, bs', nm⟩ := by
    refine ⟨⟨z0, z1⟩, hkd, hby.asc, ?_, fun b hbm r hr => ?_, hn.1, fun hne => ?_⟩
    · rw [hi]; exact hrange
    · have h1 := hby.rng b hbm
      rcases Nat.lt_or_ge b.toNat here.length with z | z
      · rw [List.getElem?_append_left z] at hr
        exact hby.plain b hbm r hr
      · have e : b.toNat = here.length := by omega
        rw [e, List.getElem?_append_right (Nat.le_refl _), Nat.sub_self] at hr
        cases hr
        rcases hb' with ⟨e2, _⟩ | e2
        · show kd ≠ kAdds
          rw [e2]
          decide +kernel
        · have h2 := hb.rng b (by rw [← e2]; exact hbm)
          omega
    · show 0 ≤ nm ∧ nm ≤ 99
      rcases hn.2 hne with e | ⟨r, hr, hrk, e, _⟩
      · have e : nm = (T ++ here).length := e
        rw [List.length_append] at e
        omega
      · have e : nm = r.name := e
        have := hT.name r hr hrk
        rw [List.length_append] at this
        omega
  refine ⟨here ++ [⟨cell, kd, bs', nm⟩], _, _, _, _, _, _, _, _, f8, by rw [List.length_append, hi]; rfl, hp.snoc hs, ?_, rfl⟩
  rw [← List.append_assoc]
  refine hT.snoc ?_
  by_cases hne : kd = kKept
  · exact .inl hne
  · rcases hn.2 hne with e | ⟨r, hr, hrk, e, e2⟩
    · exact .inr (.inl e)
    · exact .inr (.inr ⟨r, hr, hrk, e, e2⟩)
theorem g_L_steps (ds Ω P) (h : F_L_steps ds Ω P) : m_L_steps F_L_take F_L_shape Ω (startD 13 ds) (endK P) := by
  obtain ⟨a, t, c, size, o, T, rfl, c1, c2, z0, z1, ho, hO, ht, hT, hkT, h20, nx⟩ := h
  rw [show m_L_steps F_L_take F_L_shape = mSeq (mAsg (mLstO mNil) 4) (mSeq (mForI (iRg1 (mCons (mVar 2) mNil)) (gN 5) (m_stB F_L_take F_L_shape)) (mRet (mCB wTuple (mCons (mVar 4) mNil)))) from rfl]
  have kB := @g_stB Ω a t
  generalize m_stB F_L_take F_L_shape = MB at kB ⊢
  walk_at "d"
  intro l hl
  have hat : t ≠ a := fun e => by
    rw [e, ho] at ht
    obtain ⟨cs, i, r, w, e2, _⟩ := hO
    rw [e2] at ht
    have := Ob.lst.inj (Option.some.inj ht)
    cases T with
    | nil => cases this
    | cons s T => simp [Stp.d] at this
  have hla : l ≠ a := fun e => by rw [e, ho] at hl; cases hl
  have hlt : l ≠ t := fun e => by rw [e, ht] at hl; cases hl
  have A : StH a t l := ⟨hla, hlt, hat⟩
  refine forR1 size (Ω1 := put Ω l (.lst [])) (fun P p => by walk_at "d"; exact p) (by omega) (by omega) (stW Ω a t l T c size) ⟨[], none, none, none, none, none, none, none, none, ⟨⟨o, hO, by rw [put_ne (Ne.symm hla)]; exact ho⟩, by rw [put_ne (Ne.symm hlt), List.append_nil]; exact ht, put_same, fun b u _ _ n e => by rw [put_ne n]; exact e⟩, rfl, fun i s hs => by simp at hs, by rw [List.append_nil]; exact hT, rfl⟩ ?_ ?_
  · rintro i Ω' Δ' hi ⟨here, x5, x6, x7, x8, x9, x10, x11, x12, f, hl', hp, hT', rfl⟩
    walk_at "d"
    exact kB A f hl' (by omega) c1 c2 hp hT' hkT h20 fun Ω2 Δ2 w => w
  · rintro Ω' Δ' ⟨here, x5, x6, x7, x8, x9, x10, x11, x12, f, hl', hp, hT', rfl⟩
    walk_at "d"
    rw [tuple_p f.her]
    obtain ⟨o', h1, h2⟩ := f.hand
    refine .sub (fun b u e => ?_) (nx o' here h1 hp (by omega) hT')
    by_cases hb : b = t
    · rw [hb, put_same] at e
      rw [hb, f.told]; exact e
    · rw [put_ne hb] at e
      by_cases hb2 : b = a
      · rw [hb2, put_same] at e
        rw [hb2, h2]; exact e
      · rw [put_ne hb2] at e
        exact f.fr b u hb2 hb (fun z => by rw [z, hl] at e; cases e) e
end
end KG
namespace KG
open L2 PySem PyProof.Rows PySem.Spec
local macro_rules | `(tactic| walk_at "d") => `(tactic| first | simp only [startD, endK, List.map_cons, List.map_nil, List.length_cons, List.length_nil, List.replicate, List.cons_append, List.nil_append, Nat.reduceAdd, Nat.reduceSub, Nat.zero_add, Nat.add_zero, Nat.reduceLeDiff,
  mCntF, mSetF, mSetd, mSeq, mAsg, mDrop, mRet, mRetN, mIfS, mCont, mNext, mNever, gN, gNil_eq, gCons_eq, gT_t, gT_l, gSet, mAsgG, mVar, slot, mC, mOp, mUn, mNil, mCons, mTup, mLst, mLstO, mCB, mIf, mB, mAnd, mOr, mNot, mOrV, mNotV, mYes, mNewK, mNewT, mBM, mTuF,
  wInt2, wIs, wIsN, wNeg, wInt, wAbs, mFld, Ob.d, isi_ii, isi_ib, isi_ss, isiS_t, isiS_f, isiS_l, len_t, len_f, len_l, len_q, tuple_t, tuple_f, tuple_l, eq_ii, ne_ii, eq_ss, ne_ss, add_ii, add_tt, add_ll, mul_ii, in_t, in_l, in_il, fld_cells, fld_programs, fld_modulus, fld_tables, mMeth, meth_mean, List.length_map,
  List.set_cons_zero, List.set_cons_succ, List.getElem?_cons_zero, List.getElem?_cons_succ, Option.some.injEq, exists_eq_left', exists_eq_left, exists_eq', exists_eq, D.int.injEq, D.bl.injEq, D.str.injEq, D.tup.injEq, D.lst.injEq, D.ptr.injEq, D.ty.injEq, List.cons.injEq, and_true, true_and, reduceCtorEq, false_or, or_false, false_and, and_false, exists_false, or_self,
  exists_and_left, exists_and_right, exists_const, ne_eq, not_true_eq_false, not_false_eq_true, decide_true, decide_false, Bool.false_eq_true, Bool.true_eq_false, false_implies, true_implies, forall_const, implies_true, Bool.not_true, Bool.not_false, Bool.not_eq_true', Bool.not_eq_true, Bool.not_eq_false', decide_eq_true_eq, decide_eq_false_iff_not, put_same, del_same, forall_eq', forall_eq, forall_apply_eq_imp_iff] | (try dsimp only))
/-! G27: lots, drawn. -/
section
structure LotPre (c : Int) (ps : List (List Stp)) : Prop where
  pre : ∀ p ∈ ps, PreL c p
  told : TellOk ps.flatten
def lensI (ps : List (List Stp)) : List Int := ps.map fun p => (p.length : Int)
def F_L_lot : FD := fun ds Ω P => ∃ (h : Addr) (o : Ob) (c : Int) (sz : List Int), ds = [.ptr h, .int c, .lst (sz.map .int)] ∧ 1 ≤ c ∧ c ≤ 3 ∧ SizesOk sz ∧ Ω h = some o ∧ HandO o ∧
  ∀ (o' : Ob) (ps : List (List Stp)), HandO o' → LotPre c ps → lensI ps = sz → P (.tup [.int c, progsD ps]) (put Ω h o')
def lotW (Ω : Om) (h t : Addr) (c : Int) (sz : List Int) : Nat → List D → Om → Prop := fun i acc Ω' => ∃ (o : Ob) (ps : List (List Stp)), HandO o ∧ Ω' = put (put Ω h o) t (.lst (ps.flatten.map Stp.d)) ∧ acc = ps.map progD ∧ lensI ps = sz.take i ∧ LotPre c ps
theorem flat_len : ∀ {ps : List (List Stp)}, (∀ x ∈ lensI ps, x ≤ 3) → ps.flatten.length ≤ 3 * ps.length
  | [], _ => by simp
  | p :: ps, h => by
    have h1 := flat_len (ps := ps) fun x hx => h x (by unfold lensI at hx ⊢; rw [List.map_cons]; exact List.mem_cons_of_mem _ hx)
    have h2 := h (p.length : Int) (by unfold lensI; rw [List.map_cons]; exact List.mem_cons_self)
    rw [List.flatten_cons, List.length_append, List.length_cons]
    omega
theorem pre_kind {c : Int} {p : List Stp} (h : PreL c p) : ∀ s ∈ p, s.kind ∈ kindL := fun s hs => by
  obtain ⟨i, hi⟩ := List.getElem?_of_mem hs
  exact kind_mem (h i s hi).kind
theorem g_L_lot (ds Ω P) (h : F_L_lot ds Ω P) : m_L_lot F_L_steps Ω (startD 5 ds) (endK P) := by
  obtain ⟨a, o, c, sz, rfl, c1, c2, hsz, ho, hO, nx⟩ := h
  obtain ⟨z1, z2, z3, z4⟩ := hsz
  unfold m_L_lot
  walk_at "d"
  intro t ht
  have hta : t ≠ a := fun e => by rw [e, ho] at ht; cases ht
  refine lcWF (Ω1 := put Ω t (.lst [])) (src_s (d := .lst (sz.map .int)) (xs := sz.map .int) (fun P p => by walk_at "d"; exact p) (.inr (.inr (.inl rfl)))) (by rw [List.length_map]; omega) (lotW Ω a t c sz) ⟨o, [], hO, by rw [put_self ho]; rfl, rfl, rfl, ⟨by simp, ⟨by simp, by simp⟩⟩⟩ (fun l i acc Ω' _ _ _ => keep_lst) ?_ ?_
  · rintro l i acc Ω' hl1 hl2 hin hacc ⟨o', ps, hO', rfl, rfl, hls, hp⟩
    rw [List.length_map] at hin
    obtain ⟨hlt, hl1⟩ := put_none.mp hl1
    have hla : l ≠ a := fun e => by rw [e, ho] at hl1; cases hl1
    have e0 : sz[i]? = some sz[i] := List.getElem?_eq_getElem hin
    have e1 : (sz.map D.int).getD i .non = .int sz[i] := getD_of (by rw [List.getElem?_map, e0]; rfl)
    have hz := z3 _ (List.getElem_mem hin)
    have hpl : ps.length = i := by
      have := congrArg List.length hls
      unfold lensI at this
      rw [List.length_map, List.length_take] at this
      omega
    have hfl : ps.flatten.length ≤ 20 := by
      have := flat_len (ps := ps) fun x hx => (z3 x (List.mem_of_mem_take (by rw [← hls]; exact hx))).2
      omega
    rw [e1]
    refine lcT_mono_true (R' := nextW (lotW Ω a t c sz) l i) ?_
    walk_at "d"
    have at_a : put (put (put Ω a o') t (.lst (ps.flatten.map Stp.d))) l (.lst (ps.map progD)) a = some o' := by rw [put_ne (Ne.symm hla), put_ne (Ne.symm hta)]; exact put_same
    have at_t : put (put (put Ω a o') t (.lst (ps.flatten.map Stp.d))) l (.lst (ps.map progD)) t = some (.lst (ps.flatten.map Stp.d)) := by rw [put_ne (Ne.symm hlt)]; exact put_same
    refine ⟨a, t, c, sz[i], o', ps.flatten, rfl, c1, c2, by omega, by omega, at_a, hO', at_t, hp.told, fun s hs => ?_, hfl, fun o2 pr h2 hpr hlen htell => ?_⟩
    · obtain ⟨p, hpm, hs⟩ := List.mem_flatten.mp hs
      exact pre_kind (hp.pre p hpm) s hs
    · have e2 : put (put (put (put (put Ω a o') t (.lst (ps.flatten.map Stp.d))) l (.lst (ps.map progD))) a o2) t (.lst ((ps.flatten ++ pr).map Stp.d)) = put (put (put Ω a o2) t (.lst ((ps ++ [pr]).flatten.map Stp.d))) l (.lst (ps.map progD)) := by
        rw [put_comm (l := l) (b := a) hla, put_comm (l := l) (b := t) hlt, put_comm (l := t) (b := a) hta, put_put, put_put, List.flatten_append]
        simp
      rw [e2]
      refine nextW_some (by rw [put_ne hlt, put_ne hla]; exact hl1) hacc (by omega) ⟨o2, ps ++ [pr], h2, rfl, by rw [List.map_append]; rfl, ?_, fun p hp' => ?_, ?_⟩
      · unfold lensI at hls ⊢
        rw [List.map_append, hls, take_succ_of e0]
        show _ ++ [(pr.length : Int)] = _
        rw [hlen]
      · rcases List.mem_append.mp hp' with hp' | hp'
        · exact hp.pre p hp'
        · rw [List.mem_singleton] at hp'; rw [hp']; exact hpr
      · rw [List.flatten_append]
        simpa using htell
  · rintro acc Ω' ha ⟨o', ps, hO', rfl, rfl, hls, hp⟩
    rw [List.length_map, List.take_length] at hls
    walk_at "d"
    refine .sub ?_ (nx o' ps hO' hp hls)
    exact Sub.put (by rw [put_ne hta]; exact ht)
end
end KG
namespace KG
open L2 PySem PyProof.Rows PySem.Spec
local macro_rules | `(tactic| walk_at "d") => `(tactic| first | simp only [startD, endK, List.map_cons, List.map_nil, List.length_cons, List.length_nil, List.replicate, List.cons_append, List.nil_append, Nat.reduceAdd, Nat.reduceSub, Nat.zero_add, Nat.add_zero, Nat.reduceLeDiff,
  mCntF, mSetF, mSetd, mSeq, mAsg, mDrop, mRet, mRetN, mIfS, mCont, mNext, mNever, gN, gNil_eq, gCons_eq, gT_t, gT_l, gSet, mAsgG, mVar, slot, mC, mOp, mUn, mNil, mCons, mTup, mLst, mLstO, mCB, mIf, mB, mAnd, mOr, mNot, mOrV, mNotV, mYes, mNewK, mNewT, mBM, mTuF,
  wInt2, wIs, wIsN, wNeg, wInt, wAbs, mFld, Ob.d, isi_ii, isi_ib, isi_ss, isiS_t, isiS_f, isiS_l, len_t, len_f, len_l, len_q, tuple_t, tuple_f, tuple_l, eq_ii, ne_ii, eq_ss, ne_ss, add_ii, add_tt, add_ll, mul_ii, in_t, in_l, in_il, fld_cells, fld_programs, fld_modulus, fld_tables, mMeth, meth_mean, List.length_map,
  List.set_cons_zero, List.set_cons_succ, List.getElem?_cons_zero, List.getElem?_cons_succ, Option.some.injEq, exists_eq_left', exists_eq_left, exists_eq', exists_eq, D.int.injEq, D.bl.injEq, D.str.injEq, D.tup.injEq, D.lst.injEq, D.ptr.injEq, D.ty.injEq, List.cons.injEq, and_true, true_and, reduceCtorEq, false_or, or_false, false_and, and_false, exists_false, or_self,
  exists_and_left, exists_and_right, exists_const, ne_eq, not_true_eq_false, not_false_eq_true, decide_true, decide_false, Bool.false_eq_true, Bool.true_eq_false, false_implies, true_implies, forall_const, implies_true, Bool.not_true, Bool.not_false, Bool.not_eq_true', Bool.not_eq_true, Bool.not_eq_false', decide_eq_true_eq, decide_eq_false_iff_not, put_same, del_same, forall_eq', forall_eq, forall_apply_eq_imp_iff] | (try dsimp only))
/-! G28: a worn meaning. -/
section
structure WornOk (m : Int) (S : List Stp) (tb : List (Int × List Int)) : Prop where
  look : ∀ s ∈ S, s.kind ≠ kKept → ∃ t, look tb s.name = some t ∧ TabOk m t s.by_.length
  from_ : ∀ q ∈ tb, ∃ s ∈ S, s.kind ≠ kKept ∧ q.1 = s.name ∧ TabOk m q.2 s.by_.length
  nd : (tb.map (·.1)).Nodup
  few : tb.length ≤ S.length
theorem dget_look (n : Int) : ∀ tb : List (Int × List Int), dget (tbK tb) (.inl n) = (look tb n).map fun t => tI t
  | [] => rfl
  | q :: tb => by
    have ih := dget_look n tb
    unfold dget tbK look at ih ⊢
    rw [List.map_cons, List.find?_cons, List.find?_cons]
    by_cases h : q.1 = n
    · simp [h]
    · have h2 : ¬ ((Sum.inl q.1 : Key) = Sum.inl n) := fun z => h (by simpa using z)
      simp only [h, h2, decide_false]
      exact ih
theorem look_none {n : Int} : ∀ {tb : List (Int × List Int)}, look tb n = none → ∀ q ∈ tb, q.1 ≠ n := by
  intro tb h q hq e
  unfold look at h
  rw [Option.map_eq_none_iff, List.find?_eq_none] at h
  exact h q hq (decide_eq_true e)
theorem look_some {n : Int} {t : List Int} : ∀ {tb : List (Int × List Int)}, look tb n = some t → (n, t) ∈ tb := by
  intro tb h
  unfold look at h
  obtain ⟨q, hq, rfl⟩ := Option.map_eq_some_iff.mp h
  have h1 := List.mem_of_find?_eq_some hq
  have h2 := List.find?_some hq
  have h2 : q.1 = n := of_decide_eq_true h2
  rw [← h2]
  exact h1
theorem WornOk.keep {m : Int} {S : List Stp} {tb : List (Int × List Int)} {s : Stp} (w : WornOk m S tb) (h : s.kind ≠ kKept → ∃ t, KG.look tb s.name = some t ∧ TabOk m t s.by_.length) : WornOk m (S ++ [s]) tb :=
  ⟨fun r hr hk => by
    rcases List.mem_append.mp hr with hr | hr
    · exact w.look r hr hk
    · rw [List.mem_singleton] at hr
      subst hr
      exact h hk, fun q hq => by
    obtain ⟨r, hr, z⟩ := w.from_ q hq
    exact ⟨r, List.mem_append.mpr (.inl hr), z⟩, w.nd, by have := w.few; rw [List.length_append]; omega⟩
theorem WornOk.add {m : Int} {S : List Stp} {tb : List (Int × List Int)} {s : Stp} {t : List Int} (w : WornOk m S tb) (hk : s.kind ≠ kKept) (hn : KG.look tb s.name = none) (ht : TabOk m t s.by_.length) : WornOk m (S ++ [s]) (tb ++ [(s.name, t)]) := by
  have hne := look_none hn
  refine ⟨fun r hr hrk => ?_, fun q hq => ?_, ?_, by have := w.few; rw [List.length_append, List.length_append]; simp; omega⟩
  · rcases List.mem_append.mp hr with hr | hr
    · obtain ⟨u, h1, h2⟩ := w.look r hr hrk
      exact ⟨u, look_left h1, h2⟩
    · rw [List.mem_singleton] at hr
      subst hr
      exact ⟨t, look_right hne (by simp [KG.look]), ht⟩
  · rcases List.mem_append.mp hq with hq | hq
    · obtain ⟨r, hr, z⟩ := w.from_ q hq
      exact ⟨r, List.mem_append.mpr (.inl hr), z⟩
    · rw [List.mem_singleton] at hq
      subst hq
      exact ⟨s, by simp, hk, rfl, ht⟩
  · rw [List.map_append, List.nodup_append]
    refine ⟨w.nd, by simp, fun a ha b hb e => ?_⟩
    obtain ⟨q, hq, rfl⟩ := List.mem_map.mp ha
    simp at hb
    exact hne q hq (e.trans hb)
def m_wEnd : MS := mAsgG (mCB wTuple (mCons (mVar 8) mNil)) (gSet (mVar 3) (mOp wIx (mVar 5) (mC (.int 3))))
def m_wMid (F_L_take : FD) : MS := (mIfS (mAnd (mB (mOp wGt (mVar 7) (mC (.int 0)))) (mB (mOp wLt (mVar 7) (mC (.int 3))))) (mSeq (mAsg (mVar 6) 9)
    (mSeq (mIfS (mB (mOp wEq (mVar 7) (mC (.int 2)))) (mAsg (mCB F_L_take (mCons (mVar 0) (mCons (mVar 6) mNil))) 9) mNext)
    (mSeq (mAsg (mFrz (mLc (iRg1 (mCons (mVar 6) mNil)) 11 mYes (mIf (mB (mOp wEq (mOp wIx (mVar 5) (mC (.int 1))) (mC (.str "any")))) (mOp wMod (mCB wInt (mCons (mVar 11) mNil)) (mVar 2)) (mC (.int 0))))) 10)
    (mAsg (mFrz (mLc (iRg1 (mCons (mVar 6) mNil)) 11 mYes (mIf (mB (mOp wEq (mVar 11) (mVar 9))) (mOp wIx (mVar 8) (mVar 11)) (mOp wIx (mVar 10) (mVar 11))))) 8)))) mNext)
def m_wStep (F_L_power F_L_take : FD) : MS := (mIfS (mAnd (mB (mOp wNe (mOp wIx (mVar 5) (mC (.int 1))) (mC (.str "kept")))) (mB (mOp (wInB true) (mOp wIx (mVar 5) (mC (.int 3))) (mVar 3)))) (mSeq (mAsg (mCB F_L_power (mCons (mVar 2) (mCons (mCB wLen (mCons (mOp wIx (mVar 5) (mC (.int 2))) mNil)) mNil))) 6)
    (mSeq (mAsg (mCB F_L_take (mCons (mVar 0) (mCons (mC (.int 4)) mNil))) 7)
    (mSeq (mAsg (mFrz (mLc (iRg1 (mCons (mVar 6) mNil)) 11 mYes (mCB F_L_take (mCons (mVar 0) (mCons (mVar 2) mNil))))) 8)
    (mSeq (m_wMid F_L_take) m_wEnd)))) mNext)
section
variable {Ω Ω1 : Om} {h l : Addr} {k : Ke} {s : Stp} {m many : Int} {tb : List (Int × List Int)} {row : List Int} {lot x4 x6 x7 x8 x9 x10 x11 : Option D}
theorem g_wEnd (ho : Ω1 l = some (.dk (tbK tb))) (hl : tb.length ≤ 1000) (hn : look tb s.name = none)
    (nx : k.nx (put Ω1 l (.dk (tbK (tb ++ [(s.name, row)])))) [some (.ptr h), lot, some (.int m), some (.ptr l), x4, some s.d, x6, x7, some (.lst (row.map .int)), x9, x10, x11]) :
    m_wEnd Ω1 [some (.ptr h), lot, some (.int m), some (.ptr l), x4, some s.d, x6, x7, some (.lst (row.map .int)), x9, x10, x11] k := by
  unfold m_wEnd
  walk_at "d"
  rw [stp_3]
  refine set_k ho (by unfold tbK; rw [List.length_map]; omega) ?_
  rw [dput_new (fun kv hm e => by
    obtain ⟨q, hq, rfl⟩ := List.mem_map.mp hm
    exact look_none hn q hq (by simpa using e))]
  unfold tbK at nx ⊢
  rw [List.map_append] at nx
  exact nx
theorem g_wMid {o : Ob} {way : Int} (hO : HandO o) (m0 : 2 ≤ m) (m1 : m ≤ 3) (n0 : 1 ≤ many) (n1 : many ≤ 1000) (hl : (row.length : Int) = many) (hr : RngL m row)
    (nx : ∀ o2 row' y9 y10, HandO o2 → (row'.length : Int) = many → RngL m row' → k.nx (put Ω h o2) [some (.ptr h), lot, some (.int m), some (.ptr l), x4, some s.d, some (.int many), some (.int way), some (.lst (row'.map .int)), y9, y10, x11]) :
    m_wMid F_L_take (put Ω h o) [some (.ptr h), lot, some (.int m), some (.ptr l), x4, some s.d, some (.int many), some (.int way), some (.lst (row.map .int)), x9, x10, x11] k := by
  unfold m_wMid
  walk_at "d"
  refine ⟨fun hw0 => ⟨fun hw3 => ?_, fun _ => nx o row x9 x10 hO hl hr⟩, fun _ => nx o row x9 x10 hO hl hr⟩
  have rest : ∀ (o2 : Ob) (ch : Int), HandO o2 → mFrz (mLc (iRg1 (mCons (mVar 6) mNil)) 11 mYes (mIf (mB (mOp wEq (mOp wIx (mVar 5) (mC (.int 1))) (mC (.str "any")))) (mOp wMod (mCB wInt (mCons (mVar 11) mNil)) (mVar 2)) (mC (.int 0)))) (put Ω h o2)
      [some (.ptr h), lot, some (.int m), some (.ptr l), x4, some s.d, some (.int many), some (.int way), some (.lst (row.map .int)), some (.int ch), x10, x11]
      (fun d Ω1 => mFrz (mLc (iRg1 (mCons (mVar 6) mNil)) 11 mYes (mIf (mB (mOp wEq (mVar 11) (mVar 9))) (mOp wIx (mVar 8) (mVar 11)) (mOp wIx (mVar 10) (mVar 11)))) Ω1
        [some (.ptr h), lot, some (.int m), some (.ptr l), x4, some s.d, some (.int many), some (.int way), some (.lst (row.map .int)), some (.int ch), some d, x11] (fun d2 Ω2 => k.nx Ω2 [some (.ptr h), lot, some (.int m), some (.ptr l), x4, some s.d, some (.int many), some (.int way), some d2, some (.int ch), some d, x11])) := fun o2 ch h2 => by
    refine lcInts (m := many) (Ω1 := put Ω h o2) (fun x => if s.kind = kAny then x % m else 0) (fun P p => by walk_at "d"; exact p) (by omega) (by omega) (fun q acc x x0 x1 hq R hR => ?_) ?_
    · unfold mIf
      walk_at "d"
      rw [stp_1]
      walk_at "d"
      refine ⟨fun e => ⟨by omega, ?_⟩, fun e => ?_⟩
      · rw [if_pos e] at hR; exact hR
      · rw [if_neg e] at hR; exact hR
    · have hp : RngL m ((rgL many).map fun x => if s.kind = kAny then x % m else 0) := fun w hw => by
        obtain ⟨x, hx, rfl⟩ := List.mem_map.mp hw
        split
        · exact mod_rng (by omega)
        · omega
      have hpl : (((rgL many).map fun x => if s.kind = kAny then x % m else 0).length : Int) = many := by rw [List.length_map, len_rgL]; omega
      generalize (rgL many).map (fun x => if s.kind = kAny then x % m else 0) = plain at hp hpl ⊢
      refine lcInts (m := many) (Ω1 := put Ω h o2) (fun x => if x = ch then at_ row x else at_ plain x) (fun P p => by walk_at "d"; exact p) (by omega) (by omega) (fun q acc x x0 x1 hq R hR => ?_) ?_
      · unfold mIf
        walk_at "d"
        refine ⟨fun e => ?_, fun e => ?_⟩
        · rw [if_pos e] at hR
          rw [ix_l (atI_of x0 (show (row.map D.int)[x.toNat]? = some (.int (at_ row x)) by rw [List.getElem?_map, (at_mem x0 (by omega)).1]; rfl))]
          exact hR
        · rw [if_neg e] at hR
          rw [ix_l (atI_of x0 (show (plain.map D.int)[x.toNat]? = some (.int (at_ plain x)) by rw [List.getElem?_map, (at_mem x0 (by omega)).1]; rfl))]
          exact hR
      · refine nx o2 _ _ _ h2 (by rw [List.length_map, len_rgL]; omega) fun w hw => ?_
        obtain ⟨x, hx, rfl⟩ := List.mem_map.mp hw
        obtain ⟨x0, x1⟩ := mem_rgL.mp hx
        split
        · exact hr _ (at_mem x0 (by omega)).2
        · exact hp _ (at_mem x0 (by omega)).2
  refine ⟨fun e => ?_, fun e => rest o many hO⟩
  exact take_at hO (by omega) (by omega) fun o2 r h2 r0 r1 => rest o2 r h2
end
end
end KG
namespace KG
open L2 PySem PyProof.Rows PySem.Spec
local macro_rules | `(tactic| walk_at "d") => `(tactic| first | simp only [startD, endK, List.map_cons, List.map_nil, List.length_cons, List.length_nil, List.replicate, List.cons_append, List.nil_append, Nat.reduceAdd, Nat.reduceSub, Nat.zero_add, Nat.add_zero, Nat.reduceLeDiff,
  mCntF, mSetF, mSetd, mSeq, mAsg, mDrop, mRet, mRetN, mIfS, mCont, mNext, mNever, gN, gNil_eq, gCons_eq, gT_t, gT_l, gSet, mAsgG, mVar, slot, mC, mOp, mUn, mNil, mCons, mTup, mLst, mLstO, mCB, mIf, mB, mAnd, mOr, mNot, mOrV, mNotV, mYes, mNewK, mNewT, mBM, mTuF,
  wInt2, wIs, wIsN, wNeg, wInt, wAbs, mFld, Ob.d, isi_ii, isi_ib, isi_ss, isiS_t, isiS_f, isiS_l, len_t, len_f, len_l, len_q, tuple_t, tuple_f, tuple_l, eq_ii, ne_ii, eq_ss, ne_ss, add_ii, add_tt, add_ll, mul_ii, in_t, in_l, in_il, fld_cells, fld_programs, fld_modulus, fld_tables, mMeth, meth_mean, List.length_map,
  List.set_cons_zero, List.set_cons_succ, List.getElem?_cons_zero, List.getElem?_cons_succ, Option.some.injEq, exists_eq_left', exists_eq_left, exists_eq', exists_eq, D.int.injEq, D.bl.injEq, D.str.injEq, D.tup.injEq, D.lst.injEq, D.ptr.injEq, D.ty.injEq, List.cons.injEq, and_true, true_and, reduceCtorEq, false_or, or_false, false_and, and_false, exists_false, or_self,
  exists_and_left, exists_and_right, exists_const, ne_eq, not_true_eq_false, not_false_eq_true, decide_true, decide_false, Bool.false_eq_true, Bool.true_eq_false, false_implies, true_implies, forall_const, implies_true, Bool.not_true, Bool.not_false, Bool.not_eq_true', Bool.not_eq_true, Bool.not_eq_false', decide_eq_true_eq, decide_eq_false_iff_not, put_same, del_same, forall_eq', forall_eq, forall_apply_eq_imp_iff] | (try dsimp only))
/-! G29: a worn meaning: the def. -/
section
theorem pow_few {m : Int} {n : Nat} (m0 : 2 ≤ m) (m1 : m ≤ 3) (hn : n ≤ 4) : 1 ≤ m ^ n ∧ m ^ n ≤ 81 := by
  have hm : m = 2 ∨ m = 3 := by omega
  have h : n = 0 ∨ n = 1 ∨ n = 2 ∨ n = 3 ∨ n = 4 := by omega
  rcases hm with rfl | rfl <;> rcases h with rfl | rfl | rfl | rfl | rfl <;> decide
def F_L_worn_meaning : FD := fun ds Ω P => ∃ (h : Addr) (o : Ob) (c m : Int) (ps : List (List Stp)), ds = [.ptr h, .tup [.int c, progsD ps], .int m] ∧ Ω h = some o ∧ HandO o ∧ 2 ≤ m ∧ m ≤ 3 ∧ TellOk ps.flatten ∧ ps.flatten.length ≤ 20 ∧ (∀ s ∈ ps.flatten, s.by_.length ≤ 4) ∧
  ∀ (o' : Ob) (tb : List (Int × List Int)), HandO o' → WornOk m ps.flatten tb → P (tabsD tb) (put Ω h o')
def wnW (Ω : Om) (h l : Addr) (m : Int) (lot : D) (done : List Stp) (Ω' : Om) (Δ' : Dl) : Prop := ∃ (o : Ob) (tb : List (Int × List Int)), HandO o ∧ Ω' = put (put Ω h o) l (.dk (tbK tb)) ∧ WornOk m done tb ∧ ∃ x4 x5 x6 x7 x8 x9 x10 x11, Δ' = [some (.ptr h), some lot, some (.int m), some (.ptr l), x4, x5, x6, x7, x8, x9, x10, x11]
theorem g_wStep {Ω Ω1 : Om} {h l : Addr} {k : Ke} {s : Stp} {m : Int} {lot : D} {o : Ob} {tb : List (Int × List Int)} {done S : List Stp} {x4 x6 x7 x8 x9 x10 x11 : Option D} (hlh : l ≠ h) (hO : HandO o) (m0 : 2 ≤ m) (m1 : m ≤ 3) (hw : WornOk m done tb) (hd : done.length ≤ 20) (hS : TellOk S) (hsub : ∀ r ∈ done ++ [s], r ∈ S) (hby : s.by_.length ≤ 4)
    (nx : ∀ Ω2 Δ2, wnW Ω h l m lot (done ++ [s]) Ω2 Δ2 → k.nx Ω2 Δ2) :
    m_wStep F_L_power F_L_take (put (put Ω h o) l (.dk (tbK tb))) [some (.ptr h), some lot, some (.int m), some (.ptr l), x4, some s.d, x6, x7, x8, x9, x10, x11] k := by
  have hfew := hw.few
  have ho : (put (put Ω h o) l (.dk (tbK tb))) l = some (.dk (tbK tb)) := put_same
  have hsm := hsub s (by simp)
  have kE := @g_wEnd
  have kM := @g_wMid
  unfold m_wStep
  generalize m_wEnd = ME at kE ⊢
  generalize m_wMid F_L_take = MM at kM ⊢
  walk_at "d"
  rw [stp_1]
  walk_at "d"
  refine ⟨fun hk => ?_, fun hk => nx _ _ ⟨o, tb, hO, rfl, hw.keep fun z => absurd hk z, _, _, _, _, _, _, _, _, rfl⟩⟩
  rw [stp_3, in_kp ho]
  refine ⟨_, rfl, fun hnew => ?_, fun hold => ?_⟩
  · have hn : look tb s.name = none := by
      rw [dget_look] at hnew
      cases e : look tb s.name with
      | none => rfl
      | some t => rw [e] at hnew; simp at hnew
    rw [stp_2]
    walk_at "d"
    have hpw := pow_few (n := s.by_.length) m0 m1 hby
    refine ⟨m, s.by_.length, rfl, by omega, by omega, by omega, by omega, ?_⟩
    rw [Int.toNat_natCast]
    rw [put_comm (Ne.symm hlh)]
    refine take_at hO (by omega) (by omega) fun o2 way h2 w0 w1 => ?_
    refine lcTakes (n := m ^ s.by_.length) (fun P p => by walk_at "d"; exact p) h2 (by omega) (by omega) (by omega) (by omega) (fun _ => rfl) (fun _ => rfl) fun o3 row h3 hl hr => ?_
    refine kM h3 m0 m1 hpw.1 (by omega) hl hr fun o4 row' y9 y10 h4 hl' hr' => ?_
    refine kE (by rw [put_ne hlh]; exact put_same) (by omega) hn ?_
    refine nx _ _ ⟨o4, _, h4, ?_, hw.add hk hn ⟨hl', hr'⟩, _, _, _, _, _, _, _, _, rfl⟩
    rw [put_comm hlh, put_put]
  · refine nx _ _ ⟨o, tb, hO, rfl, hw.keep fun _ => ?_, _, _, _, _, _, _, _, _, rfl⟩
    rw [dget_look] at hold
    cases e : look tb s.name with
    | none => rw [e] at hold; simp at hold
    | some t =>
      refine ⟨t, rfl, ?_⟩
      obtain ⟨r, hr, hrk, e1, e2⟩ := hw.from_ _ (look_some e)
      have hsh := hS.shape r (hsub r (by simp [hr])) s hsm hrk hk e1.symm
      have : r.by_.length = s.by_.length := congrArg (fun z => z.2.1) hsh
      rw [← this]
      exact e2
theorem g_L_worn_meaning (ds Ω P) (h : F_L_worn_meaning ds Ω P) : m_L_worn_meaning F_L_power F_L_take Ω (startD 12 ds) (endK P) := by
  obtain ⟨a, o, c, m, ps, rfl, ho, hO, m0, m1, hT, h20, hby, nx⟩ := h
  rw [show m_L_worn_meaning F_L_power F_L_take = mSeq (mAsg mNewK 3) (mSeq (mForI (iSq (mOp wIx (mVar 1) (mC (.int 1)))) (gN 4) (mForI (iSq (mVar 4)) (gN 5) (m_wStep F_L_power F_L_take))) (mRet (mVar 3))) from rfl]
  have kS := @g_wStep Ω Ω a
  generalize m_wStep F_L_power F_L_take = MS at kS ⊢
  walk_at "d"
  intro l hl
  have hla : l ≠ a := fun e => by rw [e, ho] at hl; cases hl
  have hsub : ∀ i j (p : List Stp), ps[i]? = some p → ∀ r ∈ (ps.take i).flatten ++ p.take j, r ∈ ps.flatten := fun i j p hp r hr => by
    rcases List.mem_append.mp hr with hr | hr
    · obtain ⟨q, hq, hr⟩ := List.mem_flatten.mp hr
      exact List.mem_flatten.mpr ⟨q, List.mem_of_mem_take hq, hr⟩
    · exact List.mem_flatten.mpr ⟨p, List.mem_of_getElem? hp, List.mem_of_mem_take hr⟩
  have hlen : ∀ i j (p : List Stp), ps[i]? = some p → ((ps.take i).flatten ++ p.take j).length ≤ ps.flatten.length := fun i j p hp => by
    have hil := (List.getElem?_eq_some_iff.mp hp).1
    have e : ps = ps.take i ++ p :: ps.drop (i + 1) := by
      conv => lhs; rw [← List.take_append_drop i ps]
      rw [List.drop_eq_getElem_cons hil, (List.getElem?_eq_some_iff.mp hp).2]
    have e2 := congrArg (fun z => z.flatten.length) e
    simp only [List.flatten_append, List.flatten_cons, List.length_append] at e2
    rw [List.length_append, List.length_take]
    omega
  refine forT (Ω1 := put Ω l (.dk [])) (xs := ps.map progD) (fun P p => by walk_at "d"; rw [show wIx (.tup [.int c, progsD ps]) (.int 1) = fun Ω P => P (progsD ps) Ω from by funext Ω P; exact ix_t rfl]; exact p) (fun i Ω' Δ' => wnW Ω a l m (.tup [.int c, progsD ps]) (ps.take i).flatten Ω' Δ') ⟨o, [], hO, by rw [put_self ho]; rfl, ⟨by simp, by simp, by simp, by simp⟩, none, none, none, none, none, none, none, none, rfl⟩ ?_ ?_
  · rintro i x Ω' Δ' hi ⟨o', tb, hO', rfl, hw, x4, x5, x6, x7, x8, x9, x10, x11, rfl⟩
    obtain ⟨p, hp, rfl⟩ := get_map hi
    walk_at "d"
    refine forT (Ω1 := put (put Ω a o') l (.dk (tbK tb))) (xs := p.map Stp.d) (fun P p => by walk_at "d"; exact p) (fun j Ω2 Δ2 => wnW Ω a l m (.tup [.int c, progsD ps]) ((ps.take i).flatten ++ p.take j) Ω2 Δ2) ⟨o', tb, hO', rfl, by rw [List.take_zero, List.append_nil]; exact hw, _, _, _, _, _, _, _, _, rfl⟩ ?_ ?_
    · rintro j x Ω2 Δ2 hj ⟨o2, tb2, hO2, rfl, hw2, y4, y5, y6, y7, y8, y9, y10, y11, rfl⟩
      obtain ⟨s, hs, rfl⟩ := get_map hj
      have es : (ps.take i).flatten ++ p.take (j + 1) = ((ps.take i).flatten ++ p.take j) ++ [s] := by rw [take_succ_of hs, List.append_assoc]
      have hsm : s ∈ ps.flatten := List.mem_flatten.mpr ⟨p, List.mem_of_getElem? hp, List.mem_of_getElem? hs⟩
      walk_at "d"
      refine kS hla hO2 m0 m1 hw2 (Nat.le_trans (hlen i j p hp) h20) hT (fun r hr => hsub i (j + 1) p hp r (by rw [es]; exact hr)) (hby s hsm) fun Ω3 Δ3 w => ?_
      show wnW Ω a l m _ _ Ω3 Δ3
      rw [es]
      exact w
    · rintro Ω2 Δ2 w
      rw [List.length_map, List.take_length] at w
      show wnW Ω a l m _ _ Ω2 Δ2
      rw [take_succ_of hp, List.flatten_append]
      simpa using w
  · rintro Ω' Δ' ⟨o', tb, hO', rfl, hw, x4, x5, x6, x7, x8, x9, x10, x11, rfl⟩
    rw [List.length_map, List.take_length] at hw
    walk_at "d"
    exact .frz put_same (by rw [del_put (by rw [put_ne hla]; exact hl)]; exact Sub.refl _) (nx o' tb hO' hw)
end
end KG
namespace KG
open L2 PySem PyProof.Rows PySem.Spec
local macro_rules | `(tactic| walk_at "d") => `(tactic| first | simp only [startD, endK, List.map_cons, List.map_nil, List.length_cons, List.length_nil, List.replicate, List.cons_append, List.nil_append, Nat.reduceAdd, Nat.reduceSub, Nat.zero_add, Nat.add_zero, Nat.reduceLeDiff,
  mCntF, mSetF, mSetd, mSeq, mAsg, mDrop, mRet, mRetN, mIfS, mCont, mNext, mNever, gN, gNil_eq, gCons_eq, gT_t, gT_l, gSet, mAsgG, mVar, slot, mC, mOp, mUn, mNil, mCons, mTup, mLst, mLstO, mCB, mIf, mB, mAnd, mOr, mNot, mOrV, mNotV, mYes, mNewK, mNewT, mBM, mTuF,
  wInt2, wIs, wIsN, wNeg, wInt, wAbs, mFld, Ob.d, isi_ii, isi_ib, isi_ss, isiS_t, isiS_f, isiS_l, len_t, len_f, len_l, len_q, tuple_t, tuple_f, tuple_l, eq_ii, ne_ii, eq_ss, ne_ss, add_ii, add_tt, add_ll, mul_ii, in_t, in_l, in_il, fld_cells, fld_programs, fld_modulus, fld_tables, mMeth, meth_mean, List.length_map,
  List.set_cons_zero, List.set_cons_succ, List.getElem?_cons_zero, List.getElem?_cons_succ, Option.some.injEq, exists_eq_left', exists_eq_left, exists_eq', exists_eq, D.int.injEq, D.bl.injEq, D.str.injEq, D.tup.injEq, D.lst.injEq, D.ptr.injEq, D.ty.injEq, List.cons.injEq, and_true, true_and, reduceCtorEq, false_or, or_false, false_and, and_false, exists_false, or_self,
  exists_and_left, exists_and_right, exists_const, ne_eq, not_true_eq_false, not_false_eq_true, decide_true, decide_false, Bool.false_eq_true, Bool.true_eq_false, false_implies, true_implies, forall_const, implies_true, Bool.not_true, Bool.not_false, Bool.not_eq_true', Bool.not_eq_true, Bool.not_eq_false', decide_eq_true_eq, decide_eq_false_iff_not, put_same, del_same, forall_eq', forall_eq, forall_apply_eq_imp_iff] | (try dsimp only))
/-! G30: worlds, drawn. -/
section
theorem pre_by {c : Int} {p : List Stp} (h : PreL c p) {i : Nat} {s : Stp} (hs : p[i]? = some s) : s.by_.length ≤ i + 1 := by
  have h0 := h i s hs
  refine pw_len h0.asc fun b hb => ?_
  have h1 := h0.rng b hb
  have h2 := lastP_le s.kind i
  omega
theorem lens_mem {ps : List (List Stp)} {sz : List Int} (h : lensI ps = sz) (hz : SizesOk sz) : ps.length = sz.length ∧ ∀ p ∈ ps, 1 ≤ p.length ∧ p.length ≤ 3 := by
  refine ⟨by rw [← h]; unfold lensI; rw [List.length_map], fun p hp => ?_⟩
  have := hz.2.2.1 (p.length : Int) (by rw [← h]; exact List.mem_map.mpr ⟨p, hp, rfl⟩)
  omega
theorem lens_flat {ps : List (List Stp)} {sz : List Int} (h : lensI ps = sz) (hz : SizesOk sz) : ps.flatten.length ≤ 9 := by
  have h1 := flat_len (ps := ps) fun x hx => (hz.2.2.1 x (by rw [← h]; exact hx)).2
  have h2 := (lens_mem h hz).1
  have := hz.2.1
  omega
theorem lot_by {c : Int} {ps : List (List Stp)} {sz : List Int} (hp : LotPre c ps) (h : lensI ps = sz) (hz : SizesOk sz) : ∀ s ∈ ps.flatten, s.by_.length ≤ 4 := fun s hs => by
  obtain ⟨p, hpm, hs⟩ := List.mem_flatten.mp hs
  obtain ⟨i, hi⟩ := List.getElem?_of_mem hs
  have h1 := pre_by (hp.pre p hpm) hi
  have h2 := (List.getElem?_eq_some_iff.mp hi).1
  have h3 := ((lens_mem h hz).2 p hpm).2
  omega
theorem lot_wd {c m : Int} {ps : List (List Stp)} {sz : List Int} {tb : List (Int × List Int)} (hs : SmallOk c m) (hz : SizesOk sz) (h : lensI ps = sz) (hp : LotPre c ps) (hw : WornOk m ps.flatten tb) : Wd ⟨c, m, ps, tb⟩ := by
  obtain ⟨c1, c2, m1, m2, sm⟩ := hs
  obtain ⟨l1, l2⟩ := lens_mem h hz
  have hf := lens_flat h hz
  have nm : ∀ s ∈ ps.flatten, s.kind ≠ kKept → 0 ≤ s.name ∧ s.name ≤ 99 := fun s hsm hk => by
    have := hp.told.name s hsm hk
    omega
  refine ⟨⟨c1, c2⟩, ⟨m1, m2⟩, sm, ?_, fun p hpm => ?_, ?_, fun p hpm i s hi => ?_, fun p hpm s hsm q hqm r hrm k1 k2 e => ?_, hw.nd, fun q hq => ?_, ?_⟩
  · have := hz.1
    have := hz.2.1
    show 1 ≤ ps.length ∧ ps.length ≤ 3
    omega
  · have := l2 p hpm
    omega
  · have e : ((lensI ps).sum : Int) = ((ps.map List.length).sum : Nat) := by
      rw [← sum_cast]
      unfold lensI
      rw [List.map_map]
      rfl
    have := hz.2.2.2
    rw [h] at e
    show (ps.map List.length).sum ≤ 7
    omega
  · have h0 := hp.pre p hpm i s hi
    refine ⟨h0.cell, h0.kind, h0.asc, h0.rng, h0.plain, h0.kept, fun z => ?_⟩
    obtain ⟨t, ht, hok⟩ := hw.look s (List.mem_flatten.mpr ⟨p, hpm, List.mem_of_getElem? hi⟩) z
    exact ⟨(h0.name z).1, (h0.name z).2, t, ht, hok⟩
  · exact hp.told.shape s (List.mem_flatten.mpr ⟨p, hpm, hsm⟩) r (List.mem_flatten.mpr ⟨q, hqm, hrm⟩) k1 k2 e
  · obtain ⟨s, hsm, hk, e1, e2⟩ := hw.from_ q hq
    have := nm s hsm hk
    exact ⟨by omega, by omega, s.by_.length, by have := lot_by hp h hz s hsm; omega, e2⟩
  · have := hw.few
    show tb.length ≤ 20
    omega
theorem rowTb_get : ∀ (rows : List (List Int)) (f : Int) (k : Nat) (r : List Int), rows[k]? = some r → (rowTb f rows)[k]? = some (f + k, r)
  | [], _, _, _, h => by simp at h
  | a :: rows, f, 0, r, h => by
    simp at h
    subst h
    simp [rowTb]
  | a :: rows, f, k + 1, r, h => by
    have := rowTb_get rows (f + 1) k r (by simpa using h)
    unfold rowTb
    rw [List.getElem?_cons_succ, this]
    have e : f + 1 + (k : Int) = f + ((k + 1 : Nat) : Int) := by omega
    rw [e]
theorem back4 {c m f a : Int} {r : List Int} (f0 : 0 ≤ f ∧ f ≤ 90) (hc : 0 ≤ a ∧ a < c) (h1 : TabOk m r 1) : BackOk c m f [⟨a, kAny, [0], f⟩] [r] := by
  have hp : ∀ s ∈ [(⟨a, kAny, [0], f⟩ : Stp)], s.kind ≠ kAdds := fun s hs => by
    rw [List.mem_singleton] at hs
    subst hs
    exact fun z => by cases z
  refine ⟨by simp, by simp, fun t ht => ?_, fun i s h => ?_, by simp, fun s hs _ => ?_⟩
  · rw [List.mem_singleton] at ht
    subst ht
    exact .inl h1
  · match i, h with
    | 0, h => cases h; exact stp_any hp hc (.inr ⟨0, rfl, by omega, by omega⟩) (by omega) look0 h1
  · rw [List.mem_singleton] at hs
    subst hs
    show f ≤ f ∧ f < f + 2
    omega
def F_L_world : FD := fun ds Ω P => ∃ (h : Addr) (o : Ob) (c m : Int), ds = [.ptr h, .int c, .int m] ∧ Ω h = some o ∧ HandO o ∧ SmallOk c m ∧ ∀ (o' : Ob) (W : Wld), HandO o' → Wd W → W.c = c → W.m = m → P (.lst [W.here, tabsD W.tb]) (put Ω h o')
def woW (Ω : Om) (h lp lt : Addr) (c m many : Int) (k : Nat) (Ω' : Om) (Δ' : Dl) : Prop := ∃ (o : Ob) (ps : List (List Stp)) (tb : List (Int × List Int)), HandO o ∧ Ω' = put (put (put Ω h o) lp (.lst (ps.map progD))) lt (.dk (tbK tb)) ∧ BInv c m k ps tb ∧ (many = 3 → (ps.map List.length).sum ≤ (if k < 3 then 2 * k else 5)) ∧
  ∃ x7 x8 x9 x10, Δ' = [some (.ptr h), some (.int c), some (.int m), none, some (.int many), some (.ptr lp), some (.ptr lt), x7, x8, x9, x10]
def m_woRows : MS := mForI (iRg1 (mCons (mCB wLen (mCons (mVar 9) mNil)) mNil)) (gN 10) (mAsgG (mOp wIx (mVar 9) (mVar 10)) (gSet (mVar 6) (mOp wAdd (mOp wMul (mC (.int 2)) (mVar 7)) (mVar 10))))
def woR (Ω1 : Om) (h lp lt : Addr) (c m many : Int) (i : Nat) (pr : List Stp) (tb : List (Int × List Int)) (rows : List (List Int)) (k : Nat) (Ω' : Om) (Δ' : Dl) : Prop := Ω' = put Ω1 lt (.dk (tbK (tb ++ (rowTb (2 * i) rows).take k))) ∧
  ∃ x10, Δ' = [some (.ptr h), some (.int c), some (.int m), none, some (.int many), some (.ptr lp), some (.ptr lt), some (.int i), some (progD pr), some (.lst (rows.map tI)), x10]
theorem g_woRows {Ω1 : Om} {h lp lt : Addr} {c m many : Int} {i : Nat} {pr : List Stp} {ps : List (List Stp)} {tb : List (Int × List Int)} {rows : List (List Int)} {x10 : Option D} {k : Ke} (hi : i ≤ 10) (I : BInv c m i ps tb) (hr : rows.length ≤ 2)
    (nx : ∀ y10, k.nx (put Ω1 lt (.dk (tbK (tb ++ rowTb (2 * i) rows)))) [some (.ptr h), some (.int c), some (.int m), none, some (.int many), some (.ptr lp), some (.ptr lt), some (.int i), some (progD pr), some (.lst (rows.map tI)), y10]) :
    m_woRows (put Ω1 lt (.dk (tbK tb))) [some (.ptr h), some (.int c), some (.int m), none, some (.int many), some (.ptr lp), some (.ptr lt), some (.int i), some (progD pr), some (.lst (rows.map tI)), x10] k := by
  unfold m_woRows
  refine forR1 rows.length (Ω1 := put Ω1 lt (.dk (tbK tb))) (fun P p => by walk_at "d"; exact p) (by omega) (by omega) (woR Ω1 h lp lt c m many i pr tb rows) ⟨by rw [List.take_zero, List.append_nil], _, rfl⟩ ?_ ?_
  · rintro j Ω' Δ' hj ⟨rfl, y10, rfl⟩
    have hjl : j < rows.length := by omega
    have e0 : rows[j]? = some rows[j] := List.getElem?_eq_getElem hjl
    have e1 := rowTb_get rows (2 * i) j _ e0
    obtain ⟨r1, r2, r3⟩ := rowTb_keys rows (2 * i)
    have hfew := I.few
    walk_at "d"
    rw [ix_l (atI_nat (show (rows.map tI)[j]? = some (tI rows[j]) by rw [List.getElem?_map, e0]; rfl))]
    refine ⟨cmul64l (by omega) (by omega), ?_⟩
    refine set_k put_same (by unfold tbK; rw [List.length_map, List.length_append, List.length_take]; omega) ?_
    rw [put_put, dput_new (fun kv hm e => by
      obtain ⟨q, hq, rfl⟩ := List.mem_map.mp hm
      have e : q.1 = 2 * (i : Int) + j := by simpa using e
      rcases List.mem_append.mp hq with hq | hq
      · have := I.keys q hq; omega
      · have := nd_take r2 (show ((rowTb (2 * i) rows).map (·.1))[j]? = some (2 * (i : Int) + j) by rw [List.getElem?_map, e1]; rfl)
        rw [← List.map_take] at this
        exact this (List.mem_map.mpr ⟨q, hq, e⟩))]
    refine ⟨?_, _, rfl⟩
    rw [take_succ_of e1, ← List.append_assoc]
    unfold tbK
    rw [List.map_append (l₁ := tb ++ List.take j (rowTb (2 * ↑i) rows))]
    rfl
  · rintro Ω' Δ' ⟨rfl, y10, rfl⟩
    have e : (rowTb (2 * i) rows).take rows.length = rowTb (2 * i) rows := by
      rw [List.take_of_length_le]
      rw [(rowTb_keys rows (2 * i)).2.2]
      exact Nat.le_refl _
    rw [show ((rows.length : Int)).toNat = rows.length from by omega, e]
    exact nx y10
theorem sum_snoc (ps : List (List Stp)) (pr : List Stp) : ((ps ++ [pr]).map List.length).sum = (ps.map List.length).sum + pr.length := by simp
theorem sum_le3 : ∀ {ps : List (List Stp)}, (∀ p ∈ ps, 1 ≤ p.length ∧ p.length ≤ 3) → (ps.map List.length).sum ≤ 3 * ps.length
  | [], _ => by simp
  | p :: ps, h => by
    have h1 := sum_le3 (ps := ps) fun q hq => h q (List.mem_cons_of_mem _ hq)
    have h2 := h p List.mem_cons_self
    rw [List.map_cons, List.sum_cons, List.length_cons]
    omega
def m_woTail (F_L_take F_L_back_program : FD) : MS := (mSeq (mAsg (mLstO mNil) 5)
    (mSeq (mAsg mNewK 6)
    (mSeq (mForI (iRg1 (mCons (mVar 4) mNil)) (gN 7) (mSeq (mAsgG (mCB F_L_back_program (mCons (mVar 0) (mCons (mVar 1) (mCons (mVar 2) (mCons (mOp wMul (mC (.int 2)) (mVar 7)) (mCons (mOp wEq (mVar 4) (mC (.int 2))) mNil)))))) (gT 2 (gCons' (gN 8) (gCons' (gN 9) gNil'))))
    (mSeq (mIfS (mB (mOp wEq (mVar 7) (mC (.int 2)))) (mAsgG (mLst (mCons (mTup (mCons (mTup (mCons (mCB F_L_take (mCons (mVar 0) (mCons (mVar 1) mNil))) (mCons (mC (.str "any")) (mCons (mTup (mCons (mC (.int 0)) mNil)) (mCons (mC (.int 4)) mNil))))) mNil)) (mCons (mLst (mCons (mCB wTuple (mCons (mFrz (mLc (iRg1 (mCons (mVar 2) mNil)) 10 mYes (mCB F_L_take (mCons (mVar 0) (mCons (mVar 2) mNil))))) mNil)) mNil)) mNil))) (gT 2 (gCons' (gN 8) (gCons' (gN 9) gNil')))) mNext)
    (mSeq m_woRows
    (mDrop (mBM wApp (mVar 5) (mCons (mVar 8) mNil)))))))
    (mRet (mLst (mCons (mTup (mCons (mVar 1) (mCons (mCB wTuple (mCons (mVar 5) mNil)) mNil))) (mCons (mFrz (mVar 6)) mNil)))))))
theorem g_woTail {Ω : Om} {P : DK} {a : Addr} {c m many : Int} {o2 : Ob} (hsm : SmallOk c m) (h2 : HandO o2) (hmany : many = 2 ∨ many = 3) (nx : ∀ (o' : Ob) (W : Wld), HandO o' → Wd W → W.c = c → W.m = m → P (.lst [W.here, tabsD W.tb]) (put Ω a o')) :
    m_woTail F_L_take F_L_back_program (put Ω a o2) [some (.ptr a), some (.int c), some (.int m), none, some (.int many), none, none, none, none, none, none] (endK P) := by
  have hsm' := hsm
  obtain ⟨c1, c2, m1, m2, sm⟩ := hsm'
  have kR := @g_woRows
  unfold m_woTail
  generalize m_woRows = MR at kR ⊢
  walk_at "d"
  intro lp hlp
  obtain ⟨hlpa, hlp⟩ := put_none.mp hlp
  intro lt hlt
  obtain ⟨hltp, hlt⟩ := put_none.mp hlt
  obtain ⟨hlta, hlt⟩ := put_none.mp hlt
  refine forR1 many (Ω1 := put (put (put Ω a o2) lp (.lst [])) lt (.dk [])) (fun P p => by walk_at "d"; exact p) (by omega) (by omega) (woW Ω a lp lt c m many) ⟨o2, [], [], h2, rfl, BInv.start c m, fun _ => by simp, none, none, none, none, rfl⟩ ?_ ?_
  · rintro i Ω' Δ' hi ⟨o3, ps, tb, h3, rfl, I, hsum, x7, x8, x9, x10, rfl⟩
    have hil := I.len
    have at_a : put (put (put Ω a o3) lp (.lst (ps.map progD))) lt (.dk (tbK tb)) a = some o3 := by rw [put_ne (Ne.symm hlta), put_ne (Ne.symm hlpa)]; exact put_same
    have flip : ∀ o4, put (put (put (put Ω a o3) lp (.lst (ps.map progD))) lt (.dk (tbK tb))) a o4 = put (put (put Ω a o4) lp (.lst (ps.map progD))) lt (.dk (tbK tb)) := fun o4 => by
      rw [put_comm (l := lt) (b := a) hlta, put_comm (l := lp) (b := a) hlpa, put_put]
    have done : ∀ (o4 : Ob) (pr : List Stp) (rows : List (List Int)) (y7 y8 y9 y10 : Option D), HandO o4 → BackOk c m (2 * i) pr rows → (many = 3 → ((ps ++ [pr]).map List.length).sum ≤ (if i + 1 < 3 then 2 * (i + 1) else 5)) →
        woW Ω a lp lt c m many (i + 1) (put (put (put (put Ω a o4) lp (.lst (ps.map progD))) lt (.dk (tbK (tb ++ rowTb (2 * i) rows)))) lp (.lst (ps.map progD ++ [progD pr]))) [some (.ptr a), some (.int c), some (.int m), none, some (.int many), some (.ptr lp), some (.ptr lt), y7, y8, y9, y10] := fun o4 pr rows y7 y8 y9 y10 h4 hb hs => by
      refine ⟨o4, ps ++ [pr], _, h4, ?_, I.next hb, hs, _, _, _, _, rfl⟩
      rw [put_comm (l := lt) (b := lp) hltp, put_put, List.map_append]
      rfl
    walk_at "d"
    refine ⟨cmul64l (by omega) (by omega), a, c, m, 2 * i, decide (many = 2), o3, rfl, c1, c2, m1, m2, by omega, by omega, at_a, h3, fun o4 pr rows h4 hb hlong => ?_⟩
    rw [flip]
    walk_at "d"
    refine ⟨fun ei => ?_, fun ei => ?_⟩
    · have ei : i = 2 := by omega
      subst ei
      have at_a4 : put (put (put Ω a o4) lp (.lst (ps.map progD))) lt (.dk (tbK tb)) a = some o4 := by rw [put_ne (Ne.symm hlta), put_ne (Ne.symm hlpa)]; exact put_same
      have flip4 : ∀ o5, put (put (put (put Ω a o4) lp (.lst (ps.map progD))) lt (.dk (tbK tb))) a o5 = put (put (put Ω a o5) lp (.lst (ps.map progD))) lt (.dk (tbK tb)) := fun o5 => by
        rw [put_comm (l := lt) (b := a) hlta, put_comm (l := lp) (b := a) hlpa, put_put]
      rw [← put_self at_a4]
      refine take_at h4 (by omega) (by omega) fun o5 cell h5 z0 z1 => ?_
      refine lcTakes (n := m) (fun P p => by walk_at "d"; exact p) h5 (by omega) (by omega) (by omega) (by omega) (fun _ => rfl) (fun _ => rfl) fun o6 row h6 hl hr => ?_
      rw [flip4, tuple_l]
      walk_at "d"
      have hb4 : BackOk c m (2 * (2 : Nat)) [⟨cell, kAny, [0], 4⟩] [row] := back4 (by omega) ⟨z0, z1⟩ (tab1 hl hr)
      refine kR (pr := [⟨cell, kAny, [0], 4⟩]) (rows := [row]) (by omega) I (by simp) fun y10 => ?_
      walk_at "d"
      refine app_p (by rw [put_ne (Ne.symm hltp)]; exact put_same) (by rw [List.length_map]; omega) ?_
      refine done o6 _ _ _ _ _ _ h6 hb4 fun e3 => ?_
      have := hsum e3
      rw [sum_snoc]
      simp at this ⊢
      omega
    · have hr2 := hb.few
      refine kR (by omega) I hr2 fun y10 => ?_
      walk_at "d"
      refine app_p (by rw [put_ne (Ne.symm hltp)]; exact put_same) (by rw [List.length_map]; omega) ?_
      refine done o4 _ _ _ _ _ _ h4 hb fun e3 => ?_
      have h5 := hsum e3
      have h6 := hlong (decide_eq_false (by omega))
      rw [sum_snoc]
      rw [if_pos (by omega)] at h5 ⊢
      omega
  · rintro Ω' Δ' ⟨o3, ps, tb, h3, rfl, I, hsum, x7, x8, x9, x10, rfl⟩
    walk_at "d"
    rw [tuple_p (by rw [put_ne (Ne.symm hltp)]; exact put_same)]
    unfold mFrz
    walk_at "d"
    rw [del_put (by rw [put_ne hltp, put_ne hlta]; exact hlt)]
    refine .sub (Sub.put (by rw [put_ne hlpa]; exact hlp)) (nx o3 ⟨c, m, ps, tb⟩ h3 (I.wd hsm (by omega) ?_) rfl rfl)
    rcases hmany with e | e
    · have h7 := sum_le3 I.lens
      have := I.len
      omega
    · have h7 := hsum e
      rw [e] at h7
      have h7 : (ps.map List.length).sum ≤ 5 := by simpa using h7
      show (ps.map List.length).sum ≤ 7
      omega
theorem g_L_world (ds Ω P) (h : F_L_world ds Ω P) : m_L_world F_L_take F_L_sizes F_L_lot F_L_worn_meaning F_L_back_program Ω (startD 11 ds) (endK P) := by
  obtain ⟨a, o, c, m, rfl, ho, hO, hsm, nx⟩ := h
  have kT := @g_woTail Ω P a c m
  rw [show m_L_world F_L_take F_L_sizes F_L_lot F_L_worn_meaning F_L_back_program = mSeq (mIfS (mB (mOp wEq (mCB F_L_take (mCons (mVar 0) (mCons (mC (.int 4)) mNil))) (mC (.int 0)))) (mSeq (mAsg (mCB F_L_lot (mCons (mVar 0) (mCons (mVar 1) (mCons (mCB F_L_sizes (mCons (mVar 0) mNil)) mNil)))) 3)
    (mRet (mLst (mCons (mVar 3) (mCons (mCB F_L_worn_meaning (mCons (mVar 0) (mCons (mVar 3) (mCons (mVar 2) mNil)))) mNil))))) mNext)
    (mSeq (mAsg (mIf (mB (mOp wEq (mCB F_L_take (mCons (mVar 0) (mCons (mC (.int 5)) mNil))) (mC (.int 0)))) (mC (.int 3)) (mC (.int 2))) 4) (m_woTail F_L_take F_L_back_program)) from rfl]
  generalize m_woTail F_L_take F_L_back_program = TL at kT ⊢
  walk_at "d"
  rw [← put_self ho]
  refine take_at hO (by omega) (by omega) fun o1 r h1 r0 r1 => ?_
  walk_at "d"
  refine ⟨fun _ => ?_, fun _ => ?_⟩
  · refine ⟨a, o1, rfl, put_same, h1, fun o2 sz h2 hz => ?_⟩
    rw [put_put]
    obtain ⟨c1, c2, m1, m2, sm⟩ := id hsm
    refine ⟨a, o2, c, sz, rfl, c1, c2, hz, put_same, h2, fun o3 ps h3 hp hl => ?_⟩
    rw [put_put]
    walk_at "d"
    refine ⟨a, o3, c, m, ps, rfl, put_same, h3, m1, m2, hp.told, by have := lens_flat hl hz; omega, lot_by hp hl hz, fun o4 tb h4 hw => ?_⟩
    rw [put_put]
    walk_at "d"
    exact .now (nx o4 ⟨c, m, ps, tb⟩ h4 (lot_wd hsm hz hl hp hw) rfl rfl)
  · refine take_at h1 (by omega) (by omega) fun o2 q h2 q0 q1 => ?_
    walk_at "d"
    exact ⟨fun _ => kT hsm h2 (.inr rfl) nx, fun _ => kT hsm h2 (.inl rfl) nx⟩
end
end KG
namespace KG
open L2 PySem PyProof.Rows PySem.Spec
local macro_rules | `(tactic| walk_at "d") => `(tactic| first | simp only [startD, endK, List.map_cons, List.map_nil, List.length_cons, List.length_nil, List.replicate, List.cons_append, List.nil_append, Nat.reduceAdd, Nat.reduceSub, Nat.zero_add, Nat.add_zero, Nat.reduceLeDiff,
  mCntF, mSetF, mSetd, mSeq, mAsg, mDrop, mRet, mRetN, mIfS, mCont, mNext, mNever, gN, gNil_eq, gCons_eq, gT_t, gT_l, gSet, mAsgG, mVar, slot, mC, mOp, mUn, mNil, mCons, mTup, mLst, mLstO, mCB, mIf, mB, mAnd, mOr, mNot, mOrV, mNotV, mYes, mNewK, mNewT, mBM, mTuF,
  wInt2, wIs, wIsN, wNeg, wInt, wAbs, mFld, Ob.d, isi_ii, isi_ib, isi_ss, isiS_t, isiS_f, isiS_l, len_t, len_f, len_l, len_q, tuple_t, tuple_f, tuple_l, eq_ii, ne_ii, eq_ss, ne_ss, add_ii, add_tt, add_ll, mul_ii, in_t, in_l, in_il, fld_cells, fld_programs, fld_modulus, fld_tables, mMeth, meth_mean, List.length_map,
  List.set_cons_zero, List.set_cons_succ, List.getElem?_cons_zero, List.getElem?_cons_succ, Option.some.injEq, exists_eq_left', exists_eq_left, exists_eq', exists_eq, D.int.injEq, D.bl.injEq, D.str.injEq, D.tup.injEq, D.lst.injEq, D.ptr.injEq, D.ty.injEq, List.cons.injEq, and_true, true_and, reduceCtorEq, false_or, or_false, false_and, and_false, exists_false, or_self,
  exists_and_left, exists_and_right, exists_const, ne_eq, not_true_eq_false, not_false_eq_true, decide_true, decide_false, Bool.false_eq_true, Bool.true_eq_false, false_implies, true_implies, forall_const, implies_true, Bool.not_true, Bool.not_false, Bool.not_eq_true', Bool.not_eq_true, Bool.not_eq_false', decide_eq_true_eq, decide_eq_false_iff_not, put_same, del_same, forall_eq', forall_eq, forall_apply_eq_imp_iff] | (try dsimp only))
/-! G31: steps checked, stores checked, moves, faults. -/
section
theorem slot_at {Δ : Dl} {i : Nat} {d : D} {φ : D → Prop} (h : Δ[i]? = some (some d)) (p : φ d) : slot Δ i φ := ⟨d, h, p⟩
theorem src_std {ma : ME} {Ω Ω1 : Om} {Δ : Dl} {xs : List D} {d : D} (hd : std d xs) (hm : ∀ P : D → Om → Prop, P d Ω1 → ma Ω Δ P) : ∃ xs, seqD d Ω1 xs := ⟨xs, hd.seq⟩
theorem keep_std {d : D} {xs : List D} {Ω : Om} (h : std d xs) : keepD d xs Ω := by
  rcases h with rfl | rfl | rfl
  · exact keep_tup
  · exact keep_tuf
  · exact keep_lst
theorem dcS {ma : ME} {j : Nat} {mv : ME} {Ω Ω1 : Om} {Δ : Dl} {P : DK} {S : List (List Int)} {f : Mv} (hm : ∀ Q : DK, Q (.tup (S.map tI)) Ω1 → ma Ω Δ Q) (nd : S.Nodup) (hl : S.length ≤ 1000) (hj : j < Δ.length)
    (hs : ∀ s ∈ S, ∀ l ob, Ω1 l = none → ∀ R : DK, R (tI (f s)) (put Ω1 l ob) → mv (put Ω1 l ob) (Δ.set j (some (tI s))) R) (wf : P (mvD S f) Ω1) : mFrz (mDcT (iSq ma) j (mVar j) mv) Ω Δ P := by
  refine hm _ ⟨S.map tI, .inl rfl, fun l hl => ⟨fun k Ω' => Ω' = put Ω1 l (.dt (mvK f (S.take k))), rfl, fun _ _ _ _ => keep_tup, ?_, ?_⟩⟩
  · rintro i Ω' hi rfl
    rw [List.length_map] at hi
    have hs0 : S[i]? = some S[i] := List.getElem?_eq_getElem hi
    have e : (S.map tI).getD i .non = tI S[i] := getD_of (by rw [List.getElem?_map, hs0]; rfl)
    dsimp only
    rw [e]
    refine slot_at (d := tI S[i]) (List.getElem?_set_self hj) (hs S[i] (List.getElem_mem hi) l _ hl _ ?_)
    refine ⟨_, S[i].map .int, S[i].map Sum.inl, put_same, rfl, keysD_tI _, by unfold mvK; rw [List.length_map, List.length_take]; omega, ?_⟩
    rw [put_put, mvK_put (nd_take nd hs0), take_succ_of hs0]
  · rintro Ω' rfl
    rw [List.length_map, List.take_length]
    refine ⟨l, _, rfl, put_same, ?_⟩
    rw [del_put hl]
    exact wf
theorem code_inj {m : Int} : ∀ {l : List (List Int)}, l.Pairwise (fun a b => TS.code m a < TS.code m b) → ∀ a ∈ l, ∀ b ∈ l, TS.code m a = TS.code m b → a = b
  | [], _, _, ha, _, _, _ => by cases ha
  | x :: l, .cons p1 p2, a, ha, b, hb, e => by
    rcases List.mem_cons.mp ha with h1 | h1 <;> rcases List.mem_cons.mp hb with h2 | h2
    · rw [h1, h2]
    · have := p1 b h2; rw [h1] at e; omega
    · have := p1 a h1; rw [h2] at e; omega
    · exact code_inj p2 a h1 b h2 e
theorem lt_pw {m : Int} : ∀ {l : List (List Int)}, l.Nodup → l.Pairwise (fun a b => TS.code m a ≤ TS.code m b) → (∀ a ∈ l, ∀ b ∈ l, TS.code m a = TS.code m b → a = b) → l.Pairwise fun a b => TS.code m a < TS.code m b
  | [], _, _, _ => .nil
  | x :: l, nd, .cons p1 p2, inj => by
    obtain ⟨n1, n2⟩ := List.nodup_cons.mp nd
    refine .cons (fun b hb => ?_) (lt_pw n2 p2 fun a ha b hb => inj a (List.mem_cons_of_mem _ ha) b (List.mem_cons_of_mem _ hb))
    rcases Int.lt_or_eq_of_le (p1 b hb) with h | h
    · exact h
    · exact absurd (by rw [inj x List.mem_cons_self b (List.mem_cons_of_mem _ hb) h]; exact hb) n1
theorem g_checked_steps (ds Ω P) (h : F_checked_steps ds Ω P) : m_checked_steps F_check_step Ω (startD 4 ds) (endK P) := by
  obtain ⟨W, pr, rfl, hl, hs, h⟩ := h
  unfold m_checked_steps
  walk_at "d"
  intro l hn
  refine forR1 (Ω1 := put Ω l (.lst [])) (pr.length : Int) (fun P p => by walk_at "d"; exact p) (by omega) (by omega) (fun k Ω' Δ' => Ω' = put Ω l (.lst ((pr.take k).map Stp.d)) ∧ ∃ x, Δ' = [some (.int W.c), some (progD pr), some (.ptr l), x]) ⟨rfl, _, rfl⟩ ?_ ?_
  · rintro i Ω' Δ' hi ⟨rfl, x, rfl⟩
    have hi : i < pr.length := by omega
    have hp : pr[i]? = some pr[i] := List.getElem?_eq_getElem hi
    walk_at "d"
    refine ⟨isL_p put_same, ?_⟩
    rw [ix_t (show atI (pr.map Stp.d) (i : Int) = some pr[i].d from atI_nat (by rw [List.getElem?_map, hp]; rfl))]
    refine ⟨W, pr, i, pr[i], rfl, hs _ _ hp, ?_⟩
    walk_at "d"
    refine (app_p put_same (by rw [List.length_map, List.length_take]; omega) ?_).2
    rw [put_put, take_succ_of hp, List.map_append]
    rfl
  · rintro Ω' Δ' ⟨rfl, x, rfl⟩
    walk_at "d"
    rw [tuple_p put_same, Int.toNat_natCast, List.take_length]
    exact .sub (Sub.put hn) h
theorem g_check_stores (ds Ω P) (h : F_check_stores ds Ω P) : m_check_stores F_check_meaning F_is_sequence F_check_store Ω (startD 5 ds) (endK P) := by
  obtain ⟨W, st, R, d, rfl, wd, hst, hd, hR, h⟩ := h
  have hS := few_S wd
  have hm := wd.m
  have hc := wd.c
  have hRl := hR.length_le
  have ndR : R.Nodup := hR.nodup (nd_S W)
  have ls : ∀ (Ω : Om) (P : DK), P (.int R.length) Ω → wLen [d] Ω P := fun Ω P p => by
    rcases hd with rfl | rfl <;> walk_at "d" <;> exact p
  unfold m_check_stores
  walk_at "d"
  refine ⟨W, st, rfl, wd, hst, d, R.map tI, rfl, (by rcases hd with h | h; exact .inl h; exact .inr (.inr h)), ?_⟩
  walk_at "d"
  intro l hn
  refine forR1 (Ω1 := put Ω l (.dt [])) (R.length : Int) (fun P p => by walk_at "d"; exact ls _ _ p) (by omega) (by omega) (fun k Ω' Δ' => Ω' = put Ω l (.dt (kF (R.take k))) ∧ ∃ x, Δ' = [some W.lot, some (meanO W.m st), some d, some (.ptr l), x]) ⟨rfl, _, rfl⟩ ?_ ?_
  · rintro i Ω' Δ' hi ⟨rfl, x, rfl⟩
    have hi : i < R.length := by omega
    have hp : R[i]? = some R[i] := List.getElem?_eq_getElem hi
    have hm2 := (mem_S wd).mp (hR.subset (List.getElem_mem hi))
    have hix : ∀ (Ω : Om) (P : DK), P (tI R[i]) Ω → wIx d (.int i) Ω P := fun Ω P p => by
      have e : atI (R.map tI) (i : Int) = some (tI R[i]) := atI_nat (by rw [List.getElem?_map, hp]; rfl)
      rcases hd with rfl | rfl
      · rw [ix_t e]; exact p
      · rw [ix_l e]; exact p
    walk_at "d"
    refine hix _ _ ⟨W, st, R[i], rfl, wd, hm2, ?_⟩
    walk_at "d"
    refine set_t put_same (by unfold kF; rw [List.length_map, List.length_take]; omega) ?_
    rw [put_put, kF_put (nd_take ndR hp), take_succ_of hp]
  · rintro Ω' Δ' ⟨rfl, x, rfl⟩
    walk_at "d"
    rw [Int.toNat_natCast, List.take_length]
    refine listK_kF put_same (sortA_l (k := W.c.toNat) (b := W.m) (by omega) (by omega) (fun s hs => ?_) fun L hp hpw => ?_)
    · have := (mem_S wd).mp (hR.subset hs)
      exact ⟨by have := this.1; omega, this.2⟩
    rw [tuple_l]
    have ltS := (pw_S wd).sublist hR
    have ndL : L.Nodup := hp.nodup_iff.mpr ndR
    have e : L = R := uniq_sorted (lt := fun a b => TS.code W.m a < TS.code W.m b) (fun a => Int.lt_irrefl _) (fun a b c => Int.lt_trans) (lt_pw ndL hpw (fun a ha b hb e => code_inj ltS a (hp.mem_iff.mp ha) b (hp.mem_iff.mp hb) e)) ltS fun x => hp.mem_iff
    rw [e]
    exact .sub (Sub.put hn) h
theorem g_weaving_move (ds Ω P) (h : F_weaving_move ds Ω P) : m_weaving_move F_all_stores F_run_weaving Ω (startD 4 ds) (endK P) := by
  obtain ⟨W, st, row, d, rfl, wd, hst, hd, hr, h⟩ := h
  have hS := few_S wd
  unfold m_weaving_move
  walk_at "d"
  refine dcS (Ω1 := Ω) (S := W.S) (f := W.run row) (fun Q q => by walk_at "d"; exact ⟨W, rfl, wd, q⟩) (nd_S W) (by omega) (by simp) (fun s hs l ob hl R hR => ?_) (.now h)
  walk_at "d"
  exact ⟨W, st, row, s, d, rfl, wd, hst, hd, hr, (mem_S wd).mp hs, hR⟩
theorem g_moves_of (ds Ω P) (h : F_moves_of ds Ω P) : m_moves_of F_all_stores F_run_program F_weaving_move Ω (startD 8 ds) (endK P) := by
  obtain ⟨W, st, rfl, wd, hst, h⟩ := h
  have hS := few_S wd
  have hmany := wd.many
  unfold m_moves_of
  walk_at "d"
  refine ⟨W, rfl, wd, ?_⟩
  walk_at "d"
  intro l hn
  refine forR1 (Ω1 := put Ω l (.lst [])) (W.ps.length : Int) (fun P p => by walk_at "d"; exact p) (by omega) (by omega) (fun k Ω' Δ' => Ω' = put Ω l (.lst ((W.moves.take k).map (mvD W.S))) ∧ ∃ x y z, Δ' = [some W.lot, some (meanO W.m st), some (.tup []), some (.tup (W.S.map tI)), some (.ptr l), x, y, z]) ⟨rfl, _, _, _, rfl⟩ ?_ ?_
  · rintro i Ω' Δ' hi ⟨rfl, x, y, z, rfl⟩
    have hi : i < W.ps.length := by omega
    have hp : W.moves[i]? = some (W.own i) := by
      unfold Wld.moves
      rw [List.getElem?_map, List.getElem?_range hi]
      rfl
    walk_at "d"
    refine ⟨isL_p put_same, ?_⟩
    refine dcS (Ω1 := put Ω l (.lst ((W.moves.take i).map (mvD W.S)))) (S := W.S) (f := W.own i) (fun Q q => by walk_at "d"; exact q) (nd_S W) (by omega) (by simp) (fun s hs q ob hq R hR => ?_) ?_
    · walk_at "d"
      refine ⟨W, st, (i : Int), s, rfl, wd, hst, by omega, by omega, (mem_S wd).mp hs, ?_⟩
      rw [Int.toNat_natCast]
      exact hR
    · refine (app_p put_same (by rw [List.length_map, List.length_take]; omega) ?_).2
      rw [put_put, take_succ_of hp, List.map_append]
      rfl
  · rintro Ω' Δ' ⟨rfl, x, y, z, rfl⟩
    have hml : W.moves.length = W.ps.length := by unfold Wld.moves; rw [List.length_map, List.length_range]
    rw [Int.toNat_natCast, ← hml, List.take_length]
    dsimp only
    refine forT (Ω1 := put Ω l (.lst (W.moves.map (mvD W.S)))) (xs := []) (fun P p => by walk_at "d"; exact p) (fun k Ω' Δ' => Ω' = put Ω l (.lst (W.moves.map (mvD W.S))) ∧ ∃ x y z, Δ' = [some W.lot, some (meanO W.m st), some (.tup []), some (.tup (W.S.map tI)), some (.ptr l), x, y, z]) ⟨rfl, _, _, _, rfl⟩ (fun i x Ω' Δ' hi => by simp at hi) ?_
    rintro Ω' Δ' ⟨rfl, x, y, z, rfl⟩
    walk_at "d"
    exact .frz put_same (by rw [del_put hn]; exact Sub.refl _) h
end
end KG
/-! EB: L_by_size and in_rule_order. -/
namespace KG
open L2 PySem PyProof.Rows PySem.Spec
section
variable {P : Program} {w : World} {K : PySem.W.Frag} {mg : Str → Option Value} {base : Heap}
theorem g_L_by_size (ds Ω P) (h : F_L_by_size ds Ω P) : m_L_by_size Ω (startD 1 ds) (endK P) := by
  obtain ⟨L, rfl, h1, h2, h⟩ := h
  exact ⟨_, rfl, L, .inl rfl, by omega, fun R hR => by have := (h2 R hR).1; omega, .now h⟩
theorem f_L_by_size (t : Top K mg) (TB : LamX.TabB base mg 660 656) : Fn P w K mg base T0 1 "_law_by_size" F_L_by_size := by
  obtain ⟨fd, F1, hmg⟩ := t.fd 56 d_L_by_size rfl "_law_by_size" 661 (by decide +kernel) rfl
  refine ⟨661, fd, ["_law_rows"], ?_, hmg, F1.kp, F1.bindsN (by intro kV doc pm an cdv ct us hus; obtain ⟨a, rfl⟩ := List.length_eq_one_iff.mp hus; rfl)⟩
  refine fnOkL (N := N_L_by_size) (m := m_L_by_size) t F1 t.cod2 (C8.fnScope_by (by decide +kernel)) (fun ds Ω P ⟨L, e, _⟩ => by rw [e]; rfl) (fun A outer s H B E hr => ?_) g_L_by_size
  obtain ⟨params, body, scope, p, p2, lpos, kpos, pos, pos', hb, hL, hd, hc⟩ := lamK_bs
  have hN : N_L_by_size.Nodup := by decide
  rw [hb]
  exact rss_one (rs_ret (re_sortL (c := 660) (P0 := 656) hr t.n_sorted t.n_len rfl (rv 0) hL TB rfl (show (656, ("_law_by_size.<locals>." : Str) ++ "<lambda>") ∈ T0 from by decide +kernel)
    (show ∀ p ∈ T0, p.1 = 656 → p.2 = ("_law_by_size.<locals>." : Str) ++ "<lambda>" from by decide +kernel) (hd _) hc))
abbrev N_in_rule_order : List Str := ["rules", "told", "rule"]
def iroT (P : Program) (w : World) (K : PySem.W.Frag) (mg : Str → Option Value) : TS := tSeq (tAsg (fun _ H Q => ∀ p, H p = none → Q (.ref p) (upd H p (RawD P w p []))) (gName 1))
  (tSeq (tFor (iSeq K (tVar 0)) (gName 2) (tAsg (tC (.bl true)) (gSub (tVar 1) (tVar 2) (rSetR P w K)))) (tRet (tSortL K T0 (tCB (rListR P w) (tCons (tVar 1) tNil)))))
theorem ps_iro (t : Top K mg) (TB : LamX.TabB base mg 516 512) {A : Around} {outer : List Env} {s : Shared} {H : Hp} {E : XK} (hr : Room 0 (A.deeper (envOfC d_in_rule_order.qual d_in_rule_order.scope s.heap.objs.size 517 (.ref 516)))) :
    PSs (CD P w K mg base N_in_rule_order d_in_rule_order.qual d_in_rule_order.scope 517 (.ref 516) A outer s H E) d_in_rule_order.body (iroT P w K mg) := by
  have hN : N_in_rule_order.Nodup := by decide
  have hu : (CD P w K mg base N_in_rule_order d_in_rule_order.qual d_in_rule_order.scope 517 (.ref 516) A outer s H E).A.units + 9 < cLine := by
    have := hr.un
    exact (by omega : (A.deeper (envOfC d_in_rule_order.qual d_in_rule_order.scope s.heap.objs.size 517 (.ref 516))).units + 9 < cLine)
  exact pss_cons (ps_set hN rfl (.inl rfl) pe_newR) (pss_cons (ps_for .never rfl (pi_seq (pv 0)) (pg_name hN rfl (.inl rfl)) (pss_one (ps_asg pe_bl (pg_sub (pv 1) (pv 2) (set_raw hu)))))
    (pss_one (ps_ret (pe_sortLam (c := 516) (P0 := 512) hr t.n_sorted t.n_len rfl (pe_callTy (call_listR rfl) rfl t.n_list rfl (pa_cons (pv 1) pa_nil)) ⟨⟨_, _, _, _, _, _, _, rfl, rfl, by decide, fun q pm cv ctv v => by rfl⟩, rfl, rfl, rfl, by decide, by decide, rfl⟩ TB rfl
      (show (512, ("in_rule_order.<locals>." : Str) ++ "<lambda>") ∈ T0 from by decide +kernel) (show ∀ p ∈ T0, p.1 = 512 → p.2 = ("in_rule_order.<locals>." : Str) ++ "<lambda>" from by decide +kernel) rfl (fun _ => rfl)))))
theorem f_in_rule_order (t : Top K mg) (TB : LamX.TabB base mg 516 512) : Fn P w K mg base T0 1 "in_rule_order" F_in_rule_order := by
  obtain ⟨fd, F1, hmg⟩ := t.fd 32 d_in_rule_order rfl "in_rule_order" 517 (by decide +kernel) rfl
  refine ⟨517, fd, ["rules"], ?_, hmg, F1.kp, F1.bindsN (by intro kV doc pm an cdv ct us hus; obtain ⟨a, rfl⟩ := List.length_eq_one_iff.mp hus; rfl)⟩
  refine fnOkP (N := N_in_rule_order) t F1 t.cod1 (C8.fnScope_by (by decide +kernel)) (fun ds Ω P ⟨l, L, e, _⟩ => by rw [e]; rfl) (fun A outer s H G Ω ds P' vs Q E hr st r h wk => ?_)
  refine ⟨_, (ps_iro t TB hr).nox, ?_⟩
  obtain ⟨l, L, rfl, ho, ⟨hL, hR⟩, fin⟩ := h
  cases r with
  | cons rv r0 =>
  cases r0
  cases rv
  obtain ⟨xs, hxs, rxs⟩ := own_lst st ho
  have hlen : xs.length = L.length := by rw [rxs.length, List.length_map]
  intro p hp
  have hlp : l ≠ p := fun z => by rw [z, hp] at hxs; cases hxs
  have at_l : ∀ o, upd H p o l = some (.lst xs) := fun o => by rw [upd_ne hlp]; exact hxs
  refine ⟨_, rfl, l, rfl, .inl ⟨⟨xs, SqL.of (at_l _)⟩, ?_⟩⟩
  refine ⟨fun i m σ H' => m = L.length - i ∧ i ≤ L.length ∧ ∃ (M : List Rule) (as : List Addr) (x2 : Option V), σ = [some (.ref l), some (.ref p), x2] ∧ H' = upd H p (RawD P w p (XS M as)) ∧ RulesAt K G M as ∧ (∀ R ∈ M, R ∈ L) ∧ (∀ R ∈ L.take i, R ∈ M) ∧ M.length ≤ i, ⟨_, rfl, Nat.zero_le _, [], [], none, rfl, rfl, ⟨.nil, .nil⟩, (fun R hR => by cases hR), (fun R hR => by simp at hR), Nat.le_refl _⟩, ?_⟩
  rintro i m σ H' ⟨rfl, hi, M, as, x2, rfl, rfl, hM, hMs, hMt, hMl⟩
  by_cases hlt : i < L.length
  · have hx : xs[i]? = some xs[i] := List.getElem?_eq_getElem (by omega)
    have hLi : L[i]? = some L[i] := List.getElem?_eq_getElem hlt
    refine .inr ⟨⟨xs, xs[i], SqL.of (at_l _), hx⟩, fun σ' H2 => ∃ (M2 : List Rule) (as2 : List Addr) (x2 : Option V), σ' = [some (.ref l), some (.ref p), x2] ∧ H2 = upd H p (RawD P w p (XS M2 as2)) ∧ RulesAt K G M2 as2 ∧ (∀ R ∈ M2, R ∈ L) ∧ (∀ R ∈ L.take (i + 1), R ∈ M2) ∧ M2.length ≤ i + 1, ?_, ?_⟩
    · rintro σ' H2 ⟨M2, as2, y2, rfl, rfl, a1, a2, a3, a4⟩
      exact ⟨L.length - (i + 1), by omega, rfl, hlt, M2, as2, y2, rfl, rfl, a1, a2, a3, a4⟩
    · rintro x H2 ⟨rfl, hy⟩
      have ex : x = xs[i] := by
        have := hy xs (SqL.of (at_l _))
        rw [hx] at this
        exact (Option.some.inj this).symm
      subst ex
      obtain ⟨d, hd, rd⟩ := rxs.getV hx
      have ed : d = ruleD L[i] := by
        rw [List.getElem?_map, hLi] at hd
        exact (Option.some.inj hd).symm
      subst ed
      obtain ⟨a, vs, ea, _, _, _⟩ := rp_tup st.ex rd
      rw [ea] at rd ⊢
      refine ⟨_, rfl, _, rfl, p, a, M, as, L[i], G, rfl, rfl, rfl, upd_same, ?_, hM, rd, by omega, ?_⟩
      · exact (st.stray hp).ex
      · have eU : ∀ o o', upd (upd H p o) p o' = upd H p o' := fun o o' => by
          funext q
          by_cases h : q = p
          · rw [h, upd_same, upd_same]
          · rw [upd_ne h, upd_ne h, upd_ne h]
        by_cases hin : L[i] ∈ M
        · refine ⟨M, as, _, rfl, by rw [if_pos hin, eU], hM, hMs, fun R hR => ?_, by omega⟩
          rw [take_succ_of hLi] at hR
          rcases List.mem_append.mp hR with hR | hR
          · exact hMt R hR
          · rw [List.mem_singleton] at hR
            rw [hR]
            exact hin
        · refine ⟨M ++ [L[i]], as ++ [a], _, rfl, by rw [if_neg hin, eU], ⟨?_, ?_⟩, fun R hR => ?_, fun R hR => ?_, by rw [List.length_append, List.length_singleton]; omega⟩
          · exact List.nodup_append.mpr ⟨hM.1, by simp, fun b hb c hc e => by rw [List.mem_singleton] at hc; subst hc; subst e; exact hin hb⟩
          · rw [List.map_append, List.map_append]
            exact hM.2.append (.cons rd .nil)
          · rcases List.mem_append.mp hR with hR | hR
            · exact hMs R hR
            · rw [List.mem_singleton] at hR
              rw [hR]
              exact List.getElem_mem hlt
          · rw [take_succ_of hLi] at hR
            rcases List.mem_append.mp hR with hR | hR
            · exact List.mem_append.mpr (.inl (hMt R hR))
            · exact List.mem_append.mpr (.inr hR)
  · have ei : i = L.length := by omega
    refine .inl ⟨⟨xs, SqL.of (at_l _), by omega⟩, ?_⟩
    have s1 : Sat K T0 G G (upd H p (RawD P w p (XS M as))) Ω := st.stray hp
    refine ⟨_, rfl, p, M, as, rfl, upd_same, hM.len, by omega, fun q hq => ?_⟩
    have s2 : Sat K T0 G G (upd (upd H p (RawD P w p (XS M as))) q (.lst (as.map V.ref))) Ω := s1.stray hq
    refine ⟨q, as.map V.ref, M, strip G, rfl, SqL.of upd_same, fun a o e => ⟨s2.ex _ _ (strip_of e).1, (strip_of e).2⟩, hM.2.strip, by omega, fun R hR' => by have := (hR R (hMs R hR')).1; omega, s2.tab, fun H2 q2 zs eN T2 hq2 rz => ?_⟩
    obtain ⟨s4, l4⟩ := s2.grow eN T2
    refine (wk.le l4).lst s4 rz (fin _ (ruleSort_pw hM.1) fun x => ?_) hq2
    rw [(ruleSort_perm M).mem_iff]
    refine ⟨hMs x, fun hx => hMt x ?_⟩
    rw [ei, List.take_length]
    exact hx
end
end KG
/-! EC: NotKept's maker, walked. -/
namespace KG
open L2 PySem PyProof.Rows PySem.Spec
section
variable {P : Program} {w : World} {K : PySem.W.Frag} {mg : Str → Option Value} {base : Heap}
abbrev N_nk : List Str := ["self", "program", "store"]
theorem f_NK (t : Top K mg) : FnNK P w K mg base := by
  obtain ⟨fd, F1⟩ := t.fns 69 d_NotKept_init rfl
  have F1 : FunD K "__init__" "NotKept.__init__" d_NotKept_init.params d_NotKept_init.body d_NotKept_init.scope [] (d_NotKept_init.kws K) 181 fd := F1
  refine ⟨fd, F1.ok (N := N_nk) (C8.fnScope_by (by decide +kernel)) (fun vs H Q E ⟨a, y1, y2, e, _⟩ => by rw [e]; rfl) (fun cdv A outer s H vs Q E hr h => ?_), F1.bindsN (by intro kV doc pm an cdv ct us hus; match us, hus with | [_, _, _], _ => rfl)⟩
  refine ⟨_, pss_cons (ps_expr (pe_geinit t rfl (pa_cons (pv 0) (pa_cons pe_str pa_nil)))) (pss_cons (ps_ost (f := "program") (pv 0) (pv 1)) (pss_one (ps_ost (f := "store") (pv 0) (pv 2)))), ?_⟩
  obtain ⟨a, y1, y2, rfl, ha, q⟩ := h
  refine ⟨_, rfl, a, 184, [.str _], rfl, by decide, t.oex, ha, ?_⟩
  refine ⟨_, rfl, _, rfl, a, 184, rfl, t.oex, t.no_program, .inl ⟨ha, fun d hd hne => ?_⟩⟩
  refine ⟨_, rfl, _, rfl, a, 184, rfl, t.oex, t.no_store, .inr ⟨d, [("program", y1)], upd_same, ?_, by simp, q d hd hne⟩⟩
  rw [upd_ne hne, upd_same]
end
end KG
namespace KG
open L2 PySem PyProof.Rows PySem.Spec
local macro_rules | `(tactic| walk_at "d") => `(tactic| first | simp only [startD, endK, List.map_cons, List.map_nil, List.length_cons, List.length_nil, List.replicate, List.cons_append, List.nil_append, Nat.reduceAdd, Nat.reduceSub, Nat.zero_add, Nat.add_zero, Nat.reduceLeDiff,
  mCntF, mSetF, mSetd, mSeq, mAsg, mDrop, mRet, mRetN, mIfS, mCont, mNext, mNever, gN, gNil_eq, gCons_eq, gT_t, gT_l, gSet, mAsgG, mVar, slot, mC, mOp, mUn, mNil, mCons, mTup, mLst, mLstO, mCB, mIf, mB, mAnd, mOr, mNot, mOrV, mNotV, mYes, mNewK, mNewT, mBM, mTuF,
  wInt2, wIs, wIsN, wNeg, wInt, wAbs, mFld, Ob.d, isi_ii, isi_ib, isi_ss, isiS_t, isiS_f, isiS_l, len_t, len_f, len_l, len_q, tuple_t, tuple_f, tuple_l, eq_ii, ne_ii, eq_ss, ne_ss, add_ii, add_tt, add_ll, mul_ii, in_t, in_l, in_il, fld_cells, fld_programs, fld_modulus, fld_tables, mMeth, meth_mean, List.length_map,
  List.set_cons_zero, List.set_cons_succ, List.getElem?_cons_zero, List.getElem?_cons_succ, Option.some.injEq, exists_eq_left', exists_eq_left, exists_eq', exists_eq, D.int.injEq, D.bl.injEq, D.str.injEq, D.tup.injEq, D.lst.injEq, D.ptr.injEq, D.ty.injEq, List.cons.injEq, and_true, true_and, reduceCtorEq, false_or, or_false, false_and, and_false, exists_false, or_self,
  exists_and_left, exists_and_right, exists_const, ne_eq, not_true_eq_false, not_false_eq_true, decide_true, decide_false, Bool.false_eq_true, Bool.true_eq_false, false_implies, true_implies, forall_const, implies_true, Bool.not_true, Bool.not_false, Bool.not_eq_true', Bool.not_eq_true, Bool.not_eq_false', decide_eq_true_eq, decide_eq_false_iff_not, put_same, del_same, forall_eq', forall_eq, forall_apply_eq_imp_iff] | (try dsimp only))
/-! G32: the weaving that runs nothing between; the meaning told; kept or refused; the right fault. -/
section
theorem fin_bl {P : DK} {b : Bool} {Ω : Om} (h : ∀ b : Bool, P (.bl b) Ω) : Fin P (.bl b) Ω := .now (h b)
theorem g_L_unwoven (ds Ω P) (h : F_L_unwoven ds Ω P) : m_L_unwoven Ω (startD 2 ds) (endK P) := by
  obtain ⟨row, rfl, hl, h⟩ := h
  unfold m_L_unwoven
  walk_at "d"
  refine lcWF (Ω1 := Ω) (src_r2 1 (row.length : Int) (fun P p => by walk_at "d"; exact p) (by omega) (by omega)) (by omega) (fun _ _ Ω' => Ω' = Ω) rfl (fun _ _ _ _ _ _ _ => trivial) ?_ ?_
  · rintro l i acc Ω' hl1 hl2 hi ha rfl
    have hi : i + 1 < row.length := by omega
    have e1 : atI (row.map D.int) (1 + (i : Int)) = some (.int row[i + 1]) := by
      rw [show (1 + (i : Int)) = ((i + 1 : Nat) : Int) by omega]
      exact atI_nat (by rw [List.getElem?_map, List.getElem?_eq_getElem hi]; rfl)
    have e2 : atI (row.map D.int) (1 + (i : Int) - 1) = some (.int row[i]) := by
      rw [show (1 + (i : Int) - 1) = ((i : Nat) : Int) by omega]
      exact atI_nat (by rw [List.getElem?_map, List.getElem?_eq_getElem (show i < row.length by omega)]; rfl)
    unfold lcT
    walk_at "d"
    rw [ix_t e1]
    walk_at "d"
    rw [ix_t e2]
    walk_at "d"
    exact ⟨fun _ => nextW_some hl2 ha (by omega) rfl, fun _ => nextW_none hl2 ha rfl⟩
  · rintro acc Ω' ha rfl
    walk_at "d"
    unfold mLenSet
    walk_at "d"
    refine ⟨row, rfl, by omega, fun c => ?_⟩
    walk_at "d"
    exact .now (h _)
def F_L_told_meaning : FD := fun ds Ω P => ∃ (m : Int) (tb : List (Int × List Int)), ds = [.int m, tabsD tb] ∧ 2 ≤ m ∧ m ≤ 3 ∧ TbOk m tb ∧ (tb.map (·.1)).Nodup ∧ tb.length ≤ 20 ∧ ∀ st : List (Int × List Int), st.Perm tb → P (meanO m st) Ω
theorem g_L_told_meaning (ds Ω P) (h : F_L_told_meaning ds Ω P) : m_L_told_meaning F_Meaning_init Ω (startD 3 ds) (endK P) := by
  obtain ⟨m, tb, rfl, m0, m1, ok, nd, hl, h⟩ := h
  unfold m_L_told_meaning mMake mPairs
  walk_at "d"
  refine ⟨_, rfl, by rw [List.length_map]; omega, ?_, fun x dx hx => ?_⟩
  · rw [List.map_map]
    exact List.pairwise_map.mpr ((List.pairwise_map.mp nd).imp fun h e => h (Sum.inl.inj e))
  · rw [List.map_map]
    refine ⟨x, dx, m, tb, rfl, put_same, m0, m1, ok, fun st hst => ⟨rfl, ?_⟩⟩
    rw [put_put]
    exact .frz put_same (by rw [del_put hx]; exact Sub.refl _) (h st hst)
def F_check_kept : FDX := fun ds Ω P R => ∃ (W : Wld) (st : List (Int × List Int)) (L : Rule), ds = [W.lot, meanO W.m st, ruleD L] ∧ Wd W ∧ st.Perm W.tb ∧ L.Sublist W.S ∧ (leave W.moves L = none → P .non Ω) ∧ ∀ i s, leave W.moves L = some (i, s) → R (.int i) (tI s) Ω
theorem g_check_kept (ds Ω P R) (h : F_check_kept ds Ω P R) : m_check_kept F_moves_of F_first_leaving (FinX R) Ω (startD 4 ds) (endK P) := by
  obtain ⟨W, st, L, rfl, wd, hst, hL, h1, h2⟩ := h
  have hm := few_moves wd
  unfold m_check_kept mRaise
  walk_at "d"
  refine ⟨W, st, rfl, wd, hst, ?_⟩
  walk_at "d"
  refine ⟨W.S, W.moves, L, _, rfl, .inl rfl, by omega, fun s hs => hL.subset hs, ?_⟩
  cases e : leave W.moves L with
  | none =>
    unfold leaveD
    walk_at "d"
    exact .now (h1 e)
  | some q =>
    obtain ⟨i, s⟩ := q
    unfold leaveD
    walk_at "d"
    rw [ix_t (show atI [D.int i, tI s] 0 = some (.int i) from rfl)]
    walk_at "d"
    rw [ix_t (show atI [D.int i, tI s] 1 = some (tI s) from rfl)]
    exact ⟨_, Sub.refl _, h2 i s e⟩
def F_right_fault : FDX := fun ds Ω P R => ∃ (W : Wld) (st : List (Int × List Int)) (L : Rule) (row : List Int) (d dw : D), ds = [W.lot, meanO W.m st, d, dw] ∧ Wd W ∧ st.Perm W.tb ∧ (d = ruleD L ∨ d = .lst (L.map tI)) ∧ L.Sublist W.S ∧ std dw (row.map .int) ∧ WeavOk W row ∧
  (leave W.moves L = none → P (optT (leave1 (W.run row) L)) Ω) ∧ ∀ i s, leave W.moves L = some (i, s) → R (.int i) (tI s) Ω
theorem leave_one (f : Mv) (L : Rule) : leave [f] L = (leave1 f L).map fun s => (0, s) := by
  unfold leave
  simp [List.range_succ]
theorem g_right_fault (ds Ω P R) (h : F_right_fault ds Ω P R) : m_right_fault F_check_stores F_check_weaving F_check_kept F_weaving_move F_first_leaving (FinX R) Ω (startD 7 ds) (endK P) := by
  obtain ⟨W, st, L, row, d, dw, rfl, wd, hst, hd, hL, hdw, hw, h1, h2⟩ := h
  have hm := few_moves wd
  unfold m_right_fault mCX
  walk_at "d"
  refine ⟨W, st, L, d, rfl, wd, hst, hd, hL, ?_⟩
  walk_at "d"
  refine ⟨W, dw, row, rfl, wd, hdw, hw, fun d' hd' => ?_⟩
  walk_at "d"
  refine ⟨W, st, L, rfl, wd, hst, hL, fun e => ?_, fun i s e => ⟨_, Sub.refl _, h2 i s e⟩⟩
  have h1 := h1 e
  walk_at "d"
  refine ⟨W, st, row, d', rfl, wd, hst, hd', hw, ?_⟩
  walk_at "d"
  refine ⟨W.S, [W.run row], L, _, rfl, .inl rfl, by simp, fun s hs => hL.subset hs, ?_⟩
  rw [leave_one]
  cases e2 : leave1 (W.run row) L with
  | none =>
    rw [e2] at h1
    rw [show leaveD (Option.map (fun s => (0, s)) (none : Option (List Int))) = .non from rfl]
    walk_at "d"
    exact .now h1
  | some s =>
    rw [e2] at h1
    rw [show leaveD (Option.map (fun s => (0, s)) (some s)) = .tup [.int 0, tI s] from rfl]
    walk_at "d"
    rw [ix_t (show atI [D.int 0, tI s] 1 = some (tI s) from rfl)]
    exact .now h1
end
end KG
namespace KG
open L2 PySem PyProof.Rows PySem.Spec
local macro_rules | `(tactic| walk_at "d") => `(tactic| first | simp only [startD, endK, List.map_cons, List.map_nil, List.length_cons, List.length_nil, List.replicate, List.cons_append, List.nil_append, Nat.reduceAdd, Nat.reduceSub, Nat.zero_add, Nat.add_zero, Nat.reduceLeDiff,
  mCntF, mSetF, mSetd, mSeq, mAsg, mDrop, mRet, mRetN, mIfS, mCont, mNext, mNever, gN, gNil_eq, gCons_eq, gT_t, gT_l, gSet, mAsgG, mVar, slot, mC, mOp, mUn, mNil, mCons, mTup, mLst, mLstO, mCB, mIf, mB, mAnd, mOr, mNot, mOrV, mNotV, mYes, mNewK, mNewT, mBM, mTuF,
  wInt2, wIs, wIsN, wNeg, wInt, wAbs, mFld, Ob.d, isi_ii, isi_ib, isi_ss, isiS_t, isiS_f, isiS_l, len_t, len_f, len_l, len_q, tuple_t, tuple_f, tuple_l, eq_ii, ne_ii, eq_ss, ne_ss, add_ii, add_tt, add_ll, mul_ii, in_t, in_l, in_il, fld_cells, fld_programs, fld_modulus, fld_tables, mMeth, meth_mean, List.length_map,
  List.set_cons_zero, List.set_cons_succ, List.getElem?_cons_zero, List.getElem?_cons_succ, Option.some.injEq, exists_eq_left', exists_eq_left, exists_eq', exists_eq, D.int.injEq, D.bl.injEq, D.str.injEq, D.tup.injEq, D.lst.injEq, D.ptr.injEq, D.ty.injEq, List.cons.injEq, and_true, true_and, reduceCtorEq, false_or, or_false, false_and, and_false, exists_false, or_self,
  exists_and_left, exists_and_right, exists_const, ne_eq, not_true_eq_false, not_false_eq_true, decide_true, decide_false, Bool.false_eq_true, Bool.true_eq_false, false_implies, true_implies, forall_const, implies_true, Bool.not_true, Bool.not_false, Bool.not_eq_true', Bool.not_eq_true, Bool.not_eq_false', decide_eq_true_eq, decide_eq_false_iff_not, put_same, del_same, forall_eq', forall_eq, forall_apply_eq_imp_iff] | (try dsimp only))
/-! G33: what repr asks. -/
section
structure Rpb (d : D) (n e : Nat) : Prop where
  plain : plainD d = true
  sh : (toPy d).showable = true
  hd : (toPy d).hasDict = false
  dp : (toPy d).depth ≤ e
  len : (toPy d).shown.length ≤ n
theorem rpb_non : Rpb .non 4 0 := ⟨by decide +kernel, by decide +kernel, by decide +kernel, by decide +kernel, by decide +kernel⟩
theorem rpb_int {i : Int} (h0 : 0 ≤ i) (h1 : i < 4) : Rpb (.int i) 8 0 := by
  have h : i = 0 ∨ i = 1 ∨ i = 2 ∨ i = 3 := by omega
  rcases h with rfl | rfl | rfl | rfl <;> exact ⟨by decide +kernel, by decide +kernel, by decide +kernel, by decide +kernel, by decide +kernel⟩
theorem rpb_let : Rpb (.str "let") 8 0 := ⟨by decide +kernel, by decide +kernel, by decide +kernel, by decide +kernel, by decide +kernel⟩
theorem rpb_kept : Rpb (.str "kept") 8 0 := ⟨by decide +kernel, by decide +kernel, by decide +kernel, by decide +kernel, by decide +kernel⟩
theorem Rpb.mono {d : D} {n m e f : Nat} (h : Rpb d n e) (h1 : n ≤ m) (h2 : e ≤ f) : Rpb d m f := ⟨h.plain, h.sh, h.hd, Nat.le_trans h.dp h2, Nat.le_trans h.len h1⟩
theorem rpb_all {n e : Nat} : ∀ {xs : List D}, (∀ x ∈ xs, Rpb x n e) → plainDs xs = true ∧ PyData.showableAll (toPys xs) = true ∧ PyData.hasDictAll (toPys xs) = false ∧ PyData.depthAll (toPys xs) ≤ e ∧ ((PyData.shownAll (toPys xs)).map (·.length)).sum ≤ n * xs.length ∧ (PyData.shownAll (toPys xs)).length = xs.length
  | [], _ => by
    unfold toPys plainDs
    simp [PyData.showableAll, PyData.hasDictAll, PyData.depthAll, PyData.shownAll]
  | x :: xs, h => by
    obtain ⟨a1, a2, a3, a4, a5, a6⟩ := rpb_all (xs := xs) fun y hy => h y (List.mem_cons_of_mem _ hy)
    have b := h x List.mem_cons_self
    unfold toPys plainDs
    refine ⟨by rw [b.plain, a1]; rfl, by unfold PyData.showableAll; rw [b.sh, a2]; rfl, by unfold PyData.hasDictAll; rw [b.hd, a3]; rfl, by unfold PyData.depthAll; exact Nat.max_le.mpr ⟨b.dp, a4⟩, ?_, ?_⟩
    · unfold PyData.shownAll
      rw [List.map_cons, List.sum_cons, List.length_cons, Nat.mul_succ]
      have := b.len
      omega
    · unfold PyData.shownAll
      rw [List.length_cons, List.length_cons, a6]
theorem rpb_tup {n e k : Nat} {xs : List D} (h : ∀ x ∈ xs, Rpb x n e) (hk : xs.length ≤ k) : Rpb (.tup xs) ((n + 2) * k + 3) (e + 1) := by
  obtain ⟨a1, a2, a3, a4, a5, a6⟩ := rpb_all h
  have hm : (n + 2) * xs.length ≤ (n + 2) * k := Nat.mul_le_mul_left _ hk
  have e1 : (n + 2) * xs.length = n * xs.length + 2 * xs.length := Nat.add_mul ..
  refine ⟨by unfold plainD; exact a1, by unfold toPy PyData.showable; exact a2, by unfold toPy PyData.hasDict; exact a3, by unfold toPy PyData.depth; omega, ?_⟩
  unfold toPy PyData.shown
  refine Nat.le_trans (tupleText_len_le _) ?_
  rw [a6]
  omega
theorem rpb_lst {n e k : Nat} {xs : List D} (h : ∀ x ∈ xs, Rpb x n e) (hk : xs.length ≤ k) : Rpb (.lst xs) ((n + 2) * k + 3) (e + 1) := by
  obtain ⟨a1, a2, a3, a4, a5, a6⟩ := rpb_all h
  have hm : (n + 2) * xs.length ≤ (n + 2) * k := Nat.mul_le_mul_left _ hk
  have e1 : (n + 2) * xs.length = n * xs.length + 2 * xs.length := Nat.add_mul ..
  refine ⟨by unfold plainD; exact a1, by unfold toPy PyData.showable; exact a2, by unfold toPy PyData.hasDict; exact a3, by unfold toPy PyData.depth; omega, ?_⟩
  unfold toPy PyData.shown
  refine Nat.le_trans (listText_len_le _) ?_
  rw [a6]
  omega
theorem rep {d : D} {n e : Nat} {Ω : Om} {P : DK} (h : Rpb d n e) (he : e ≤ 100) (hn : n ≤ 1000000) (hk : d = .non ∨ (∃ xs, d = .tup xs) ∨ ∃ xs, d = .lst xs) (p : P (.str (toPy d).shown) Ω) : wRepr [d] Ω P :=
  ⟨d, rfl, h.plain, hk, h.sh, h.hd, Nat.le_trans h.dp he, Nat.le_trans h.len (Nat.le_trans hn (by decide)), p⟩
theorem rpb_store {W : Wld} (wd : Wd W) {s : List Int} (hs : s ∈ W.S) : Rpb (tI s) 33 1 := by
  have h := (mem_S wd).mp hs
  have hc := wd.c
  have hm := wd.m
  refine rpb_tup (n := 8) (e := 0) (k := 3) (fun x hx => ?_) (by rw [List.length_map]; have := h.1; omega)
  obtain ⟨w, hw, rfl⟩ := List.mem_map.mp hx
  have := h.2 w hw
  exact rpb_int (by omega) (by omega)
theorem rpb_rule {W : Wld} (wd : Wd W) {R : Rule} (hR : R.Sublist W.S) : Rpb (ruleD R) 318 2 := by
  refine rpb_tup (n := 33) (e := 1) (k := 9) (fun x hx => ?_) (by rw [List.length_map]; have := hR.length_le; have := few_S wd; omega)
  obtain ⟨s, hs, rfl⟩ := List.mem_map.mp hx
  exact rpb_store wd (hR.subset hs)
theorem rpb_rules {W : Wld} (wd : Wd W) {L : List Rule} (hL : ∀ R ∈ L, R.Sublist W.S) (hl : L.length ≤ 600) : Rpb (.tup (L.map ruleD)) 192003 3 := by
  refine rpb_tup (n := 318) (e := 2) (k := 600) (fun x hx => ?_) (by rw [List.length_map]; omega)
  obtain ⟨R, hR, rfl⟩ := List.mem_map.mp hx
  exact rpb_rule wd (hL R hR)
theorem rpb_opt {W : Wld} (wd : Wd W) {o : Option (List Int)} (h : ∀ s, o = some s → s ∈ W.S) : Rpb (optT o) 33 1 := by
  cases o with
  | none => exact rpb_non.mono (by omega) (by omega)
  | some s => exact rpb_store wd (h s rfl)
theorem optT_kind (o : Option (List Int)) : optT o = .non ∨ (∃ xs, optT o = .tup xs) ∨ ∃ xs, optT o = .lst xs := by
  cases o with
  | none => exact .inl rfl
  | some s => exact .inr (.inl ⟨_, rfl⟩)
theorem leave1_mem {f : Mv} {R : Rule} {s : List Int} (h : leave1 f R = some s) : s ∈ R := List.mem_of_find?_eq_some h
theorem leave_mem {fs : List Mv} {R : Rule} {i : Nat} {s : List Int} (h : leave fs R = some (i, s)) : i < fs.length ∧ s ∈ R := by
  unfold leave at h
  obtain ⟨j, hj, e⟩ := List.exists_of_findSome?_eq_some h
  cases e1 : leave1 (fs.getD j id) R with
  | none => rw [e1] at e; cases e
  | some t =>
    rw [e1] at e
    cases e
    exact ⟨List.mem_range.mp hj, leave1_mem e1⟩
theorem leave_kept {fs : List Mv} {R : Rule} (h : Kept fs R) : leave fs R = none := leave_none fun k hk => leave1_none fun s hs => by
  have e : fs.getD k id = fs[k] := by rw [List.getD_eq_getElem?_getD, List.getElem?_eq_getElem hk]; rfl
  rw [e]
  exact h _ (List.getElem_mem hk) s hs
end
end KG
namespace KG
open L2 PySem PyProof.Rows PySem.Spec
local macro_rules | `(tactic| walk_at "d") => `(tactic| first | simp only [startD, endK, List.map_cons, List.map_nil, List.length_cons, List.length_nil, List.replicate, List.cons_append, List.nil_append, Nat.reduceAdd, Nat.reduceSub, Nat.zero_add, Nat.add_zero, Nat.reduceLeDiff,
  mCntF, mSetF, mSetd, mSeq, mAsg, mDrop, mRet, mRetN, mIfS, mCont, mNext, mNever, gN, gNil_eq, gCons_eq, gT_t, gT_l, gSet, mAsgG, mVar, slot, mC, mOp, mUn, mNil, mCons, mTup, mLst, mLstO, mCB, mIf, mB, mAnd, mOr, mNot, mOrV, mNotV, mYes, mNewK, mNewT, mBM, mTuF,
  wInt2, wIs, wIsN, wNeg, wInt, wAbs, mFld, Ob.d, isi_ii, isi_ib, isi_ss, isiS_t, isiS_f, isiS_l, len_t, len_f, len_l, len_q, tuple_t, tuple_f, tuple_l, eq_ii, ne_ii, eq_ss, ne_ss, add_ii, add_tt, add_ll, mul_ii, in_t, in_l, in_il, fld_cells, fld_programs, fld_modulus, fld_tables, mMeth, meth_mean, List.length_map,
  List.set_cons_zero, List.set_cons_succ, List.getElem?_cons_zero, List.getElem?_cons_succ, Option.some.injEq, exists_eq_left', exists_eq_left, exists_eq', exists_eq, D.int.injEq, D.bl.injEq, D.str.injEq, D.tup.injEq, D.lst.injEq, D.ptr.injEq, D.ty.injEq, List.cons.injEq, and_true, true_and, reduceCtorEq, false_or, or_false, false_and, and_false, exists_false, or_self,
  exists_and_left, exists_and_right, exists_const, ne_eq, not_true_eq_false, not_false_eq_true, decide_true, decide_false, Bool.false_eq_true, Bool.true_eq_false, false_implies, true_implies, forall_const, implies_true, Bool.not_true, Bool.not_false, Bool.not_eq_true', Bool.not_eq_true, Bool.not_eq_false', decide_eq_true_eq, decide_eq_false_iff_not, put_same, del_same, forall_eq', forall_eq, forall_apply_eq_imp_iff] | (try dsimp only))
/-! G34: the law's check of the least broken rules. -/
section
theorem keptL_len {W : Wld} (wd : Wd W) : (keptL W).length ≤ 512 := by
  unfold keptL
  refine Nat.le_trans (List.length_filter_le _ _) ?_
  rw [(ruleSort_perm _).length_eq]
  unfold subs
  rw [len_subs]
  have := Nat.pow_le_pow_right (n := 2) (by omega) (few_S wd)
  simpa using this
theorem keptL_pos {W : Wld} : 0 < (keptL W).length := List.length_pos_of_mem (mem_keptL.mpr ⟨List.nil_sublist _, fun f _ s hs => by cases hs⟩ : ([] : Rule) ∈ keptL W)
theorem brokenL_len {W : Wld} {row : List Int} (wd : Wd W) : (brokenL W row).length ≤ 512 := by
  unfold brokenL
  exact Nat.le_trans (List.length_filter_le _ _) (keptL_len wd)
theorem greedy_mem {W : Wld} (wd : Wd W) {row : List Int} {x : Rule} (h : x ∈ greedy (brokenL W row)) : x ∈ brokenL W row := by
  have gL := greedy_min (pw_brokenL W row) fun Q hQ R hR => sub_lt wd (mem_brokenL.mp hQ).1 (mem_brokenL.mp hR).1
  exact ((gL.1 x).mp h).1
theorem broken_kept {W : Wld} {row : List Int} {R : Rule} (h : R ∈ brokenL W row) : R ∈ keptL W := by
  have h := mem_brokenL.mp h
  exact mem_keptL.mpr ⟨h.1, h.2.1⟩
theorem pick {L : List Rule} {q : Int} (q0 : 0 ≤ q) (q1 : q < L.length) : ∃ R ∈ L, atI (L.map ruleD) q = some (ruleD R) := by
  have hq : q.toNat < L.length := by omega
  refine ⟨L[q.toNat], List.getElem_mem hq, ?_⟩
  have e : q = ((q.toNat : Nat) : Int) := by omega
  have := atI_nat (xs := L.map ruleD) (i := q.toNat) (x := ruleD L[q.toNat]) (by rw [List.getElem?_map, List.getElem?_eq_getElem hq]; rfl)
  rw [← e] at this
  exact this
def F_L_broken : FD := fun ds Ω P => ∃ (h : Addr) (o : Ob) (W : Wld) (st : List (Int × List Int)) (row : List Int) (dw : D), ds = [.ptr h, W.here, .int W.m, tabsD W.tb, .lst ((keptL W).map ruleD), W.lot, meanO W.m st, dw] ∧ Ω h = some o ∧ HandO o ∧ Wd W ∧ st.Perm W.tb ∧ std dw (row.map .int) ∧ WeavOk W row ∧
  ∀ o', HandO o' → P (.bl true) (put Ω h o')
def drW (Ω : Om) (h : Addr) (Kt : List Rule) : Nat → List D → Om → Prop := fun i acc Ω' => ∃ (o : Ob) (Rs : List Rule), Ω' = put Ω h o ∧ HandO o ∧ acc = Rs.map ruleD ∧ Rs.length ≤ i ∧ ∀ R ∈ Rs, R ∈ Kt
theorem g_L_broken (ds Ω P) (h : F_L_broken ds Ω P) : m_L_broken F_L_move F_L_stays F_L_least_among F_L_take F_least_broken F_L_leaves F_right_fault Ω (startD 17 ds) (endK P) := by
  obtain ⟨a, o, W, st, row, dw, rfl, ho, hO, wd, hst, hdw, hw, h⟩ := h
  have hK := keptL_len wd
  have hB := brokenL_len (row := row) wd
  have hG := len_greedy (brokenL W row)
  have hS := few_S wd
  have kS : ∀ R ∈ keptL W, R.Sublist W.S ∧ Kept W.moves R := fun R hR => mem_keptL.mp hR
  unfold m_L_broken mCX
  walk_at "d"
  refine ⟨W, row, dw, rfl, wd, hdw, row_weav hw, ?_⟩
  walk_at "d"
  refine lcFil (xs := keptL W) (it := ruleD) (e := ruleD) (p := fun R => !decide (Kept [W.run row] R)) (Ω1 := Ω) (src_s (d := .lst ((keptL W).map ruleD)) (fun P p => by walk_at "d"; exact p) (.inr (.inr (.inl rfl)))) (by omega) (fun _ _ _ => keep_lst) ?_ ?_
  · intro q acc R hRm hq Rr hRr
    unfold lcT
    walk_at "d"
    refine ⟨W.S, [W.run row], R, rfl, fun s hs => (kS R hRm).1.subset hs, ?_⟩
    walk_at "d"
    by_cases hs : Kept [W.run row] R
    · rw [decide_eq_true hs, if_neg (by simp)] at hRr
      exact ⟨fun z => absurd hs z, fun _ => hRr⟩
    · rw [decide_eq_false hs, if_pos (by simp)] at hRr
      exact ⟨fun _ => hRr, fun z => absurd z hs⟩
  rw [show (keptL W).filter (fun R => !decide (Kept [W.run row] R)) = brokenL W row from rfl]
  walk_at "d"
  refine ⟨brokenL W row, rfl, by omega, ?_⟩
  walk_at "d"
  refine ⟨a, 2, o, rfl, by omega, by omega, ho, hO, fun o1 r1 h1 _ _ => ?_⟩
  walk_at "d"
  refine ⟨fun _ => list_d hdw ?_, fun _ => ?_⟩
  · obtain ⟨d2, hd2, e⟩ : ∃ d2, std d2 (row.map D.int) ∧ d2 = D.lst (row.map D.int) := ⟨_, .inr (.inr rfl), rfl⟩
    rw [← e]
    clear e
    refine ⟨W, st, row, d2, rfl, wd, hst, hd2, hw, fun M pw hM => ?_⟩
    rw [least_same wd pw hM]
    have rr := rpb_rules wd (L := greedy (brokenL W row)) (fun R hR => (kS R (broken_kept (greedy_mem wd hR))).1) (by omega)
    walk_at "d"
    refine rep rr (by omega) (by omega) (.inr (.inl ⟨_, rfl⟩)) ?_
    walk_at "d"
    refine rep rr (by omega) (by omega) (.inr (.inl ⟨_, rfl⟩)) ?_
    walk_at "d"
    refine lcWF (Ω1 := put Ω a o1) (src_r1 3 (fun P p => by walk_at "d"; exact p) (by omega) (by omega)) (by omega) (drW Ω a (keptL W)) ⟨o1, [], rfl, h1, rfl, by simp, by simp⟩ (fun _ _ _ _ _ _ _ => trivial) ?_ ?_
    · rintro l i acc Ω' hl1 hl2 hi ha ⟨o2, Rs, rfl, h2, rfl, hr1, hr2⟩
      obtain ⟨hla, hla2⟩ := put_none.mp hl2
      have hp := keptL_pos (W := W)
      refine lcT_mono_true (R' := nextW (drW Ω a (keptL W)) l i) ?_
      walk_at "d"
      refine ⟨a, (keptL W).length, o2, rfl, by omega, by omega, by rw [put_ne (Ne.symm hla)]; exact put_same, h2, fun o3 q h3 q0 q1 => ?_⟩
      obtain ⟨Rq, hRq, e1⟩ := pick q0 q1
      try dsimp only
      rw [ix_l e1, put_comm hla, put_put]
      refine nextW_some (put_none.mpr ⟨hla, hla2⟩) ha (by omega) ⟨o3, Rs ++ [Rq], rfl, h3, by rw [List.map_append]; rfl, by rw [List.length_append, List.length_singleton]; omega, fun R hR => ?_⟩
      rcases List.mem_append.mp hR with hR | hR
      · exact hr2 R hR
      · rw [List.mem_singleton] at hR
        rw [hR]
        exact hRq
    rintro acc Ω' ha ⟨o2, Rs, rfl, h2, rfl, hr1, hr2⟩
    walk_at "d"
    refine ⟨_, _, rfl, rfl, by rw [List.length_map, List.length_map]; omega, fun l hl => ?_⟩
    obtain ⟨hla, hln⟩ := put_none.mp hl
    rw [← List.map_append]
    have hk2 : ∀ R ∈ greedy (brokenL W row) ++ Rs, R ∈ keptL W := fun R hR => by
      rcases List.mem_append.mp hR with hR | hR
      · exact broken_kept (greedy_mem wd hR)
      · exact hr2 R hR
    have hl2 : (greedy (brokenL W row) ++ Rs).length ≤ 1000 := by rw [List.length_append]; omega
    generalize greedy (brokenL W row) ++ Rs = L2 at hk2 hl2
    walk_at "d"
    refine (fun (loop : ∀ (o3 : Ob) (L : List Rule), HandO o3 → (∀ R ∈ L, R ∈ keptL W) → L.length ≤ 1200 → mForI _ _ _ (put (put Ω a o3) l (.lst (L.map ruleD))) _ _) => ⟨fun hp => ?_, fun _ => loop o2 L2 h2 hk2 (by omega)⟩) ?_
    · intro o3 L h3 hL hLl
      refine forS (d := .ptr l) (xs := L.map ruleD) (Ω1 := put (put Ω a o3) l (.lst (L.map ruleD))) (fun P p => by walk_at "d"; exact p) (.inr (.inr (.inr (.inr ⟨l, rfl, put_same⟩)))) (fun k Ω' Δ' => Ω' = put (put Ω a o3) l (.lst (L.map ruleD)) ∧ ∃ x7 x13 x14 x15 x16, Δ' = [some (.ptr a), some W.here, some (.int W.m), some (tabsD W.tb), some (.lst ((keptL W).map ruleD)), some W.lot, some (meanO W.m st), x7, some (mvD W.S (W.run row)), some (.lst ((brokenL W row).map ruleD)), some (.lst ((greedy (brokenL W row)).map ruleD)), some d2, some (.ptr l), x13, x14, x15, x16]) ⟨rfl, _, _, _, _, _, rfl⟩ (fun _ _ _ _ ⟨e, _⟩ => by rw [e]; exact keep_ptr put_same) ?_ ?_
      · rintro k x Ω' Δ' hk ⟨rfl, x7, x13, x14, x15, x16, rfl⟩
        obtain ⟨R, hR, rfl⟩ := get_map hk
        have hRk := hL R (List.mem_of_getElem? hR)
        obtain ⟨hRs, hRkept⟩ := kS R hRk
        have rf : ∀ (Ω : Om) (P : DK), P (optT (leave1 (W.run row) R)) Ω → F_right_fault [W.lot, meanO W.m st, ruleD R, d2] Ω P (fun _ _ _ => False) := fun Ω P p => ⟨W, st, R, row, _, d2, rfl, wd, hst, .inl rfl, hRs, hd2, hw, fun _ => p, fun i s e => by rw [leave_kept hRkept] at e; cases e⟩
        have ro := rpb_opt wd (o := leave1 (W.run row) R) fun s hs => hRs.subset (leave1_mem hs)
        have ko := optT_kind (leave1 (W.run row) R)
        walk_at "d"
        refine ⟨W.S, [W.run row], R, _, rfl, .inl rfl, by simp, fun s hs => hRs.subset hs, ?_⟩
        rw [leave_one]
        cases e : leave1 (W.run row) R with
        | none =>
          rw [e] at rf ro ko
          rw [show leaveD (Option.map (fun s => (0, s)) (none : Option (List Int))) = .non from rfl]
          walk_at "d"
          refine rf _ _ (rep ro (by omega) (by omega) ko ?_)
          walk_at "d"
          refine rep rpb_non (by omega) (by omega) (.inl rfl) ?_
          walk_at "d"
          exact fun z => absurd rfl z
        | some s =>
          rw [e] at rf ro ko
          rw [show leaveD (Option.map (fun s => (0, s)) (some s)) = .tup [.int 0, tI s] from rfl]
          walk_at "d"
          rw [ix_t (show atI [D.int 0, tI s] 1 = some (tI s) from rfl)]
          walk_at "d"
          refine rf _ _ (rep ro (by omega) (by omega) ko ?_)
          walk_at "d"
          refine rep ro (by omega) (by omega) ko ?_
          walk_at "d"
          exact fun z => absurd rfl z
      · rintro Ω' Δ' ⟨rfl, x7, x13, x14, x15, x16, rfl⟩
        walk_at "d"
        exact .sub (Sub.put (put_none.mpr ⟨hla, hln⟩)) (h o3 h3)
    · refine ⟨isL_p put_same, ?_⟩
      refine ⟨a, (brokenL W row).length, o2, rfl, by omega, by omega, by rw [put_ne (Ne.symm hla)]; exact put_same, h2, fun o3 q h3 q0 q1 => ?_⟩
      obtain ⟨Rq, hRq, e1⟩ := pick q0 q1
      try dsimp only
      rw [ix_l e1, put_comm hla, put_put]
      refine (app_p put_same (by rw [List.length_map]; omega) ?_).2
      rw [put_put, show L2.map ruleD ++ [ruleD Rq] = (L2 ++ [Rq]).map ruleD by rw [List.map_append]; rfl]
      refine loop o3 _ h3 (fun R hR => ?_) (by rw [List.length_append, List.length_singleton]; omega)
      rcases List.mem_append.mp hR with hR | hR
      · exact hk2 R hR
      · rw [List.mem_singleton] at hR
        rw [hR]
        exact broken_kept hRq
  · obtain ⟨d2, hd2, e⟩ : ∃ d2, std d2 (row.map D.int) ∧ d2 = dw := ⟨_, hdw, rfl⟩
    rw [← e]
    clear e
    refine ⟨W, st, row, d2, rfl, wd, hst, hd2, hw, fun M pw hM => ?_⟩
    rw [least_same wd pw hM]
    have rr := rpb_rules wd (L := greedy (brokenL W row)) (fun R hR => (kS R (broken_kept (greedy_mem wd hR))).1) (by omega)
    walk_at "d"
    refine rep rr (by omega) (by omega) (.inr (.inl ⟨_, rfl⟩)) ?_
    walk_at "d"
    refine rep rr (by omega) (by omega) (.inr (.inl ⟨_, rfl⟩)) ?_
    walk_at "d"
    refine lcWF (Ω1 := put Ω a o1) (src_r1 3 (fun P p => by walk_at "d"; exact p) (by omega) (by omega)) (by omega) (drW Ω a (keptL W)) ⟨o1, [], rfl, h1, rfl, by simp, by simp⟩ (fun _ _ _ _ _ _ _ => trivial) ?_ ?_
    · rintro l i acc Ω' hl1 hl2 hi ha ⟨o2, Rs, rfl, h2, rfl, hr1, hr2⟩
      obtain ⟨hla, hla2⟩ := put_none.mp hl2
      have hp := keptL_pos (W := W)
      refine lcT_mono_true (R' := nextW (drW Ω a (keptL W)) l i) ?_
      walk_at "d"
      refine ⟨a, (keptL W).length, o2, rfl, by omega, by omega, by rw [put_ne (Ne.symm hla)]; exact put_same, h2, fun o3 q h3 q0 q1 => ?_⟩
      obtain ⟨Rq, hRq, e1⟩ := pick q0 q1
      try dsimp only
      rw [ix_l e1, put_comm hla, put_put]
      refine nextW_some (put_none.mpr ⟨hla, hla2⟩) ha (by omega) ⟨o3, Rs ++ [Rq], rfl, h3, by rw [List.map_append]; rfl, by rw [List.length_append, List.length_singleton]; omega, fun R hR => ?_⟩
      rcases List.mem_append.mp hR with hR | hR
      · exact hr2 R hR
      · rw [List.mem_singleton] at hR
        rw [hR]
        exact hRq
    rintro acc Ω' ha ⟨o2, Rs, rfl, h2, rfl, hr1, hr2⟩
    walk_at "d"
    refine ⟨_, _, rfl, rfl, by rw [List.length_map, List.length_map]; omega, fun l hl => ?_⟩
    obtain ⟨hla, hln⟩ := put_none.mp hl
    rw [← List.map_append]
    have hk2 : ∀ R ∈ greedy (brokenL W row) ++ Rs, R ∈ keptL W := fun R hR => by
      rcases List.mem_append.mp hR with hR | hR
      · exact broken_kept (greedy_mem wd hR)
      · exact hr2 R hR
    have hl2 : (greedy (brokenL W row) ++ Rs).length ≤ 1000 := by rw [List.length_append]; omega
    generalize greedy (brokenL W row) ++ Rs = L2 at hk2 hl2
    walk_at "d"
    refine (fun (loop : ∀ (o3 : Ob) (L : List Rule), HandO o3 → (∀ R ∈ L, R ∈ keptL W) → L.length ≤ 1200 → mForI _ _ _ (put (put Ω a o3) l (.lst (L.map ruleD))) _ _) => ⟨fun hp => ?_, fun _ => loop o2 L2 h2 hk2 (by omega)⟩) ?_
    · intro o3 L h3 hL hLl
      refine forS (d := .ptr l) (xs := L.map ruleD) (Ω1 := put (put Ω a o3) l (.lst (L.map ruleD))) (fun P p => by walk_at "d"; exact p) (.inr (.inr (.inr (.inr ⟨l, rfl, put_same⟩)))) (fun k Ω' Δ' => Ω' = put (put Ω a o3) l (.lst (L.map ruleD)) ∧ ∃ x7 x13 x14 x15 x16, Δ' = [some (.ptr a), some W.here, some (.int W.m), some (tabsD W.tb), some (.lst ((keptL W).map ruleD)), some W.lot, some (meanO W.m st), x7, some (mvD W.S (W.run row)), some (.lst ((brokenL W row).map ruleD)), some (.lst ((greedy (brokenL W row)).map ruleD)), some d2, some (.ptr l), x13, x14, x15, x16]) ⟨rfl, _, _, _, _, _, rfl⟩ (fun _ _ _ _ ⟨e, _⟩ => by rw [e]; exact keep_ptr put_same) ?_ ?_
      · rintro k x Ω' Δ' hk ⟨rfl, x7, x13, x14, x15, x16, rfl⟩
        obtain ⟨R, hR, rfl⟩ := get_map hk
        have hRk := hL R (List.mem_of_getElem? hR)
        obtain ⟨hRs, hRkept⟩ := kS R hRk
        have rf : ∀ (Ω : Om) (P : DK), P (optT (leave1 (W.run row) R)) Ω → F_right_fault [W.lot, meanO W.m st, ruleD R, d2] Ω P (fun _ _ _ => False) := fun Ω P p => ⟨W, st, R, row, _, d2, rfl, wd, hst, .inl rfl, hRs, hd2, hw, fun _ => p, fun i s e => by rw [leave_kept hRkept] at e; cases e⟩
        have ro := rpb_opt wd (o := leave1 (W.run row) R) fun s hs => hRs.subset (leave1_mem hs)
        have ko := optT_kind (leave1 (W.run row) R)
        walk_at "d"
        refine ⟨W.S, [W.run row], R, _, rfl, .inl rfl, by simp, fun s hs => hRs.subset hs, ?_⟩
        rw [leave_one]
        cases e : leave1 (W.run row) R with
        | none =>
          rw [e] at rf ro ko
          rw [show leaveD (Option.map (fun s => (0, s)) (none : Option (List Int))) = .non from rfl]
          walk_at "d"
          refine rf _ _ (rep ro (by omega) (by omega) ko ?_)
          walk_at "d"
          refine rep rpb_non (by omega) (by omega) (.inl rfl) ?_
          walk_at "d"
          exact fun z => absurd rfl z
        | some s =>
          rw [e] at rf ro ko
          rw [show leaveD (Option.map (fun s => (0, s)) (some s)) = .tup [.int 0, tI s] from rfl]
          walk_at "d"
          rw [ix_t (show atI [D.int 0, tI s] 1 = some (tI s) from rfl)]
          walk_at "d"
          refine rf _ _ (rep ro (by omega) (by omega) ko ?_)
          walk_at "d"
          refine rep ro (by omega) (by omega) ko ?_
          walk_at "d"
          exact fun z => absurd rfl z
      · rintro Ω' Δ' ⟨rfl, x7, x13, x14, x15, x16, rfl⟩
        walk_at "d"
        exact .sub (Sub.put (put_none.mpr ⟨hla, hln⟩)) (h o3 h3)
    · refine ⟨isL_p put_same, ?_⟩
      refine ⟨a, (brokenL W row).length, o2, rfl, by omega, by omega, by rw [put_ne (Ne.symm hla)]; exact put_same, h2, fun o3 q h3 q0 q1 => ?_⟩
      obtain ⟨Rq, hRq, e1⟩ := pick q0 q1
      try dsimp only
      rw [ix_l e1, put_comm hla, put_put]
      refine (app_p put_same (by rw [List.length_map]; omega) ?_).2
      rw [put_put, show L2.map ruleD ++ [ruleD Rq] = (L2 ++ [Rq]).map ruleD by rw [List.map_append]; rfl]
      refine loop o3 _ h3 (fun R hR => ?_) (by rw [List.length_append, List.length_singleton]; omega)
      rcases List.mem_append.mp hR with hR | hR
      · exact hk2 R hR
      · rw [List.mem_singleton] at hR
        rw [hR]
        exact broken_kept hRq
end
end KG
namespace KG
open L2 PySem PyProof.Rows PySem.Spec
local macro_rules | `(tactic| walk_at "d") => `(tactic| first | simp only [startD, endK, List.map_cons, List.map_nil, List.length_cons, List.length_nil, List.replicate, List.cons_append, List.nil_append, Nat.reduceAdd, Nat.reduceSub, Nat.zero_add, Nat.add_zero, Nat.reduceLeDiff,
  mCntF, mSetF, mSetd, mSeq, mAsg, mDrop, mRet, mRetN, mIfS, mCont, mNext, mNever, gN, gNil_eq, gCons_eq, gT_t, gT_l, gSet, mAsgG, mVar, slot, mC, mOp, mUn, mNil, mCons, mTup, mLst, mLstO, mCB, mIf, mB, mAnd, mOr, mNot, mOrV, mNotV, mYes, mNewK, mNewT, mBM, mTuF,
  wInt2, wIs, wIsN, wNeg, wInt, wAbs, mFld, Ob.d, isi_ii, isi_ib, isi_ss, isiS_t, isiS_f, isiS_l, len_t, len_f, len_l, len_q, tuple_t, tuple_f, tuple_l, eq_ii, ne_ii, eq_ss, ne_ss, add_ii, add_tt, add_ll, mul_ii, in_t, in_l, in_il, fld_cells, fld_programs, fld_modulus, fld_tables, mMeth, meth_mean, List.length_map,
  List.set_cons_zero, List.set_cons_succ, List.getElem?_cons_zero, List.getElem?_cons_succ, Option.some.injEq, exists_eq_left', exists_eq_left, exists_eq', exists_eq, D.int.injEq, D.bl.injEq, D.str.injEq, D.tup.injEq, D.lst.injEq, D.ptr.injEq, D.ty.injEq, List.cons.injEq, and_true, true_and, reduceCtorEq, false_or, or_false, false_and, and_false, exists_false, or_self,
  exists_and_left, exists_and_right, exists_const, ne_eq, not_true_eq_false, not_false_eq_true, decide_true, decide_false, Bool.false_eq_true, Bool.true_eq_false, false_implies, true_implies, forall_const, implies_true, Bool.not_true, Bool.not_false, Bool.not_eq_true', Bool.not_eq_true, Bool.not_eq_false', decide_eq_true_eq, decide_eq_false_iff_not, put_same, del_same, forall_eq', forall_eq, forall_apply_eq_imp_iff] | (try dsimp only))
/-! G35: the law's check of rules that are not kept. -/
section
theorem leaveD_kind (o : Option (Nat × List Int)) : leaveD o = .non ∨ (∃ xs, leaveD o = .tup xs) ∨ ∃ xs, leaveD o = .lst xs := by
  cases o with
  | none => exact .inl rfl
  | some q => exact .inr (.inl ⟨_, rfl⟩)
theorem rpb_leave {W : Wld} (wd : Wd W) {R : Rule} (hR : R.Sublist W.S) : Rpb (leaveD (leave W.moves R)) 73 2 := by
  cases e : leave W.moves R with
  | none => exact rpb_non.mono (by omega) (by omega)
  | some q =>
    obtain ⟨i, s⟩ := q
    have h := leave_mem e
    have hm := few_moves wd
    refine rpb_tup (n := 33) (e := 1) (k := 2) (fun x hx => ?_) (by simp)
    rcases List.mem_cons.mp hx with rfl | hx
    · exact (rpb_int (by omega) (by omega)).mono (by omega) (by omega)
    · rw [List.mem_singleton] at hx
      rw [hx]
      exact rpb_store wd (hR.subset h.2)
def F_L_unkept : FD := fun ds Ω P => ∃ (h : Addr) (o : Ob) (W : Wld) (st : List (Int × List Int)) (row : List Int) (dw : D), ds = [.ptr h, W.here, .int W.m, tabsD W.tb, W.lot, meanO W.m st, dw] ∧ Ω h = some o ∧ HandO o ∧ Wd W ∧ st.Perm W.tb ∧ std dw (row.map .int) ∧ WeavOk W row ∧
  ∀ o', HandO o' → P (.bl true) (put Ω h o')
def ukW (Ω : Om) (a : Addr) (W : Wld) (st : List (Int × List Int)) (dw : D) : Nat → Om → Dl → Prop := fun _ Ω' Δ' => ∃ (o : Ob) (x8 x9 x10 x11 x12 x13 x14 : Option D), HandO o ∧ Ω' = put Ω a o ∧ Δ' = [some (.ptr a), some W.here, some (.int W.m), some (tabsD W.tb), some W.lot, some (meanO W.m st), some dw, some (.lst (W.moves.map (mvD W.S))), x8, x9, x10, x11, x12, x13, x14]
theorem g_L_unkept (ds Ω P) (h : F_L_unkept ds Ω P) : m_L_unkept F_L_program_moves F_L_stores F_L_some F_L_leaves F_rule_fault F_right_fault F_L_move Ω (startD 15 ds) (endK P) := by
  obtain ⟨a, o, W, st, row, dw, rfl, ho, hO, wd, hst, hdw, hw, h⟩ := h
  have hS := few_S wd
  have hc := wd.c
  have hm := wd.m
  have hmv := few_moves wd
  have self : Ω = put Ω a o := by
    funext q
    by_cases e : q = a
    · rw [e, put_same]; exact ho
    · rw [put_ne e]
  unfold m_L_unkept
  walk_at "d"
  refine ⟨W, rfl, wd, ?_⟩
  walk_at "d"
  refine forR1 (Ω1 := Ω) 3 (fun P p => by walk_at "d"; exact p) (by omega) (by omega) (ukW Ω a W st dw) ⟨o, _, _, _, _, _, _, _, hO, self, rfl⟩ ?_ ?_
  · rintro i Ω' Δ' hi ⟨o1, x8, x9, x10, x11, x12, x13, x14, h1, rfl, rfl⟩
    walk_at "d"
    rw [show wIx W.here (.int 0) = wIx (.tup [.int W.c, progsD W.ps]) (.int 0) from rfl, ix_t (show atI [D.int W.c, progsD W.ps] 0 = some (.int W.c) from rfl)]
    refine ⟨W.c, W.m, rfl, by omega, by omega, by omega, by omega, ?_⟩
    refine ⟨a, W.S, 2, o1, rfl, by omega, by omega, by omega, put_same, h1, fun o2 R h2 hR => ?_⟩
    rw [put_put]
    walk_at "d"
    refine ⟨W.S, W.moves, R, _, rfl, .inr rfl, by omega, fun s hs => hR.subset hs, ?_⟩
    walk_at "d"
    have rl := rpb_leave wd hR
    refine ⟨W, st, R, _, rfl, wd, hst, .inr rfl, hR, ?_⟩
    refine rep rl (by omega) (by omega) (leaveD_kind _) ?_
    walk_at "d"
    refine rep rl (by omega) (by omega) (leaveD_kind _) ?_
    walk_at "d"
    unfold mTryNK mCX
    walk_at "d"
    have mv : ∀ (Ω : Om) (P : DK), P (mvD W.S (W.run row)) Ω → F_L_move [W.here, .int W.m, tabsD W.tb, dw] Ω P := fun Ω P p => ⟨W, row, dw, rfl, wd, hdw, row_weav hw, p⟩
    have lv : ∀ (Ω : Om) (P : DK), P (leaveD (leave [W.run row] R)) Ω → F_L_leaves [.lst [mvD W.S (W.run row)], .lst (R.map tI)] Ω P := fun Ω P p => ⟨W.S, [W.run row], R, _, rfl, .inr rfl, by simp, fun s hs => hR.subset hs, p⟩
    cases e : leave W.moves R with
    | none =>
      refine ⟨W, st, R, row, _, dw, rfl, wd, hst, .inr rfl, hR, hdw, hw, fun _ => ?_, fun i s e2 => by rw [e] at e2; cases e2⟩
      rw [show leaveD none = .non from rfl]
      walk_at "d"
      refine mv _ _ (lv _ _ ?_)
      rw [leave_one]
      have ro := rpb_opt wd (o := leave1 (W.run row) R) fun s hs => hR.subset (leave1_mem hs)
      have rl2 : Rpb (.lst [.str "let", optT (leave1 (W.run row) R)]) 73 2 := rpb_lst (n := 33) (e := 1) (k := 2) (fun x hx => by
        rcases List.mem_cons.mp hx with rfl | hx
        · exact rpb_let.mono (by omega) (by omega)
        · rw [List.mem_singleton] at hx
          rw [hx]
          exact ro) (by simp)
      cases e1 : leave1 (W.run row) R with
      | none =>
        rw [e1] at rl2
        rw [show leaveD (Option.map (fun s => (0, s)) (none : Option (List Int))) = .non from rfl]
        walk_at "d"
        refine rep rl2 (by omega) (by omega) (.inr (.inr ⟨_, rfl⟩)) ?_
        walk_at "d"
        refine rep (d := .lst [.str "let", .non]) rl2 (by omega) (by omega) (.inr (.inr ⟨_, rfl⟩)) ?_
        walk_at "d"
        exact ⟨fun z => absurd rfl z, fun _ => ⟨o2, _, _, _, _, _, _, _, h2, rfl, rfl⟩⟩
      | some s =>
        rw [e1] at rl2
        rw [show leaveD (Option.map (fun s => (0, s)) (some s)) = .tup [.int 0, tI s] from rfl]
        walk_at "d"
        rw [ix_t (show atI [D.int 0, tI s] 1 = some (tI s) from rfl)]
        walk_at "d"
        refine rep rl2 (by omega) (by omega) (.inr (.inr ⟨_, rfl⟩)) ?_
        walk_at "d"
        refine rep (d := .lst [.str "let", tI s]) rl2 (by omega) (by omega) (.inr (.inr ⟨_, rfl⟩)) ?_
        walk_at "d"
        exact ⟨fun z => absurd rfl z, fun _ => ⟨o2, _, _, _, _, _, _, _, h2, rfl, rfl⟩⟩
    | some q =>
      obtain ⟨j, t⟩ := q
      refine ⟨W, st, R, row, _, dw, rfl, wd, hst, .inr rfl, hR, hdw, hw, fun e2 => (by rw [e] at e2; cases e2), fun i s e2 => ?_⟩
      rw [e] at e2
      cases e2
      refine ⟨by simp, ?_⟩
      rw [show leaveD (some (j, t)) = .tup [.int j, tI t] from rfl]
      walk_at "d"
      refine mv _ _ (lv _ _ ?_)
      rw [leave_one]
      have hj := leave_mem e
      have rl2 : Rpb (.lst [.str "kept", .int j, tI t]) 108 2 := rpb_lst (n := 33) (e := 1) (k := 3) (fun x hx => by
        rcases List.mem_cons.mp hx with rfl | hx
        · exact rpb_kept.mono (by omega) (by omega)
        · rcases List.mem_cons.mp hx with rfl | hx
          · exact (rpb_int (by omega) (by omega)).mono (by omega) (by omega)
          · rw [List.mem_singleton] at hx
            rw [hx]
            exact rpb_store wd (hR.subset hj.2)) (by simp)
      cases e1 : leave1 (W.run row) R with
      | none =>
        rw [show leaveD (Option.map (fun s => (0, s)) (none : Option (List Int))) = .non from rfl]
        walk_at "d"
        rw [ix_t (show atI [D.int j, tI t] 0 = some (.int j) from rfl)]
        walk_at "d"
        rw [ix_t (show atI [D.int j, tI t] 1 = some (tI t) from rfl)]
        walk_at "d"
        refine rep rl2 (by omega) (by omega) (.inr (.inr ⟨_, rfl⟩)) ?_
        walk_at "d"
        refine rep rl2 (by omega) (by omega) (.inr (.inr ⟨_, rfl⟩)) ?_
        walk_at "d"
        exact ⟨o2, _, _, _, _, _, _, _, h2, rfl, rfl⟩
      | some s =>
        rw [show leaveD (Option.map (fun s => (0, s)) (some s)) = .tup [.int 0, tI s] from rfl]
        walk_at "d"
        rw [ix_t (show atI [D.int 0, tI s] 1 = some (tI s) from rfl)]
        walk_at "d"
        rw [ix_t (show atI [D.int j, tI t] 0 = some (.int j) from rfl)]
        walk_at "d"
        rw [ix_t (show atI [D.int j, tI t] 1 = some (tI t) from rfl)]
        walk_at "d"
        refine rep rl2 (by omega) (by omega) (.inr (.inr ⟨_, rfl⟩)) ?_
        walk_at "d"
        refine rep rl2 (by omega) (by omega) (.inr (.inr ⟨_, rfl⟩)) ?_
        walk_at "d"
        exact ⟨o2, _, _, _, _, _, _, _, h2, rfl, rfl⟩
  · rintro Ω' Δ' ⟨o1, x8, x9, x10, x11, x12, x13, x14, h1, rfl, rfl⟩
    walk_at "d"
    exact .now (h o1 h1)
end
end KG
namespace KG
open L2 PySem PyProof.Rows PySem.Spec
local macro_rules | `(tactic| walk_at "d") => `(tactic| first | simp only [startD, endK, List.map_cons, List.map_nil, List.length_cons, List.length_nil, List.replicate, List.cons_append, List.nil_append, Nat.reduceAdd, Nat.reduceSub, Nat.zero_add, Nat.add_zero, Nat.reduceLeDiff,
  mCntF, mSetF, mSetd, mSeq, mAsg, mDrop, mRet, mRetN, mIfS, mCont, mNext, mNever, gN, gNil_eq, gCons_eq, gT_t, gT_l, gSet, mAsgG, mVar, slot, mC, mOp, mUn, mNil, mCons, mTup, mLst, mLstO, mCB, mIf, mB, mAnd, mOr, mNot, mOrV, mNotV, mYes, mNewK, mNewT, mBM, mTuF,
  wInt2, wIs, wIsN, wNeg, wInt, wAbs, mFld, Ob.d, isi_ii, isi_ib, isi_ss, isiS_t, isiS_f, isiS_l, len_t, len_f, len_l, len_q, tuple_t, tuple_f, tuple_l, eq_ii, ne_ii, eq_ss, ne_ss, add_ii, add_tt, add_ll, mul_ii, in_t, in_l, in_il, fld_cells, fld_programs, fld_modulus, fld_tables, mMeth, meth_mean, List.length_map,
  List.set_cons_zero, List.set_cons_succ, List.getElem?_cons_zero, List.getElem?_cons_succ, Option.some.injEq, exists_eq_left', exists_eq_left, exists_eq', exists_eq, D.int.injEq, D.bl.injEq, D.str.injEq, D.tup.injEq, D.lst.injEq, D.ptr.injEq, D.ty.injEq, List.cons.injEq, and_true, true_and, reduceCtorEq, false_or, or_false, false_and, and_false, exists_false, or_self,
  exists_and_left, exists_and_right, exists_const, ne_eq, not_true_eq_false, not_false_eq_true, decide_true, decide_false, Bool.false_eq_true, Bool.true_eq_false, false_implies, true_implies, forall_const, implies_true, Bool.not_true, Bool.not_false, Bool.not_eq_true', Bool.not_eq_true, Bool.not_eq_false', decide_eq_true_eq, decide_eq_false_iff_not, put_same, del_same, forall_eq', forall_eq, forall_apply_eq_imp_iff] | (try dsimp only))
/-! G36: the law. -/
section
def F_law : FD := fun ds Ω P => ∃ ns : List Int, ds = [.lsq (ns.map .int)] ∧ ns.length ≤ 100 ∧ P (.bl true) Ω
def lwW (Ω : Om) (a : Addr) (W : Wld) (st : List (Int × List Int)) (d1 d2 : D) (x0 : D) : Nat → Om → Dl → Prop := fun _ Ω' Δ' => ∃ (o : Ob) (x11 x12 : Option D), HandO o ∧ Ω' = put Ω a o ∧ Δ' = [some x0, some (.ptr a), some (.int W.c), some (.int W.m), some W.here, some (tabsD W.tb), some (.lst ((lens W).map .int)), some (.lst ((keptL W).map ruleD)), some W.lot, some (meanO W.m st), some (.lst [d1, d2]), x11, x12]
theorem g_law (ds Ω P) (h : F_law ds Ω P) : m_law F_L_hand F_L_small_world F_L_world F_L_stores F_L_program_moves F_L_all_kept F_Lot_init F_L_told_meaning F_L_woven F_L_breaking F_L_broken F_L_unkept Ω (startD 13 ds) (endK P) := by
  obtain ⟨ns, rfl, hl, h⟩ := h
  unfold m_law mMake
  walk_at "d"
  refine ⟨ns, rfl, hl, fun a o hn hO => ?_⟩
  walk_at "d"
  refine ⟨a, o, rfl, put_same, hO, fun o1 c m h1 hs => ?_⟩
  rw [put_put]
  walk_at "d"
  refine ⟨a, o1, c, m, rfl, put_same, h1, hs, fun o2 W h2 wd e1 e2 => ?_⟩
  subst e1
  subst e2
  rw [put_put]
  have hS := few_S wd
  have hK := keptL_len wd
  have hmany := wd.many
  have hc := wd.c
  have hm := wd.m
  walk_at "d"
  refine lcMap (xs := W.ps) (it := progD) (e := fun p => .int p.length) (Ω1 := put Ω a o2) (src_s (d := progsD W.ps) (fun P p => by walk_at "d"; rw [here_ps]; exact p) (.inl rfl)) (by omega) (fun _ _ _ => keep_tup) (fun l acc pr hpr hl R hR => by walk_at "d"; exact hR) ?_
  rw [show (W.ps.map fun p => D.int p.length) = (lens W).map D.int by unfold lens; rw [List.map_map]; rfl]
  walk_at "d"
  refine ⟨W, rfl, wd, ?_⟩
  refine ⟨W.c, W.m, rfl, by omega, by omega, by omega, by omega, ?_⟩
  refine ⟨W, rfl, wd, ?_⟩
  walk_at "d"
  unfold mFrz
  walk_at "d"
  rw [here_ps]
  intro x dx hx
  refine ⟨x, dx, W, rfl, put_same, wd, ?_⟩
  refine ⟨rfl, _, put_same, ?_⟩
  rw [put_put, del_put hx]
  refine ⟨W.m, W.tb, rfl, by omega, by omega, ⟨wd.nd, wd.tabs, wd.few⟩, wd.nd, wd.few, fun st hst => ?_⟩
  walk_at "d"
  refine ⟨a, o2, W, keptL W, rfl, wd, put_same, h2, by omega, fun R hR s hs => (mem_keptL.mp hR).1.subset hs, fun o3 d1 row1 h3 hd1 hw1 => ?_⟩
  rw [put_put]
  refine ⟨a, o3, lens W, rfl, put_same, h3, szOk_lens wd, fun o4 row2 h4 hw2 => ?_⟩
  rw [put_put]
  have hw2 := weav_of hw2
  walk_at "d"
  refine forL (xs := [.int 0, .int 1, .int 0]) (Ω1 := put Ω a o4) (fun P p => by walk_at "d"; exact p) (lwW Ω a W st d1 (.tup (row2.map .int)) (.lsq (ns.map .int))) ⟨o4, _, _, h4, rfl, rfl⟩ ?_ ?_
  · rintro k x Ω' Δ' hk ⟨o5, x11, x12, h5, rfl, rfl⟩
    have key : ∃ (d : D) (row : List Int), std d (row.map .int) ∧ WeavOk W row ∧ ∀ (Ω : Om) (P : DK), P d Ω → wIx (.lst [d1, .tup (row2.map .int)]) x Ω P := by
      have hx : x = .int 0 ∨ x = .int 1 := by
        have := List.mem_of_getElem? hk
        simp at this
        rcases this with h | h | h
        · exact .inl h
        · exact .inr h
        · exact .inl h
      rcases hx with rfl | rfl
      · exact ⟨d1, row1, hd1, hw1, fun Ω P p => by rw [ix_l (show atI [d1, D.tup (row2.map .int)] 0 = some d1 from rfl)]; exact p⟩
      · exact ⟨.tup (row2.map .int), row2, .inl rfl, hw2, fun Ω P p => by rw [ix_l (show atI [d1, D.tup (row2.map .int)] 1 = some (.tup (row2.map .int)) from rfl)]; exact p⟩
    obtain ⟨d, row, hd, hw, hix⟩ := key
    walk_at "d"
    refine hix _ _ ⟨a, o5, W, st, row, d, rfl, put_same, h5, wd, hst, hd, hw, fun o6 h6 => ?_⟩
    rw [put_put]
    walk_at "d"
    exact ⟨o6, _, _, h6, rfl, rfl⟩
  · rintro Ω' Δ' ⟨o5, x11, x12, h5, rfl, rfl⟩
    walk_at "d"
    rw [ix_l (show atI [d1, D.tup (row2.map .int)] 1 = some (.tup (row2.map .int)) from rfl)]
    refine ⟨a, o5, W, st, row2, _, rfl, put_same, h5, wd, hst, .inl rfl, hw2, fun o6 h6 => ?_⟩
    rw [put_put]
    exact .sub (Sub.put hn) h
end
end KG
/-! EJ: all defs' promises. Printed by gen_join.py. -/
namespace KG
open L2 PySem PyProof.Rows PySem.Spec
local macro_rules | `(tactic| walk_at "ln3") => `(tactic| (intro ds Ω P h; repeat (rcases h with ⟨h0, h⟩; first | (subst h0; rfl; done) | skip)))
local macro_rules | `(tactic| walk_at "ln4") => `(tactic| (intro ds Ω P R h; repeat (rcases h with ⟨h0, h⟩; first | (subst h0; rfl; done) | skip)))
section
variable {P : Program} {w : World} {K : PySem.W.Frag} {mg : Str → Option Value} {base : Heap}
theorem f_is_whole (t : Top K mg) (TB1 : LamX.TabB base mg 516 512) (TB2 : LamX.TabB base mg 660 656) : Fn P w K mg base T0 1 "is_whole" F_is_whole := by
  obtain ⟨fd, F1, hmg⟩ := t.fd 0 d_is_whole rfl "is_whole" 194 (by decide +kernel) rfl
  obtain ⟨dd, hd, hB⟩ := F1.binds1 (ps := ["thing", "low", "high"]) 3 2 (by simp [He5.DefA.dvs, d_is_whole]) (by rfl) (by intro T kV doc pm an cdv ct us its h1 h2; match us, h1, its, h2 with | [_, _, _], _, [_, _], _ => exact ⟨_, rfl, rfl⟩)
  cases hd
  exact ⟨194, fd, ["thing", "low", "high"], fnOk (N := N_is_whole) F1 (C8.fnScope_by (by decide +kernel)) (by walk_at "ln3") (fun cdv A outer s H B E hr => t_is_whole t  hr) g_is_whole, hmg, F1.kp, hB⟩
theorem f_is_sequence (t : Top K mg) (TB1 : LamX.TabB base mg 516 512) (TB2 : LamX.TabB base mg 660 656) : Fn P w K mg base T0 1 "is_sequence" F_is_sequence := mkFn (N := N_is_sequence) (ps := ["thing"]) t 1 d_is_sequence rfl 201 (by decide +kernel) rfl rfl rfl (by decide +kernel) (by intro kV doc pm an cdv ct us hus; match us, hus with | [_], _ => rfl) (by walk_at "ln3") (fun cdv A outer s H B E hr => t_is_sequence t  hr) g_is_sequence
theorem f_last_pocket (t : Top K mg) (TB1 : LamX.TabB base mg 516 512) (TB2 : LamX.TabB base mg 660 656) : Fn P w K mg base T0 1 "last_pocket" F_last_pocket := mkFn (N := N_last_pocket) (ps := ["kind", "place"]) t 4 d_last_pocket rfl 223 (by decide +kernel) rfl rfl rfl (by decide +kernel) (by intro kV doc pm an cdv ct us hus; match us, hus with | [_, _], _ => rfl) (by walk_at "ln3") (fun cdv A outer s H B E hr => t_last_pocket t  hr) g_last_pocket
theorem f_goes_by_adds (t : Top K mg) (TB1 : LamX.TabB base mg 516 512) (TB2 : LamX.TabB base mg 660 656) : Fn P w K mg base T0 1 "goes_by_adds" F_goes_by_adds := mkFn (N := N_goes_by_adds) (ps := ["program"]) t 7 d_goes_by_adds rfl 244 (by decide +kernel) rfl rfl rfl (by decide +kernel) (by intro kV doc pm an cdv ct us hus; match us, hus with | [_], _ => rfl) (by walk_at "ln3") (fun cdv A outer s H B E hr => t_goes_by_adds t  hr) g_goes_by_adds
theorem f_function_shape (t : Top K mg) (TB1 : LamX.TabB base mg 516 512) (TB2 : LamX.TabB base mg 660 656) : Fn P w K mg base T0 1 "function_shape" F_function_shape := mkFn (N := N_function_shape) (ps := ["step"]) t 8 d_function_shape rfl 251 (by decide +kernel) rfl rfl rfl (by decide +kernel) (by intro kV doc pm an cdv ct us hus; match us, hus with | [_], _ => rfl) (by walk_at "ln3") (fun cdv A outer s H B E hr => t_function_shape t  hr) g_function_shape
theorem f_power_of (t : Top K mg) (TB1 : LamX.TabB base mg 516 512) (TB2 : LamX.TabB base mg 660 656) : Fn P w K mg base T0 1 "power_of" F_power_of := mkFn (N := N_power_of) (ps := ["modulus", "many"]) t 11 d_power_of rfl 349 (by decide +kernel) rfl rfl rfl (by decide +kernel) (by intro kV doc pm an cdv ct us hus; match us, hus with | [_, _], _ => rfl) (by walk_at "ln3") (fun cdv A outer s H B E hr => t_power_of t  hr) g_power_of
theorem f_digits_number (t : Top K mg) (TB1 : LamX.TabB base mg 516 512) (TB2 : LamX.TabB base mg 660 656) : Fn P w K mg base T0 1 "digits_number" F_digits_number := mkFn (N := N_digits_number) (ps := ["modulus", "worths"]) t 14 d_digits_number rfl 368 (by decide +kernel) rfl rfl rfl (by decide +kernel) (by intro kV doc pm an cdv ct us hus; match us, hus with | [_, _], _ => rfl) (by walk_at "ln3") (fun cdv A outer s H B E hr => t_digits_number t  hr) g_digits_number
theorem f_all_stores (t : Top K mg) (TB1 : LamX.TabB base mg 516 512) (TB2 : LamX.TabB base mg 660 656) : Fn P w K mg base T0 1 "all_stores" F_all_stores := mkFn (N := N_all_stores) (ps := ["lot", "modulus"]) t 16 d_all_stores rfl 380 (by decide +kernel) rfl rfl rfl (by decide +kernel) (by intro kV doc pm an cdv ct us hus; match us, hus with | [_, _], _ => rfl) (by walk_at "ln3") (fun cdv A outer s H B E hr => t_all_stores t  hr) g_all_stores
theorem f_closed_under (t : Top K mg) (TB1 : LamX.TabB base mg 516 512) (TB2 : LamX.TabB base mg 660 656) : Fn P w K mg base T0 1 "closed_under" F_closed_under := mkFn (N := N_closed_under) (ps := ["moves", "stores"]) t 27 d_closed_under rfl 482 (by decide +kernel) rfl rfl rfl (by decide +kernel) (by intro kV doc pm an cdv ct us hus; match us, hus with | [_, _], _ => rfl) (by walk_at "ln3") (fun cdv A outer s H B E hr => t_closed_under t  hr) g_closed_under
theorem f_first_leaving (t : Top K mg) (TB1 : LamX.TabB base mg 516 512) (TB2 : LamX.TabB base mg 660 656) : Fn P w K mg base T0 1 "first_leaving" F_first_leaving := mkFn (N := N_first_leaving) (ps := ["moves", "rule"]) t 28 d_first_leaving rfl 489 (by decide +kernel) rfl rfl rfl (by decide +kernel) (by intro kV doc pm an cdv ct us hus; match us, hus with | [_, _], _ => rfl) (by walk_at "ln3") (fun cdv A outer s H B E hr => t_first_leaving t  hr) g_first_leaving
theorem f_holds_all (t : Top K mg) (TB1 : LamX.TabB base mg 516 512) (TB2 : LamX.TabB base mg 660 656) : Fn P w K mg base T0 1 "holds_all" F_holds_all := mkFn (N := N_holds_all) (ps := ["rule", "other"]) t 33 d_holds_all rfl 524 (by decide +kernel) rfl rfl rfl (by decide +kernel) (by intro kV doc pm an cdv ct us hus; match us, hus with | [_, _], _ => rfl) (by walk_at "ln3") (fun cdv A outer s H B E hr => t_holds_all t  hr) g_holds_all
theorem f_L_hand (t : Top K mg) (TB1 : LamX.TabB base mg 516 512) (TB2 : LamX.TabB base mg 660 656) : Fn P w K mg base T0 1 "_law_hand" F_L_hand := mkFn (N := N_L_hand) (ps := ["_law_script"]) t 35 d_L_hand rfl 536 (by decide +kernel) rfl rfl rfl (by decide +kernel) (by intro kV doc pm an cdv ct us hus; match us, hus with | [_], _ => rfl) (by walk_at "ln3") (fun cdv A outer s H B E hr => t_L_hand t  hr) g_L_hand
theorem f_L_mixed (t : Top K mg) (TB1 : LamX.TabB base mg 516 512) (TB2 : LamX.TabB base mg 660 656) : Fn P w K mg base T0 1 "_law_mixed" F_L_mixed := mkFn (N := N_L_mixed) (ps := ["_law_number", "_law_turn"]) t 36 d_L_mixed rfl 543 (by decide +kernel) rfl rfl rfl (by decide +kernel) (by intro kV doc pm an cdv ct us hus; match us, hus with | [_, _], _ => rfl) (by walk_at "ln3") (fun cdv A outer s H B E hr => t_L_mixed t  hr) g_L_mixed
theorem f_L_power (t : Top K mg) (TB1 : LamX.TabB base mg 516 512) (TB2 : LamX.TabB base mg 660 656) : Fn P w K mg base T0 1 "_law_power" F_L_power := mkFn (N := N_L_power) (ps := ["_law_base", "_law_exponent"]) t 38 d_L_power rfl 557 (by decide +kernel) rfl rfl rfl (by decide +kernel) (by intro kV doc pm an cdv ct us hus; match us, hus with | [_, _], _ => rfl) (by walk_at "ln3") (fun cdv A outer s H B E hr => t_L_power t  hr) g_L_power
theorem f_L_shape (t : Top K mg) (TB1 : LamX.TabB base mg 516 512) (TB2 : LamX.TabB base mg 660 656) : Fn P w K mg base T0 1 "_law_shape" F_L_shape := mkFn (N := N_L_shape) (ps := ["_law_step"]) t 40 d_L_shape rfl 571 (by decide +kernel) rfl rfl rfl (by decide +kernel) (by intro kV doc pm an cdv ct us hus; match us, hus with | [_], _ => rfl) (by walk_at "ln3") (fun cdv A outer s H B E hr => t_L_shape t  hr) g_L_shape
theorem f_L_weavings (t : Top K mg) (TB1 : LamX.TabB base mg 516 512) (TB2 : LamX.TabB base mg 660 656) : Fn P w K mg base T0 1 "_law_weavings" F_L_weavings := mkFn (N := N_L_weavings) (ps := ["_law_sizes_here"]) t 43 d_L_weavings rfl 586 (by decide +kernel) rfl rfl rfl (by decide +kernel) (by intro kV doc pm an cdv ct us hus; match us, hus with | [_], _ => rfl) (by walk_at "ln3") (fun cdv A outer s H B E hr => t_L_weavings t  hr) g_L_weavings
theorem f_L_unwoven (t : Top K mg) (TB1 : LamX.TabB base mg 516 512) (TB2 : LamX.TabB base mg 660 656) : Fn P w K mg base T0 1 "_law_unwoven" F_L_unwoven := mkFn (N := N_L_unwoven) (ps := ["_law_weaving_here"]) t 46 d_L_unwoven rfl 603 (by decide +kernel) rfl rfl rfl (by decide +kernel) (by intro kV doc pm an cdv ct us hus; match us, hus with | [_], _ => rfl) (by walk_at "ln3") (fun cdv A outer s H B E hr => t_L_unwoven t  hr) g_L_unwoven
theorem f_L_entry (t : Top K mg) (TB1 : LamX.TabB base mg 516 512) (TB2 : LamX.TabB base mg 660 656) : Fn P w K mg base T0 1 "_law_entry" F_L_entry := mkFn (N := N_L_entry) (ps := ["_law_m", "_law_handed"]) t 47 d_L_entry rfl 610 (by decide +kernel) rfl rfl rfl (by decide +kernel) (by intro kV doc pm an cdv ct us hus; match us, hus with | [_, _], _ => rfl) (by walk_at "ln3") (fun cdv A outer s H B E hr => t_L_entry t  hr) g_L_entry
theorem f_L_stores (t : Top K mg) (TB1 : LamX.TabB base mg 516 512) (TB2 : LamX.TabB base mg 660 656) : Fn P w K mg base T0 1 "_law_stores" F_L_stores := mkFn (N := N_L_stores) (ps := ["_law_cells", "_law_m"]) t 49 d_L_stores rfl 620 (by decide +kernel) rfl rfl rfl (by decide +kernel) (by intro kV doc pm an cdv ct us hus; match us, hus with | [_, _], _ => rfl) (by walk_at "ln3") (fun cdv A outer s H B E hr => t_L_stores t  hr) g_L_stores
theorem f_L_subsets (t : Top K mg) (TB1 : LamX.TabB base mg 516 512) (TB2 : LamX.TabB base mg 660 656) : Fn P w K mg base T0 1 "_law_subsets" F_L_subsets := mkFn (N := N_L_subsets) (ps := ["_law_items"]) t 55 d_L_subsets rfl 654 (by decide +kernel) rfl rfl rfl (by decide +kernel) (by intro kV doc pm an cdv ct us hus; match us, hus with | [_], _ => rfl) (by walk_at "ln3") (fun cdv A outer s H B E hr => t_L_subsets t  hr) g_L_subsets
theorem f_L_stays (t : Top K mg) (TB1 : LamX.TabB base mg 516 512) (TB2 : LamX.TabB base mg 660 656) : Fn P w K mg base T0 1 "_law_stays" F_L_stays := mkFn (N := N_L_stays) (ps := ["_law_moves", "_law_rule"]) t 57 d_L_stays rfl 668 (by decide +kernel) rfl rfl rfl (by decide +kernel) (by intro kV doc pm an cdv ct us hus; match us, hus with | [_, _], _ => rfl) (by walk_at "ln3") (fun cdv A outer s H B E hr => t_L_stays t  hr) g_L_stays
theorem f_L_leaves (t : Top K mg) (TB1 : LamX.TabB base mg 516 512) (TB2 : LamX.TabB base mg 660 656) : Fn P w K mg base T0 1 "_law_leaves" F_L_leaves := mkFn (N := N_L_leaves) (ps := ["_law_moves", "_law_rule"]) t 58 d_L_leaves rfl 675 (by decide +kernel) rfl rfl rfl (by decide +kernel) (by intro kV doc pm an cdv ct us hus; match us, hus with | [_, _], _ => rfl) (by walk_at "ln3") (fun cdv A outer s H B E hr => t_L_leaves t  hr) g_L_leaves
theorem f_L_holds (t : Top K mg) (TB1 : LamX.TabB base mg 516 512) (TB2 : LamX.TabB base mg 660 656) : Fn P w K mg base T0 1 "_law_holds" F_L_holds := mkFn (N := N_L_holds) (ps := ["_law_rule", "_law_other"]) t 60 d_L_holds rfl 687 (by decide +kernel) rfl rfl rfl (by decide +kernel) (by intro kV doc pm an cdv ct us hus; match us, hus with | [_, _], _ => rfl) (by walk_at "ln3") (fun cdv A outer s H B E hr => t_L_holds t  hr) g_L_holds
theorem f_Meaning_table_of (t : Top K mg) (TB1 : LamX.TabB base mg 516 512) (TB2 : LamX.TabB base mg 660 656) : FnMt P w K mg base T0 1 454 "table_of" F_Meaning_table_of := by
  obtain ⟨fd, F1⟩ := t.fns 72 d_Meaning_table_of rfl
  have F1 : FunD K d_Meaning_table_of.name d_Meaning_table_of.qual d_Meaning_table_of.params d_Meaning_table_of.body d_Meaning_table_of.scope [] (d_Meaning_table_of.kws K) 451 fd := F1
  exact ⟨451, fd, ["self", "name"], t.cls_Meaning, t.mt_table_of, fnOk (N := N_Meaning_table_of) F1 (C8.fnScope_by (by decide +kernel)) (by walk_at "ln3") (fun cdv A outer s H B E hr => t_Meaning_table_of t  hr) g_Meaning_table_of, F1.bindsN (by intro kV doc pm an cdv ct us hus; match us, hus with | [_, _], _ => rfl)⟩
theorem f_is_ascending (t : Top K mg) (TB1 : LamX.TabB base mg 516 512) (TB2 : LamX.TabB base mg 660 656) : Fn P w K mg base T0 2 "is_ascending" F_is_ascending := mkFn (N := N_is_ascending) (ps := ["thing", "high"]) t 2 d_is_ascending rfl 208 (by decide +kernel) rfl rfl rfl (by decide +kernel) (by intro kV doc pm an cdv ct us hus; match us, hus with | [_, _], _ => rfl) (by walk_at "ln3") (fun cdv A outer s H B E hr => t_is_ascending t (f_is_sequence t TB1 TB2) (f_is_whole t TB1 TB2) hr) g_is_ascending
theorem f_has_unlike_names (t : Top K mg) (TB1 : LamX.TabB base mg 516 512) (TB2 : LamX.TabB base mg 660 656) : Fn P w K mg base T0 2 "has_unlike_names" F_has_unlike_names := mkFn (N := N_has_unlike_names) (ps := ["programs"]) t 9 d_has_unlike_names rfl 258 (by decide +kernel) rfl rfl rfl (by decide +kernel) (by intro kV doc pm an cdv ct us hus; match us, hus with | [_], _ => rfl) (by walk_at "ln3") (fun cdv A outer s H B E hr => t_has_unlike_names t (f_function_shape t TB1 TB2) hr) g_has_unlike_names
theorem f_stepped_worth (t : Top K mg) (TB1 : LamX.TabB base mg 516 512) (TB2 : LamX.TabB base mg 660 656) : Fn P w K mg base T0 2 "stepped_worth" F_stepped_worth := mkFn (N := N_stepped_worth) (ps := ["meaning", "step", "pockets"]) t 18 d_stepped_worth rfl 392 (by decide +kernel) rfl rfl rfl (by decide +kernel) (by intro kV doc pm an cdv ct us hus; match us, hus with | [_, _, _], _ => rfl) (by walk_at "ln3") (fun cdv A outer s H B E hr => t_stepped_worth t (f_digits_number t TB1 TB2) (f_Meaning_table_of t TB1 TB2) hr) g_stepped_worth
theorem f_L_take (t : Top K mg) (TB1 : LamX.TabB base mg 516 512) (TB2 : LamX.TabB base mg 660 656) : Fn P w K mg base T0 2 "_law_take" F_L_take := mkFn (N := N_L_take) (ps := ["_law_hand_here", "_law_many"]) t 37 d_L_take rfl 550 (by decide +kernel) rfl rfl rfl (by decide +kernel) (by intro kV doc pm an cdv ct us hus; match us, hus with | [_, _], _ => rfl) (by walk_at "ln3") (fun cdv A outer s H B E hr => t_L_take t (f_L_mixed t TB1 TB2) hr) g_L_take
theorem f_L_meant (t : Top K mg) (TB1 : LamX.TabB base mg 516 512) (TB2 : LamX.TabB base mg 660 656) : Fn P w K mg base T0 2 "_law_meant" F_L_meant := mkFn (N := N_L_meant) (ps := ["_law_lot_here", "_law_m", "_law_tables", "_law_row", "_law_store"]) t 48 d_L_meant rfl 615 (by decide +kernel) rfl rfl rfl (by decide +kernel) (by intro kV doc pm an cdv ct us hus; match us, hus with | [_, _, _, _, _], _ => rfl) (by walk_at "ln3") (fun cdv A outer s H B E hr => t_L_meant t (f_L_entry t TB1 TB2) hr) g_L_meant
theorem f_L_all_kept (t : Top K mg) (TB1 : LamX.TabB base mg 516 512) (TB2 : LamX.TabB base mg 660 656) : Fn P w K mg base T0 2 "_law_all_kept" F_L_all_kept := mkFn (N := N_L_all_kept) (ps := ["_law_moves", "_law_stores_here"]) t 59 d_L_all_kept rfl 680 (by decide +kernel) rfl rfl rfl (by decide +kernel) (by intro kV doc pm an cdv ct us hus; match us, hus with | [_, _], _ => rfl) (by walk_at "ln3") (fun cdv A outer s H B E hr => t_L_all_kept t (f_L_subsets t TB1 TB2) (f_L_by_size t TB2) (f_L_stays t TB1 TB2) hr) g_L_all_kept
theorem f_L_least_among (t : Top K mg) (TB1 : LamX.TabB base mg 516 512) (TB2 : LamX.TabB base mg 660 656) : Fn P w K mg base T0 2 "_law_least_among" F_L_least_among := mkFn (N := N_L_least_among) (ps := ["_law_rules"]) t 64 d_L_least_among rfl 707 (by decide +kernel) rfl rfl rfl (by decide +kernel) (by intro kV doc pm an cdv ct us hus; match us, hus with | [_], _ => rfl) (by walk_at "ln3") (fun cdv A outer s H B E hr => t_L_least_among t (f_L_holds t TB1 TB2) hr) g_L_least_among
theorem f_check_step (t : Top K mg) (TB1 : LamX.TabB base mg 516 512) (TB2 : LamX.TabB base mg 660 656) : Fn P w K mg base T0 3 "check_step" F_check_step := mkFn (N := N_check_step) (ps := ["step", "cells", "place"]) t 3 d_check_step rfl 216 (by decide +kernel) rfl rfl rfl (by decide +kernel) (by intro kV doc pm an cdv ct us hus; match us, hus with | [_, _, _], _ => rfl) (by walk_at "ln3") (fun cdv A outer s H B E hr => t_check_step t (f_is_sequence t TB1 TB2) (f_is_whole t TB1 TB2) (f_last_pocket t TB1 TB2) (f_is_ascending t TB1 TB2) hr) g_check_step
theorem f_check_program (t : Top K mg) (TB1 : LamX.TabB base mg 516 512) (TB2 : LamX.TabB base mg 660 656) : Fn P w K mg base T0 3 "check_program" F_check_program := mkFn (N := N_check_program) (ps := ["lot", "program"]) t 5 d_check_program rfl 230 (by decide +kernel) rfl rfl rfl (by decide +kernel) (by intro kV doc pm an cdv ct us hus; match us, hus with | [_, _], _ => rfl) (by walk_at "ln3") (fun cdv A outer s H B E hr => t_check_program t (f_is_whole t TB1 TB2) hr) g_check_program
theorem f_check_weaving (t : Top K mg) (TB1 : LamX.TabB base mg 516 512) (TB2 : LamX.TabB base mg 660 656) : Fn P w K mg base T0 3 "check_weaving" F_check_weaving := mkFn (N := N_check_weaving) (ps := ["lot", "weaving"]) t 10 d_check_weaving rfl 342 (by decide +kernel) rfl rfl rfl (by decide +kernel) (by intro kV doc pm an cdv ct us hus; match us, hus with | [_, _], _ => rfl) (by walk_at "ln3") (fun cdv A outer s H B E hr => t_check_weaving t (f_is_sequence t TB1 TB2) (f_is_whole t TB1 TB2) hr) g_check_weaving
theorem f_checked_table (t : Top K mg) (TB1 : LamX.TabB base mg 516 512) (TB2 : LamX.TabB base mg 660 656) : Fn P w K mg base T0 3 "checked_table" F_checked_table := mkFn (N := N_checked_table) (ps := ["modulus", "table"]) t 12 d_checked_table rfl 354 (by decide +kernel) rfl rfl rfl (by decide +kernel) (by intro kV doc pm an cdv ct us hus; match us, hus with | [_, _], _ => rfl) (by walk_at "ln3") (fun cdv A outer s H B E hr => t_checked_table t (f_power_of t TB1 TB2) (f_is_whole t TB1 TB2) hr) g_checked_table
theorem f_checked_name (t : Top K mg) (TB1 : LamX.TabB base mg 516 512) (TB2 : LamX.TabB base mg 660 656) : Fn P w K mg base T0 3 "checked_name" F_checked_name := mkFn (N := N_checked_name) (ps := ["couple", "held"]) t 13 d_checked_name rfl 361 (by decide +kernel) rfl rfl rfl (by decide +kernel) (by intro kV doc pm an cdv ct us hus; match us, hus with | [_, _], _ => rfl) (by walk_at "ln3") (fun cdv A outer s H B E hr => t_checked_name t (f_is_whole t TB1 TB2) hr) g_checked_name
theorem f_check_meaning (t : Top K mg) (TB1 : LamX.TabB base mg 516 512) (TB2 : LamX.TabB base mg 660 656) : Fn P w K mg base T0 3 "check_meaning" F_check_meaning := mkFn (N := N_check_meaning) (ps := ["lot", "meaning"]) t 15 d_check_meaning rfl 375 (by decide +kernel) rfl rfl rfl (by decide +kernel) (by intro kV doc pm an cdv ct us hus; match us, hus with | [_, _], _ => rfl) (by walk_at "ln3") (fun cdv A outer s H B E hr => t_check_meaning t (f_Meaning_table_of t TB1 TB2) (f_power_of t TB1 TB2) hr) g_check_meaning
theorem f_check_store (t : Top K mg) (TB1 : LamX.TabB base mg 516 512) (TB2 : LamX.TabB base mg 660 656) : Fn P w K mg base T0 3 "check_store" F_check_store := mkFn (N := N_check_store) (ps := ["lot", "meaning", "store"]) t 17 d_check_store rfl 387 (by decide +kernel) rfl rfl rfl (by decide +kernel) (by intro kV doc pm an cdv ct us hus; match us, hus with | [_, _, _], _ => rfl) (by walk_at "ln3") (fun cdv A outer s H B E hr => t_check_store t (f_is_whole t TB1 TB2) hr) g_check_store
theorem f_moments_from (t : Top K mg) (TB1 : LamX.TabB base mg 516 512) (TB2 : LamX.TabB base mg 660 656) : Fn P w K mg base T0 3 "moments_from" F_moments_from := mkFn (N := N_moments_from) (ps := ["lot", "meaning", "weaving", "store"]) t 19 d_moments_from rfl 397 (by decide +kernel) rfl rfl rfl (by decide +kernel) (by intro kV doc pm an cdv ct us hus; match us, hus with | [_, _, _, _], _ => rfl) (by walk_at "ln3") (fun cdv A outer s H B E hr => t_moments_from t (f_stepped_worth t TB1 TB2) hr) g_moments_from
theorem f_L_sizes (t : Top K mg) (TB1 : LamX.TabB base mg 516 512) (TB2 : LamX.TabB base mg 660 656) : Fn P w K mg base T0 3 "_law_sizes" F_L_sizes := mkFn (N := N_L_sizes) (ps := ["_law_hand_here"]) t 39 d_L_sizes rfl 564 (by decide +kernel) rfl rfl rfl (by decide +kernel) (by intro kV doc pm an cdv ct us hus; match us, hus with | [_], _ => rfl) (by walk_at "ln3") (fun cdv A outer s H B E hr => t_L_sizes t (f_L_take t TB1 TB2) hr) g_L_sizes
theorem f_L_steps (t : Top K mg) (TB1 : LamX.TabB base mg 516 512) (TB2 : LamX.TabB base mg 660 656) : Fn P w K mg base T0 3 "_law_steps" F_L_steps := mkFn (N := N_L_steps) (ps := ["_law_hand_here", "_law_cells", "_law_size", "_law_told"]) t 41 d_L_steps rfl 576 (by decide +kernel) rfl rfl rfl (by decide +kernel) (by intro kV doc pm an cdv ct us hus; match us, hus with | [_, _, _, _], _ => rfl) (by walk_at "ln3") (fun cdv A outer s H B E hr => t_L_steps t (f_L_take t TB1 TB2) (f_L_shape t TB1 TB2) hr) g_L_steps
theorem f_L_weaving (t : Top K mg) (TB1 : LamX.TabB base mg 516 512) (TB2 : LamX.TabB base mg 660 656) : Fn P w K mg base T0 3 "_law_weaving" F_L_weaving := mkFn (N := N_L_weaving) (ps := ["_law_hand_here", "_law_sizes_here"]) t 44 d_L_weaving rfl 591 (by decide +kernel) rfl rfl rfl (by decide +kernel) (by intro kV doc pm an cdv ct us hus; match us, hus with | [_, _], _ => rfl) (by walk_at "ln3") (fun cdv A outer s H B E hr => t_L_weaving t (f_L_take t TB1 TB2) hr) g_L_weaving
theorem f_L_worn_meaning (t : Top K mg) (TB1 : LamX.TabB base mg 516 512) (TB2 : LamX.TabB base mg 660 656) : Fn P w K mg base T0 3 "_law_worn_meaning" F_L_worn_meaning := mkFn (N := N_L_worn_meaning) (ps := ["_law_hand_here", "_law_lot_here", "_law_m"]) t 50 d_L_worn_meaning rfl 625 (by decide +kernel) rfl rfl rfl (by decide +kernel) (by intro kV doc pm an cdv ct us hus; match us, hus with | [_, _, _], _ => rfl) (by walk_at "ln3") (fun cdv A outer s H B E hr => t_L_worn_meaning t (f_L_power t TB1 TB2) (f_L_take t TB1 TB2) hr) g_L_worn_meaning
theorem f_L_small_world (t : Top K mg) (TB1 : LamX.TabB base mg 516 512) (TB2 : LamX.TabB base mg 660 656) : Fn P w K mg base T0 3 "_law_small_world" F_L_small_world := mkFn (N := N_L_small_world) (ps := ["_law_hand_here"]) t 51 d_L_small_world rfl 632 (by decide +kernel) rfl rfl rfl (by decide +kernel) (by intro kV doc pm an cdv ct us hus; match us, hus with | [_], _ => rfl) (by walk_at "ln3") (fun cdv A outer s H B E hr => t_L_small_world t (f_L_take t TB1 TB2) hr) g_L_small_world
theorem f_L_move (t : Top K mg) (TB1 : LamX.TabB base mg 516 512) (TB2 : LamX.TabB base mg 660 656) : Fn P w K mg base T0 3 "_law_move" F_L_move := mkFn (N := N_L_move) (ps := ["_law_lot_here", "_law_m", "_law_tables", "_law_row"]) t 54 d_L_move rfl 649 (by decide +kernel) rfl rfl rfl (by decide +kernel) (by intro kV doc pm an cdv ct us hus; match us, hus with | [_, _, _, _], _ => rfl) (by walk_at "ln3") (fun cdv A outer s H B E hr => t_L_move t (f_L_stores t TB1 TB2) (f_L_meant t TB1 TB2) hr) g_L_move
theorem f_L_some (t : Top K mg) (TB1 : LamX.TabB base mg 516 512) (TB2 : LamX.TabB base mg 660 656) : Fn P w K mg base T0 3 "_law_some" F_L_some := mkFn (N := N_L_some) (ps := ["_law_hand_here", "_law_items", "_law_share"]) t 61 d_L_some rfl 692 (by decide +kernel) rfl rfl rfl (by decide +kernel) (by intro kV doc pm an cdv ct us hus; match us, hus with | [_, _, _], _ => rfl) (by walk_at "ln3") (fun cdv A outer s H B E hr => t_L_some t (f_L_take t TB1 TB2) hr) g_L_some
theorem f_L_back_program (t : Top K mg) (TB1 : LamX.TabB base mg 516 512) (TB2 : LamX.TabB base mg 660 656) : Fn P w K mg base T0 3 "_law_back_program" F_L_back_program := mkFn (N := N_L_back_program) (ps := ["_law_hand_here", "_law_cells", "_law_m", "_law_first", "_law_long"]) t 62 d_L_back_program rfl 697 (by decide +kernel) rfl rfl rfl (by decide +kernel) (by intro kV doc pm an cdv ct us hus; match us, hus with | [_, _, _, _, _], _ => rfl) (by walk_at "ln3") (fun cdv A outer s H B E hr => t_L_back_program t (f_L_take t TB1 TB2) hr) g_L_back_program
theorem f_checked_steps (t : Top K mg) (TB1 : LamX.TabB base mg 516 512) (TB2 : LamX.TabB base mg 660 656) : Fn P w K mg base T0 4 "checked_steps" F_checked_steps := mkFn (N := N_checked_steps) (ps := ["cells", "program"]) t 6 d_checked_steps rfl 237 (by decide +kernel) rfl rfl rfl (by decide +kernel) (by intro kV doc pm an cdv ct us hus; match us, hus with | [_, _], _ => rfl) (by walk_at "ln3") (fun cdv A outer s H B E hr => t_checked_steps t (f_check_step t TB1 TB2) hr) g_checked_steps
theorem f_whole_end (t : Top K mg) (TB1 : LamX.TabB base mg 516 512) (TB2 : LamX.TabB base mg 660 656) : Fn P w K mg base T0 4 "whole_end" F_whole_end := mkFn (N := N_whole_end) (ps := ["lot", "meaning", "program", "store"]) t 20 d_whole_end rfl 404 (by decide +kernel) rfl rfl rfl (by decide +kernel) (by intro kV doc pm an cdv ct us hus; match us, hus with | [_, _, _, _], _ => rfl) (by walk_at "ln3") (fun cdv A outer s H B E hr => t_whole_end t (f_moments_from t TB1 TB2) hr) g_whole_end
theorem f_run_moments (t : Top K mg) (TB1 : LamX.TabB base mg 516 512) (TB2 : LamX.TabB base mg 660 656) : Fn P w K mg base T0 4 "run_moments" F_run_moments := mkFn (N := N_run_moments) (ps := ["lot", "meaning", "weaving", "store"]) t 22 d_run_moments rfl 418 (by decide +kernel) rfl rfl rfl (by decide +kernel) (by intro kV doc pm an cdv ct us hus; match us, hus with | [_, _, _, _], _ => rfl) (by walk_at "ln3") (fun cdv A outer s H B E hr => t_run_moments t (f_check_meaning t TB1 TB2) (f_check_weaving t TB1 TB2) (f_check_store t TB1 TB2) (f_moments_from t TB1 TB2) hr) g_run_moments
theorem f_check_stores (t : Top K mg) (TB1 : LamX.TabB base mg 516 512) (TB2 : LamX.TabB base mg 660 656) : Fn P w K mg base T0 4 "check_stores" F_check_stores := mkFn (N := N_check_stores) (ps := ["lot", "meaning", "stores"]) t 24 d_check_stores rfl 465 (by decide +kernel) rfl rfl rfl (by decide +kernel) (by intro kV doc pm an cdv ct us hus; match us, hus with | [_, _, _], _ => rfl) (by walk_at "ln3") (fun cdv A outer s H B E hr => t_check_stores t (f_check_meaning t TB1 TB2) (f_is_sequence t TB1 TB2) (f_check_store t TB1 TB2) hr) g_check_stores
theorem f_L_lot (t : Top K mg) (TB1 : LamX.TabB base mg 516 512) (TB2 : LamX.TabB base mg 660 656) : Fn P w K mg base T0 4 "_law_lot" F_L_lot := mkFn (N := N_L_lot) (ps := ["_law_hand_here", "_law_cells", "_law_sizes_here"]) t 42 d_L_lot rfl 581 (by decide +kernel) rfl rfl rfl (by decide +kernel) (by intro kV doc pm an cdv ct us hus; match us, hus with | [_, _, _], _ => rfl) (by walk_at "ln3") (fun cdv A outer s H B E hr => t_L_lot t (f_L_steps t TB1 TB2) hr) g_L_lot
theorem f_L_woven (t : Top K mg) (TB1 : LamX.TabB base mg 516 512) (TB2 : LamX.TabB base mg 660 656) : Fn P w K mg base T0 4 "_law_woven" F_L_woven := mkFn (N := N_L_woven) (ps := ["_law_hand_here", "_law_sizes_here"]) t 45 d_L_woven rfl 598 (by decide +kernel) rfl rfl rfl (by decide +kernel) (by intro kV doc pm an cdv ct us hus; match us, hus with | [_, _], _ => rfl) (by walk_at "ln3") (fun cdv A outer s H B E hr => t_L_woven t (f_L_weaving t TB1 TB2) (f_L_unwoven t TB1 TB2) hr) g_L_woven
theorem f_L_program_moves (t : Top K mg) (TB1 : LamX.TabB base mg 516 512) (TB2 : LamX.TabB base mg 660 656) : Fn P w K mg base T0 4 "_law_program_moves" F_L_program_moves := mkFn (N := N_L_program_moves) (ps := ["_law_lot_here", "_law_m", "_law_tables"]) t 53 d_L_program_moves rfl 642 (by decide +kernel) rfl rfl rfl (by decide +kernel) (by intro kV doc pm an cdv ct us hus; match us, hus with | [_, _, _], _ => rfl) (by walk_at "ln3") (fun cdv A outer s H B E hr => t_L_program_moves t (f_L_move t TB1 TB2) hr) g_L_program_moves
theorem f_Meaning_init (t : Top K mg) (TB1 : LamX.TabB base mg 516 512) (TB2 : LamX.TabB base mg 660 656) : FnMk P w K mg base T0 4 "Meaning" 454 F_Meaning_init := by
  obtain ⟨fd, F1⟩ := t.fns 71 d_Meaning_init rfl
  have F1 : FunD K d_Meaning_init.name d_Meaning_init.qual d_Meaning_init.params d_Meaning_init.body d_Meaning_init.scope [] (d_Meaning_init.kws K) 437 fd := F1
  exact ⟨437, fd, ["self", "modulus", "tables"], t.mk_Meaning, fnOk (N := N_Meaning_init) F1 (C8.fnScope_by (by decide +kernel)) (by walk_at "ln3") (fun cdv A outer s H B E hr => t_Meaning_init t (f_is_whole t TB1 TB2) (f_checked_name t TB1 TB2) (f_checked_table t TB1 TB2) hr) g_Meaning_init, t.at_ "Meaning" 454 (by decide +kernel), F1.bindsN (by intro kV doc pm an cdv ct us hus; match us, hus with | [_, _, _], _ => rfl)⟩
theorem f_run_weaving (t : Top K mg) (TB1 : LamX.TabB base mg 516 512) (TB2 : LamX.TabB base mg 660 656) : Fn P w K mg base T0 5 "run_weaving" F_run_weaving := mkFn (N := N_run_weaving) (ps := ["lot", "meaning", "weaving", "store"]) t 21 d_run_weaving rfl 411 (by decide +kernel) rfl rfl rfl (by decide +kernel) (by intro kV doc pm an cdv ct us hus; match us, hus with | [_, _, _, _], _ => rfl) (by walk_at "ln3") (fun cdv A outer s H B E hr => t_run_weaving t (f_run_moments t TB1 TB2) hr) g_run_weaving
theorem f_run_program (t : Top K mg) (TB1 : LamX.TabB base mg 516 512) (TB2 : LamX.TabB base mg 660 656) : Fn P w K mg base T0 5 "run_program" F_run_program := mkFn (N := N_run_program) (ps := ["lot", "meaning", "program", "store"]) t 23 d_run_program rfl 425 (by decide +kernel) rfl rfl rfl (by decide +kernel) (by intro kV doc pm an cdv ct us hus; match us, hus with | [_, _, _, _], _ => rfl) (by walk_at "ln3") (fun cdv A outer s H B E hr => t_run_program t (f_check_meaning t TB1 TB2) (f_check_program t TB1 TB2) (f_check_store t TB1 TB2) (f_whole_end t TB1 TB2) hr) g_run_program
theorem f_L_world (t : Top K mg) (TB1 : LamX.TabB base mg 516 512) (TB2 : LamX.TabB base mg 660 656) : Fn P w K mg base T0 5 "_law_world" F_L_world := mkFn (N := N_L_world) (ps := ["_law_hand_here", "_law_cells", "_law_m"]) t 63 d_L_world rfl 702 (by decide +kernel) rfl rfl rfl (by decide +kernel) (by intro kV doc pm an cdv ct us hus; match us, hus with | [_, _, _], _ => rfl) (by walk_at "ln3") (fun cdv A outer s H B E hr => t_L_world t (f_L_take t TB1 TB2) (f_L_sizes t TB1 TB2) (f_L_lot t TB1 TB2) (f_L_worn_meaning t TB1 TB2) (f_L_back_program t TB1 TB2) hr) g_L_world
theorem f_L_breaking (t : Top K mg) (TB1 : LamX.TabB base mg 516 512) (TB2 : LamX.TabB base mg 660 656) : Fn P w K mg base T0 5 "_law_breaking" F_L_breaking := mkFn (N := N_L_breaking) (ps := ["_law_hand_here", "_law_lot_here", "_law_m", "_law_tables", "_law_kept"]) t 66 d_L_breaking rfl 717 (by decide +kernel) rfl rfl rfl (by decide +kernel) (by intro kV doc pm an cdv ct us hus; match us, hus with | [_, _, _, _, _], _ => rfl) (by walk_at "ln3") (fun cdv A outer s H B E hr => t_L_breaking t (f_L_weavings t TB1 TB2) (f_L_move t TB1 TB2) (f_L_stays t TB1 TB2) (f_L_take t TB1 TB2) (f_L_woven t TB1 TB2) hr) g_L_breaking
theorem f_Lot_init (t : Top K mg) (TB1 : LamX.TabB base mg 516 512) (TB2 : LamX.TabB base mg 660 656) : FnMk P w K mg base T0 5 "Lot" 331 F_Lot_init := by
  obtain ⟨fd, F1⟩ := t.fns 70 d_Lot_init rfl
  have F1 : FunD K d_Lot_init.name d_Lot_init.qual d_Lot_init.params d_Lot_init.body d_Lot_init.scope [] (d_Lot_init.kws K) 270 fd := F1
  exact ⟨270, fd, ["self", "cells", "programs"], t.mk_Lot, fnOk (N := N_Lot_init) F1 (C8.fnScope_by (by decide +kernel)) (by walk_at "ln3") (fun cdv A outer s H B E hr => t_Lot_init t (f_is_whole t TB1 TB2) (f_is_sequence t TB1 TB2) (f_checked_steps t TB1 TB2) (f_goes_by_adds t TB1 TB2) (f_has_unlike_names t TB1 TB2) hr) g_Lot_init, t.at_ "Lot" 331 (by decide +kernel), F1.bindsN (by intro kV doc pm an cdv ct us hus; match us, hus with | [_, _, _], _ => rfl)⟩
theorem f_weaving_move (t : Top K mg) (TB1 : LamX.TabB base mg 516 512) (TB2 : LamX.TabB base mg 660 656) : Fn P w K mg base T0 6 "weaving_move" F_weaving_move := mkFn (N := N_weaving_move) (ps := ["lot", "meaning", "weaving"]) t 25 d_weaving_move rfl 470 (by decide +kernel) rfl rfl rfl (by decide +kernel) (by intro kV doc pm an cdv ct us hus; match us, hus with | [_, _, _], _ => rfl) (by walk_at "ln3") (fun cdv A outer s H B E hr => t_weaving_move t (f_all_stores t TB1 TB2) (f_run_weaving t TB1 TB2) hr) g_weaving_move
theorem f_L_told_meaning (t : Top K mg) (TB1 : LamX.TabB base mg 516 512) (TB2 : LamX.TabB base mg 660 656) : Fn P w K mg base T0 6 "_law_told_meaning" F_L_told_meaning := mkFn (N := N_L_told_meaning) (ps := ["_law_m", "_law_tables"]) t 52 d_L_told_meaning rfl 637 (by decide +kernel) rfl rfl rfl (by decide +kernel) (by intro kV doc pm an cdv ct us hus; match us, hus with | [_, _], _ => rfl) (by walk_at "ln3") (fun cdv A outer s H B E hr => t_L_told_meaning t (f_Meaning_init t TB1 TB2) hr) g_L_told_meaning
theorem f_moves_of (t : Top K mg) (TB1 : LamX.TabB base mg 516 512) (TB2 : LamX.TabB base mg 660 656) : Fn P w K mg base T0 7 "moves_of" F_moves_of := mkFn (N := N_moves_of) (ps := ["lot", "meaning", "weavings"]) t 26 d_moves_of rfl 475 (by decide +kernel) rfl rfl rfl (by decide +kernel) (by intro kV doc pm an cdv ct us hus; match us, hus with | [_, _, _], _ => rfl) (by walk_at "ln3") (fun cdv A outer s H B E hr => t_moves_of t (f_all_stores t TB1 TB2) (f_run_program t TB1 TB2) (f_weaving_move t TB1 TB2) hr) g_moves_of
theorem f_rule_fault (t : Top K mg) (TB1 : LamX.TabB base mg 516 512) (TB2 : LamX.TabB base mg 660 656) : Fn P w K mg base T0 8 "rule_fault" F_rule_fault := mkFn (N := N_rule_fault) (ps := ["lot", "meaning", "stores"]) t 29 d_rule_fault rfl 496 (by decide +kernel) rfl rfl rfl (by decide +kernel) (by intro kV doc pm an cdv ct us hus; match us, hus with | [_, _, _], _ => rfl) (by walk_at "ln3") (fun cdv A outer s H B E hr => t_rule_fault t (f_check_stores t TB1 TB2) (f_moves_of t TB1 TB2) (f_first_leaving t TB1 TB2) hr) g_rule_fault
theorem f_check_kept (t : Top K mg) (TB1 : LamX.TabB base mg 516 512) (TB2 : LamX.TabB base mg 660 656) : FnX P w K mg base T0 8 "check_kept" F_check_kept := by
  obtain ⟨fd, F1, hmg⟩ := t.fd 30 d_check_kept rfl "check_kept" 503 (by decide +kernel) rfl
  exact ⟨503, fd, ["lot", "meaning", "rule"], fnOkX (N := N_check_kept) F1 (C8.fnScope_by (by decide +kernel)) (by walk_at "ln4") (fun cdv A outer s H B E W R hr tk xw => t_check_kept t (f_moves_of t TB1 TB2) (f_first_leaving t TB1 TB2) (f_NK t) hr tk xw) g_check_kept, hmg, F1.kp, F1.bindsN (by intro kV doc pm an cdv ct us hus; match us, hus with | [_, _, _], _ => rfl)⟩
theorem f_least_broken (t : Top K mg) (TB1 : LamX.TabB base mg 516 512) (TB2 : LamX.TabB base mg 660 656) : Fn P w K mg base T0 8 "least_broken" F_least_broken := mkFn (N := N_least_broken) (ps := ["lot", "meaning", "weaving"]) t 34 d_least_broken rfl 529 (by decide +kernel) rfl rfl rfl (by decide +kernel) (by intro kV doc pm an cdv ct us hus; match us, hus with | [_, _, _], _ => rfl) (by walk_at "ln3") (fun cdv A outer s H B E hr => t_least_broken t (f_check_meaning t TB1 TB2) (f_check_weaving t TB1 TB2) (f_moves_of t TB1 TB2) (f_weaving_move t TB1 TB2) (f_all_stores t TB1 TB2) (f_closed_under t TB1 TB2) (f_in_rule_order t TB1) (f_holds_all t TB1 TB2) hr) g_least_broken
theorem f_right_fault (t : Top K mg) (TB1 : LamX.TabB base mg 516 512) (TB2 : LamX.TabB base mg 660 656) : FnX P w K mg base T0 9 "right_fault" F_right_fault := by
  obtain ⟨fd, F1, hmg⟩ := t.fd 31 d_right_fault rfl "right_fault" 510 (by decide +kernel) rfl
  exact ⟨510, fd, ["lot", "meaning", "stores", "weaving"], fnOkX (N := N_right_fault) F1 (C8.fnScope_by (by decide +kernel)) (by walk_at "ln4") (fun cdv A outer s H B E W R hr tk xw => t_right_fault t (f_check_stores t TB1 TB2) (f_check_weaving t TB1 TB2) (f_check_kept t TB1 TB2) (f_weaving_move t TB1 TB2) (f_first_leaving t TB1 TB2) hr tk xw) g_right_fault, hmg, F1.kp, F1.bindsN (by intro kV doc pm an cdv ct us hus; match us, hus with | [_, _, _, _], _ => rfl)⟩
theorem f_L_broken (t : Top K mg) (TB1 : LamX.TabB base mg 516 512) (TB2 : LamX.TabB base mg 660 656) : FnG P w K mg base T0 10 "_law_broken" F_L_broken := by
  obtain ⟨fd, F1, hmg⟩ := t.fd 65 d_L_broken rfl "_law_broken" 712 (by decide +kernel) rfl
  exact ⟨712, fd, ["_law_hand_here", "_law_lot_here", "_law_m", "_law_tables", "_law_kept", "_law_given", "_law_meaning", "_law_weaving_here"], fnOkG (N := N_L_broken) F1 (C8.fnScope_by (by decide +kernel)) (by walk_at "ln3") (fun cdv A outer s H B E hr hG => t_L_broken t (f_L_move t TB1 TB2) (f_L_stays t TB1 TB2) (f_L_least_among t TB1 TB2) (f_L_take t TB1 TB2) (f_least_broken t TB1 TB2) (f_L_leaves t TB1 TB2) (f_right_fault t TB1 TB2) hr hG) g_L_broken, hmg, F1.kp, F1.bindsN (by intro kV doc pm an cdv ct us hus; match us, hus with | [_, _, _, _, _, _, _, _], _ => rfl)⟩
theorem f_L_unkept (t : Top K mg) (TB1 : LamX.TabB base mg 516 512) (TB2 : LamX.TabB base mg 660 656) : FnG P w K mg base T0 10 "_law_unkept" F_L_unkept := by
  obtain ⟨fd, F1, hmg⟩ := t.fd 67 d_L_unkept rfl "_law_unkept" 724 (by decide +kernel) rfl
  exact ⟨724, fd, ["_law_hand_here", "_law_lot_here", "_law_m", "_law_tables", "_law_given", "_law_meaning", "_law_weaving_here"], fnOkG (N := N_L_unkept) F1 (C8.fnScope_by (by decide +kernel)) (by walk_at "ln3") (fun cdv A outer s H B E hr hG => t_L_unkept t (f_L_program_moves t TB1 TB2) (f_L_stores t TB1 TB2) (f_L_some t TB1 TB2) (f_L_leaves t TB1 TB2) (f_rule_fault t TB1 TB2) (f_right_fault t TB1 TB2) (f_L_move t TB1 TB2) hr hG) g_L_unkept, hmg, F1.kp, F1.bindsN (by intro kV doc pm an cdv ct us hus; match us, hus with | [_, _, _, _, _, _, _], _ => rfl)⟩
theorem ok_law (t : Top K mg) (TB1 : LamX.TabB base mg 516 512) (TB2 : LamX.TabB base mg 660 656) {fd : FuncData} (F1 : FunD K d_law.name d_law.qual d_law.params d_law.body d_law.scope [] (d_law.kws K) 729 fd) : FnOkG P w K mg base 11 729 fd ["_law_script"] (spO K T0 F_law) :=
  fnOkG (N := N_law) F1 (C8.fnScope_by (by decide +kernel)) (by walk_at "ln3") (fun cdv A outer s H B E hr hG => t_law t (f_L_hand t TB1 TB2) (f_L_small_world t TB1 TB2) (f_L_world t TB1 TB2) (f_L_stores t TB1 TB2) (f_L_program_moves t TB1 TB2) (f_L_all_kept t TB1 TB2) (f_Lot_init t TB1 TB2) (f_L_told_meaning t TB1 TB2) (f_L_woven t TB1 TB2) (f_L_breaking t TB1 TB2) (f_L_broken t TB1 TB2) (f_L_unkept t TB1 TB2) hr hG) g_law
end
end KG
/-! EK: the end, with tables of code objects, for a law that says repr. -/
namespace KG
open L2 PySem PyProof.Rows PySem.Spec
def listO (vs : List Value) : Obj := { cls := .type "list", data := .seq vs.toArray }
def tabO : Obj := { cls := .none, data := .fields #[] }
/-- what stands when the law is called -/
structure EndG (K : PySem.W.Frag) (mg mb : Str → Option Value) (cs : List (Addr × Addr)) (s : Shared) (a : Addr) (vs : List Value) (ns : List Int) : Prop where
  kx : K.In s.heap
  main : s.heap.Ns mainGlobals mg
  bns : s.heap.Ns builtinsNs mb
  bval : ∀ x : Str, x ≠ "__name__" → mb x = bootBuiltins x
  lim : s.heap.NoLimit
  gens : s.gens = #[]
  tabs : ∀ p ∈ cs, s.heap.get? p.2 = some tabO
  outs : ∀ p ∈ cs, K.lookup p.2 = none
  code : ∀ p ∈ cs, PySem.W.CodeHd s.heap p.1 p.2
  bmod : ∃ (bm : Addr) (ob : Obj), mg "__builtins__" = some (.ref bm) ∧ bm ≠ builtinsNs ∧ s.heap.get? bm = some ob ∧ ob.cls = .type "module" ∧ ob.dict = some builtinsNs ∧ ob.data = .plain
  scr : s.heap.get? a = some (listO vs)
  nums : IntsAre vs ns
  few : ns.length ≤ sizeLine
open Classical in
/-- the tracked heap: the script, where the written part has it not, and the tables -/
noncomputable def startH (K : PySem.W.Frag) (cs : List (Addr × Addr)) (a : Addr) (vs : List Value) (ns : List Int) : Hp := fun b =>
  if (∃ p ∈ cs, p.2 = b) then some (.tbl #[]) else if b = a ∧ K.lookup a = none then some (.frz (listO vs) (.lst (ns.map V.int))) else none
section
variable {P : Program} {w : World} {K : PySem.W.Frag} {mg mb : Str → Option Value} {cs : List (Addr × Addr)} {s : Shared} {a : Addr} {vs : List Value} {ns : List Int}
theorem EndG.isTab (g : EndG K mg mb cs s a vs ns) {b : Addr} (h : ∃ p ∈ cs, p.2 = b) : s.heap.get? b = some tabO := by
  obtain ⟨p, hp, e⟩ := h
  rw [← e]
  exact g.tabs p hp
theorem EndG.noTab (g : EndG K mg mb cs s a vs ns) : ¬ ∃ p ∈ cs, p.2 = a := fun h => by
  have e := g.isTab h
  rw [g.scr] at e
  have e2 : Data.seq vs.toArray _ = Data.fields #[] := congrArg Obj.data (Option.some.inj e)
  cases e2
theorem start_tab {p : Addr × Addr} (hp : p ∈ cs) : startH K cs a vs ns p.2 = some (.tbl #[]) := if_pos ⟨p, hp, rfl⟩
theorem start_ne {b : Addr} {u : HO} (h : startH K cs a vs ns b = some u) : ((∃ p ∈ cs, p.2 = b) ∧ u = .tbl #[]) ∨ (b = a ∧ K.lookup a = none ∧ u = .frz (listO vs) (.lst (ns.map V.int))) := by
  unfold startH at h
  split at h
  · rename_i h1
    exact .inl ⟨h1, (Option.some.inj h).symm⟩
  · split at h
    · rename_i h2
      exact .inr ⟨h2.1, h2.2, (Option.some.inj h).symm⟩
    · cases h
theorem EndG.sql (g : EndG K mg mb cs s a vs ns) : SqL K (startH K cs a vs ns) a (ns.map V.int) := by
  have rv := vals_ints g.nums
  cases hk : K.lookup a with
  | none =>
    refine .inl (.inr ⟨listO vs, ?_⟩)
    unfold startH
    rw [if_neg g.noTab, if_pos ⟨rfl, hk⟩]
  | some o =>
    have e := g.kx a o hk
    rw [g.scr] at e
    obtain rfl := Option.some.inj e
    exact .inr ⟨_, vs.toArray, _, hk, rfl, rfl, rfl, by rw [List.size_toArray, g.nums.length]; exact g.few, by simpa using rv⟩
theorem EndG.hok (g : EndG K mg mb cs s a vs ns) : HOk P w (startH K cs a vs ns) s.heap := fun b u h => by
  rcases start_ne h with ⟨h1, rfl⟩ | ⟨rfl, _, rfl⟩
  · exact g.isTab h1
  · exact ⟨g.scr, by rw [List.length_map]; exact g.few, vs, _, vals_ints g.nums, g.scr⟩
/-- an object that is neither list nor table is not tracked -/
theorem EndG.plain (g : EndG K mg mb cs s a vs ns) {b : Addr} {o : Obj} (e : s.heap.get? b = some o) (h1 : ∀ us n, o.data ≠ .seq us n) (h2 : o.data ≠ .fields #[]) : startH K cs a vs ns b = none := by
  cases q : startH K cs a vs ns b with
  | none => rfl
  | some u =>
    rcases start_ne q with ⟨hb, _⟩ | ⟨hb, _, _⟩
    · rw [g.isTab hb] at e
      obtain rfl := Option.some.inj e
      exact absurd rfl h2
    · subst hb
      rw [g.scr] at e
      obtain rfl := Option.some.inj e
      exact absurd rfl (h1 _ _)
theorem EndG.kept (g : EndG K mg mb cs s a vs ns) {b : Addr} {o : Obj} (e : s.heap.get? b = some o) (h1 : ∀ us n, o.data ≠ .seq us n) (h2 : o.data ≠ .fields #[]) : (hidT s.heap (startH K cs a vs ns)).get? b = some o := hidT_get e (g.plain e h1 h2)
theorem EndG.nsAt (g : EndG K mg mb cs s a vs ns) {b : Addr} {m : Str → Option Value} (h : s.heap.Ns b m) : (hidT s.heap (startH K cs a vs ns)).Ns b m := by
  obtain ⟨o, es, ep, e, d, r⟩ := h
  exact ⟨o, es, ep, g.kept e (fun us n z => by rw [d] at z; cases z) (fun z => by rw [d] at z; cases z), d, r⟩
theorem EndG.kin (g : EndG K mg mb cs s a vs ns) : K.In (hidT s.heap (startH K cs a vs ns)) := fun b o e => hidT_get (g.kx b o e) (by
  cases q : startH K cs a vs ns b with
  | none => rfl
  | some u =>
    rcases start_ne q with ⟨⟨p, hp, rfl⟩, _⟩ | ⟨rfl, hk, _⟩
    · rw [g.outs p hp] at e; cases e
    · rw [hk] at e; cases e)
theorem EndG.mod (g : EndG K mg mb cs s a vs ns) : L2.Mod K mg (hidT s.heap (startH K cs a vs ns)) := by
  obtain ⟨mc, l1, l2⟩ := g.lim
  exact ⟨g.kin, g.nsAt g.main, ⟨mb, g.nsAt g.bns, g.bval⟩, mc, g.nsAt l1, l2⟩
theorem EndG.tabB (g : EndG K mg mb cs s a vs ns) {p : Addr × Addr} (hp : p ∈ cs) : LamX.TabB (hidT s.heap (startH K cs a vs ns)) mg p.1 p.2 := by
  have hT := g.tabs p hp
  obtain ⟨om, es, ep, em, dm, _⟩ := g.main
  refine ⟨?_, ?_, fun z => ?_⟩
  · obtain ⟨o, us, file, tf, flags, tg, inF, text, tt, e1, r1, r2, rest⟩ := g.code p hp
    obtain ⟨r3, rest⟩ := rest
    exact ⟨o, us, file, tf, flags, tg, inF, text, tt, g.kept e1 (fun vs n z => by rw [r2] at z; cases z) (fun z => by rw [r2] at z; cases z; simp at r3), r1, r2, r3, rest⟩
  · obtain ⟨bm, ob, b1, b2, b3, b4, b5, b6⟩ := g.bmod
    have nG : bm ≠ mainGlobals := fun q => by
      rw [q, em] at b3
      obtain rfl := Option.some.inj b3
      rw [dm] at b6
      cases b6
    have nP : bm ≠ p.2 := fun q => by
      rw [q, hT] at b3
      obtain rfl := Option.some.inj b3
      cases b6
    exact ⟨bm, ob, b1, b2, nG, nP, g.kept b3 (fun vs n z => by rw [b6] at z; cases z) (fun z => by rw [b6] at z; cases z), b4, b5, b6⟩
  · rw [z, hT] at em
    obtain rfl := Option.some.inj em
    cases dm
theorem EndG.env0 (g : EndG K mg mb cs s a vs ns) : Env0 P w K mg (hidT s.heap (startH K cs a vs ns)) callerA [] s (startH K cs a vs ns) :=
  ⟨rfl, g.mod, fun b o e => of_hidT e, Nat.le_of_eq (hidT_size _ _), trivial, fun b hb => (by cases hb), g.hok, .of_eq g.gens⟩
theorem end_run {k : Nat} {fa : Addr} {fd : FuncData} {x : Str} {sp : Sp} (g : EndG K mg mb cs s a vs ns) (hr : Room k callerA)
    (F : ∀ base : Heap, (∀ p ∈ cs, LamX.TabB base mg p.1 p.2) → FnOkG P w K mg base k fa fd [x] sp) (hb : ∀ (s : Shared) (u : Value), BindsTo s fd ⟨[u], []⟩ [(x, u)])
    (hsp : sp [.ref a] (startH K cs a vs ns) (fun v _ => v = .bl true) fun _ _ _ => False) :
    codeAny (model P w) callerA (.call (.ref fa) ⟨[.ref a], []⟩) (fun r s' => r = .ok (.ret (.bool true)) ∧ OldK s.heap s'.heap ∧ s'.os = s.os ∧ AllBare s'.gens) s := by
  have main := (F _ fun p hp => g.tabB hp).run callerA [] s _ ⟨[.ref a], []⟩ [.ref a] [.ref a] _ _ hr rfl g.env0 (hb s (.ref a)) (.cons rfl .nil) hsp
  refine codeAny_mono main fun r s' h => ?_
  match r, h with
  | .error e, h => exact (show False from h).elim
  | .ok .next, h => exact (show False from h).elim
  | .ok .brk, h => exact (show False from h).elim
  | .ok .cont, h => exact (show False from h).elim
  | .ok (.ret u), h =>
    obtain ⟨v, H', os, bare, un, ok', rv, hv⟩ := h
    obtain rfl : v = .bl true := hv
    obtain rfl : u = Value.bool true := rv
    have grown : ∀ p ∈ cs, ∃ more : Array Value, s'.heap.get? p.2 = some { cls := .none, data := .fields more } := fun p hp => by
      obtain ⟨more, z⟩ := un.tbls p.2 #[] (start_tab hp)
      exact ⟨_, ok' p.2 _ z⟩
    have same : ∀ b o, (¬ ∃ p ∈ cs, p.2 = b) → s.heap.get? b = some o → s'.heap.get? b = some o := fun b o nb e => by
      cases q : startH K cs a vs ns b with
      | none => exact un.keep b o e q (by intro z; cases z) (by simp)
      | some u =>
        rcases start_ne q with ⟨hb, _⟩ | ⟨rfl, _, rfl⟩
        · exact absurd hb nb
        · obtain ⟨e2, _⟩ := ok' b _ (un.frzs b _ _ q)
          rw [g.scr] at e
          obtain rfl := Option.some.inj e
          exact e2
    refine ⟨rfl, ⟨fun b o e => ?_, fun b o e => ?_⟩, os, bare⟩
    · by_cases hb : ∃ p ∈ cs, p.2 = b
      · obtain ⟨p, hp, rfl⟩ := hb
        obtain ⟨more, hm⟩ := grown p hp
        have hT := g.tabs p hp
        rw [hT] at e
        obtain rfl := Option.some.inj e
        exact .inr (.inl ⟨((g.code p hp).tab hT).isCodeTable, rfl, #[], more, rfl, by rw [Array.empty_append]; exact hm⟩)
      · exact .inl (same b o hb e)
    · by_cases hb : ∃ p ∈ cs, p.2 = b
      · obtain ⟨p, hp, rfl⟩ := hb
        obtain ⟨more, hm⟩ := grown p hp
        exact ⟨_, hm⟩
      · exact ⟨o, same b o hb e⟩
end
end KG
/-! PF: the claim. -/
namespace KG
open L2 PySem PyProof.Rows PySem.Spec
theorem law_sp {K : PySem.W.Frag} {mg mb : Str → Option Value} {s : Shared} {a : Addr} {vs : List Value} {ns : List Int} (g : EndG K mg mb tfL s a vs ns) (hl : ns.length ≤ 63) : spO K T0 F_law [.ref a] (startH K tfL a vs ns) (fun v _ => v = .bl true) fun _ _ _ => False := by
  have hS : SqL K (strip (startH K tfL a vs ns)) a (ns.map V.int) := by
    rcases g.sql with e | e
    · exact .inl (strip_rdL e)
    · exact .inr e
  refine ⟨strip (startH K tfL a vs ns), fun _ => none, [.lsq (ns.map .int)], fun d _ => d = .bl true, ⟨fun b o e => (strip_of e).1, fun l o e => (by cases e), fun p hp => ?_, Le.refl K _⟩, .cons (.lsq hS (ints_rp ns)) .nil, ⟨ns, rfl, by omega, rfl⟩, fun v d Ω G' H _ _ r p => by rw [p] at r; cases r; rfl⟩
  have key : ∃ q ∈ tfL, q.2 = p.1 := by
    have : ∀ p ∈ T0, ∃ q ∈ tfL, q.2 = p.1 := by decide +kernel
    exact this p hp
  obtain ⟨q, hq, e⟩ := key
  rw [← e]
  exact LamX.TabS.nil (start_tab hq)
theorem law_call {w : World} {K : PySem.W.Frag} {mg mb : Str → Option Value} {s : Shared} {fa a : Addr} {vs : List Value} {ns : List Int} (t : Top K mg) (hmg : mg "law" = some (.ref fa)) (g : EndG K mg mb tfL s a vs ns) (hl : ns.length ≤ 63) :
    codeAny (model RW.prog w) callerA (.call (.ref fa) ⟨[.ref a], []⟩) (fun r s' => r = .ok (.ret (.bool true)) ∧ OldK s.heap s'.heap ∧ s'.os = s.os ∧ AllBare s'.gens) s := by
  obtain ⟨fd, F1, hm2⟩ := t.fd 68 d_law rfl "law" 729 (by decide +kernel) rfl
  rw [hm2] at hmg
  obtain rfl : (729 : Addr) = fa := by
    have := Option.some.inj hmg
    cases this
    rfl
  have F1 : FunD K d_law.name d_law.qual d_law.params d_law.body d_law.scope [] (d_law.kws K) 729 fd := F1
  have b := FunD.bindsA (ps := ["_law_script"]) F1 fun _ _ _ _ _ _ us hl => match us, hl with | [_], _ => rfl
  refine end_run (k := 11) (sp := spO K T0 F_law) g ⟨rfl, by decide, by decide⟩ (fun base TB => ?_) (fun s u => b s [u] rfl) (law_sp g hl)
  exact ok_law t (TB (516, 512) (by decide)) (TB (660, 656) (by decide)) F1
end KG
set_option maxRecDepth 100000 in
set_option maxHeartbeats 0 in
theorem PySem.Challenge.cw_knownguards_k22_whole_least_broken_rules_holds : PySem.Challenge.rw_knownguards_k22_whole_least_broken_rules.Holds := by
  w_on; o_law
  refine HandSHeadRun.head_any (r := PySem.W.OpenLaw.row KG.RW) (q := PySem.W.view (PySem.W.OpenLaw.row KG.RW).prog [89]) (H := KG.hk) (ob := KG.ob) (M := 60000) (loose := KG.loose)
    (d := HandSHeadRun.topDef (PySem.W.OpenLaw.row KG.RW).prog 89) (kwd := []) KG.ob_eq (by kernel_rfl) (fun s => by kernel_rfl) KG.run
    (by rfl) (by rfl) (by rfl) (by rfl) (by first | assumption | decide +kernel) (by decide +kernel) ⟨rfl, rfl, rfl, rfl, rfl, by decide +kernel⟩ ?hw ?hc
  case hw => w_witness2
  case hc =>
    refine Att.attach_callB (l := KG.RW) (n := 63) rfl (by kernel_rfl) fun w s₀ s₁ mg mb fa o pm cd doc a vs ns G Y ho hd hcd hmg hobj hints hlen hbits hg => ?_
    obtain ⟨K, KX, c⟩ := Y
    have en : (HandSHeadRun.topDef (PySem.W.OpenLaw.row KG.RW).prog 89).name = (PySem.Str.ofString "law") := by kernel_rfl
    rw [en] at hmg
    exact KG.law_call (KG.top_of KX G.T.g c) hmg ⟨KX, G.T.g, G.T.b, G.T.builtins, G.T.nolimit, hg, c.empty, c.out, fun p hp => PySem.W.codeHd_of_K KX (c.hd p hp), G.T.bmain, hobj, hints, Nat.le_trans hlen (by decide)⟩ hlen

import PyProof.Rows.All
import HandS.ForMost
import HandS.ForSpec
import HandS.HeadHook4
import HandS.Head0
import HandS.Head1
import HandS.Head2
import PySem.Challenge.RW_carpets_k83_whole_looms_of_many_actions
import KE.KStateDown
import HandS.GenList
import HandS.Comp
import HandS.IsInst
import HandS.Property
import HandS.ClsMeth
import HandS.TryMany
import HandS.RaiseFrom
import HandS.ExcInitHot
import HandS.MakeKwOnly
import HandS.SuiteRaise
import HandS.Lambda
import HandS.Flow
import HandS.Style
import HandS.AnyAll
import HandS.DictTup
import HandS.OwnEq
import KE.KExcInit
import HandS.ExcCtx
import KE.KOpsOwn
import HandS.SlotsOwn
import PyProof.InstNe
import PyProof.Rows.MatchSeqLen
import PyProof.Rows.TupIter
import HandS.Finally
import KE.KWithOwn
import KE.KTryMore
import PyProof.StrOps2
import HandS.Small
import HandS.ExcField
import KE.DataEq
import HandS.HeadWalk
set_option Elab.async false
section
set_option Elab.async false
set_option linter.all false
set_option maxRecDepth 100000
set_option maxHeartbeats 4000000
/-! The program's defs by places; what the head is asked, as Bools of the written part. -/
namespace Cp
open PySem PySem.Spec PyProof.Rows L2 He
def top (i : Nat) : Stmt := PySem.Challenge.pw_carpets_k83_whole_looms_of_many_actions.main.body.getD i (.Pass ⟨0, 0, 0, 0⟩)
abbrev s_is_integer : Stmt := top 13
abbrev N_is_integer : List Str := ["value"]
abbrev P_is_integer : List Str := ["value"]
abbrev s_is_place : Stmt := top 14
abbrev N_is_place : List Str := ["value", "number"]
abbrev P_is_place : List Str := ["value"]
abbrev s_check_place : Stmt := top 15
abbrev N_check_place : List Str := ["value"]
abbrev P_check_place : List Str := ["value"]
abbrev s_divisors : Stmt := top 18
abbrev N_divisors : List Str := ["number", "divisor"]
abbrev P_divisors : List Str := ["number"]
abbrev s_plus : Stmt := top 19
abbrev N_plus : List Str := ["one", "other"]
abbrev P_plus : List Str := ["one", "other"]
abbrev s_minus : Stmt := top 20
abbrev N_minus : List Str := ["one", "other"]
abbrev P_minus : List Str := ["one", "other"]
abbrev s_are_numbers : Stmt := top 26
abbrev N_are_numbers : List Str := ["numbers", "number", "a", "b", "c"]
abbrev P_are_numbers : List Str := ["numbers"]
abbrev s_Net___init__ : Stmt := inClass (top 28) 0
abbrev N_Net___init__ : List Str := ["self", "a", "b", "c"]
abbrev P_Net___init__ : List Str := ["self", "a", "b", "c"]
abbrev s_Net_whole : Stmt := inClass (top 28) 2
abbrev N_Net_whole : List Str := ["cls"]
abbrev P_Net_whole : List Str := ["cls"]
abbrev s_Net_numbers : Stmt := inClass (top 28) 3
abbrev N_Net_numbers : List Str := ["self"]
abbrev P_Net_numbers : List Str := ["self"]
abbrev s_Net_size : Stmt := inClass (top 28) 4
abbrev N_Net_size : List Str := ["self"]
abbrev P_Net_size : List Str := ["self"]
abbrev s_Net_place_in_cell : Stmt := inClass (top 28) 6
abbrev N_Net_place_in_cell : List Str := ["self", "place", "a", "b", "c", "rows"]
abbrev P_Net_place_in_cell : List Str := ["self", "place"]
abbrev s_Net___eq__ : Stmt := inClass (top 28) 11
abbrev N_Net___eq__ : List Str := ["self", "other"]
abbrev P_Net___eq__ : List Str := ["self", "other"]
abbrev s_Net_spots : Stmt := inClass (top 28) 15
abbrev N_Net_spots : List Str := ["self", "a", "b", "c", "y", "x"]
abbrev P_Net_spots : List Str := ["self"]
abbrev s_Net_cell : Stmt := inClass (top 28) 16
abbrev N_Net_cell : List Str := ["self", "a", "b", "c", "y", "x"]
abbrev P_Net_cell : List Str := ["self"]
abbrev s_is_colour : Stmt := top 34
abbrev N_is_colour : List Str := ["value"]
abbrev P_is_colour : List Str := ["value"]
abbrev s_check_colour : Stmt := top 35
abbrev N_check_colour : List Str := ["value"]
abbrev P_check_colour : List Str := ["value"]
abbrev s_is_row : Stmt := top 36
abbrev N_is_row : List Str := ["value", "signs", "most", "sign"]
abbrev P_is_row : List Str := ["value", "signs", "most"]
abbrev s_colour_at : Stmt := top 39
abbrev N_colour_at : List Str := ["net", "text", "place", "x", "y"]
abbrev P_colour_at : List Str := ["net", "text", "place"]
abbrev s_is_kept : Stmt := top 40
abbrev N_is_kept : List Str := ["net", "text", "shift", "place"]
abbrev P_is_kept : List Str := ["net", "text", "shift"]
abbrev s_kept_net : Stmt := top 41
abbrev N_kept_net : List Str := ["net", "text", "a", "b", "c", "width", "number", "rows", "right"]
abbrev P_kept_net : List Str := ["net", "text"]
abbrev s_least_cell : Stmt := top 42
abbrev N_least_cell : List Str := ["net", "text", "least", "place"]
abbrev P_least_cell : List Str := ["net", "text"]
abbrev s_Carpet_on : Stmt := inClass (top 43) 1
abbrev N_Carpet_on : List Str := ["net", "text"]
abbrev P_Carpet_on : List Str := ["net", "text"]
abbrev s_Carpet_plain : Stmt := inClass (top 43) 2
abbrev N_Carpet_plain : List Str := ["cls", "colour"]
abbrev P_Carpet_plain : List Str := ["cls", "colour"]
abbrev s_Carpet_net : Stmt := inClass (top 43) 3
abbrev N_Carpet_net : List Str := ["self"]
abbrev P_Carpet_net : List Str := ["self"]
abbrev s_Carpet_text : Stmt := inClass (top 43) 4
abbrev N_Carpet_text : List Str := ["self"]
abbrev P_Carpet_text : List Str := ["self"]
abbrev s_Carpet_seen : Stmt := inClass (top 43) 7
abbrev N_Carpet_seen : List Str := ["self", "place"]
abbrev P_Carpet_seen : List Str := ["self", "place"]
abbrev s_Carpet___getitem__ : Stmt := inClass (top 43) 8
abbrev N_Carpet___getitem__ : List Str := ["self", "place"]
abbrev P_Carpet___getitem__ : List Str := ["self", "place"]
abbrev s_Carpet___len__ : Stmt := inClass (top 43) 10
abbrev N_Carpet___len__ : List Str := ["self"]
abbrev P_Carpet___len__ : List Str := ["self"]
abbrev s_Carpet___eq__ : Stmt := inClass (top 43) 11
abbrev N_Carpet___eq__ : List Str := ["self", "other"]
abbrev P_Carpet___eq__ : List Str := ["self", "other"]
abbrev s_Carpet___add__ : Stmt := inClass (top 43) 13
abbrev N_Carpet___add__ : List Str := ["self", "shift", "place"]
abbrev P_Carpet___add__ : List Str := ["self", "shift"]
abbrev s_Woven___init__ : Stmt := inClass (top 44) 0
abbrev N_Woven___init__ : List Str := ["self", "net", "text"]
abbrev P_Woven___init__ : List Str := ["self", "net", "text"]
abbrev s_Attempt___init__ : Stmt := inClass (top 61) 0
abbrev N_Attempt___init__ : List Str := ["self", "log"]
abbrev P_Attempt___init__ : List Str := ["self", "log"]
abbrev s_Attempt___enter__ : Stmt := inClass (top 61) 1
abbrev N_Attempt___enter__ : List Str := ["self"]
abbrev P_Attempt___enter__ : List Str := ["self"]
abbrev s_Attempt___exit__ : Stmt := inClass (top 61) 2
abbrev N_Attempt___exit__ : List Str := ["self", "kind", "value", "trace"]
abbrev P_Attempt___exit__ : List Str := ["self", "kind", "value", "trace"]
abbrev s_Loom___init__ : Stmt := inClass (top 62) 0
abbrev N_Loom___init__ : List Str := ["self", "net", "colour"]
abbrev P_Loom___init__ : List Str := ["self", "net", "colour"]
abbrev s_Loom_carpet : Stmt := inClass (top 62) 2
abbrev N_Loom_carpet : List Str := ["self"]
abbrev P_Loom_carpet : List Str := ["self"]
abbrev s_Loom_log : Stmt := inClass (top 62) 3
abbrev N_Loom_log : List Str := ["self"]
abbrev P_Loom_log : List Str := ["self"]
abbrev s_Loom___len__ : Stmt := inClass (top 62) 4
abbrev N_Loom___len__ : List Str := ["self"]
abbrev P_Loom___len__ : List Str := ["self"]
abbrev s_Loom___eq__ : Stmt := inClass (top 62) 5
abbrev N_Loom___eq__ : List Str := ["self", "other"]
abbrev P_Loom___eq__ : List Str := ["self", "other"]
abbrev s_Loom_change : Stmt := inClass (top 62) 6
abbrev N_Loom_change : List Str := ["self", "carpet"]
abbrev P_Loom_change : List Str := ["self", "carpet"]
abbrev s_Loom_paint : Stmt := inClass (top 62) 7
abbrev N_Loom_paint : List Str := ["self", "place", "colour", "spot", "letters", "other"]
abbrev P_Loom_paint : List Str := ["self", "place", "colour"]
abbrev s_Loom_move : Stmt := inClass (top 62) 9
abbrev N_Loom_move : List Str := ["self", "shift"]
abbrev P_Loom_move : List Str := ["self", "shift"]
abbrev s_Loom_undo : Stmt := inClass (top 62) 11
abbrev N_Loom_undo : List Str := ["self"]
abbrev P_Loom_undo : List Str := ["self"]
abbrev s_Loom_redo : Stmt := inClass (top 62) 12
abbrev N_Loom_redo : List Str := ["self"]
abbrev P_Loom_redo : List Str := ["self"]
abbrev s_Loom_act : Stmt := inClass (top 62) 13
abbrev N_Loom_act : List Str := ["self", "action", "place", "colour", "top", "clear", "shift"]
abbrev P_Loom_act : List Str := ["self", "action"]
abbrev s_Loom_run : Stmt := inClass (top 62) 14
abbrev N_Loom_run : List Str := ["self", "actions", "attempt", "index", "action", "is_action", "e"]
abbrev P_Loom_run : List Str := ["self", "actions"]
abbrev s_Loom_copy : Stmt := inClass (top 62) 15
abbrev N_Loom_copy : List Str := ["self", "other"]
abbrev P_Loom_copy : List Str := ["self"]
abbrev s__law_tape : Stmt := top 64
abbrev N__law_tape : List Str := ["_law_script"]
abbrev P__law_tape : List Str := ["_law_script"]
abbrev s__law_draw : Stmt := top 65
abbrev N__law_draw : List Str := ["_law_tape_here", "_law_many", "_law_digit", "_law_cell", "_law_near"]
abbrev P__law_draw : List Str := ["_law_tape_here", "_law_many"]
abbrev s__law_great : Stmt := top 66
abbrev N__law_great : List Str := ["_law_tape_here", "_law_size", "_law_high", "_law_value"]
abbrev P__law_great : List Str := ["_law_tape_here", "_law_size"]
abbrev s__law_place : Stmt := top 67
abbrev N__law_place : List Str := ["_law_tape_here"]
abbrev P__law_place : List Str := ["_law_tape_here"]
abbrev s__law_low : Stmt := top 68
abbrev N__law_low : List Str := ["_law_net_here", "_law_place_here", "_law_times"]
abbrev P__law_low : List Str := ["_law_net_here", "_law_place_here"]
abbrev s__law_spots : Stmt := top 69
abbrev N__law_spots : List Str := ["_law_net_here", "_law_at"]
abbrev P__law_spots : List Str := ["_law_net_here"]
abbrev s__law_seen : Stmt := top 70
abbrev N__law_seen : List Str := ["_law_net_here", "_law_text", "_law_place_here", "_law_x", "_law_y"]
abbrev P__law_seen : List Str := ["_law_net_here", "_law_text", "_law_place_here"]
abbrev s__law_net : Stmt := top 71
abbrev N__law_net : List Str := ["_law_tape_here", "_law_most", "_law_wide"]
abbrev P__law_net : List Str := ["_law_tape_here", "_law_most"]
abbrev s__law_turned : Stmt := top 72
abbrev N__law_turned : List Str := ["_law_kind", "_law_place_here", "_law_x", "_law_y"]
abbrev P__law_turned : List Str := ["_law_kind", "_law_place_here"]
abbrev s__law_carried : Stmt := top 73
abbrev N__law_carried : List Str := ["_law_move", "_law_place_here", "_law_x", "_law_y"]
abbrev P__law_carried : List Str := ["_law_move", "_law_place_here"]
abbrev s__law_divisor : Stmt := top 74
abbrev N__law_divisor : List Str := ["_law_one", "_law_other"]
abbrev P__law_divisor : List Str := ["_law_one", "_law_other"]
abbrev s__law_net_of : Stmt := top 75
abbrev N__law_net_of : List Str := ["_law_shifts", "_law_wide", "_law_low_here", "_law_one", "_law_far", "_law_times"]
abbrev P__law_net_of : List Str := ["_law_shifts"]
abbrev s__law_image : Stmt := top 76
abbrev N__law_image : List Str := ["_law_net_here", "_law_text", "_law_move", "_law_larger", "_law_found", "_law_spot"]
abbrev P__law_image : List Str := ["_law_net_here", "_law_text", "_law_move"]
abbrev s__law_painted : Stmt := top 77
abbrev N__law_painted : List Str := ["_law_net_here", "_law_text", "_law_action", "_law_spot", "_law_at"]
abbrev P__law_painted : List Str := ["_law_net_here", "_law_text", "_law_action"]
abbrev s__law_behind : Stmt := top 78
abbrev N__law_behind : List Str := ["_law_net_here", "_law_text", "_law_actions", "_law_action"]
abbrev P__law_behind : List Str := ["_law_net_here", "_law_text", "_law_actions"]
abbrev s__law_some : Stmt := top 79
abbrev N__law_some : List Str := ["_law_tape_here", "_law_place_now"]
abbrev P__law_some : List Str := ["_law_tape_here"]
abbrev s__law_did : Stmt := top 80
abbrev N__law_did : List Str := ["_law_call", "e"]
abbrev P__law_did : List Str := ["_law_call"]
abbrev s__law_stepped : Stmt := top 81
abbrev N__law_stepped : List Str := ["_law_loom", "_law_history", "_law_way", "_law_due", "_law_found"]
abbrev P__law_stepped : List Str := ["_law_loom", "_law_history", "_law_way"]
abbrev s__law_acted : Stmt := top 82
abbrev N__law_acted : List Str := ["_law_tape_here", "_law_loom", "_law_history", "_law_net_here", "_law_way", "_law_some_here", "_law_k", "_law_at"]
abbrev P__law_acted : List Str := ["_law_tape_here", "_law_loom", "_law_history", "_law_net_here"]
abbrev s_law : Stmt := top 83
abbrev N_law : List Str := ["_law_script", "_law_tape_here", "_law_net_here", "_law_made", "_law_loom", "_law_history", "_law_turn", "_law_way", "_law_right", "_law_text", "_law_far"]
abbrev P_law : List Str := ["_law_script"]
def defTab : List (Str × Str × Stmt) := [(("is_integer" : Str), ("is_integer" : Str), s_is_integer),
  (("is_place" : Str), ("is_place" : Str), s_is_place),
  (("check_place" : Str), ("check_place" : Str), s_check_place),
  (("divisors" : Str), ("divisors" : Str), s_divisors),
  (("plus" : Str), ("plus" : Str), s_plus),
  (("minus" : Str), ("minus" : Str), s_minus),
  (("are_numbers" : Str), ("are_numbers" : Str), s_are_numbers),
  (("__init__" : Str), ("Net.__init__" : Str), s_Net___init__),
  (("whole" : Str), ("Net.whole" : Str), s_Net_whole),
  (("numbers" : Str), ("Net.numbers" : Str), s_Net_numbers),
  (("size" : Str), ("Net.size" : Str), s_Net_size),
  (("place_in_cell" : Str), ("Net.place_in_cell" : Str), s_Net_place_in_cell),
  (("__eq__" : Str), ("Net.__eq__" : Str), s_Net___eq__),
  (("spots" : Str), ("Net.spots" : Str), s_Net_spots),
  (("cell" : Str), ("Net.cell" : Str), s_Net_cell),
  (("is_colour" : Str), ("is_colour" : Str), s_is_colour),
  (("check_colour" : Str), ("check_colour" : Str), s_check_colour),
  (("is_row" : Str), ("is_row" : Str), s_is_row),
  (("colour_at" : Str), ("colour_at" : Str), s_colour_at),
  (("is_kept" : Str), ("is_kept" : Str), s_is_kept),
  (("kept_net" : Str), ("kept_net" : Str), s_kept_net),
  (("least_cell" : Str), ("least_cell" : Str), s_least_cell),
  (("on" : Str), ("Carpet.on" : Str), s_Carpet_on),
  (("plain" : Str), ("Carpet.plain" : Str), s_Carpet_plain),
  (("net" : Str), ("Carpet.net" : Str), s_Carpet_net),
  (("text" : Str), ("Carpet.text" : Str), s_Carpet_text),
  (("seen" : Str), ("Carpet.seen" : Str), s_Carpet_seen),
  (("__getitem__" : Str), ("Carpet.__getitem__" : Str), s_Carpet___getitem__),
  (("__len__" : Str), ("Carpet.__len__" : Str), s_Carpet___len__),
  (("__eq__" : Str), ("Carpet.__eq__" : Str), s_Carpet___eq__),
  (("__add__" : Str), ("Carpet.__add__" : Str), s_Carpet___add__),
  (("__init__" : Str), ("Woven.__init__" : Str), s_Woven___init__),
  (("__init__" : Str), ("Attempt.__init__" : Str), s_Attempt___init__),
  (("__enter__" : Str), ("Attempt.__enter__" : Str), s_Attempt___enter__),
  (("__exit__" : Str), ("Attempt.__exit__" : Str), s_Attempt___exit__),
  (("__init__" : Str), ("Loom.__init__" : Str), s_Loom___init__),
  (("carpet" : Str), ("Loom.carpet" : Str), s_Loom_carpet),
  (("log" : Str), ("Loom.log" : Str), s_Loom_log),
  (("__len__" : Str), ("Loom.__len__" : Str), s_Loom___len__),
  (("__eq__" : Str), ("Loom.__eq__" : Str), s_Loom___eq__),
  (("change" : Str), ("Loom.change" : Str), s_Loom_change),
  (("paint" : Str), ("Loom.paint" : Str), s_Loom_paint),
  (("move" : Str), ("Loom.move" : Str), s_Loom_move),
  (("undo" : Str), ("Loom.undo" : Str), s_Loom_undo),
  (("redo" : Str), ("Loom.redo" : Str), s_Loom_redo),
  (("act" : Str), ("Loom.act" : Str), s_Loom_act),
  (("run" : Str), ("Loom.run" : Str), s_Loom_run),
  (("copy" : Str), ("Loom.copy" : Str), s_Loom_copy),
  (("_law_tape" : Str), ("_law_tape" : Str), s__law_tape),
  (("_law_draw" : Str), ("_law_draw" : Str), s__law_draw),
  (("_law_great" : Str), ("_law_great" : Str), s__law_great),
  (("_law_place" : Str), ("_law_place" : Str), s__law_place),
  (("_law_low" : Str), ("_law_low" : Str), s__law_low),
  (("_law_spots" : Str), ("_law_spots" : Str), s__law_spots),
  (("_law_seen" : Str), ("_law_seen" : Str), s__law_seen),
  (("_law_net" : Str), ("_law_net" : Str), s__law_net),
  (("_law_turned" : Str), ("_law_turned" : Str), s__law_turned),
  (("_law_carried" : Str), ("_law_carried" : Str), s__law_carried),
  (("_law_divisor" : Str), ("_law_divisor" : Str), s__law_divisor),
  (("_law_net_of" : Str), ("_law_net_of" : Str), s__law_net_of),
  (("_law_image" : Str), ("_law_image" : Str), s__law_image),
  (("_law_painted" : Str), ("_law_painted" : Str), s__law_painted),
  (("_law_behind" : Str), ("_law_behind" : Str), s__law_behind),
  (("_law_some" : Str), ("_law_some" : Str), s__law_some),
  (("_law_did" : Str), ("_law_did" : Str), s__law_did),
  (("_law_stepped" : Str), ("_law_stepped" : Str), s__law_stepped),
  (("_law_acted" : Str), ("_law_acted" : Str), s__law_acted),
  (("law" : Str), ("law" : Str), s_law)]
/-- classes: Net 0, Carpet 1, Woven 2, Attempt 3, Loom 4 -/
def clsTab : List Str := ["Net", "Carpet", "Woven", "Attempt", "Loom"]
def globTab : List (Str × Nat) := [(("is_integer" : Str), 0), (("is_place" : Str), 1), (("check_place" : Str), 2), (("divisors" : Str), 3), (("plus" : Str), 4), (("minus" : Str), 5), (("are_numbers" : Str), 6), (("is_colour" : Str), 15), (("check_colour" : Str), 16), (("is_row" : Str), 17), (("colour_at" : Str), 18), (("is_kept" : Str), 19), (("kept_net" : Str), 20), (("least_cell" : Str), 21), (("_law_tape" : Str), 48), (("_law_draw" : Str), 49), (("_law_great" : Str), 50), (("_law_place" : Str), 51), (("_law_low" : Str), 52), (("_law_spots" : Str), 53), (("_law_seen" : Str), 54), (("_law_net" : Str), 55), (("_law_turned" : Str), 56), (("_law_carried" : Str), 57), (("_law_divisor" : Str), 58), (("_law_net_of" : Str), 59), (("_law_image" : Str), 60), (("_law_painted" : Str), 61), (("_law_behind" : Str), 62), (("_law_some" : Str), 63), (("_law_did" : Str), 64), (("_law_stepped" : Str), 65), (("_law_acted" : Str), 66), (("law" : Str), 67)]
def methTab : List (Nat × Str × Nat) := [(0, ("place_in_cell" : Str), 11), (0, ("__eq__" : Str), 12), (0, ("spots" : Str), 13), (0, ("cell" : Str), 14), (2, ("seen" : Str), 26), (2, ("__getitem__" : Str), 27), (2, ("__len__" : Str), 28), (2, ("__eq__" : Str), 29), (2, ("__add__" : Str), 30), (3, ("__enter__" : Str), 33), (3, ("__exit__" : Str), 34), (4, ("__len__" : Str), 38), (4, ("__eq__" : Str), 39), (4, ("change" : Str), 40), (4, ("paint" : Str), 41), (4, ("move" : Str), 42), (4, ("undo" : Str), 43), (4, ("redo" : Str), 44), (4, ("act" : Str), 45), (4, ("run" : Str), 46), (4, ("copy" : Str), 47)]
def propTab : List (Nat × Str × Nat) := [(0, ("numbers" : Str), 9), (0, ("size" : Str), 10), (2, ("net" : Str), 24), (2, ("text" : Str), 25), (4, ("carpet" : Str), 36), (4, ("log" : Str), 37)]
def noTab : List (Nat × Str) := [(0, ("own_numbers" : Str)), (2, ("own_net" : Str)), (2, ("own_text" : Str)), (3, ("entries" : Str)), (4, ("own_net" : Str)), (4, ("own_carpet" : Str)), (4, ("earlier" : Str)), (4, ("later" : Str)), (4, ("entries" : Str))]
def mkTab : List (Nat × Nat) := [(0, 7), (2, 31), (3, 32), (4, 35)]
def bltTab : List Str := ["len", "all", "isinstance", "range", "list", "max", "min", "enumerate", "abs", "int", "bool", "tuple", "str"]
def kitTab : List (Nat × Nat) := [(0, 0), (2, 1), (4, 4)]
def intTab : List (Str × Int) := [(("MOST_PLACES_carpets" : Str), 2000), (("MOST_PLACES_looms" : Str), 2000)]
end Cp
namespace Xc
open PySem PySem.W PySem.Calls PyProof.Rows PySem.HandSPX Builtin Builtin.ObjectAttr
/-- own classes, then the base's mro t -/
def refsT (t : List Value) : List Value → Bool
  | .ref _ :: r => refsT t r
  | l => l == t
end Xc
namespace Cp
open PySem PySem.Spec PyProof.Rows L2 He
abbrev veT : List Value := [.type "ValueError", .type "Exception", .type "BaseException", .type "object"]
abbrev aeT : List Value := [.type "ArithmeticError", .type "Exception", .type "BaseException", .type "object"]
abbrev reT : List Value := [.type "RuntimeError", .type "Exception", .type "BaseException", .type "object"]
def locA : List (Nat × Str × Bool) := [(9, ("is_integer" : Str), false), (9, ("is_place" : Str), false), (9, ("check_place" : Str), false), (9, ("divisors" : Str), false), (9, ("plus" : Str), false), (9, ("minus" : Str), false), (9, ("are_numbers" : Str), false), (0, ("__init__" : Str), false), (0, ("whole" : Str), true), (0, ("numbers" : Str), true), (0, ("size" : Str), true), (0, ("place_in_cell" : Str), false), (0, ("__eq__" : Str), false), (0, ("spots" : Str), false), (0, ("cell" : Str), false), (9, ("is_colour" : Str), false), (9, ("check_colour" : Str), false), (9, ("is_row" : Str), false), (9, ("colour_at" : Str), false), (9, ("is_kept" : Str), false), (9, ("kept_net" : Str), false), (9, ("least_cell" : Str), false), (1, ("on" : Str), true), (1, ("plain" : Str), true), (1, ("net" : Str), true), (1, ("text" : Str), true), (1, ("seen" : Str), false), (1, ("__getitem__" : Str), false), (1, ("__len__" : Str), false), (1, ("__eq__" : Str), false), (1, ("__add__" : Str), false), (2, ("__init__" : Str), false), (3, ("__init__" : Str), false), (3, ("__enter__" : Str), false)]
def locB : List (Nat × Str × Bool) := [(3, ("__exit__" : Str), false), (4, ("__init__" : Str), false), (4, ("carpet" : Str), true), (4, ("log" : Str), true), (4, ("__len__" : Str), false), (4, ("__eq__" : Str), false), (4, ("change" : Str), false), (4, ("paint" : Str), false), (4, ("move" : Str), false), (4, ("undo" : Str), false), (4, ("redo" : Str), false), (4, ("act" : Str), false), (4, ("run" : Str), false), (4, ("copy" : Str), false), (9, ("_law_tape" : Str), false), (9, ("_law_draw" : Str), false), (9, ("_law_great" : Str), false), (9, ("_law_place" : Str), false), (9, ("_law_low" : Str), false), (9, ("_law_spots" : Str), false), (9, ("_law_seen" : Str), false), (9, ("_law_net" : Str), false), (9, ("_law_turned" : Str), false), (9, ("_law_carried" : Str), false), (9, ("_law_divisor" : Str), false), (9, ("_law_net_of" : Str), false), (9, ("_law_image" : Str), false), (9, ("_law_painted" : Str), false), (9, ("_law_behind" : Str), false), (9, ("_law_some" : Str), false), (9, ("_law_did" : Str), false), (9, ("_law_stepped" : Str), false), (9, ("_law_acted" : Str), false), (9, ("law" : Str), false)]
def locTab : List (Nat × Str × Bool) := locA ++ locB
def excTab : List Str := ["InvalidColour", "RunFailed", "NothingToUndo", "CarpetError", "LimitExceeded"]
def caK (K : PySem.W.Frag) (j : Nat) : Addr := ga K (clsTab.getD j "")
/-- the function that a property, a staticmethod or a classmethod holds -/
def innK (K : PySem.W.Frag) (p : Addr) : Addr := match K.lookup p with
  | some ⟨_, _, .fields vs, _⟩ => (match vs.toList with
    | .ref g :: _ => g
    | _ => 0)
  | _ => 0
def locK (K : PySem.W.Frag) : Nat × Str × Bool → Addr
  | (9, x, _) => ga K x
  | (c, x, false) => ma K (caK K c) x
  | (c, x, true) => innK K (ma K (caK K c) x)
def faK (K : PySem.W.Frag) (i : Nat) : Addr := locK K (locTab.getD i (9, "", false))
def paK (K : PySem.W.Frag) (i : Nat) : Addr := match locTab.getD i (9, "", false) with
  | (c, x, _) => ma K (caK K c) x
def qaK (K : PySem.W.Frag) (i : Nat) : Addr := match i with
  | 0 => paK K 8
  | 1 => paK K 23
  | _ => paK K 22
def eaK (K : PySem.W.Frag) (i : Nat) : Addr := match i with
  | 0 => ga K "InvalidColour"
  | 1 => ma K (ga K "InvalidColour") "__init__"
  | 2 => ga K "RunFailed"
  | 3 => ma K (ga K "RunFailed") "__init__"
  | 4 => ga K "NothingToUndo"
  | 5 => ga K "CarpetError"
  | _ => ga K "LimitExceeded"
def fdAt (K : PySem.W.Frag) (a : Addr) : FuncData := match K.lookup a with
  | some ⟨_, _, .func fd, _⟩ => fd
  | _ => default
def fdK (K : PySem.W.Frag) (i : Nat) : FuncData := fdAt K (faK K i)
def fnAt (K : PySem.W.Frag) (a : Addr) : FnV := match K.lookup a with
  | some ⟨_, _, .func fd, _⟩ => some (fd.name, fd.qualname, fd.params, fd.body, fd.scope, fd.globals, fd.closure, fd.defaults, fd.builtins)
  | _ => none
def codeB (K : PySem.W.Frag) (a : Addr) (q : Str) : Bool := match K.lookup a with
  | some ⟨_, _, .func fd, _⟩ => PySem.W.codeIn K fd.code q
  | _ => false
def fnVal (e : Str × Str × Stmt) : FnV := some (e.1, e.2.1, defArgs e.2.2, .stmts (defBody e.2.2), defScope e.2.2, mainGlobals, [], .none, builtinsNs)
def isR (K : PySem.W.Frag) (x : Str) (a : Addr) : Bool := eqO (PySem.W.nsIn K mainGlobals x) (some (some (.ref a)))
def fndB (K : PySem.W.Frag) (C : Addr) (m : Str) (a : Addr) : Bool := eqO (PySem.W.findIn K (.ref C) m) (some (some (.ref a)))
def recB (K : PySem.W.Frag) (p : Addr) (T : String) (g : Addr) : Bool := match PySem.W.recIn K p T with
  | some (.ref a :: _) => decide (a = g)
  | _ => false
def clsFB (K : PySem.W.Frag) (C : Addr) : Bool := PySem.W.plainGet K C Str.empty && (PySem.W.hasDictIn K C && (PySem.W.plainOver K C && eqO (PySem.W.findIn K (.ref C) "__setattr__") (some (some (.builtin "object.__setattr__")))))
def methFB (K : PySem.W.Frag) (C : Addr) (m : Str) (a : Addr) : Bool := fndB K C m a && (PySem.W.isFn K (.ref a) && PySem.W.keepIn K (.ref a))
def propFB (K : PySem.W.Frag) (C : Addr) (m : Str) (p g : Addr) : Bool := fndB K C m p && (eqO (PySem.W.specialIn K (.ref p) "__get__") (some (some (.builtin "property.__get__"))) && (decide (PySem.W.takesIn K (.ref p) = some true) && recB K p "property" g))
def mkFB (K : PySem.W.Frag) (C f : Addr) : Bool := PySem.W.makesIn K C && (fndB K C "__init__" f && (PySem.W.isFn K (.ref f) && PySem.W.keepIn K (.ref C)))
def ityB (K : PySem.W.Frag) (C : Addr) : Bool := eqO (PySem.W.findIn K (.ref C) "__class__") (some (some (.builtin "object.__class__"))) && decide (PySem.W.mroIn K C (.type "object") = some true)
def intB (K : PySem.W.Frag) (x : Str) (i : Int) : Bool := (Fa.int x i).ok K
/-- all but the functions, of Tx -/
def txB (K : PySem.W.Frag) : Bool :=
  (globTab.all fun e => isR K e.1 (faK K e.2)) && ((List.range 5).all fun j => isR K (clsTab.getD j "") (caK K j)) && ((List.range 5).all fun j => clsFB K (caK K j)) && (methTab.all fun e => methFB K (caK K e.1) e.2.1 (faK K e.2.2)) &&
  (propTab.all fun e => propFB K (caK K e.1) e.2.1 (paK K e.2.2) (faK K e.2.2)) && (noTab.all fun e => eqO (PySem.W.findIn K (.ref (caK K e.1)) e.2) (some none)) && (mkTab.all fun e => mkFB K (caK K e.1) (faK K e.2)) &&
  (bltTab.all fun x => eqO (PySem.W.nsIn K mainGlobals x) (some none)) && ((List.range 5).all fun j => ityB K (caK K j)) &&
  (eqO (PySem.W.specialIn K (.builtin "object.__class__") "__get__") (some (some (.builtin "getset_descriptor.__get__"))) && decide (PySem.W.takesIn K (.builtin "object.__class__") = some true)) &&
  (kitTab.all fun e => decide (PySem.W.kitOne K (.ref (caK K e.1)) (.ref (caK K e.2)) = some true)) && eqO (PySem.W.findIn K (.ref (caK K 2)) "__ne__") (some (some (.builtin "object.__ne__"))) && PySem.W.selfFirst K (caK K 2) && PySem.W.fnIn K (faK K 27) &&
  (Fa.str "LETTERS" "abcdefghijklmnopqrstuvwxyz").ok K && (intTab.all fun e => intB K e.1 e.2)
def fnB (K : PySem.W.Frag) : Bool := (List.range 68).all fun i => codeB K (faK K i) (defTab.getD i ("", "", .Pass ⟨0, 0, 0, 0⟩)).2.1 && PySem.W.keepIn K (.ref (faK K i))
def fnL (K : PySem.W.Frag) : List FnV := (List.range 68).map fun i => fnAt K (faK K i)
def clsPB (K : PySem.W.Frag) (C : Addr) (newId : String) (bt : List Value) : Bool := match K.lookup C with
  | some ⟨.type "type", _, .cls cd, sl⟩ => (match cd.mro, sl.toList with
    | .ref C' :: bm, [_, _, _, _, some (.builtin n), _] => C' == C && n == newId && !cd.hasDel && cd.hasDict && Xc.refsT bt bm
    | _, _ => false)
  | _ => false
def ownFB (K : PySem.W.Frag) (C fI : Addr) (f : Str) (newId : String) (bt : List Value) : Bool :=
  clsPB K C newId bt && eqO (PySem.W.findIn K (.ref C) "__setattr__") (some (some (.builtin "object.__setattr__"))) && eqO (PySem.W.findIn K (.ref C) "__getattribute__") (some (some (.builtin "BaseException.__getattribute__"))) && eqO (PySem.W.findIn K (.ref C) "__getattr__") (some none) &&
  eqO (PySem.W.findIn K (.ref C) f) (some none) && fndB K C "__init__" fI && decide (PySem.W.typeIn K (.ref fI) = some (.type "function")) && PySem.W.keepIn K (.ref C) && decide (PySem.W.subIn K (.ref C) (.type "BaseException") = some true) && decide (PySem.W.typeIn K (.ref C) = some (.type "type")) && PySem.W.hasDictIn K C
abbrev s_colInit : Stmt := inClass (top 6) 0
abbrev s_runInit : Stmt := inClass (top 11) 0
def colE : Str × Str × Stmt := ("__init__", "InvalidColour.__init__", s_colInit)
def runE : Str × Str × Stmt := ("__init__", "RunFailed.__init__", s_runInit)
def txeB (K : PySem.W.Frag) : Bool :=
  isR K "InvalidColour" (eaK K 0) && ownFB K (eaK K 0) (eaK K 1) "value" "ValueError.__new__" veT && codeB K (eaK K 1) colE.2.1 &&
  isR K "RunFailed" (eaK K 2) && ownFB K (eaK K 2) (eaK K 3) "index" "ArithmeticError.__new__" aeT && codeB K (eaK K 3) runE.2.1 &&
  isR K "NothingToUndo" (eaK K 4) && PySem.W.excIn K (eaK K 4) reT "RuntimeError.__new__" && PySem.W.keepIn K (.ref (eaK K 4)) && decide (PySem.W.subIn K (.ref (eaK K 4)) (.type "BaseException") = some true) && decide (PySem.W.typeIn K (.ref (eaK K 4)) = some (.type "type")) &&
  isR K "CarpetError" (eaK K 5) && isR K "LimitExceeded" (eaK K 6) && decide (PySem.W.exmOne K (.ref (eaK K 4)) (.ref (eaK K 4)) = some true) && decide (PySem.W.exmOne K (.ref (eaK K 2)) (.ref (eaK K 4)) = some false) &&
  decide (PySem.W.exmOne K (.ref (eaK K 2)) (.ref (eaK K 2)) = some true) && decide (PySem.W.exmOne K (.ref (eaK K 0)) (.ref (eaK K 5)) = some true) && decide (PySem.W.exmOne K (.ref (eaK K 0)) (.ref (eaK K 6)) = some false)
def exL (K : PySem.W.Frag) : List FnV := [fnAt K (eaK K 1), fnAt K (eaK K 3)]
def cgB (K : PySem.W.Frag) (C : Addr) (m : Str) (id : String) (p : Addr) : Bool := match PySem.W.findCls K (.ref C) (.type "type") m with
  | some (.get (.builtin b) (.ref q) .none (.ref c)) => decide (b = id) && (decide (q = p) && decide (c = C))
  | _ => false
def crB (K : PySem.W.Frag) (C : Addr) : Bool := PySem.W.readsIn K C (.type "type") && eqO (PySem.W.specialIn K (.ref C) "__getattribute__") (some (some (.builtin "type.__getattribute__")))
def dLoom : DefD := ⟨("Loom", some "__init__"), "__init__", "Loom.__init__", defArgs s_Loom___init__, defBody s_Loom___init__, defScope s_Loom___init__, [], [("colour", .str "a")]⟩
def txcB (K : PySem.W.Frag) : Bool :=
  crB K (caK K 0) && crB K (caK K 1) && cgB K (caK K 0) "whole" "classmethod.__get__" (qaK K 0) && recB K (qaK K 0) "classmethod" (faK K 8) && PySem.W.fnIn K (faK K 8) &&
  cgB K (caK K 1) "plain" "classmethod.__get__" (qaK K 1) && recB K (qaK K 1) "classmethod" (faK K 23) && PySem.W.fnIn K (faK K 23) &&
  cgB K (caK K 1) "on" "staticmethod.__get__" (qaK K 2) && recB K (qaK K 2) "staticmethod" (faK K 22) && PySem.W.keepIn K (.ref (faK K 22)) && dLoom.ok K
def tf : List Defn := [("_law_stepped", none), ("_law_acted", none)]
def wantA : List Str := ["Net", "Carpet", "Woven", "Attempt", "Loom", "InvalidColour", "RunFailed", "NothingToUndo", "CarpetError", "LimitExceeded"]
def wantG : List Str := wantA ++ globTab.map (·.1)
def refsS (o : Obj) : List Addr := match o.data with
  | .func fd => refV fd.code ++ refV fd.kwdefaults
  | .cls cd => cd.ns :: cd.mro.flatMap refV
  | .dict es _ => es.toList.flatMap fun e => refV e.val
  | .fields vs => (match o.cls with
    | .type "property" => vs.toList.flatMap refV
    | .type "staticmethod" => vs.toList.flatMap refV
    | .type "classmethod" => vs.toList.flatMap refV
    | _ => [])
  | _ => []
def nextA (g : Addr → Option Obj) (as : List Addr) : List Addr := as.flatMap fun a => match g a with
  | some o => refsS o
  | none => []
def lv1 (g : Addr → Option Obj) : List Addr := match g mainGlobals with
  | some o => (match o.data with
    | .dict es _ => es.toList.flatMap fun e => (match e.key with
      | .str y _ => if wantG.contains y then refV e.val else []
      | _ => [])
    | _ => [])
  | none => []
def lvs (g : Addr → Option Obj) : List Addr :=
  mainGlobals :: PySem.cStatics :: (lv1 g ++ nextA g (lv1 g) ++ nextA g (nextA g (lv1 g)) ++ nextA g (nextA g (nextA g (lv1 g))) ++ nextA g (nextA g (nextA g (nextA g (lv1 g)))))
def neB (K : PySem.W.Frag) : Bool := decide ((cT K ("_law_stepped", none)).2 ≠ (cT K ("_law_acted", none)).2)
def factsB (K : PySem.W.Frag) : Bool := txB K && (fnB K && (txeB K && (txcB K && neB K)))
abbrev AlY : Type := (Bool × List FnV) × (List FnV × FnW)
def obsK (g : Addr → Option Obj) (K : PySem.W.Frag) : AlY := ((factsB K && tabsB g tf K, fnL K), (exL K, fnW K dLoom.at_))
def obsY (g : Addr → Option Obj) : AlY := obsK g (frT g (lvs g))
def valY : AlY := ((true, defTab.map fnVal), ([fnVal colE, fnVal runE], dLoom.val))
end Cp
end
section
set_option Elab.async false
set_option linter.all false
set_option maxRecDepth 100000
set_option maxHeartbeats 0
/-! The run of the program's top, once for each answer of the world's row and each third of what is looked at. -/
namespace Cp
open PySem PySem.W PySem.Calls PyProof.Rows HandSHeadRun
abbrev R : PySem.W.OpenRow := PySem.W.OpenLaw.row PySem.Challenge.rw_carpets_k83_whole_looms_of_many_actions
def loose : List PySem.Str := R.prog.main.body.filterMap fun
  | .FunctionDef n .. => if n == "law" then none else some n
  | .ClassDef n .. => some n
  | .Assign [.Name n _] _ _ => if n == "__name__" then none else some n
  | _ => none
def ob (s : PySem.W.SharedT) : AlY := obsY (HandSHeadRun.getT s)
abbrev gw (b : Bool) (w : World) : World := w.withFollow "special-get-raises" b
noncomputable def endW (w : World) (os : OsState) : Option SharedT := endF (stepQ (denQ tabQ) R.prog w) 20000 R.prog w os
theorem t1 (w : World) (os : OsState) : (endW (gw true w) os).map (fun s => ((looksF R.prog (boot_heap (gw true w).params) s.abs, seenQ (PySem.W.view R.prog [83]) loose (importedModules R.prog.main.body) (fun s => xlAt (PySem.W.view R.prog [83]) [] s && recOk R.toRowW.records s) s.abs), (ob s).2)) = some ((true, openGood (PySem.W.view R.prog [83]) loose), valY.2) := by
  kernel_rfl
theorem f1 (w : World) (os : OsState) : (endW (gw false w) os).map (fun s => ((looksF R.prog (boot_heap (gw false w).params) s.abs, seenQ (PySem.W.view R.prog [83]) loose (importedModules R.prog.main.body) (fun s => xlAt (PySem.W.view R.prog [83]) [] s && recOk R.toRowW.records s) s.abs), (ob s).2)) = some ((true, openGood (PySem.W.view R.prog [83]) loose), valY.2) := by
  kernel_rfl
theorem t2 (w : World) (os : OsState) : (endW (gw true w) os).map (fun s => (ob s).1.1) = some valY.1.1 := by
  kernel_rfl
theorem f2 (w : World) (os : OsState) : (endW (gw false w) os).map (fun s => (ob s).1.1) = some valY.1.1 := by
  kernel_rfl
theorem t3 (w : World) (os : OsState) : (endW (gw true w) os).map (fun s => (ob s).1.2) = some valY.1.2 := by
  kernel_rfl
theorem f3 (w : World) (os : OsState) : (endW (gw false w) os).map (fun s => (ob s).1.2) = some valY.1.2 := by
  kernel_rfl
theorem join3 {S A B C D E : Type} {x : Option S} {l : S → A} {n : S → B} {o : S → (C × D) × E} {a : A} {b : B} {v : (C × D) × E}
    (h1 : x.map (fun s => ((l s, n s), (o s).2)) = some ((a, b), v.2)) (h2 : x.map (fun s => (o s).1.1) = some v.1.1) (h3 : x.map (fun s => (o s).1.2) = some v.1.2) :
    x.map (fun s => (l s, n s, o s)) = some (a, b, v) := by
  cases x with
  | none => cases h1
  | some s =>
    injection h1 with h1
    injection h2 with h2
    injection h3 with h3
    injection h1 with h1 h4
    injection h1 with h0 h1
    show some (l s, n s, o s) = _
    rw [h0, h1, show o s = v from Prod.ext (Prod.ext h2 h3) h4]
end Cp
end
section
set_option linter.unusedVariables false
/-! The plain mathematics of periodic colourings: nets (a, b, c), their cells, the colour at a place, the least net. -/
namespace Lm

/-- the numbers of a net -/
structure Nt where
  a : Int
  b : Int
  c : Int
deriving DecidableEq

structure Nt.Ok (n : Nt) : Prop where
  a1 : 1 ≤ n.a
  b0 : 0 ≤ n.b
  ba : n.b < n.a
  c1 : 1 ≤ n.c

/-- a colouring of the plane -/
abbrev Fn := Int → Int → Nat

def lowX (n : Nt) (x y : Int) : Int := (x - y / n.c * n.b) % n.a
def lowY (n : Nt) (y : Int) : Int := y - y / n.c * n.c
def ix (n : Nt) (x y : Int) : Nat := (y * n.a + x).toNat
/-- the colour at a place, of the text on the cell -/
def col (n : Nt) (t : List Nat) : Fn := fun x y => t.getD (ix n (lowX n x y) (lowY n y)) 0
def size (n : Nt) : Nat := (n.a * n.c).toNat
/-- the places of the cell, in place order -/
def spots (n : Nt) : List (Int × Int) := (List.range (size n)).map fun (i : Nat) => ((i : Int) % n.a, (i : Int) / n.a)
/-- the text of a colouring on a cell -/
def textOf (n : Nt) (f : Fn) : List Nat := (spots n).map fun p => f p.1 p.2

/-- the shift (u, v) keeps all colours -/
def Kept (f : Fn) (u v : Int) : Prop := ∀ x y, f (x + u) (y + v) = f x y

section
variable {f : Fn} {u v u' v' : Int}
theorem Kept.zero : Kept f 0 0 := fun x y => by rw [Int.add_zero, Int.add_zero]
theorem Kept.add (h : Kept f u v) (h' : Kept f u' v') : Kept f (u + u') (v + v') := fun x y => by
  rw [show x + (u + u') = (x + u) + u' by omega, show y + (v + v') = (y + v) + v' by omega, h', h]
theorem Kept.neg (h : Kept f u v) : Kept f (-u) (-v) := fun x y => by
  have := h (x + -u) (y + -v)
  rw [show x + -u + u = x by omega, show y + -v + v = y by omega] at this
  exact this.symm
theorem Kept.sub (h : Kept f u v) (h' : Kept f u' v') : Kept f (u - u') (v - v') := by
  have := h.add h'.neg
  rw [show u + -u' = u - u' by omega, show v + -v' = v - v' by omega] at this
  exact this
theorem Kept.nmul (h : Kept f u v) : ∀ k : Nat, Kept f ((k : Int) * u) ((k : Int) * v)
  | 0 => by simpa using (Kept.zero (f := f))
  | k + 1 => by
    have := (Kept.nmul h k).add h
    have e1 : (k : Int) * u + u = ((k + 1 : Nat) : Int) * u := by rw [Int.natCast_add, Int.add_mul]; simp
    have e2 : (k : Int) * v + v = ((k + 1 : Nat) : Int) * v := by rw [Int.natCast_add, Int.add_mul]; simp
    rw [e1, e2] at this
    exact this
theorem Kept.mul (h : Kept f u v) (k : Int) : Kept f (k * u) (k * v) := by
  rcases Int.natAbs_eq k with e | e
  · rw [e]; exact h.nmul _
  · have := (h.nmul k.natAbs).neg
    rw [e, Int.neg_mul, Int.neg_mul]
    exact this
end

/-! ### low -/
section
variable {n : Nt}
theorem lowY_eq (n : Nt) (y : Int) : lowY n y = y % n.c := by
  unfold lowY
  have := Int.emod_add_mul_ediv y n.c
  rw [Int.mul_comm] at this
  omega
theorem lowY_nonneg (ok : n.Ok) (y : Int) : 0 ≤ lowY n y := by
  rw [lowY_eq]; exact Int.emod_nonneg _ (by have := ok.c1; omega)
theorem lowY_lt (ok : n.Ok) (y : Int) : lowY n y < n.c := by
  rw [lowY_eq]; exact Int.emod_lt_of_pos _ (by have := ok.c1; omega)
theorem lowX_nonneg (ok : n.Ok) (x y : Int) : 0 ≤ lowX n x y := Int.emod_nonneg _ (by have := ok.a1; omega)
theorem lowX_lt (ok : n.Ok) (x y : Int) : lowX n x y < n.a := Int.emod_lt_of_pos _ (by have := ok.a1; omega)
/-- a shift of the net changes nothing -/
theorem low_shift (ok : n.Ok) (x y i j : Int) : lowX n (x + (i * n.a + j * n.b)) (y + j * n.c) = lowX n x y ∧ lowY n (y + j * n.c) = lowY n y := by
  have hc : n.c ≠ 0 := by have := ok.c1; omega
  have e : (y + j * n.c) / n.c = y / n.c + j := Int.add_mul_ediv_right y j hc
  constructor
  · unfold lowX
    rw [e]
    have : x + (i * n.a + j * n.b) - (y / n.c + j) * n.b = (x - y / n.c * n.b) + i * n.a := by
      rw [Int.add_mul]; omega
    rw [this, Int.add_mul_emod_self_right]
  · unfold lowY
    rw [e, Int.add_mul]
    omega
theorem col_shift (ok : n.Ok) (t : List Nat) (x y i j : Int) : col n t (x + (i * n.a + j * n.b)) (y + j * n.c) = col n t x y := by
  unfold col
  rw [(low_shift ok x y i j).1, (low_shift ok x y i j).2]
theorem col_kept (ok : n.Ok) (t : List Nat) (i j : Int) : Kept (col n t) (i * n.a + j * n.b) (j * n.c) := fun x y => col_shift ok t x y i j
/-- a place is its cell's place and a shift of the net -/
theorem low_split (n : Nt) (x y : Int) : ∃ i j : Int, x = lowX n x y + (i * n.a + j * n.b) ∧ y = lowY n y + j * n.c := by
  refine ⟨(x - y / n.c * n.b) / n.a, y / n.c, ?_, ?_⟩
  · unfold lowX
    have := Int.emod_add_mul_ediv (x - y / n.c * n.b) n.a
    rw [Int.mul_comm n.a] at this
    omega
  · unfold lowY; omega
theorem low_in (ok : n.Ok) {x y : Int} (h1 : 0 ≤ x) (h2 : x < n.a) (h3 : 0 ≤ y) (h4 : y < n.c) : lowX n x y = x ∧ lowY n y = y := by
  have e : y / n.c = 0 := Int.ediv_eq_zero_of_lt h3 h4
  constructor
  · unfold lowX; rw [e, Int.zero_mul, Int.sub_zero]; exact Int.emod_eq_of_lt h1 h2
  · unfold lowY; rw [e, Int.zero_mul, Int.sub_zero]

/-! ### the cell -/
theorem size_cast (ok : n.Ok) : ((size n : Nat) : Int) = n.a * n.c := by
  unfold size
  exact Int.toNat_of_nonneg (Int.mul_nonneg (by have := ok.a1; omega) (by have := ok.c1; omega))
theorem spots_length (n : Nt) : (spots n).length = size n := by unfold spots; simp
theorem textOf_length (n : Nt) (f : Fn) : (textOf n f).length = size n := by unfold textOf; rw [List.length_map, spots_length]
theorem ix_lt (ok : n.Ok) {x y : Int} (h1 : 0 ≤ x) (h2 : x < n.a) (h3 : 0 ≤ y) (h4 : y < n.c) : ix n x y < size n := by
  have hy : y + 1 ≤ n.c := h4
  have := Int.mul_le_mul_of_nonneg_right hy (show 0 ≤ n.a by have := ok.a1; omega)
  have e := size_cast ok
  have p : 0 ≤ y * n.a := Int.mul_nonneg h3 (by omega)
  rw [Int.add_mul, Int.one_mul, Int.mul_comm n.c] at this
  unfold ix
  omega
theorem ix_cast (ok : n.Ok) {x y : Int} (h1 : 0 ≤ x) (h3 : 0 ≤ y) : ((ix n x y : Nat) : Int) = y * n.a + x := by
  have p : 0 ≤ y * n.a := Int.mul_nonneg h3 (by have := ok.a1; omega)
  unfold ix; omega
theorem spots_at (ok : n.Ok) {i : Nat} (h : i < size n) : (spots n)[i]? = some ((i : Int) % n.a, (i : Int) / n.a) := by
  unfold spots
  rw [List.getElem?_map, List.getElem?_range h]; rfl
theorem spot_in (ok : n.Ok) {i : Nat} (h : i < size n) : 0 ≤ (i : Int) % n.a ∧ (i : Int) % n.a < n.a ∧ 0 ≤ (i : Int) / n.a ∧ (i : Int) / n.a < n.c := by
  have ha : 0 < n.a := by have := ok.a1; omega
  refine ⟨Int.emod_nonneg _ (by omega), Int.emod_lt_of_pos _ ha, Int.ediv_nonneg (by omega) (by omega), ?_⟩
  have e := size_cast ok
  refine Int.ediv_lt_of_lt_mul ha ?_
  rw [Int.mul_comm]; omega
theorem ix_spot (ok : n.Ok) (i : Nat) : ix n ((i : Int) % n.a) ((i : Int) / n.a) = i := by
  have := Int.emod_add_mul_ediv (i : Int) n.a
  rw [Int.mul_comm] at this
  unfold ix; omega
theorem spot_ix (ok : n.Ok) {x y : Int} (h1 : 0 ≤ x) (h2 : x < n.a) (h3 : 0 ≤ y) : ((ix n x y : Nat) : Int) % n.a = x ∧ ((ix n x y : Nat) : Int) / n.a = y := by
  have ha : n.a ≠ 0 := by have := ok.a1; omega
  rw [ix_cast ok h1 h3]
  constructor
  · rw [Int.add_comm, Int.add_mul_emod_self_right]; exact Int.emod_eq_of_lt h1 h2
  · rw [Int.add_comm, Int.add_mul_ediv_right _ _ ha, Int.ediv_eq_zero_of_lt h1 h2, Int.zero_add]
theorem col_at (ok : n.Ok) (t : List Nat) (x y : Int) : (col n t x y) = t.getD (ix n (lowX n x y) (lowY n y)) 0 := rfl
theorem textOf_at (ok : n.Ok) (f : Fn) {i : Nat} (h : i < size n) : (textOf n f)[i]? = some (f ((i : Int) % n.a) ((i : Int) / n.a)) := by
  unfold textOf
  rw [List.getElem?_map, spots_at ok h]; rfl
/-- the text of a colouring that the net keeps gives the colouring back -/
theorem col_textOf (ok : n.Ok) {f : Fn} (h1 : Kept f n.a 0) (h2 : Kept f n.b n.c) : col n (textOf n f) = f := by
  funext x y
  have hl := ix_lt ok (lowX_nonneg ok x y) (lowX_lt ok x y) (lowY_nonneg ok y) (lowY_lt ok y)
  unfold col
  rw [List.getD_eq_getElem?_getD, textOf_at ok f hl]
  obtain ⟨e1, e2⟩ := spot_ix ok (lowX_nonneg ok x y) (lowX_lt ok x y) (lowY_nonneg ok y)
  rw [e1, e2]
  obtain ⟨i, j, ex, ey⟩ := low_split n x y
  have k : Kept f (i * n.a + j * n.b) (j * n.c) := by
    have := (h1.mul i).add (h2.mul j)
    rw [Int.mul_zero, Int.zero_add] at this
    exact this
  have := k (lowX n x y) (lowY n y)
  rw [← ex, ← ey] at this
  exact this.symm
/-- the text of the text's colouring is the text -/
theorem textOf_col (ok : n.Ok) {t : List Nat} (h : t.length = size n) : textOf n (col n t) = t := by
  refine List.ext_getElem? fun i => ?_
  by_cases hi : i < size n
  · rw [textOf_at ok _ hi]
    obtain ⟨h1, h2, h3, h4⟩ := spot_in ok hi
    obtain ⟨e1, e2⟩ := low_in ok h1 h2 h3 h4
    unfold col
    rw [e1, e2, ix_spot ok, List.getD_eq_getElem?_getD, List.getElem?_eq_getElem (by omega)]; rfl
  · rw [List.getElem?_eq_none (by rw [textOf_length]; omega), List.getElem?_eq_none (by omega)]
theorem col_base (ok : n.Ok) (t : List Nat) : Kept (col n t) n.a 0 ∧ Kept (col n t) n.b n.c := by
  constructor
  · have := col_kept ok t 1 0
    rw [Int.one_mul, Int.zero_mul, Int.zero_mul, Int.add_zero] at this
    exact this
  · have := col_kept ok t 0 1
    rw [Int.one_mul, Int.zero_mul, Int.one_mul, Int.zero_add] at this
    exact this
/-- a shift keeps the colouring if it keeps the cell's colours -/
theorem kept_of_cell (ok : n.Ok) {f : Fn} (h1 : Kept f n.a 0) (h2 : Kept f n.b n.c) {u v : Int} (h : ∀ p ∈ spots n, f (p.1 + u) (p.2 + v) = f p.1 p.2) : Kept f u v := fun x y => by
  obtain ⟨i, j, ex, ey⟩ := low_split n x y
  have k : Kept f (i * n.a + j * n.b) (j * n.c) := by
    have := (h1.mul i).add (h2.mul j)
    rw [Int.mul_zero, Int.zero_add] at this
    exact this
  have hl := ix_lt ok (lowX_nonneg ok x y) (lowX_lt ok x y) (lowY_nonneg ok y) (lowY_lt ok y)
  have hm : ((lowX n x y), (lowY n y)) ∈ spots n := by
    refine List.mem_of_getElem? (i := ix n (lowX n x y) (lowY n y)) ?_
    rw [spots_at ok hl]
    obtain ⟨e1, e2⟩ := spot_ix ok (lowX_nonneg ok x y) (lowX_lt ok x y) (lowY_nonneg ok y)
    rw [e1, e2]
  have e := h _ hm
  have a1 := k (lowX n x y + u) (lowY n y + v)
  have a2 := k (lowX n x y) (lowY n y)
  rw [← ex, ← ey] at a2
  rw [a2, ← e, ← a1]
  have ex' : x + u = lowX n x y + u + (i * n.a + j * n.b) := by omega
  have ey' : y + v = lowY n y + v + j * n.c := by omega
  rw [ex', ey']
end

/-! ### the least net -/
/-- n is the net of all shifts that keep f -/
structure Least (f : Fn) (n : Nt) : Prop where
  ok : n.Ok
  ka : Kept f n.a 0
  kb : Kept f n.b n.c
  da : ∀ x, Kept f x 0 → n.a ∣ x
  dc : ∀ x y, Kept f x y → n.c ∣ y

theorem dvd_antisymm_pos {a b : Int} (ha : 1 ≤ a) (hb : 1 ≤ b) (h1 : a ∣ b) (h2 : b ∣ a) : a = b := by
  have := Int.le_of_dvd (by omega) h1
  have := Int.le_of_dvd (by omega) h2
  omega
theorem Least.unique {f : Fn} {n m : Nt} (h : Least f n) (g : Least f m) : n = m := by
  have ea : n.a = m.a := dvd_antisymm_pos h.ok.a1 g.ok.a1 (h.da _ g.ka) (g.da _ h.ka)
  have ec : n.c = m.c := dvd_antisymm_pos h.ok.c1 g.ok.c1 (h.dc _ _ g.kb) (g.dc _ _ h.kb)
  have eb : n.b = m.b := by
    have k := h.kb.sub g.kb
    rw [ec, Int.sub_self] at k
    obtain ⟨z, hz⟩ := h.da _ k
    have h1 := h.ok.b0
    have h2 := h.ok.ba
    have g1 := g.ok.b0
    have g2 := g.ok.ba
    have ha := h.ok.a1
    rcases Int.lt_trichotomy z 0 with q | q | q
    · have : n.a * z ≤ n.a * (-1) := Int.mul_le_mul_of_nonneg_left (by omega) (by omega)
      omega
    · rw [q, Int.mul_zero] at hz; omega
    · have : n.a * 1 ≤ n.a * z := Int.mul_le_mul_of_nonneg_left (by omega) (by omega)
      omega
  cases n; cases m; simp_all
theorem least_pos {A : Int → Prop} : ∀ (k : Nat) (m : Int), m.toNat ≤ k → 0 < m → A m → ∃ m, 0 < m ∧ A m ∧ ∀ x, 0 < x → A x → m ≤ x
  | 0, m, h, h0, _ => by omega
  | k + 1, m, h, h0, hA => by
    by_cases q : ∃ x, 0 < x ∧ x < m ∧ A x
    · obtain ⟨x, x0, xm, hx⟩ := q
      exact least_pos k x (by omega) x0 hx
    · exact ⟨m, h0, hA, fun x x0 hx => by
        by_cases z : m ≤ x
        · exact z
        · exact absurd ⟨x, x0, by omega, hx⟩ q⟩
/-- a set of integers closed under difference and multiples, with a positive member: the multiples of its least positive one -/
theorem gen_of {A : Int → Prop} (hs : ∀ x y, A x → A y → A (x - y)) (hm : ∀ k x, A x → A (k * x)) {m : Int} (m0 : 0 < m) (hA : A m) : ∃ g, 0 < g ∧ A g ∧ ∀ x, A x → g ∣ x := by
  obtain ⟨g, g0, hg, least⟩ := least_pos (A := A) m.toNat m (Nat.le_refl _) m0 hA
  refine ⟨g, g0, hg, fun x hx => ?_⟩
  have hr : A (x % g) := by
    have e := Int.emod_add_mul_ediv x g
    have : x % g = x - (x / g) * g := by rw [Int.mul_comm] at e; omega
    rw [this]; exact hs _ _ hx (hm _ _ hg)
  have h1 := Int.emod_nonneg x (show g ≠ 0 by omega)
  have h2 := Int.emod_lt_of_pos x g0
  by_cases z : x % g = 0
  · exact Int.dvd_of_emod_eq_zero z
  · have := least _ (by omega) hr
    omega
/-- what the search finds is the least net: w is the first divisor of a that keeps, r the first divisor of c with some right -/
theorem least_of {f : Fn} {n : Nt} {w r right : Int} (ok : n.Ok) (ka : Kept f n.a 0) (kb : Kept f n.b n.c) (w1 : 1 ≤ w) (hw : Kept f w 0) (fw : ∀ d, 1 ≤ d → d < w → d ∣ n.a → ¬ Kept f d 0)
    (r1 : 1 ≤ r) (h0 : 0 ≤ right) (h1 : right < w) (hr : Kept f right r) (fr : ∀ d, 1 ≤ d → d < r → d ∣ n.c → ∀ x, 0 ≤ x → x < w → ¬ Kept f x d) : Least f ⟨w, right, r⟩ := by
  have hs : ∀ x y, Kept f x 0 → Kept f y 0 → Kept f (x - y) 0 := fun x y a b => by
    have := a.sub b
    rw [Int.sub_self] at this
    exact this
  have hm : ∀ k x, Kept f x 0 → Kept f (k * x) 0 := fun k x a => by
    have := a.mul k
    rw [Int.mul_zero] at this
    exact this
  obtain ⟨g, g0, hg, dg⟩ := gen_of (A := fun x => Kept f x 0) hs hm (by have := ok.a1; omega : 0 < n.a) ka
  have ew : w = g := by
    have hle : g ≤ w := Int.le_of_dvd (by omega) (dg w hw)
    by_cases z : g < w
    · exact absurd hg (fw g g0 z (dg _ ka))
    · omega
  have da : ∀ x, Kept f x 0 → w ∣ x := fun x hx => by rw [ew]; exact dg x hx
  have hsC : ∀ x y, (∃ u, Kept f u x) → (∃ u, Kept f u y) → ∃ u, Kept f u (x - y) := fun x y ⟨u, a⟩ ⟨u', b⟩ => ⟨_, a.sub b⟩
  have hmC : ∀ k x, (∃ u, Kept f u x) → ∃ u, Kept f u (k * x) := fun k x ⟨u, a⟩ => ⟨_, a.mul k⟩
  obtain ⟨e, e0, ⟨u, he⟩, de⟩ := gen_of (A := fun y => ∃ u, Kept f u y) hsC hmC (by have := ok.c1; omega : 0 < n.c) ⟨_, kb⟩
  have er : r = e := by
    have hle : e ≤ r := Int.le_of_dvd (by omega) (de r ⟨_, hr⟩)
    by_cases z : e < r
    · have k := he.sub (hw.mul (u / w))
      rw [Int.mul_zero, Int.sub_zero] at k
      have em := Int.emod_add_mul_ediv u w
      rw [Int.mul_comm] at em
      have eu : u - u / w * w = u % w := by omega
      rw [eu] at k
      exact absurd k (fr e e0 z (de _ ⟨_, kb⟩) _ (Int.emod_nonneg _ (by omega)) (Int.emod_lt_of_pos _ (by omega)))
    · omega
  exact ⟨⟨w1, h0, h1, r1⟩, hw, hr, da, fun x y h => by rw [show (⟨w, right, r⟩ : Nt).c = e from er]; exact de y ⟨x, h⟩⟩
/-- the search comes to an end -/
theorem least_ends {f : Fn} {n : Nt} {w : Int} (ok : n.Ok) (kb : Kept f n.b n.c) (w1 : 1 ≤ w) (hw : Kept f w 0) : ∃ x, 0 ≤ x ∧ x < w ∧ Kept f x n.c := by
  have k := kb.sub (hw.mul (n.b / w))
  rw [Int.mul_zero, Int.sub_zero] at k
  have em := Int.emod_add_mul_ediv n.b w
  rw [Int.mul_comm] at em
  have eu : n.b - n.b / w * w = n.b % w := by omega
  rw [eu] at k
  exact ⟨_, Int.emod_nonneg _ (by omega), Int.emod_lt_of_pos _ (by omega), k⟩
theorem Least.col {f : Fn} {n : Nt} (h : Least f n) : col n (textOf n f) = f := col_textOf h.ok h.ka h.kb

/-! ### moved and painted colourings -/
def moved (f : Fn) (u v : Int) : Fn := fun x y => f (x - u) (y - v)
theorem moved_kept {f : Fn} {u v p q : Int} (h : Kept f p q) : Kept (moved f u v) p q := fun x y => by
  unfold moved
  have := h (x - u) (y - v)
  rw [show x + p - u = x - u + p by omega, show y + q - v = y - v + q by omega]
  exact this
/-- the colouring moved, by its text on a net that keeps it -/
theorem col_moved {n : Nt} (ok : n.Ok) {f : Fn} (h1 : Kept f n.a 0) (h2 : Kept f n.b n.c) (u v : Int) : col n (textOf n (moved f u v)) = moved f u v := col_textOf ok (moved_kept h1) (moved_kept h2)
/-- the letter at a place of the text changed: as one makes it letter by letter -/
theorem painted {n : Nt} (ok : n.Ok) {t : List Nat} (h : t.length = size n) (z : Nat) {x y : Int} (h1 : 0 ≤ x) (h2 : x < n.a) (h3 : 0 ≤ y) (h4 : y < n.c) :
    ((spots n).map fun p => if p = (x, y) then z else col n t p.1 p.2) = t.set (ix n x y) z := by
  refine List.ext_getElem? fun i => ?_
  rw [List.getElem?_map]
  by_cases hi : i < size n
  · rw [spots_at ok hi]
    show some _ = _
    by_cases e : i = ix n x y
    · subst e
      obtain ⟨e1, e2⟩ := spot_ix ok h1 h2 h3
      rw [List.getElem?_set_self (by omega), e1, e2]
      exact congrArg some (if_pos rfl)
    · rw [List.getElem?_set_ne (Ne.symm e)]
      refine (congrArg some (if_neg fun q => ?_)).trans ?_
      rotate_left
      · obtain ⟨g1, g2, g3, g4⟩ := spot_in ok hi
        obtain ⟨e1, e2⟩ := low_in ok g1 g2 g3 g4
        show some (col n t _ _) = _
        unfold col
        rw [e1, e2, ix_spot ok, List.getD_eq_getElem?_getD, List.getElem?_eq_getElem (by omega)]; rfl
      · have q1 : (i : Int) % n.a = x := congrArg Prod.fst q
        have q2 : (i : Int) / n.a = y := congrArg Prod.snd q
        rw [← q1, ← q2, ix_spot ok] at e
        exact e rfl
  · rw [List.getElem?_eq_none (by rw [spots_length]; omega), List.getElem?_eq_none (by rw [List.length_set]; omega)]; rfl
/-- t[:i] + [z] + t[i+1:] -/
theorem set_cut (t : List Nat) (i : Nat) (z : Nat) (h : i < t.length) : t.take i ++ [z] ++ t.drop (i + 1) = t.set i z := by
  rw [List.set_eq_take_append_cons_drop, if_pos h, List.append_assoc]; rfl
/-- the cell of one place -/
def one : Nt := ⟨1, 0, 1⟩
theorem one_ok : one.Ok := ⟨by decide, by decide, by decide, by decide⟩
theorem col_one (z : Nat) : col one [z] = fun _ _ => z := by
  funext x y
  have h := ix_lt one_ok (lowX_nonneg one_ok x y) (lowX_lt one_ok x y) (lowY_nonneg one_ok y) (lowY_lt one_ok y)
  have e : size one = 1 := by decide
  unfold col
  rw [e] at h
  rw [show ix one (lowX one x y) (lowY one y) = 0 by omega]; rfl
theorem col_const {n : Nt} (ok : n.Ok) (z : Nat) : col n (List.replicate (size n) z) = fun _ _ => z := by
  funext x y
  have h := ix_lt ok (lowX_nonneg ok x y) (lowX_lt ok x y) (lowY_nonneg ok y) (lowY_lt ok y)
  unfold col
  rw [List.getD_eq_getElem?_getD, List.getElem?_replicate, if_pos h]; rfl
end Lm
end
section
set_option Elab.async false
set_option linter.all false
set_option maxRecDepth 100000
set_option maxHeartbeats 1000000
/-! What sleeps is not touched by code that does not wake it: a run that comes through with every sleeping generator made unwakeable comes through as well as they are, and leaves them so. -/
namespace Gz
open PySem PyProof.Rows
open Sem (wp)

def dull : Frame → Frame
  | .gen _ _ _ c p => .ret (fun _ => .unsupported "") none false [] c p []
  | f => f
theorem dull_where (f : Frame) : (dull f).where_ = f.where_ := by cases f <;> rfl
def poison : GenState → GenState
  | .suspended _ l c p fs cl => .suspended (fun _ => .unsupported "") l c p (fs.map dull) cl
  | x => x
def susp : GenState → Bool
  | .suspended .. => true
  | _ => false
theorem poison_seen (x : GenState) : (poison x).seen = x.seen := by
  cases x with
  | suspended k l c p fs cl =>
    show (GenStatus.suspended, some ((c, p) :: (fs.map dull).map Frame.where_)) = (GenStatus.suspended, some ((c, p) :: fs.map Frame.where_))
    rw [List.map_map]
    have : (Frame.where_ ∘ dull) = Frame.where_ := funext dull_where
    rw [this]
  | _ => rfl
theorem poison_bare (x : GenState) : (poison x).bare = x.bare := by cases x <;> rfl

/-- no generator's frame -/
def GF (fs : List Frame) : Prop := splitAtGen fs = none
theorem gf_nil : GF [] := rfl
theorem gf_cons {k h g l c p kp} {fs : List Frame} (h' : GF fs) : GF (.ret k h g l c p kp :: fs) := by
  show (splitAtGen fs).map _ = none
  rw [h']; rfl
theorem gf_tail {f : Frame} {fs : List Frame} (h : GF (f :: fs)) : GF fs := by
  cases f with
  | ret k h' g l c p kp =>
    have h2 : (splitAtGen fs).map _ = none := h
    exact Option.map_eq_none_iff.mp h2
  | gen g k l c p => cases (show some _ = none from h)
theorem gf_gen {g k l c p} {fs : List Frame} (h : GF (.gen g k l c p :: fs)) : False := by cases (show some _ = none from h)
theorem gf_append : ∀ {a b : List Frame}, GF a → GF b → GF (a ++ b)
  | [], _, _, h => h
  | .ret .. :: r, b, h, h' => gf_cons (gf_append (a := r) (gf_tail h) h')
  | .gen .. :: _, _, h, _ => (gf_gen h).elim

def gfree : GenState → Prop
  | .suspended _ _ _ _ fs _ => GF fs
  | _ => True
def efree : End → Prop
  | .ret _ => True
  | .susp _ _ _ _ _ _ fs => GF fs
theorem efree_state {e : End} (h : efree e) : gfree e.genState := by cases e <;> first | trivial | exact h

/-- G' is G with the sleepers of G0 made unwakeable -/
structure Rg (G0 G G' : Array GenState) : Prop where
  sz : G.size = G'.size
  le : G0.size ≤ G.size
  at_ : ∀ (i : Nat) (x : GenState), G[i]? = some x → (susp x = true ∧ G0[i]? = some x ∧ G'[i]? = some (poison x)) ∨ ((∀ y, G0[i]? = some y → susp y = false) ∧ G'[i]? = some x ∧ gfree x)
def Rs (G0 : Array GenState) (s t : Shared) : Prop := ∃ G', t = { s with gens := G' } ∧ Rg G0 s.gens G'

section
variable {G0 G G' : Array GenState}
theorem Rg.back (r : Rg G0 G G') {i : Nat} {y : GenState} (h : G'[i]? = some y) : ∃ x, G[i]? = some x ∧ ((susp x = true ∧ G0[i]? = some x ∧ y = poison x) ∨ ((∀ z, G0[i]? = some z → susp z = false) ∧ x = y ∧ gfree x)) := by
  have hi : i < G'.size := (Array.getElem?_eq_some_iff.mp h).1
  rw [← r.sz] at hi
  refine ⟨G[i], Array.getElem?_eq_getElem hi, ?_⟩
  rcases r.at_ i _ (Array.getElem?_eq_getElem hi) with ⟨a, b, c⟩ | ⟨a, b, c⟩
  · rw [c] at h
    exact .inl ⟨a, b, (Option.some.inj h).symm⟩
  · rw [b] at h
    exact .inr ⟨a, Option.some.inj h, c⟩
theorem push_get {A : Array GenState} {i : Nat} {x : GenState} (h : i < A.size) : (A.push x)[i]? = A[i]? := by
  rw [Array.getElem?_push_lt h, Array.getElem?_eq_getElem h]
theorem Rg.push (r : Rg G0 G G') (c : Code) : Rg G0 (G.push (.fresh c)) (G'.push (.fresh c)) where
  sz := by rw [Array.size_push, Array.size_push, r.sz]
  le := by rw [Array.size_push]; have := r.le; omega
  at_ := fun i x h => by
    by_cases hi : i < G.size
    · rw [push_get hi] at h
      rw [push_get (show i < G'.size by rw [← r.sz]; exact hi)]
      exact r.at_ i x h
    · by_cases hj : i = G.size
      · subst hj
        have e1 : (GenState.fresh c) = x := by simpa using h
        subst e1
        refine .inr ⟨fun y hy => ?_, by rw [r.sz]; simp, trivial⟩
        have := (Array.getElem?_eq_some_iff.mp hy).1
        have := r.le
        omega
      · have : (G.push (.fresh c)).size ≤ i := by rw [Array.size_push]; omega
        rw [Array.getElem?_eq_none this] at h
        cases h
theorem Rg.set (r : Rg G0 G G') {g : Nat} {x : GenState} (hg : ∀ z, G0[g]? = some z → susp z = false) (hx : gfree x) : Rg G0 (G.setIfInBounds g x) (G'.setIfInBounds g x) where
  sz := by simp [r.sz]
  le := by simpa using r.le
  at_ := fun i y h => by
    by_cases hi : i = g
    · subst hi
      have hlt : i < G.size := by
        have := (Array.getElem?_eq_some_iff.mp h).1
        simpa using this
      have e1 : x = y := by
        rw [Array.getElem?_setIfInBounds_self_of_lt hlt] at h
        exact Option.some.inj h
      subst e1
      exact .inr ⟨hg, Array.getElem?_setIfInBounds_self_of_lt (by rw [← r.sz]; exact hlt), hx⟩
    · rw [Array.getElem?_setIfInBounds_ne (Ne.symm hi)] at h
      rw [Array.getElem?_setIfInBounds_ne (Ne.symm hi)]
      exact r.at_ i y h
end

theorem no_unsup {M : Model} {Γ : Ctx} {p : Pos} {w : String} {fs : List Frame} {s s' : Shared} {e : End} (h : Runs M Γ p (.unsupported w) fs s e s') : False := by
  generalize ht : (Sem.unsupported w : Sem PySem.Fin) = t at h
  induction h <;> first | (cases ht; done) | (subst ht; rename_i ih _; exact ih rfl) | (subst ht; rename_i ih; exact ih rfl) | skip
  all_goals (rename_i ih1 ih2; exact ih1 ht)

theorem runs_sim {M : Model} {G0 : Array GenState} {Γ : Ctx} {p : Pos} {tm : Sem PySem.Fin} {fs : List Frame} {t t' : Shared} {e : End} (h : Runs M Γ p tm fs t e t') :
    GF fs → efree e ∧ ∀ s, Rs G0 s t → ∃ s', Rs G0 s' t' ∧ Runs M Γ p tm fs s e s' := by
  induction h with
  | done => exact fun _ => ⟨trivial, fun s r => ⟨s, r, .done⟩⟩
  | raise => exact fun _ => ⟨trivial, fun s r => ⟨s, r, .raise⟩⟩
  | again hq _ ih => exact fun _ => ⟨(ih rfl).1, fun s r => let ⟨s', r', h⟩ := (ih rfl).2 s r; ⟨s', r', .again hq h⟩⟩
  | rule _ ih => exact fun _ => ⟨(ih rfl).1, fun s r => let ⟨s', r', h⟩ := (ih rfl).2 s r; ⟨s', r', .rule h⟩⟩
  | «at» _ ih => exact fun _ => ⟨(ih rfl).1, fun s r => let ⟨s', r', h⟩ := (ih rfl).2 s r; ⟨s', r', .at h⟩⟩
  | load ho _ ih =>
    refine fun _ => ⟨(ih rfl).1, fun s r => ?_⟩
    obtain ⟨s', r', h⟩ := (ih rfl).2 s r
    obtain ⟨G', e, _⟩ := r
    subst e
    exact ⟨s', r', .load ho h⟩
  | update ha _ ih =>
    refine fun _ => ⟨(ih rfl).1, fun s r => ?_⟩
    obtain ⟨G', e, rg⟩ := r
    subst e
    obtain ⟨s', r', h⟩ := (ih rfl).2 { s with heap := _ } ⟨G', rfl, rg⟩
    exact ⟨s', r', .update ha h⟩
  | loadIfAlive _ ih =>
    refine fun _ => ⟨(ih rfl).1, fun s r => ?_⟩
    obtain ⟨s', r', h⟩ := (ih rfl).2 s r
    obtain ⟨G', e, _⟩ := r
    subst e
    exact ⟨s', r', .loadIfAlive h⟩
  | point _ ih => exact fun _ => ⟨(ih rfl).1, fun s r => let ⟨s', r', h⟩ := (ih rfl).2 s r; ⟨s', r', .point h⟩⟩
  | alloc _ ih =>
    refine fun _ => ⟨(ih rfl).1, fun s r => ?_⟩
    obtain ⟨G', e, rg⟩ := r
    subst e
    obtain ⟨s', r', h⟩ := (ih rfl).2 { s with heap := _ } ⟨G', rfl, rg⟩
    exact ⟨s', r', .alloc h⟩
  | fresh _ ih =>
    refine fun _ => ⟨(ih rfl).1, fun s r => ?_⟩
    obtain ⟨G', e, rg⟩ := r
    subst e
    obtain ⟨s', r', h⟩ := (ih rfl).2 { s with toks := _ } ⟨G', rfl, rg⟩
    exact ⟨s', r', .fresh h⟩
  | ask _ ih => exact fun _ => ⟨(ih rfl).1, fun s r => let ⟨s', r', h⟩ := (ih rfl).2 s r; ⟨s', r', .ask h⟩⟩
  | choose hn _ ih =>
    refine fun _ => ⟨(ih rfl).1, fun s r => ?_⟩
    obtain ⟨G', e, rg⟩ := r
    subst e
    obtain ⟨s', r', h⟩ := (ih rfl).2 { s with drawn := _ } ⟨G', rfl, rg⟩
    exact ⟨s', r', .choose hn h⟩
  | os _ ih =>
    refine fun _ => ⟨(ih rfl).1, fun s r => ?_⟩
    obtain ⟨G', e, rg⟩ := r
    subst e
    obtain ⟨s', r', h⟩ := (ih rfl).2 { s with os := _ } ⟨G', rfl, rg⟩
    exact ⟨s', r', .os h⟩
  | handled _ ih => exact fun _ => ⟨(ih rfl).1, fun s r => let ⟨s', r', h⟩ := (ih rfl).2 s r; ⟨s', r', .handled h⟩⟩
  | genState hg _ ih =>
    refine fun _ => ⟨(ih rfl).1, fun s r => ?_⟩
    obtain ⟨s', r', h⟩ := (ih rfl).2 s r
    obtain ⟨G', e, rg⟩ := r
    subst e
    obtain ⟨x, hx, q⟩ := rg.back hg
    refine ⟨s', r', .genState hx ?_⟩
    rcases q with ⟨_, _, q⟩ | ⟨_, q, _⟩
    · subst q
      rw [poison_seen] at h
      exact h
    · subst q; exact h
  | stack _ ih => exact fun _ => ⟨(ih rfl).1, fun s r => let ⟨s', r', h⟩ := (ih rfl).2 s r; ⟨s', r', .stack h⟩⟩
  | thread _ ih => exact fun _ => ⟨(ih rfl).1, fun s r => let ⟨s', r', h⟩ := (ih rfl).2 s r; ⟨s', r', .thread h⟩⟩
  | newGen _ ih =>
    refine fun _ => ⟨(ih rfl).1, fun s r => ?_⟩
    obtain ⟨G', e, rg⟩ := r
    subst e
    rename_i c _ _
    obtain ⟨s', r', h⟩ := (ih rfl).2 { s with gens := s.gens.push (.fresh c) } ⟨_, rfl, rg.push c⟩
    refine ⟨s', r', .newGen ?_⟩
    have e2 : ({ s with gens := G' } : Shared).gens.size = s.gens.size := rg.sz.symm
    rw [e2] at h
    exact h
  | call _ _ ih1 ih2 =>
    refine fun _ => ⟨(ih2 rfl).1, fun s r => ?_⟩
    obtain ⟨s1, r1, h1⟩ := (ih1 rfl).2 s r
    obtain ⟨s2, r2, h2⟩ := (ih2 rfl).2 s1 r1
    exact ⟨s2, r2, .call h1 h2⟩
  | callSusp _ ih =>
    refine fun _ => ⟨gf_append (ih rfl).1 (gf_cons gf_nil), fun s r => ?_⟩
    obtain ⟨s1, r1, h1⟩ := (ih rfl).2 s r
    exact ⟨s1, r1, .callSusp h1⟩
  | «yield» => exact fun _ => ⟨gf_nil, fun s r => ⟨s, r, .yield⟩⟩
  | resumeFresh hg _ hq _ ih1 ih2 =>
    refine fun _ => ⟨(ih2 rfl).1, fun s r => ?_⟩
    obtain ⟨G', e, rg⟩ := r
    subst e
    obtain ⟨x, hx, q⟩ := rg.back hg
    rcases q with ⟨q1, _, q⟩ | ⟨q0, q, _⟩
    · cases x <;> first | (cases q1; done) | cases q
    · subst q
      obtain ⟨s1, r1, h1⟩ := (ih1 rfl).2 (s.setGen _ .running) ⟨_, rfl, rg.set q0 trivial⟩
      obtain ⟨G1, e1, rg1⟩ := r1
      subst e1
      obtain ⟨s2, r2, h2⟩ := (ih2 rfl).2 (s1.setGen _ _) ⟨_, rfl, rg1.set q0 (efree_state (ih1 rfl).1)⟩
      exact ⟨s2, r2, .resumeFresh hx h1 hq h2⟩
  | resumeSuspended hg hr hq _ ih1 ih2 =>
    refine fun _ => ⟨(ih2 rfl).1, fun s r => ?_⟩
    obtain ⟨G', e, rg⟩ := r
    subst e
    obtain ⟨x, hx, q⟩ := rg.back hg
    rcases q with ⟨q1, _, q⟩ | ⟨q0, q, q2⟩
    · cases x with
      | suspended k l c p fs cl =>
        injection q with q _ _ _ _ _
        subst q
        exact (no_unsup hr).elim
      | _ => cases q1
    · subst q
      obtain ⟨s1, r1, h1⟩ := (ih1 q2).2 (s.setGen _ .running) ⟨_, rfl, rg.set q0 trivial⟩
      obtain ⟨G1, e1, rg1⟩ := r1
      subst e1
      obtain ⟨s2, r2, h2⟩ := (ih2 rfl).2 (s1.setGen _ _) ⟨_, rfl, rg1.set q0 (efree_state (ih1 q2).1)⟩
      exact ⟨s2, r2, .resumeSuspended hx h1 hq h2⟩
  | resumeJustStarted hg hv _ ih =>
    refine fun _ => ⟨(ih rfl).1, fun s r => ?_⟩
    obtain ⟨s1, r1, h1⟩ := (ih rfl).2 s r
    obtain ⟨G', e, rg⟩ := r
    subst e
    obtain ⟨x, hx, q⟩ := rg.back hg
    rcases q with ⟨q1, _, q⟩ | ⟨q0, q, _⟩
    · cases x <;> first | (cases q1; done) | cases q
    · subst q
      exact ⟨s1, r1, .resumeJustStarted hx hv h1⟩
  | resumeThrowFresh hg _ ih =>
    refine fun _ => ⟨(ih rfl).1, fun s r => ?_⟩
    obtain ⟨G', e, rg⟩ := r
    subst e
    obtain ⟨x, hx, q⟩ := rg.back hg
    rcases q with ⟨q1, _, q⟩ | ⟨q0, q, _⟩
    · cases x <;> first | (cases q1; done) | cases q
    · subst q
      obtain ⟨s1, r1, h1⟩ := (ih rfl).2 (s.setGen _ .finished) ⟨_, rfl, rg.set q0 trivial⟩
      exact ⟨s1, r1, .resumeThrowFresh hx h1⟩
  | resumeRunning hg _ ih =>
    refine fun _ => ⟨(ih rfl).1, fun s r => ?_⟩
    obtain ⟨s1, r1, h1⟩ := (ih rfl).2 s r
    obtain ⟨G', e, rg⟩ := r
    subst e
    obtain ⟨x, hx, q⟩ := rg.back hg
    rcases q with ⟨q1, _, q⟩ | ⟨q0, q, _⟩
    · cases x <;> first | (cases q1; done) | cases q
    · subst q
      exact ⟨s1, r1, .resumeRunning hx h1⟩
  | resumeFinished hg _ ih =>
    refine fun _ => ⟨(ih rfl).1, fun s r => ?_⟩
    obtain ⟨s1, r1, h1⟩ := (ih rfl).2 s r
    obtain ⟨G', e, rg⟩ := r
    subst e
    obtain ⟨x, hx, q⟩ := rg.back hg
    rcases q with ⟨q1, _, q⟩ | ⟨q0, q, _⟩
    · cases x <;> first | (cases q1; done) | cases q
    · subst q
      exact ⟨s1, r1, .resumeFinished hx h1⟩
  | segRet _ _ ih1 ih2 =>
    refine fun gf => ⟨(ih2 (gf_tail gf)).1, fun s r => ?_⟩
    obtain ⟨s1, r1, h1⟩ := (ih1 rfl).2 s r
    obtain ⟨s2, r2, h2⟩ := (ih2 (gf_tail gf)).2 s1 r1
    exact ⟨s2, r2, .segRet h1 h2⟩
  | segGen _ _ _ _ => exact fun gf => (gf_gen gf).elim
  | segSuspOut hs _ ih =>
    refine fun gf => ⟨gf_append (ih rfl).1 gf, fun s r => ?_⟩
    obtain ⟨s1, r1, h1⟩ := (ih rfl).2 s r
    exact ⟨s1, r1, .segSuspOut hs h1⟩
  | segSuspGen hs _ _ _ _ _ =>
    refine fun gf => ?_
    have gf' : splitAtGen _ = none := gf
    rw [hs] at gf'
    cases gf'

theorem returns_sim {M : Model} {G0 : Array GenState} {Γ : Ctx} {p : Pos} {s t t' : Shared} {r : Result} (h : Returns M Γ p t r t') (hr : Rs G0 s t) : ∃ s', Rs G0 s' t' ∧ Returns M Γ p s r s' :=
  (runs_sim h gf_nil).2 s hr
theorem wakes_sim {M : Model} {G0 : Array GenState} {Γ : Ctx} {p : Pos} {g : Nat} {r : Resume} {s t t' : Shared} {res : GenResult} (h : Wakes M Γ p g r t res t') (hr : Rs G0 s t) : ∃ s', Rs G0 s' t' ∧ Wakes M Γ p g r s res s' := by
  obtain ⟨G', e, rg⟩ := hr
  subst e
  unfold Wakes at h
  split at h
  · exact h.elim
  · rename_i c hg
    obtain ⟨x, hx, q⟩ := rg.back hg
    rcases q with ⟨q1, _, q⟩ | ⟨q0, q, _⟩
    · cases x <;> first | (cases q1; done) | cases q
    · subst q
      split at h
      · obtain ⟨e₁, s₁, h1, hq, rfl, rfl⟩ := h
        obtain ⟨s1, r1, h1'⟩ := (runs_sim h1 gf_nil).2 (s.setGen g .running) ⟨_, rfl, rg.set q0 trivial⟩
        obtain ⟨G1, e1, rg1⟩ := r1
        subst e1
        refine ⟨s1.setGen g e₁.genState, ⟨_, rfl, rg1.set q0 (efree_state (runs_sim (G0 := G0) h1 gf_nil).1)⟩, ?_⟩
        unfold Wakes
        rw [hx]
        exact ⟨e₁, s1, h1', hq, rfl, rfl⟩
      · rename_i v hv
        obtain ⟨rfl, rfl⟩ := h
        refine ⟨s, ⟨_, rfl, rg⟩, ?_⟩
        unfold Wakes
        rw [hx]
        cases v <;> first | (exact (hv rfl).elim) | exact ⟨rfl, rfl⟩
      · obtain ⟨rfl, rfl⟩ := h
        refine ⟨s.setGen g .finished, ⟨_, rfl, rg.set q0 trivial⟩, ?_⟩
        unfold Wakes
        rw [hx]
        exact ⟨rfl, rfl⟩
  · rename_i k₀ l₀ c₀ p₀ fs cl hg
    obtain ⟨x, hx, q⟩ := rg.back hg
    obtain ⟨e₁, s₁, h1, hq, rfl, rfl⟩ := h
    rcases q with ⟨q1, _, q⟩ | ⟨q0, q, q2⟩
    · cases x with
      | suspended k l c p fs cl =>
        injection q with q _ _ _ _ _
        subst q
        exact (no_unsup h1).elim
      | _ => cases q1
    · subst q
      obtain ⟨s1, r1, h1'⟩ := (runs_sim h1 q2).2 (s.setGen g .running) ⟨_, rfl, rg.set q0 trivial⟩
      obtain ⟨G1, e1, rg1⟩ := r1
      subst e1
      refine ⟨s1.setGen g e₁.genState, ⟨_, rfl, rg1.set q0 (efree_state (runs_sim (G0 := G0) h1 q2).1)⟩, ?_⟩
      unfold Wakes
      rw [hx]
      exact ⟨e₁, s1, h1', hq, rfl, rfl⟩
  · rename_i hg
    obtain ⟨x, hx, q⟩ := rg.back hg
    obtain ⟨rfl, rfl⟩ := h
    rcases q with ⟨q1, _, q⟩ | ⟨q0, q, q2⟩
    · cases x <;> first | (cases q1; done) | cases q
    · subst q
      refine ⟨s, ⟨_, rfl, rg⟩, ?_⟩
      unfold Wakes
      rw [hx]
      exact ⟨rfl, rfl⟩
  · rename_i hg
    obtain ⟨x, hx, q⟩ := rg.back hg
    obtain ⟨rfl, rfl⟩ := h
    rcases q with ⟨q1, _, q⟩ | ⟨q0, q, q2⟩
    · cases x <;> first | (cases q1; done) | cases q
    · subst q
      refine ⟨s, ⟨_, rfl, rg⟩, ?_⟩
      unfold Wakes
      rw [hx]
      exact ⟨rfl, rfl⟩

theorem wp_sim {α : Type} (M : Model) (Γ : Ctx) (G0 : Array GenState) (tm : Sem α) : ∀ (Q : α → Pos → Shared → Prop) (E : Value → Pos → Shared → Prop) (p : Pos) (s t : Shared), Rs G0 s t → wp M Γ tm Q E p t →
    wp M Γ tm (fun a p' s' => ∃ t', Rs G0 s' t' ∧ Q a p' t') (fun e p' s' => ∃ t', Rs G0 s' t' ∧ E e p' t') p s := by
  induction tm with
  | pure a => intro Q E p s t r h; exact ⟨t, r, h⟩
  | raise e => intro Q E p s t r h; exact ⟨t, r, h⟩
  | unsupported _ => intro Q E p s t _ h; exact h
  | finish _ => intro Q E p s t _ h; exact h
  | rule _ k ih => intro Q E p s t r h; exact ih () Q E p s t r h
  | «at» p' k ih => intro Q E p s t r h; exact ih () Q E p' s t r h
  | load a _ k ih =>
    intro Q E p s t r h
    obtain ⟨o, ho, h⟩ := h
    have h2 := ih o Q E p s t r h
    obtain ⟨G', e, rg⟩ := r
    subst e
    exact ⟨o, ho, h2⟩
  | update a _ f k ih =>
    intro Q E p s t r h
    obtain ⟨G', e, rg⟩ := r
    subst e
    exact ⟨h.1, ih () Q E p { s with heap := _ } _ ⟨G', rfl, rg⟩ h.2⟩
  | loadIfAlive a k ih =>
    intro Q E p s t r h
    obtain ⟨G', e, rg⟩ := r
    subst e
    exact ih _ Q E p s _ ⟨G', rfl, rg⟩ h
  | point _ k ih => intro Q E p s t r h; exact ih () Q E p s t r h
  | register _ _ => intro Q E p s t _ h; exact h
  | alloc o k ih =>
    intro Q E p s t r h
    obtain ⟨G', e, rg⟩ := r
    subst e
    exact ih _ Q E p { s with heap := _ } _ ⟨G', rfl, rg⟩ h
  | fresh k ih =>
    intro Q E p s t r h
    obtain ⟨G', e, rg⟩ := r
    subst e
    exact ih _ Q E p { s with toks := _ } _ ⟨G', rfl, rg⟩ h
  | ask k ih => intro Q E p s t r h; exact ih _ Q E p s t r h
  | choose src m k ih =>
    intro Q E p s t r h
    obtain ⟨G', e, rg⟩ := r
    subst e
    exact ⟨h.1, ih _ Q E p { s with drawn := _ } _ ⟨G', rfl, rg⟩ h.2⟩
  | os q _ k ih =>
    intro Q E p s t r h
    obtain ⟨G', e, rg⟩ := r
    subst e
    exact ih _ Q E p { s with os := _ } _ ⟨G', rfl, rg⟩ h
  | call c hd _ _ k ih =>
    intro Q E p s t r h
    obtain ⟨res, t1, hr, h⟩ := h
    obtain ⟨s1, r1, h1⟩ := returns_sim hr r
    exact ⟨res, s1, h1, ih res Q E p s1 t1 r1 h⟩
  | handled own k ih => intro Q E p s t r h; exact ih _ Q E p s t r h
  | genState g k ih =>
    intro Q E p s t r h
    obtain ⟨st, hs, h⟩ := h
    have h2 := ih _ Q E p s t r h
    obtain ⟨G', e, rg⟩ := r
    subst e
    obtain ⟨x, hx, q⟩ := rg.back hs
    refine ⟨x, hx, ?_⟩
    rcases q with ⟨_, _, q⟩ | ⟨_, q, _⟩
    · subst q
      rw [poison_seen] at h2
      exact h2
    · subst q; exact h2
  | newGen c k ih =>
    intro Q E p s t r h
    obtain ⟨G', e, rg⟩ := r
    subst e
    have h2 := ih _ Q E p { s with gens := s.gens.push (.fresh c) } _ ⟨_, rfl, rg.push c⟩ h
    have e2 : ({ s with gens := G' } : Shared).gens.size = s.gens.size := rg.sz.symm
    rw [e2] at h2
    exact h2
  | resume g rr _ k ih =>
    intro Q E p s t r h
    obtain ⟨res, t1, hw, h⟩ := h
    obtain ⟨s1, r1, h1⟩ := wakes_sim hw r
    exact ⟨res, s1, h1, ih res Q E p s1 t1 r1 h⟩
  | «yield» _ _ _ _ => intro Q E p s t _ h; exact h
  | stack k ih => intro Q E p s t r h; exact ih _ Q E p s t r h
  | fork _ _ => intro Q E p s t _ h; exact h
  | thread k ih => intro Q E p s t r h; exact ih _ Q E p s t r h
  | await _ _ _ _ _ => intro Q E p s t _ h; exact h

/-- every sleeper made unwakeable -/
def hush (s : Shared) : Shared := { s with gens := s.gens.map poison }
theorem hush_rs {s : Shared} : Rs s.gens s (hush s) := by
  refine ⟨_, rfl, by simp, Nat.le_refl _, fun i x h => ?_⟩
  cases hx : susp x with
  | true => exact .inl ⟨rfl, h, by rw [Array.getElem?_map, h]; rfl⟩
  | false =>
    refine .inr ⟨fun y hy => by rw [h] at hy; cases hy; exact hx, ?_, ?_⟩
    · rw [Array.getElem?_map, h]
      cases x <;> first | rfl | cases hx
    · cases x <;> first | trivial | cases hx
theorem hush_bare {s : Shared} (h : AllBare s.gens) : AllBare (hush s).gens := fun y hy => by
  obtain ⟨x, hx, e⟩ := Array.mem_map.mp (show y ∈ s.gens.map poison from hy)
  rw [← e, poison_bare]
  exact h x hx
/-- the sleepers of s sleep on in s', and s' is t but for its generators -/
structure Slept (s s' t : Shared) : Prop where
  eq : t = { s' with gens := t.gens }
  keep : ∀ (i : Nat) (x : GenState), s.gens[i]? = some x → susp x = true → s'.gens[i]? = some x
  bare : AllBare s.gens → AllBare t.gens → AllBare s'.gens
theorem Rs.slept {s s' t : Shared} (h : Rs s.gens s' t) : Slept s s' t := by
  obtain ⟨G', e, r⟩ := h
  subst e
  refine ⟨rfl, fun i x hx hs => ?_, fun h0 h1 y hy => ?_⟩
  · have hi : i < s'.gens.size := Nat.lt_of_lt_of_le (Array.getElem?_eq_some_iff.mp hx).1 r.le
    rcases r.at_ i _ (Array.getElem?_eq_getElem hi) with ⟨a, b, _⟩ | ⟨a, _, _⟩
    · rw [Array.getElem?_eq_getElem hi, ← b, hx]
    · rw [a x hx] at hs
      cases hs
  · obtain ⟨i, hi, e⟩ := Array.mem_iff_getElem.mp hy
    rcases r.at_ i y (by rw [Array.getElem?_eq_getElem hi, e]) with ⟨_, b, _⟩ | ⟨_, b, _⟩
    · exact h0 y (Array.mem_of_getElem? b)
    · exact h1 y (Array.mem_of_getElem? b)
/-- the rule: shown of the hushed state, it holds of the state, and the sleepers sleep on -/
theorem keep_sleepers {α : Type} {M : Model} {A : Around} {tm : Sem α} {Q : α → Shared → Prop} {E : Value → Shared → Prop} {s : Shared} (h : wpAny M A tm Q E (hush s)) :
    wpAny M A tm (fun a s' => ∃ t, Slept s s' t ∧ Q a t) (fun e s' => ∃ t, Slept s s' t ∧ E e t) s := fun Γ p hΓ => by
  refine Sem.wp_mono M Γ tm (fun a p' s' h' => ?_) (fun e p' s' h' => ?_) p s (wp_sim M Γ s.gens tm _ _ p s (hush s) hush_rs (h Γ p hΓ))
  · obtain ⟨t, r, q⟩ := h'
    exact ⟨t, r.slept, q⟩
  · obtain ⟨t, r, q⟩ := h'
    exact ⟨t, r.slept, q⟩
end Gz
end
section
set_option Elab.async false
set_option linter.all false
set_option maxRecDepth 100000
set_option maxHeartbeats 1000000
/-! A generator def whose items are taken one by one while its consumer works: its body, run in stretches. -/
namespace Gz
open PySem PySem.Spec PyProof.Rows L2 GenW

/-! ### the older part of a heap -/
def cutH (h : Heap) (L : Nat) : Heap := ⟨h.objs.extract 0 L, h.life⟩
theorem cut_at {a : Array Obj} {L b : Nat} (hb : b < L) : (a.extract 0 L)[b]? = a[b]? := by
  rw [Array.getElem?_extract]
  by_cases hs : b < a.size
  · rw [if_pos (by omega)]
    simp
  · rw [if_neg (by omega), Array.getElem?_eq_none (by omega)]
theorem cut_out {a : Array Obj} {L b : Nat} (hb : ¬ b < L) : (a.extract 0 L)[b]? = none := by
  rw [Array.getElem?_extract, if_neg (by omega)]
theorem cutH_get {h : Heap} {L b : Nat} : (cutH h L).get? b = if b < L then h.get? b else none := by
  unfold Heap.get? cutH
  by_cases hb : b < L
  · rw [if_pos hb]
    show (match (h.objs.extract 0 L)[b]? with | some ⟨_, _, .freed, _⟩ => none | o => o) = (match h.objs[b]? with | some ⟨_, _, .freed, _⟩ => none | o => o)
    rw [cut_at hb]
  · rw [if_neg hb]
    show (match (h.objs.extract 0 L)[b]? with | some ⟨_, _, .freed, _⟩ => none | o => o) = none
    rw [cut_out hb]
theorem cutH_some {h : Heap} {L b : Addr} {o : Obj} (e : (cutH h L).get? b = some o) : b < L ∧ h.get? b = some o := by
  rw [cutH_get] at e
  by_cases hb : b < L
  · rw [if_pos hb] at e; exact ⟨hb, e⟩
  · rw [if_neg hb] at e; cases e
theorem cutH_of {h : Heap} {L b : Addr} {o : Obj} (hb : b < L) (e : h.get? b = some o) : (cutH h L).get? b = some o := by rw [cutH_get, if_pos hb]; exact e
theorem cutH_size {h : Heap} {L : Nat} (hl : L ≤ h.objs.size) : (cutH h L).objs.size = L := by
  show (h.objs.extract 0 L).size = L
  rw [Array.size_extract]
  omega

/-- a generator that was made: its def, the frames around it when it runs, its locals at L, what is tracked for it -/
structure Gd where
  prog : Program
  w : World
  K : PySem.W.Frag
  mg : Str → Option Value
  base : Heap
  N : List Str
  qual : Str
  scope : Scope
  f : Addr
  cd : Value
  A : Around
  outer : List Env
  L : Addr
  H0 : Hp
abbrev Gd.env (g : Gd) : Env := envOfC g.qual g.scope g.L g.f g.cd
/-- its body's context, entered (or woken) at s0 -/
def Gd.X (g : Gd) (s0 : Shared) : Cx where
  prog := g.prog
  w := g.w
  K := g.K
  mg := g.mg
  base := g.base
  A := g.A.deeper g.env
  N := g.N
  s_0 := { s0 with heap := cutH s0.heap g.L }
  H_0 := g.H0
  env := g.env
  outer := g.outer
  stack := g.env :: g.outer
  ex := []
  fn := fun _ => true
  calm := true
  pn := []
  xe := fun _ _ => False

/-- what does not hang on the state -/
structure Gd.Fix (g : Gd) : Prop where
  mod : Mod g.K g.mg g.base
  kind : g.scope.kind = .function
  nocell : ∀ x, g.scope.names.lookup x ≠ some .cell ∧ g.scope.names.lookup x ≠ some .free
  nocells : g.env.cells = []
  hd : g.A.handled = none
  frames : g.A.frames = some g.outer
  bsz : g.base.objs.size ≤ g.L
  bsn : ∀ b o, g.base.get? b = some o → g.H0 b = none
  frf : ∀ b ∈ frs g.outer, g.H0 b = none
  frl : ∀ b ∈ frs g.outer, b < g.L
  Lf : g.H0 g.L = none
  clo : ∀ (H : Hp) (h : Heap), (∀ b o, g.H0 b = some o → H b = some o) → HOk g.prog g.w H h → HOk g.prog g.w g.H0 h
  ownc : ∀ b x, g.H0 b = some (.own x) → g.H0 x ≠ none
  nofr : ∀ b o, g.base.get? b = some o → b ∉ frs g.outer
/-- a state in which it may be woken -/
structure Gd.Ready (g : Gd) (s : Shared) : Prop where
  lt : g.L < s.heap.objs.size
  bs : ∀ b o, g.base.get? b = some o → s.heap.get? b = some o
  funs : s.heap.FunFrames g.base g.outer
  hok : HOk g.prog g.w g.H0 s.heap
  bare : AllBare s.gens
/-- its own objects: the locals, its iterators -/
structure Gd.Own (g : Gd) (ip : List (Addr × Obj)) (σ : L2.St) (h : Heap) : Prop where
  loc : ∃ m, h.Ns g.L m ∧ ∀ (i : Nat) (x : Str) (v : V), g.N[i]? = some x → σ[i]? = some (some v) → Vis g.scope x → ∃ u, RelV v u ∧ g.scope.names.lookup x = some .local ∧ m x = some u
  pin : ∀ p ∈ ip, h.get? p.1 = some p.2 ∧ g.H0 p.1 = none ∧ g.L < p.1 ∧ p.2.cls = .type "range_iterator" ∧ ∃ vs, p.2.data = .fields vs
  len : σ.length = g.N.length
/-- not of the generator's making: what it must leave as it is -/
def Plain (L b : Addr) (o : Obj) : Prop := b ≠ L ∧ (o.cls ≠ .type "range_iterator" ∨ ∀ vs, o.data ≠ .fields vs) ∧ ∀ v, o.data ≠ .cell v
open Classical in
/-- all such objects younger than the generator, that are not tracked for it -/
noncomputable def Gd.cp (g : Gd) (s : Shared) : List (Addr × Obj) := (List.range s.heap.objs.size).filterMap fun b => match s.heap.get? b with
  | some o => if g.L ≤ b ∧ Plain g.L b o ∧ g.H0 b = none then some (b, o) else none
  | none => none
open Classical in
theorem Gd.mem_cp {g : Gd} {s : Shared} {p : Addr × Obj} : p ∈ g.cp s ↔ s.heap.get? p.1 = some p.2 ∧ g.L ≤ p.1 ∧ Plain g.L p.1 p.2 ∧ g.H0 p.1 = none := by
  unfold Gd.cp
  rw [List.mem_filterMap]
  constructor
  · rintro ⟨b, hb, e⟩
    cases q : s.heap.get? b with
    | none => rw [q] at e; cases e
    | some o =>
      rw [q] at e
      by_cases hc : g.L ≤ b ∧ Plain g.L b o ∧ g.H0 b = none
      · have e2 : (if g.L ≤ b ∧ Plain g.L b o ∧ g.H0 b = none then some (b, o) else none) = some p := e
        rw [if_pos hc] at e2
        cases e2
        exact ⟨q, hc⟩
      · have e2 : (if g.L ≤ b ∧ Plain g.L b o ∧ g.H0 b = none then some (b, o) else none) = some p := e
        rw [if_neg hc] at e2
        cases e2
  · rintro ⟨e, h⟩
    refine ⟨p.1, List.mem_range.mpr (Heap.lt_size e), ?_⟩
    rw [e]
    show (if g.L ≤ p.1 ∧ Plain g.L p.1 p.2 ∧ g.H0 p.1 = none then some (p.1, p.2) else none) = some p
    rw [if_pos h]

section
variable {g : Gd} {s : Shared} {ip : List (Addr × Obj)} {σ : L2.St}
theorem Gd.ok (F : g.Fix) (R : g.Ready s) : (g.X s).Ok := by
  have hlt : ∀ b o, g.base.get? b = some o → b < g.L := fun b o e => Nat.lt_of_lt_of_le (Heap.lt_size e) F.bsz
  have noA : ∀ b : Addr, b ∉ (g.X s).ex := fun b z => absurd (show b ∈ ([] : List Addr) from z) (by simp)
  have nc : ∀ (x : Str) c, (g.X s).env.cells.lookup x = some c → False := fun x c e => by
    have e2 : g.env.cells.lookup x = some c := e
    rw [F.nocells] at e2
    cases e2
  refine ⟨F.mod, F.kind, rfl, rfl, Nat.le_of_eq (cutH_size (Nat.le_of_lt R.lt)), fun x y c e _ => (nc x c e).elim, fun x hx => ?_, fun x c _ e => (nc x c e).elim, fun _ => F.hd, Around.frames_deeper F.frames, .inr ⟨rfl, rfl⟩, fun b z => absurd z (noA b),
    fun b o e => ⟨cutH_of (hlt b o e) (R.bs b o e), F.bsn b o e⟩, by show g.base.objs.size ≤ (cutH s.heap g.L).objs.size; rw [cutH_size (Nat.le_of_lt R.lt)]; exact F.bsz, fun b _ _ => noA b, fun b z => absurd z (noA b), ?_, F.frf⟩
  · rcases hx with hx | hx
    · exact ((F.nocell x).1 hx).elim
    · exact ((F.nocell x).2 hx).elim
  · have all : ∀ (l : List Env), (∀ b ∈ frs l, b < g.L) → s.heap.FunFrames g.base l → (cutH s.heap g.L).FunFrames g.base l := by
      intro l
      induction l with
      | nil => intro _ _; trivial
      | cons env r ih =>
        intro hs hl
        obtain ⟨hk, ⟨L, o, hf, hn, ho, hd⟩, hr⟩ := hl
        have hL : L < g.L := hs L (by unfold frs; rw [List.filterMap_cons, hf]; exact List.mem_cons_self)
        exact ⟨hk, ⟨L, o, hf, hn, cutH_of hL ho, hd⟩, ih (fun b hb => hs b (by unfold frs; rw [List.filterMap_cons, hf]; exact List.mem_cons_of_mem _ hb)) hr⟩
    exact all g.outer F.frl R.funs
/-- entered or woken -/
theorem Gd.inv (F : g.Fix) (R : g.Ready s) (O : g.Own ip σ s.heap) : Inv (g.X s) (ip ++ g.cp s) σ g.H0 s := by
  refine ⟨Gd.ok F R, rfl, R.bare, ⟨fun b o e _ _ _ => (cutH_some e).2, fun b o e _ _ _ => ⟨o.slots, (cutH_some e).2⟩, fun _ _ _ n _ => n, fun b o e _ => ⟨o, (cutH_some e).2⟩, fun _ _ e => e, fun _ _ _ e => e, fun _ ps e => ⟨#[], by rw [show g.H0 _ = some (HO.tbl ps) from e]; simp⟩⟩,
    ?_, fun x c e => ?_, F.Lf, fun x c e => ?_, fun p hp => ?_, R.hok, O.len⟩
  · obtain ⟨m, hn, hl⟩ := O.loc
    refine ⟨m, hn, fun i x v e1 e2 e3 => ?_⟩
    obtain ⟨u, r, k, e⟩ := hl i x v e1 e2 e3
    exact ⟨u, r, .inl ⟨k, e⟩⟩
  · have e2 : g.env.cells.lookup x = some c := e
    rw [F.nocells] at e2
    cases e2
  · have e2 : g.env.cells.lookup x = some c := e
    rw [F.nocells] at e2
    cases e2
  · have hp2 : p ∈ ip ++ g.cp s := hp
    rcases List.mem_append.mp hp2 with hp | hp
    · obtain ⟨a1, a2, a3, _, a5⟩ := O.pin p hp
      exact ⟨a1, a2, Nat.ne_of_gt a3, fun z => Nat.lt_asymm (F.frl _ z) a3, fun v z => by obtain ⟨vs, e⟩ := a5; rw [e] at z; cases z⟩
    · obtain ⟨a1, a2, a3, a4⟩ := Gd.mem_cp.mp hp
      exact ⟨a1, a4, a3.1, fun z => absurd (F.frl _ z) (Nat.not_lt.mpr a2), a3.2.2⟩
/-- what a stretch leaves as it was: from s0, woken, to s -/
structure Gd.Kept (g : Gd) (s0 s : Shared) (H : Hp) : Prop where
  os : s.os = s0.os
  bare : AllBare s.gens
  plain : ∀ b o, s0.heap.get? b = some o → g.H0 b = none → b ∉ frs g.outer → (b < g.L ∨ Plain g.L b o) → s.heap.get? b = some o ∧ H b = none
  slot : ∀ b o, s0.heap.get? b = some o → b ∈ frs g.outer → (∃ sl, s.heap.get? b = some { o with slots := sl }) ∧ H b = none
  hok : HOk g.prog g.w H s.heap
  lt : g.L < s.heap.objs.size
  loc : H g.L = none
/-- running: woken at s0 -/
structure Gd.Run (g : Gd) (s0 : Shared) (ip : List (Addr × Obj)) (σ : L2.St) (H : Hp) (s : Shared) : Prop where
  lt0 : g.L < s0.heap.objs.size
  inv : Inv (g.X s0) (ip ++ g.cp s0) σ H s
theorem Gd.Run.kept {s0 : Shared} {H : Hp} (F : g.Fix) (h : g.Run s0 ip σ H s) : g.Kept s0 s H where
  os := h.inv.os
  bare := h.inv.bare
  plain := fun b o e n hf hc => by
    rcases Nat.lt_or_ge b g.L with hb | hb
    · exact ⟨h.inv.base.keep b o (cutH_of hb e) n hf (by intro z; exact absurd (show b ∈ ([] : List Addr) from z) (by simp)), h.inv.base.free b o (cutH_of hb e) n (by intro z; exact absurd (show b ∈ ([] : List Addr) from z) (by simp))⟩
    · rcases hc with hc | hc
      · exact absurd hc (Nat.not_lt.mpr hb)
      · obtain ⟨a1, a2, _⟩ := h.inv.pin (b, o) (List.mem_append_right _ (List.mem_append_right _ (Gd.mem_cp.mpr ⟨e, hb, hc, n⟩)))
        exact ⟨a1, a2⟩
  slot := fun b o e hf => by
    have hb := F.frl b hf
    have n := F.frf b hf
    exact ⟨h.inv.base.slot b o (cutH_of hb e) n hf (by intro z; exact absurd (show b ∈ ([] : List Addr) from z) (by simp)), h.inv.base.free b o (cutH_of hb e) n (by intro z; exact absurd (show b ∈ ([] : List Addr) from z) (by simp))⟩
  hok := h.inv.hok
  lt := h.inv.lt
  loc := h.inv.free
theorem Gd.Run.own {s0 : Shared} {H : Hp} (F : g.Fix) (hi : ∀ p ∈ ip, g.H0 p.1 = none ∧ g.L < p.1 ∧ p.2.cls = .type "range_iterator" ∧ ∃ vs, p.2.data = .fields vs) (h : g.Run s0 ip σ H s) : g.Own ip σ s.heap where
  loc := by
    obtain ⟨m, hn, hl⟩ := h.inv.loc
    refine ⟨m, hn, fun i x v e1 e2 e3 => ?_⟩
    obtain ⟨u, r, l⟩ := hl i x v e1 e2 e3
    rcases l with l | ⟨k, c, e, _⟩
    · exact ⟨u, r, l.1, l.2⟩
    · have e2 : g.env.cells.lookup x = some c := e
      rw [F.nocells] at e2
      cases e2
  pin := fun p hp => by
    obtain ⟨a1, _, _, _, a5⟩ := h.inv.pin p (List.mem_append_right _ (List.mem_append_left _ hp))
    obtain ⟨b1, b2, b3⟩ := hi p hp
    exact ⟨a1, b1, b2, b3.1, b3.2⟩
  len := h.inv.len
end
end Gz
end
section
set_option Elab.async false
set_option linter.all false
set_option maxRecDepth 100000
set_option maxHeartbeats 1000000
/-! The statements of such a generator's body. -/
namespace Gz
open PySem PySem.Spec PyProof.Rows L2 GenW

def Sub (H H' : Hp) : Prop := ∀ b o, H b = some o → H' b = some o
theorem Sub.refl (H : Hp) : Sub H H := fun _ _ e => e

/-- it hands out item k and sleeps -/
def GYp (g : Gd) (N : Nat) (out : Nat → Int × Int) : Protocol := fun n s0 v s kap =>
  ∃ k ip σ H T, n + 1 + k = N ∧ v = .ref T ∧ H T = some (.tup [.int (out k).1, .int (out k).2]) ∧ g.H0 T = none ∧ Sub g.H0 H ∧ g.Kept s0 s H ∧ g.Own ip σ s.heap ∧ ∀ s', g.Own ip σ s'.heap → g.Ready s' → kap (.send .none) s' ∧ kap (.send (.bool true)) s'
def GRf (g : Gd) (n : Nat) (s0 s : Shared) : Prop := n = 0 ∧ ∃ H, g.Kept s0 s H ∧ Sub g.H0 H
def GRp (g : Gd) : GenEnd := fun n s0 r s => ((r = .ok (.ret .none) ∨ r = .ok .next) ∧ GRf g n s0 s) ∨ ∃ e, r = .error e ∧ (fun (_ : Value) (_ : Shared) => False) e s

abbrev GDn := Nat → L2.St → Hp → Prop
abbrev TG2 := GDn → GDn
/-- where its code stands -/
structure GC2 (g : Gd) (A : Around) (c : Code) (fs : List Frame) (gd : Bool → Bool) : Prop where
  over : A.over c fs = g.A.deeper g.env
  split : splitAtGen fs = none
  guard : fs.any Frame.guarded = false
  gd : gd false = false
def IpOk (g : Gd) (ip : List (Addr × Obj)) : Prop := ∀ p ∈ ip, g.H0 p.1 = none ∧ g.L < p.1 ∧ p.2.cls = .type "range_iterator" ∧ ∃ vs, p.2.data = .fields vs
/-- what follows -/
def GK2 (g : Gd) (N : Nat) (out : Nat → Int × Int) (A : Around) (c : Code) (fs : List Frame) (ip : List (Addr × Obj)) (kn : Sem PySem.Fin) (D : GDn) : Prop :=
  ∀ (n k : Nat) (s0 s : Shared) (σ : L2.St) (H : Hp), n + k = N → g.Run s0 ip σ H s → D k σ H → Seg (model g.prog g.w) A (GRp g) (GYp g N out) n s0 c kn fs s
structure GS2 (g : Gd) (N : Nat) (out : Nat → Int × Int) (st : Stmt) (t : TG2) : Prop where
  run : ∀ (A : Around) (n k : Nat) (s0 s : Shared) (c : Code) (fs : List Frame) (K : Flow → Sem PySem.Fin) (J : Value → Sem PySem.Fin) (gd : Bool → Bool) (lv : List Value → List Value) (ip : List (Addr × Obj)) (σ : L2.St) (H : Hp) (D : GDn),
    GC2 g A c fs gd → IpOk g ip → n + k = N → GK2 g N out A c fs ip (K .next) D → g.Run s0 ip σ H s → t D k σ H → Seg (model g.prog g.w) A (GRp g) (GYp g N out) n s0 c ((exec st g.env).wrap K J gd lv) fs s
structure GSs2 (g : Gd) (N : Nat) (out : Nat → Int × Int) (st : List Stmt) (t : TG2) : Prop where
  run : ∀ (A : Around) (n k : Nat) (s0 s : Shared) (c : Code) (fs : List Frame) (K : Flow → Sem PySem.Fin) (J : Value → Sem PySem.Fin) (gd : Bool → Bool) (lv : List Value → List Value) (ip : List (Addr × Obj)) (σ : L2.St) (H : Hp) (D : GDn),
    GC2 g A c fs gd → IpOk g ip → n + k = N → GK2 g N out A c fs ip (K .next) D → g.Run s0 ip σ H s → t D k σ H → Seg (model g.prog g.w) A (GRp g) (GYp g N out) n s0 c ((execs st g.env).wrap K J gd lv) fs s

section
variable {g : Gd} {N : Nat} {out : Nat → Int × Int} {st : Stmt} {rest : List Stmt}
/-- a statement that hands out nothing and falls through -/
def tP2 (t : TS) : TG2 := fun D k σ H => t { nx := D k, rt := fun _ _ => False } σ H
theorem gs2_ps {t : TS} (h : ∀ s0, PS (g.X s0) st t) : GS2 g N out st (tP2 t) := by
  refine ⟨fun A n k s0 s c fs K J gd lv ip σ H D gc hip hn gk hI ht => ?_⟩
  refine seg_wrap ?_
  rw [gc.over]
  refine wpAny_mono ((h s0).run _ s σ H { nx := D k, rt := fun _ _ => False } hI.inv ht) (fun f s' hs => ?_) fun x s' hx => (show False from hx).elim
  cases f with
  | next =>
    obtain ⟨σ', H', I', q⟩ := hs
    exact gk n k s0 s' σ' H' hn ⟨hI.lt0, I'⟩ q
  | brk => obtain ⟨_, _, _, q⟩ := hs; exact (show False from q).elim
  | cont => obtain ⟨_, _, _, q⟩ := hs; exact (show False from q).elim
  | ret u => obtain ⟨_, _, _, _, _, q⟩ := hs; exact (show False from q).elim
def tN2 : TG2 := fun D k σ H => D k σ H
theorem gss2_nil : GSs2 g N out [] tN2 := by
  refine ⟨fun A n k s0 s c fs K J gd lv ip σ H D gc hip hn gk hI ht => ?_⟩
  exact seg_execs_nil (gk n k s0 s σ H hn hI ht)
theorem gss2_cons {t u : TG2} (a : GS2 g N out st t) (b : GSs2 g N out rest u) : GSs2 g N out (st :: rest) (fun D => t (u D)) := by
  refine ⟨fun A n k s0 s c fs K J gd lv ip σ H D gc hip hn gk hI ht => ?_⟩
  refine seg_execs_cons ?_
  refine a.run A n k s0 s c fs _ J gd lv ip σ H (u D) gc hip hn (fun n' k' s0' s' σ' H' hn' hI' q => ?_) hI ht
  exact b.run A n' k' s0' s' c fs K J gd lv ip σ' H' D gc hip hn' gk hI' q

/-! ### yield -/
def tY2 (g : Gd) (N : Nat) (out : Nat → Int × Int) (te : TE) : TG2 := fun D k σ H => k < N ∧ te σ H fun x H1 => ∃ T, x = .ref T ∧ H1 T = some (.tup [.int (out k).1, .int (out k).2]) ∧ g.H0 T = none ∧ Sub g.H0 H1 ∧ D (k + 1) σ g.H0
theorem gs2_yield {e : Expr} {yp pos : Pos} {te : TE} (F : g.Fix) (he : ∀ s0, PE (g.X s0) e te) (hco : g.scope.isCoroutine = false) : GS2 g N out (.Expr (.Yield (some e) yp) pos) (tY2 g N out te) := by
  refine ⟨fun A n k s0 s c fs K J gd lv ip σ H D gc hip hn gk hI ht => ?_⟩
  obtain ⟨hlt, ht⟩ := ht
  obtain ⟨n, rfl⟩ : ∃ m, n = m + 1 := ⟨n - 1, by omega⟩
  have hi : interactive g.env = false := by
    have e : g.env.scope.kind = .function := F.kind
    simp [interactive, e]
  refine seg_Expr_Yield gc.split gc.gd gc.guard ?_ hco hi
  rw [gc.over]
  refine wpAny_mono ((he s0).run _ s σ H _ hI.inv ht) (fun v s' hv => ?_) fun x s' hx => (show False from hx).elim
  obtain ⟨x, H1, I1, rv, T, ex, eT, nT, sub, q⟩ := hv
  subst ex
  have ev : v = .ref T := rv
  subst ev
  intro kap hk
  refine ⟨k, ip, σ, H1, T, hn, rfl, eT, nT, sub, Gd.Run.kept F ⟨hI.lt0, I1⟩, Gd.Run.own F hip ⟨hI.lt0, I1⟩, fun s'' O R => ?_⟩
  have go := gk n (k + 1) s'' s'' σ g.H0 (by omega) ⟨R.lt, Gd.inv F R O⟩ q
  exact ⟨hk .none s'' go, hk (.bool true) s'' go⟩

/-! ### for x in range(n) -/
/-- the range's iterator is made -/
theorem rng_made {X : Cx} {pins : List (Addr × Obj)} {s : Shared} {σ : L2.St} {H : Hp} {a : Expr} {ta : TA} {p pos : Pos} {R : Nat → Hp → Prop} (I : Inv X pins σ H s) (hg : Gl X "range") (hm : X.mg "range" = none) (ha : PA X [a] ta)
    (h : ta σ H fun vs H1 => ∃ m : Nat, vs = [.int m] ∧ m < 2 ^ 62 ∧ R m H1) (hs : starEach [a] X.env = [(false, eval a X.env)] := by rfl) :
    wpAny (model X.prog X.w) X.A (eval (.Call (.Name "range" p) [a] [] pos) X.env) (fun v s1 => wpAny (model X.prog X.w) X.A (pyIter v) (fun itv s2 => ∃ (it : Addr) (m : Nat) (H1 : Hp), itv = .ref it ∧ Inv X pins σ H1 s2 ∧
      IsRangeIter s2.heap it (0 + ((0 : Nat) : Int) * 1) ((m : Int) - ((0 : Nat) : Int)) 1 ∧ FpOk X pins H1 it ∧ R m H1) X.xe s1) X.xe s := by
  refine Call_ (ld_blt I hg hm boot_range (PyProof.Rows.callWith_type1 (thn (ha.run pos pins s σ H _ I h) fun us s1 ⟨vs, H1, I1, r1, q1⟩ => ?_) hs rfl))
  obtain ⟨j, e, q1, q⟩ := q1
  subst e
  cases r1 with
  | cons r rr =>
    cases rr
    obtain ⟨t, rfl⟩ := r
    refine call_range_1 ?_
    have h62 : (j : Int) < 2 ^ 62 := by exact_mod_cast q1
    refine wpAny_pyIter_range (IsRange.new ..) (small_one (by omega) (by omega) (by omega) h62) ?_
    have I2 : Inv X pins σ H1 { s1 with heap := s1.heap.push { cls := .type "range", data := .fields #[.int 0 s1.toks, .int j t, .int 1 (s1.toks + 1)] }, toks := s1.toks + 1 + 1 } := I1.kept fun b o e => Heap.get?_push_of_some _ e
    refine ⟨(s1.heap.push { cls := .type "range", data := .fields #[.int 0 s1.toks, .int j t, .int 1 (s1.toks + 1)] }).objs.size, j, H1, rfl, I2.kept (t' := s1.toks + 1 + 1) fun b o e => Heap.get?_push_of_some _ e, ?_, ?_, q⟩
    · have e1 : (0 : Int) + ((0 : Nat) : Int) * 1 = 0 := by simp
      have e2 : (j : Int) - ((0 : Nat) : Int) = Builtin.Range.rangeSize 0 j 1 := by rw [rangeSize_one]; split <;> omega
      rw [e1, e2]
      exact Heap.get?_push_size _ rfl
    · exact I2.fpOk (Nat.le_refl _) (I2.hok.fresh (Nat.le_refl _))
theorem over_loop2 {A : Around} {c c' : Code} {fs : List Frame} {gd : Bool → Bool} {k : Result → Sem PySem.Fin} {l kp : List Value} {p : Pos} (gc : GC2 g A c fs gd) (hw : c'.weight = 0) (hu : c'.cUnits = 0) : GC2 g A c' (.ret k none (gd false) l c p kp :: fs) id where
  over := (over_loop hw hu).trans gc.over
  split := by
    show (splitAtGen fs).map _ = none
    rw [gc.split]; rfl
  guard := by
    show (gd false || fs.any Frame.guarded) = false
    rw [gc.gd, gc.guard]; rfl
  gd := rfl
def itO (m j : Nat) : Obj := { cls := .type "range_iterator", data := .fields #[rawInt (0 + ((j : Nat) : Int) * 1), rawInt ((m : Int) - ((j : Nat) : Int)), rawInt 1] }
/-- one turn's start: the iterator's next, its value stored -/
def tF2 (g : Gd) (ta : TA) (i : Nat) (tb : TG2) : TG2 := fun D k σ H => ta σ H fun vs H1 => ∃ m : Nat, vs = [.int m] ∧ m < 2 ^ 62 ∧ ∃ Pv : Nat → GDn, (∀ j k σ H, Pv j k σ H → Sub g.H0 H) ∧ Pv 0 k σ H1 ∧
  (∀ j k σ H, j < m → Pv j k σ H → tb (Pv (j + 1)) k (σ.set i (some (.int j))) H) ∧ ∀ k σ H, Pv m k σ H → D k σ H
theorem gs2_for {x : Str} {a : Expr} {body : List Stmt} {ta : TA} {tb : TG2} {i : Nat} {px p pos pos' : Pos} (F : g.Fix) (hgl : g.env.kindOf "range" = some .globalImplicit) (hm : g.mg "range" = none) (ha : ∀ s0, PA (g.X s0) [a] ta) (hN : g.N.Nodup) (hi : g.N[i]? = some x) (hx : g.scope.names.lookup x = some .local) (hb : GSs2 g N out body tb)
    (hs : starEach [a] g.env = [(false, eval a g.env)] := by rfl) (hfd : ∀ y, foldedSetIterable (.Call (.Name "range" p) [a] [] pos) g.env y = pure y := by intro _; rfl) : GS2 g N out (.For (.Name x px) (.Call (.Name "range" p) [a] [] pos) body [] pos') (tF2 g ta i tb) := by
  refine ⟨fun A n k s0 s c fs K J gd lv ip σ H D gc hip hn gk hI ht => ?_⟩
  show Seg _ _ _ _ _ _ _ (.at pos' fun _ => ((eval (.Call (.Name "range" p) [a] [] pos) g.env >>= fun v => (foldedSetIterable (.Call (.Name "range" p) [a] [] pos) g.env v >>= fun y => standAt (Expr.pos (.Call (.Name "range" p) [a] [] pos)) >>= fun _ => (holding [y] (pyIter y) >>= fun it => runOwn (.forLoop (.Name x px) it body [] g.env) g.env))).wrap K J gd lv)) _ _
  refine seg_at ?_
  refine seg_bind_wrap ?_
  rw [gc.over]
  refine wpAny_mono (rng_made (X := g.X s0) (R := fun m H1 => ∃ Pv : Nat → GDn, (∀ j k σ H, Pv j k σ H → Sub g.H0 H) ∧ Pv 0 k σ H1 ∧ (∀ j k σ H, j < m → Pv j k σ H → tb (Pv (j + 1)) k (σ.set i (some (.int j))) H) ∧ ∀ k σ H, Pv m k σ H → D k σ H) hI.inv hgl hm (ha s0) ht hs) (fun v s1 h1 => ?_) fun e s1 hx => (show False from hx).elim
  rw [hfd v]
  refine seg_bind_wrap (wpAny_pure ?_)
  refine seg_bind_wrap (wpAny_standAt ?_)
  refine seg_bind_wrap (wpAny_holding ?_)
  rw [gc.over]
  refine wpAny_mono h1 (fun itv s2 h2 => ?_) fun e s1 hx => (show False from hx).elim
  obtain ⟨it, m, H1, rfl, I2, st2, f2, Pv, psub, p0, turn, fin⟩ := h2
  show Seg _ _ _ _ _ _ _ (.call (.forLoop (.Name x px) (.ref it) body [] g.env) none (gd false) (lv []) _) _ _
  refine seg_call fun pp => ?_
  have gl := fun (kk : Result → Sem PySem.Fin) => over_loop2 (k := kk) (c' := .forLoop (.Name x px) (.ref it) body [] g.env) (l := lv []) (kp := []) (p := pp) gc rfl rfl
  have gl2 := fun (kk : Result → Sem PySem.Fin) => over_loop2 (k := kk) (c' := .block [] g.env) (l := lv []) (kp := []) (p := pp) gc rfl rfl
  have itL : g.L < it := by
    obtain ⟨_, b1, _, b3, _⟩ := f2
    rcases b3 with z | z
    · exact absurd (show it ∈ ([] : List Addr) from z) (by simp)
    · have z2 : (cutH s0.heap g.L).objs.size ≤ it := z
      rw [cutH_size (Nat.le_of_lt hI.lt0)] at z2
      exact Nat.lt_of_le_of_ne z2 (fun e => b1 e.symm)
  have noH : ∀ {H' : Hp}, Sub g.H0 H' → H' it = none → g.H0 it = none := fun {H'} sb n => by
    cases e : g.H0 it with
    | none => rfl
    | some o => rw [sb it o e] at n; cases n
  have f2c := f2
  have fpk : ∀ {s0' s' : Shared} {σ' : L2.St} {H' : Hp}, g.Run s0' ip σ' H' s' → H' it = none → (∀ p ∈ g.cp s0', p.1 ≠ it) → it ∉ frs g.outer → FpOk (g.X s0') (ip ++ g.cp s0') H' it := fun {s0' s' σ' H'} hI hH hcp hfr => by
    obtain ⟨_, _, _, _, _, f5⟩ := f2c
    refine ⟨hH, Nat.ne_of_gt itL, hfr, .inr ?_, fun x c e => ?_, fun p hp => ?_⟩
    · show (cutH s0'.heap g.L).objs.size ≤ it
      rw [cutH_size (Nat.le_of_lt hI.lt0)]
      exact Nat.le_of_lt itL
    · have e2 : g.env.cells.lookup x = some c := e
      rw [F.nocells] at e2
      cases e2
    · have hp2 : p ∈ ip ++ g.cp s0' := hp
      rcases List.mem_append.mp hp2 with hp | hp
      · exact f5 p (List.mem_append_right _ (List.mem_append_left _ hp))
      · exact hcp p hp
  have Tn := fun (s0' : Shared) => turn_range (P := g.prog) (w := g.w) (K := g.K) (tg := .Name x px) it 0 m
  -- the turns
  have loop : ∀ (r j n k : Nat) (s0 s : Shared) (σ : L2.St) (H : Hp), j + r = m → n + k = N → g.Run s0 ip σ H s → IsRangeIter s.heap it (0 + ((j : Nat) : Int) * 1) ((m : Int) - ((j : Nat) : Int)) 1 → H it = none → (∀ p ∈ g.cp s0, p.1 ≠ it) → it ∉ frs g.outer → Pv j k σ H →
      Seg (model g.prog g.w) A (GRp g) (GYp g N out) n s0 (.forLoop (.Name x px) (.ref it) body [] g.env) ((model g.prog g.w).den (.forLoop (.Name x px) (.ref it) body [] g.env))
        (.ret (fun r => ((match r with | .ok f => (.pure f : Sem Flow) | .error e => .raise e).onRaise (cameBack g.env)).wrap K J gd lv) none (gd false) (lv []) c pp [] :: fs) s := by
    intro r
    induction r with
    | zero =>
      intro j n k s0 s σ H hj hn hI st hH hcp hfr hp
      have hj' : j = m := by omega
      subst hj'
      show Seg _ _ _ _ _ _ _ ((forTurn (.Name x px) (.ref it) body [] g.env).onRaise (fun x => do noteFrame x g.env; theTreesLotGoes x)) _ _
      rw [Sem.onRaise_eq_wrap]
      simp only [forTurn]
      refine seg_bind_wrap (wpAny_standAt ?_)
      refine seg_bind_wrap ?_
      rw [(gl _).over]
      refine wpAny_onRaise (wpAny_mono ((Tn s0).done (g.X s0) rfl rfl rfl rfl j _ s σ H (fun _ _ => False) hI.inv (fun b hb => ?_) st (Nat.le_refl _)) (fun r s1 h1 => ?_) fun e s1 hx => hx.elim)
      · rw [show b = it by simpa using hb]
        exact fpk hI hH hcp hfr
      · obtain ⟨er, I1⟩ := h1
        subst er
        refine seg_again rfl ?_
        show Seg _ _ _ _ _ _ _ (.pure (.done .next)) _ _
        refine seg_leaf (.ok .next) ?_
        exact gk n k s0 s1 σ H hn ⟨hI.lt0, I1⟩ (fin k σ H hp)
    | succ r ih =>
      intro j n k s0 s σ H hj hn hI st hH hcp hfr hp
      have hjm : j < m := by omega
      show Seg _ _ _ _ _ _ _ ((forTurn (.Name x px) (.ref it) body [] g.env).onRaise (fun x => do noteFrame x g.env; theTreesLotGoes x)) _ _
      rw [Sem.onRaise_eq_wrap]
      simp only [forTurn]
      refine seg_bind_wrap (wpAny_standAt ?_)
      refine seg_bind_wrap ?_
      rw [(gl _).over]
      refine wpAny_onRaise (wpAny_mono ((Tn s0).item (g.X s0) rfl rfl rfl rfl j _ s σ H (fun _ _ => False) hI.inv (fun b hb => ?_) st hjm) (fun r s1 h1 => ?_) fun e s1 hx => hx.elim)
      · rw [show b = it by simpa using hb]
        exact fpk hI hH hcp hfr
      · obtain ⟨u, er, h1⟩ := h1
        subst er
        refine seg_bind_wrap ?_
        rw [(gl _).over]
        refine wpAny_mono h1 (fun _ s2 h2 => ?_) fun e s1 hx => hx.elim
        obtain ⟨xv, H2, I2, rv, ⟨eH, ex⟩, st2, n2⟩ := h2
        subst eH ex
        have hH2 := n2 it (by simp)
        have hp0 := hp
        have hO : s2.heap.get? it = some (itO m (j + 1)) := st2
        -- the iterator is pinned
        have I2' : Inv (g.X s0) ((ip ++ [(it, itO m (j + 1))]) ++ g.cp s0) σ H2 s2 := I2.pins_of fun p hp => by
          rcases List.mem_append.mp hp with hp | hp
          · rcases List.mem_append.mp hp with hp | hp
            · exact I2.pin p (List.mem_append_right _ (List.mem_append_left _ hp))
            · have ep : p = (it, itO m (j + 1)) := List.mem_singleton.mp hp
              subst ep
              exact ⟨hO, hH2, Nat.ne_of_gt itL, hfr, fun v z => by cases z⟩
          · exact I2.pin p (List.mem_append_right _ (List.mem_append_right _ hp))
        refine seg_bind_wrap ?_
        rw [(gl _).over]
        refine wpAny_mono ((pg_name (X := g.X s0) (pos := px) hN hi (.inl hx) (.inl rfl)).run _ s2 σ H2 _ u (fun σ' H' => σ' = σ.set i (some (.int (0 + (j : Int)))) ∧ H' = H2) I2' rv ⟨rfl, rfl⟩) (fun _ s3 h3 => ?_) fun e s1 hx => (show False from hx).elim
        obtain ⟨σ3, H3, I3, eσ, eH3⟩ := h3
        subst eσ eH3
        rw [Int.zero_add] at I3
        rw [Sem.bind_eq_wrap', Sem.wrap_wrap]
        rw [Sem.wrap_congr (execs body g.env) _ _ (K' := fun f => match f with
            | .next | .cont => .pure (.again (.forLoop (.Name x px) (.ref it) body [] g.env))
            | .brk => .pure (.done .next)
            | .ret v => .pure (.done (.ret v))) (fun f => by cases f <;> rfl) (fun e => rfl)]
        refine hb.run A n k s0 s3 _ _ _ _ _ _ (ip ++ [(it, itO m (j + 1))]) _ _ (Pv (j + 1)) (gl _) (fun p hp => ?_) hn (fun n' k' s0' s4 σ4 H4 hn' hI4 p4 => ?_) ⟨hI.lt0, I3⟩ (turn j k σ _ hjm hp0)
        · rcases List.mem_append.mp hp with hp | hp
          · exact hip p hp
          · have ep : p = (it, itO m (j + 1)) := List.mem_singleton.mp hp
            subst ep
            exact ⟨noH (psub _ _ _ _ hp0) hH2, itL, rfl, _, rfl⟩
        · refine seg_again rfl ?_
          have q := hI4.inv.pin (it, itO m (j + 1)) (List.mem_append_right _ (List.mem_append_left _ (List.mem_append_right _ (List.mem_singleton.mpr rfl))))
          refine ih (j + 1) n' k' s0' s4 σ4 H4 (by omega) hn' ⟨hI4.lt0, hI4.inv.pins_of fun p hp => hI4.inv.pin p ?_⟩ q.1 q.2.1 (fun p hp e => ?_) hfr p4
          · rcases List.mem_append.mp hp with hp | hp
            · exact List.mem_append_right _ (List.mem_append_left _ (List.mem_append_left _ hp))
            · exact List.mem_append_right _ (List.mem_append_right _ hp)
          · have q2 := (hI4.inv.pin p (List.mem_append_right _ (List.mem_append_right _ hp))).1
            rw [e, q.1] at q2
            have z := (Gd.mem_cp.mp hp).2.2.1.2.1
            rw [← Option.some.inj q2] at z
            rcases z with z | z
            · exact z rfl
            · exact z _ rfl
  obtain ⟨f0, f1, f2', f3, f4, f5⟩ := f2
  exact loop m 0 n k s0 s2 σ H1 (by omega) hn ⟨hI.lt0, I2⟩ st2 f0 (fun p hp => f5 p (List.mem_append_right _ (List.mem_append_right _ hp))) f2' p0
end
end Gz
end
section
set_option Elab.async false
set_option linter.all false
set_option maxRecDepth 100000
set_option maxHeartbeats 1000000
/-! Such a generator asleep; its next. -/
namespace Gz
open PySem PySem.Spec PyProof.Rows L2 GenW

/-- asleep, i items handed out -/
structure Gd.Asleep (g : Gd) (N : Nat) (out : Nat → Int × Int) (ga : Addr) (gi i : Nat) (s : Shared) : Prop where
  gen : s.heap.IsGen ga gi
  gn : g.H0 ga = none ∧ ga ∉ frs g.outer ∧ g.L < ga
  own : ∃ ip σ gs, IpOk g ip ∧ g.Own ip σ s.heap ∧ s.gens[gi]? = some gs ∧ (i = 0 ∨ susp gs = true) ∧ ∀ s', g.Own ip σ s'.heap → g.Ready s' → gs.Goes (model g.prog g.w) g.A (GRp g) (GYp g N out) (N - i) (.send .none) s'

section
variable {g : Gd} {N : Nat} {out : Nat → Int × Int} {ga : Addr} {gi i : Nat} {s s1 : Shared} {H : Hp}
theorem Gd.Kept.ready (F : g.Fix) (R : g.Ready s) (k : g.Kept s s1 H) (sb : Sub g.H0 H) : g.Ready s1 where
  lt := k.lt
  bs := fun b o e => (k.plain b o (R.bs b o e) (F.bsn b o e) (F.nofr b o e) (.inl (Nat.lt_of_lt_of_le (Heap.lt_size e) F.bsz))).1
  funs := by
    have all : ∀ (l : List Env), (∀ b ∈ frs l, b ∈ frs g.outer) → s.heap.FunFrames g.base l → s1.heap.FunFrames g.base l := by
      intro l
      induction l with
      | nil => intro _ _; trivial
      | cons env r ih =>
        intro hs hl
        obtain ⟨hk, ⟨L, o, hf, hn, ho, hd⟩, hr⟩ := hl
        have hL : L ∈ frs g.outer := hs L (by unfold frs; rw [List.filterMap_cons, hf]; exact List.mem_cons_self)
        obtain ⟨⟨sl, e⟩, _⟩ := k.slot L o ho hL
        exact ⟨hk, ⟨L, _, hf, hn, e, hd⟩, ih (fun b hb => hs b (by unfold frs; rw [List.filterMap_cons, hf]; exact List.mem_cons_of_mem _ hb)) hr⟩
    exact all g.outer (fun _ h => h) R.funs
  hok := F.clo H _ sb k.hok
  bare := k.bare
theorem Gd.Kept.gen (k : g.Kept s s1 H) (gn : g.H0 ga = none ∧ ga ∉ frs g.outer ∧ g.L < ga) (h : s.heap.IsGen ga gi) : s1.heap.IsGen ga gi := by
  obtain ⟨o, nm, qn, ho, hc, hd, hs⟩ := h
  refine ⟨o, nm, qn, (k.plain ga o ho gn.1 gn.2.1 (.inr ⟨Nat.ne_of_gt gn.2.2, ?_, fun v z => ?_⟩)).1, hc, hd, hs⟩
  · rw [hc]; exact .inl (by decide)
  · rw [hd] at z; cases z
theorem Gd.Kept.setl {x : GenState} {j : Nat} (k : g.Kept (s.setGen j x) s1 H) : g.Kept s s1 H := ⟨k.os, k.bare, k.plain, k.slot, k.hok, k.lt, k.loc⟩
theorem Gd.Kept.setr {x : GenState} {j : Nat} (k : g.Kept s s1 H) (hx : x.bare = true) : g.Kept s (s1.setGen j x) H := ⟨k.os, allBare_setGen k.bare hx, k.plain, k.slot, k.hok, k.lt, k.loc⟩
theorem Gd.Ready.set {x : GenState} {j : Nat} (R : g.Ready s) (hx : x.bare = true) : g.Ready (s.setGen j x) := ⟨R.lt, R.bs, R.funs, R.hok, allBare_setGen R.bare hx⟩

theorem next_item {A : Around} {Q : Option Value → Shared → Prop} {E : Value → Shared → Prop} (F : g.Fix) (R : g.Ready s) (Z : g.Asleep N out ga gi i s) (hi : i < N) (hA : A.in1 = g.A) (hh : A.handled = none) (hl : s.heap.NoLimit) (hd : A.depth < recursionLimit)
    (h : ∀ T s1 H, H T = some (.tup [.int (out i).1, .int (out i).2]) → g.H0 T = none → Sub g.H0 H → g.Kept s s1 H → g.Asleep N out ga gi (i + 1) s1 → Q (some (.ref T)) s1) : wpAny (model g.prog g.w) A (pyNext (.ref ga)) Q E s := by
  obtain ⟨ip, σ, gs, hip, O, hgs, _, hgo⟩ := Z.own
  have hgl : gi + 1 ≤ s.gens.size := (Array.getElem?_eq_some_iff.mp hgs).1
  obtain ⟨m, hm⟩ : ∃ m, N - i = m + 1 := ⟨N - i - 1, by omega⟩
  rw [hm] at hgo
  refine wpAny_gsz hgl (next_genG (n := m + 1) (F := GRf g) (Er := fun _ _ => False) (Y := GYp g N out) hh hl hd Z.gen hgs (by rw [hA]; exact hgo (s.setGen gi .running) O (R.set rfl)) (fun v s₁ gs' hb hv => ?_) (fun s₁ hp _ _ => ?_) fun e s₁ he => he.elim)
  · obtain ⟨k, ip', σ', H, T, hn, rfl, eT, nT, sub, kept, own, wake⟩ := hv
    have hk : k = i := by omega
    subst hk
    intro hsz
    have hsz' : gi < s₁.gens.size := by
      have q : (s₁.setGen gi gs').gens.size = s₁.gens.size := setGen_size _ _ _
      omega
    have R1 := kept.setl.ready F R sub
    have hsus : susp gs' = true := by
      have w1 := (wake s₁ own R1).2
      rw [hA] at w1
      cases gs' with
      | fresh c => exact nomatch (show Resume.send (.bool true) = Resume.send .none ∧ _ from w1).1
      | suspended => rfl
      | running => exact (show False from w1).elim
      | finished => exact (show False from w1).elim
    have eN : N - (k + 1) = m := by omega
    refine h T _ H eT nT sub (kept.setl.setr hb) ⟨kept.setl.gen Z.gn Z.gen, Z.gn, ip', σ', gs', fun p hp => ?_, own, setGen_at hsz', .inr hsus, fun s' O' R' => ?_⟩
    · obtain ⟨_, b, c, d, e⟩ := own.pin p hp
      exact ⟨b, c, d, e⟩
    · have w1 := (wake s' O' R').1
      rw [hA] at w1
      rw [eN]
      exact w1
  · exact absurd hp.1 (Nat.succ_ne_zero m)

theorem next_end {A : Around} {Q : Option Value → Shared → Prop} {E : Value → Shared → Prop} (F : g.Fix) (R : g.Ready s) (Z : g.Asleep N out ga gi N s) (hA : A.in1 = g.A) (hh : A.handled = none) (hl : s.heap.NoLimit) (hd : A.depth < recursionLimit)
    (h : ∀ s1 H, Sub g.H0 H → g.Kept s s1 H → Q none s1) : wpAny (model g.prog g.w) A (pyNext (.ref ga)) Q E s := by
  obtain ⟨ip, σ, gs, hip, O, hgs, _, hgo⟩ := Z.own
  rw [Nat.sub_self] at hgo
  refine next_genG (n := 0) (F := GRf g) (Er := fun _ _ => False) (Y := GYp g N out) hh hl hd Z.gen hgs (by rw [hA]; exact hgo (s.setGen gi .running) O (R.set rfl)) (fun v s₁ gs' hb hv => ?_) (fun s₁ hp h' hk => ?_) fun e s₁ he => he.elim
  · obtain ⟨k, ip', σ', H, T, hn, rfl, eT, nT, sub, kept, own, wake⟩ := hv
    exact (wake s₁ own (kept.setl.ready F R sub)).1.elim
  · obtain ⟨_, H, kept, sub⟩ := hp
    refine h _ H sub ⟨kept.os, allBare_setGen kept.bare rfl, fun b o e n hf hc => ?_, fun b o e hf => ?_, kept.hok.kept hk, ?_, kept.loc⟩
    · obtain ⟨a1, a2⟩ := kept.plain b o e n hf hc
      exact ⟨hk b o a1, a2⟩
    · obtain ⟨⟨sl, a1⟩, a2⟩ := kept.slot b o e hf
      exact ⟨⟨sl, hk b _ a1⟩, a2⟩
    · obtain ⟨o, nm, qn, ho, _⟩ := kept.setl.gen Z.gn Z.gen
      exact Nat.lt_trans Z.gn.2.2 (Heap.lt_size (hk _ _ ho))
end
end Gz
end
section
set_option Elab.async false
set_option linter.all false
set_option maxRecDepth 100000
set_option maxHeartbeats 1000000
/-! Such a generator is made by a call of its def. -/
namespace Gz
open PySem PySem.Spec PyProof.Rows L2 GenW

/-- the generator that a call in X, at L objects, makes -/
def gdOf (X : Cx) (N : List Str) (qual : Str) (scope : Scope) (f : Addr) (cd : Value) (L : Addr) (H0 : Hp) : Gd :=
  ⟨X.prog, X.w, X.K, X.mg, X.base, N, qual, scope, f, cd, X.A.in1, X.stack, L, H0⟩
theorem frames_lt {X : Cx} {pins : List (Addr × Obj)} {σ : L2.St} {H : Hp} {s : Shared} (I : Inv X pins σ H s) : ∀ b ∈ frs X.stack, b < s.heap.objs.size := fun b hb => by
  obtain ⟨_, o, ho, _⟩ := I.stack.mem hb
  exact Heap.lt_size ho
theorem base_nofr {X : Cx} {pins : List (Addr × Obj)} {σ : L2.St} {H : Hp} {s : Shared} (I : Inv X pins σ H s) : ∀ b o, X.base.get? b = some o → b ∉ frs X.stack := fun b o e hb => by
  rw [(I.stack.mem hb).1] at e
  cases e
section
variable {X : Cx} {pins : List (Addr × Obj)} {σ : L2.St} {H H0 : Hp} {s : Shared} {N ps : List Str} {qual name : Str} {scope : Scope} {params : Arguments} {body : List Stmt} {f : Addr} {cd dV kV doc pm ct oc : Value} {an od : Option Addr} {osl : Array (Option Value)}
theorem gdOf_fix (I : Inv X pins σ H s) (hc : X.calm = true) (S : GScope N ps scope) (hnc : ∀ y ∈ scope.names, y.2 ≠ .cell) (hcl : (envOfC qual scope s.heap.objs.size f cd).cells = []) (sub : Sub H0 H)
    (clo : ∀ (H : Hp) (h : Heap), Sub H0 H → HOk X.prog X.w H h → HOk X.prog X.w H0 h) (ownc : ∀ b x, H0 b = some (.own x) → H0 x ≠ none) : (gdOf X N qual scope f cd s.heap.objs.size H0).Fix := by
  have no0 : ∀ b, H b = none → H0 b = none := fun b n => by
    cases e : H0 b with
    | none => rfl
    | some o => rw [sub b o e] at n; cases n
  exact ⟨I.ok.mod, S.kind, fun x => ⟨fun z => hnc _ (PySem.mem_of_lookup z) rfl, fun z => S.nofree _ (PySem.mem_of_lookup z) rfl⟩, hcl, I.ok.hd hc, I.ok.frames, Nat.le_trans I.ok.bsz I.sz, fun b o e => no0 b (I.bs b o e).2, fun b hb => no0 b (I.stkFree b hb), frames_lt I,
    no0 _ (I.hok.fresh (Nat.le_refl _)), clo, ownc, base_nofr I⟩
/-- the end that a body is to reach: all is handed out -/
def gEnd (g : Gd) (M : Nat) : GDn := fun k _ H => k = M ∧ Sub g.H0 H
theorem gen_made {us : List Value} {vs : List V} {M k : Nat} {out : Nat → Int × Int} {t : TG2} {E : Value → Shared → Prop} (I : Inv X pins σ H s) (hc : X.calm = true) (hr : Room k X.A) (S : GScope N ps scope) (hnc : ∀ y ∈ scope.names, y.2 ≠ .cell)
    (hcl : (envOfC qual scope s.heap.objs.size f cd).cells = []) (sub : Sub H0 H) (clo : ∀ (H : Hp) (h : Heap), Sub H0 H → HOk X.prog X.w H h → HOk X.prog X.w H0 h) (ownc : ∀ b x, H0 b = some (.own x) → H0 x ≠ none)
    (lk : X.K.lookup f = some ⟨oc, od, .func (PySem.W.fnOf name qual params body scope dV kV doc pm an cd ct), osl⟩) (hcd : PySem.W.codeIn X.K cd qual = true) (hl : vs.length = ps.length) (hb : BindsTo s (PySem.W.fnOf name qual params body scope dV kV doc pm an cd ct) ⟨us, []⟩ (ps.zip us)) (r : Vals vs us)
    (hbody : (gdOf X N qual scope f cd s.heap.objs.size H0).Fix → GSs2 (gdOf X N qual scope f cd s.heap.objs.size H0) M out body t)
    (ht : t (gEnd (gdOf X N qual scope f cd s.heap.objs.size H0) M) 0 (start N vs) H0) :
    wpAny (model X.prog X.w) X.A (call (.ref f) us) (fun u s' => ∃ ga gi, u = .ref ga ∧ Inv X pins σ H s' ∧ (∀ b o, s.heap.get? b = some o → s'.heap.get? b = some o) ∧ s.heap.objs.size < ga ∧ ga < s'.heap.objs.size ∧
      (gdOf X N qual scope f cd s.heap.objs.size H0).Fix ∧ (gdOf X N qual scope f cd s.heap.objs.size H0).Asleep M out ga gi 0 s') E s := by
  have F := gdOf_fix (N := N) (ps := ps) (qual := qual) (f := f) (cd := cd) I hc S hnc hcl sub clo ownc
  have no0 : ∀ b, H b = none → H0 b = none := fun b n => by
    cases e : H0 b with
    | none => rfl
    | some o => rw [sub b o e] at n; cases n
  have KX : X.K.In s.heap := I.kIn
  have lim : s.heap.NoLimit := I.nolimit
  have hkind : ∀ y ∈ ps.zip us, scope.names.lookup y.1 = some .local ∨ (scope.names.lookup y.1 = some .cell ∧ ((cellsFrom (s.heap.objs.size + 1) scope.names []).lookup y.1).isSome = true) := fun ⟨n, v⟩ hy => by
    rcases S.par n (List.of_mem_zip hy).1 with q | q
    · exact .inl q
    · exact .inr ⟨q, PySem.W.cellsFrom_some _ _ _ (.inl q)⟩
  refine wpAny_call (codeAny_call_generator hr.depth (KX _ _ lk) rfl S.co S.gen rfl (PySem.W.codeRec_of KX hcd) (hb _ _ _ _ ?_))
  refine wpAny_newFunctionEnv_cells S.kind hkind fun env he s1 x => ?_
  subst he
  have lim1 : s1.heap.NoLimit := lim.keeps x.toInCall.keep
  refine ⟨lim1, ?_⟩
  have I1 : Inv (gcxOf X.prog X.w X.K X.mg X.base N qual scope f cd X.A X.stack s H (fun _ _ _ => False) []) [] (start N vs) H s1 := inv_startG S hr.hd I.env0 hl r x
  obtain ⟨h1, tk, es1, hk1⟩ := x.done
  have os1 : s1.os = s.os := by rw [es1]
  have gen1 : s1.gens = s.gens := by rw [es1]
  have lt1 : s.heap.objs.size < s1.heap.objs.size := x.toInCall.ns.lt
  have kp1 : ∀ b o, s.heap.get? b = some o → s1.heap.get? b = some o := x.toInCall.keep
  have main : ∀ (go : Obj) (nm qn : Value) (tk2 : Nat), go.cls = .type "generator" → go.data = .fields #[.int s1.gens.size 0, nm, qn] → go.slots = #[] → (∀ h : Heap, (h.push go).get? h.objs.size = some go) →
      ∃ ga gi, (Value.ref s1.heap.objs.size) = .ref ga ∧ Inv X pins σ H { s1 with gens := s1.gens.push (.fresh (.func body (envOfC qual scope s.heap.objs.size f cd))), toks := tk2, heap := s1.heap.push go } ∧ (∀ b o, s.heap.get? b = some o → (s1.heap.push go).get? b = some o) ∧ s.heap.objs.size < ga ∧ ga < (s1.heap.push go).objs.size ∧
        (gdOf X N qual scope f cd s.heap.objs.size H0).Fix ∧ (gdOf X N qual scope f cd s.heap.objs.size H0).Asleep M out ga gi 0 { s1 with gens := s1.gens.push (.fresh (.func body (envOfC qual scope s.heap.objs.size f cd))), toks := tk2, heap := s1.heap.push go } := by
    intro go nm qn tk2 hgc hgd hgs hgp
    refine ⟨s1.heap.objs.size, s1.gens.size, rfl, ?_, fun b o e => Heap.get?_push_of_some _ (kp1 b o e), lt1, ?_, F, ⟨⟨go, nm, qn, hgp _, hgc, hgd, hgs⟩, ⟨no0 _ (I1.hok.fresh (Nat.le_refl _)), fun z => ?_, lt1⟩, [], start N vs, _, fun p hp => absurd hp (by simp), ⟨?_, fun p hp => absurd hp (by simp), I1.len⟩, Array.getElem?_push_size .., .inl rfl, fun s' O R => ⟨rfl, ?_⟩⟩⟩
    · refine I.call' (ch := []) os1 (Un.kept fun b o e => Heap.get?_push_of_some _ (kp1 b o e)) (I.hok.kept fun b o e => Heap.get?_push_of_some _ (kp1 b o e)) ?_ fun b z => by simp at z
      exact AllBare.push (by rw [gen1]; exact I.bare) rfl
    · show _ < (s1.heap.push _).objs.size
      rw [Heap.size_push]; exact Nat.lt_succ_self _
    · exact absurd (frames_lt I _ z) (Nat.not_lt.mpr (Nat.le_of_lt lt1))
    · obtain ⟨m, hn, hlk⟩ := I1.loc
      refine ⟨m, hn.keeps fun b o e => Heap.get?_push_of_some _ e, fun i y v e1 e2 e3 => ?_⟩
      obtain ⟨u, rv, l⟩ := hlk i y v e1 e2 e3
      rcases l with l | ⟨_, c, e, _⟩
      · exact ⟨u, rv, l.1, l.2⟩
      · have e4 : (envOfC qual scope s.heap.objs.size f cd).cells.lookup y = some c := e
        rw [hcl] at e4
        cases e4
    · rw [Nat.sub_zero]
      refine seg_func ?_
      refine (hbody F).run _ M 0 s' s' _ [] _ _ id id [] _ H0 _ ⟨over_func, rfl, rfl, rfl⟩ (fun p hp => absurd hp (by simp)) (Nat.add_zero _) (fun n k s0 s2 σ2 H2 hn hI q => ?_) ⟨R.lt, Gd.inv F R O⟩ ht
      obtain ⟨ek, sb⟩ := q
      exact seg_end (.ok (.ret .none)) (.inl ⟨.inl rfl, by omega, H2, Gd.Run.kept F hI, sb⟩)
  exact main _ _ _ _ rfl rfl rfl fun h => Heap.get?_push_size _ rfl
end
end Gz
end
section
set_option Elab.async false
set_option linter.all false
set_option maxRecDepth 100000
set_option maxHeartbeats 4000000
/-! A comprehension that takes its items from such a generator. -/
namespace Gz
open PySem PySem.Spec PyProof.Rows L2 GenW

theorem obj_there {P : Program} {w : World} {H : Hp} {h : Heap} {a : Addr} {o : HO} (x : ObjOk P w H h a o) : ∃ ob, h.get? a = some ob := by
  cases o with
  | lst xs => obtain ⟨_, _, _, _, e⟩ := x; exact ⟨_, e⟩
  | tup xs => obtain ⟨_, _, _, ob, e, _⟩ := x; exact ⟨ob, e⟩
  | dK kvs => obtain ⟨_, _, _, _, ob, _, _, e, _⟩ := x; exact ⟨ob, e⟩
  | dT kvs => obtain ⟨_, _, _, _, ob, _, _, e, _⟩ := x; exact ⟨ob, e⟩
  | set S n => obtain ⟨ob, _, _, _, e, _⟩ := x; exact ⟨ob, e⟩
  | ins C dx fs => obtain ⟨_, _, _, e, _⟩ := x; exact ⟨_, e⟩
  | own y => exact x
  | xd fs => obtain ⟨_, ⟨ob, _, _, e, _⟩, _⟩ := x; exact ⟨ob, e⟩
  | rng lo hi => obtain ⟨_, _, _, e⟩ := x; exact ⟨_, e⟩
  | frz ob u => exact ⟨ob, x.1⟩
  | tbl ps => exact ⟨_, (show h.get? a = some _ from x)⟩
  | met f y => exact ⟨_, (show h.get? a = some _ from x)⟩
  | ext φ => exact x.2.1

/-- what was tracked since H: tuples and lists only -/
def OnlyNew (H H' : Hp) : Prop := ∀ b o, H' b = some o → H b = none → (∃ xs, o = .tup xs) ∨ ∃ xs, o = .lst xs
/-- the generator that was made in X, at s -/
structure GOf (X : Cx) (H : Hp) (L : Addr) (g : Gd) : Prop where
  prog : g.prog = X.prog
  w : g.w = X.w
  base : g.base = X.base
  A : g.A = X.A.in1
  outer : g.outer = X.stack
  L : g.L = L
  sub : Sub g.H0 H
def GMd (X : Cx) (pins : List (Addr × Obj)) (σ : L2.St) (H : Hp) (s : Shared) (M : Nat) (out : Nat → Int × Int) (u : Value) (s' : Shared) : Prop :=
  ∃ g ga gi, u = .ref ga ∧ Inv X pins σ H s' ∧ (∀ b o, s.heap.get? b = some o → s'.heap.get? b = some o) ∧ s.heap.objs.size < ga ∧ ga < s'.heap.objs.size ∧ g.Fix ∧ g.Asleep M out ga gi 0 s' ∧ GOf X H s.heap.objs.size g
/-- a generator def's promise: from its object, the heap: how many items, which -/
abbrev SpGn := Addr → Hp → Nat → (Nat → Int × Int) → Prop
def GFnX (X : Cx) (k : Nat) (f : Addr) (spg : SpGn) : Prop :=
  ∀ (pins : List (Addr × Obj)) (σ : L2.St) (H : Hp) (s : Shared) (a : Addr) (M : Nat) (out : Nat → Int × Int) (E : Value → Shared → Prop), X.calm = true → Room k X.A → Inv X pins σ H s → spg a H M out →
    wpAny (model X.prog X.w) X.A (call (.ref f) [.ref a]) (GMd X pins σ H s M out) E s
/-- its items -/
def ItG (M : Nat) (out : Nat → Int × Int) : It := ⟨fun i _ => i < M, fun i H x H' => ∃ T, H T = none ∧ x = .ref T ∧ H' = upd H T (.tup [.int (out i).1, .int (out i).2]), fun i _ => M ≤ i⟩
/-- [elt for target in o.m()] -/
def tLcG (C : Addr) (m : Str) (spg : SpGn) (ta : TE) (g : TG) (te : TE) (vs : List Nat) : TE := fun σ H Q => ta σ H fun x H1 => ∃ a dx fs M out, x = .ref a ∧ H1 a = some (.ins C dx fs) ∧ fs.lookup m = none ∧ spg a H1 M out ∧ ∀ D, H1 D = none →
  ∃ W : Nat → Hp → Prop, W 0 (upd H1 D (.lst [])) ∧ (∀ i H, W i H → Sub H1 H ∧ OnlyNew H1 H ∧ ∃ acc, H D = some (.lst acc)) ∧ (∀ i H, W i H → i < M → ∀ T, H T = none → g (.ref T) (wipe σ vs) (upd H T (.tup [.int (out i).1, .int (out i).2])) fun σ2 H2 => wipe σ2 vs = wipe σ vs ∧
    te σ2 H2 fun y H4 => ∃ acc, H4 D = some (.lst acc) ∧ acc.length < sizeLine ∧ W (i + 1) (upd H4 D (.lst (acc ++ [y])))) ∧ ∀ H, W M H → Q (.ref D) H

theorem inv_hush {X : Cx} {pins : List (Addr × Obj)} {σ : L2.St} {H : Hp} {s : Shared} (I : Inv X pins σ H s) : Inv X pins σ H (hush s) :=
  ⟨I.ok, I.os, hush_bare I.bare, I.base, I.loc, I.cell, I.free, I.freeC, I.pin, I.hok, I.len⟩
theorem inv_slept {X : Cx} {pins : List (Addr × Obj)} {σ : L2.St} {H : Hp} {s s' t : Shared} (I : Inv X pins σ H t) (z : Slept s s' t) (hb : AllBare s.gens) : Inv X pins σ H s' := by
  have e := z.eq
  have h1 : t.heap = s'.heap := by rw [e]
  have h2 : t.os = s'.os := by rw [e]
  refine ⟨I.ok, h2.symm.trans I.os, z.bare hb I.bare, h1 ▸ I.base, h1 ▸ I.loc, h1 ▸ I.cell, I.free, I.freeC, h1 ▸ I.pin, h1 ▸ I.hok, I.len⟩

/-- younger than the generator, and not surely kept by it -/
def lostB (L : Nat) (h : Heap) (b : Nat) : Bool := Nat.ble L b && (match h.get? b with
  | some o => (b == L) || ((match o.data with | .cell _ => true | _ => false) || (o.cls == .type "range_iterator" && match o.data with | .fields _ => true | _ => false))
  | none => true)
theorem not_lost {L : Nat} {h : Heap} {b : Nat} {o : Obj} (e : h.get? b = some o) (n : lostB L h b = false) : b < L ∨ Plain L b o := by
  unfold lostB at n
  rw [e] at n
  by_cases hb : L ≤ b
  · right
    rw [Nat.ble_eq_true_of_le hb, Bool.true_and] at n
    have n2 : ((b == L) || ((match o.data with | .cell _ => true | _ => false) || (o.cls == .type "range_iterator" && match o.data with | .fields _ => true | _ => false))) = false := n
    rw [Bool.or_eq_false_iff, Bool.or_eq_false_iff] at n2
    obtain ⟨n1, n3, n4⟩ := n2
    refine ⟨fun z => ?_, ?_, fun v z => ?_⟩
    · have z' : (b == L) = true := by rw [beq_iff_eq]; exact z
      rw [z'] at n1; cases n1
    · rcases Bool.and_eq_false_iff.mp n4 with q | q
      · exact .inl fun z => by rw [z] at q; exact absurd q (by decide)
      · exact .inr fun vs z => by rw [z] at q; cases q
    · rw [z] at n3; cases n3
  · exact .inl (Nat.lt_of_not_le hb)
theorem of_lost {L : Nat} {h : Heap} {b : Nat} (n : lostB L h b = true) : L ≤ b ∧ ∀ o, h.get? b = some o → ¬ Plain L b o := by
  unfold lostB at n
  rw [Bool.and_eq_true] at n
  refine ⟨Nat.le_of_ble_eq_true n.1, fun o e P => ?_⟩
  have n2 := n.2
  rw [e] at n2
  have n3 : ((b == L) || ((match o.data with | .cell _ => true | _ => false) || (o.cls == .type "range_iterator" && match o.data with | .fields _ => true | _ => false))) = true := n2
  rw [Bool.or_eq_true, Bool.or_eq_true, Bool.and_eq_true] at n3
  obtain ⟨p1, p2, p3⟩ := P
  rcases n3 with q | q | ⟨q1, q2⟩
  · exact p1 (beq_iff_eq.mp q)
  · cases hd : o.data <;> rw [hd] at q <;> first | cases q | skip
    exact p3 _ hd
  · rcases p2 with p2 | p2
    · exact p2 (beq_iff_eq.mp q1)
    · cases hd : o.data <;> rw [hd] at q2 <;> first | cases q2 | skip
      exact p2 _ hd

section
variable {X : Cx} {g : Gd} {M : Nat} {out : Nat → Int × Int} {ga : Addr} {gi i : Nat} {s s6 : Shared} {pins : List (Addr × Obj)} {σ : L2.St} {H Hs Hg : Hp} {L T : Addr}
/-- what is tracked is the generator's consumer's own: never a sleeping iterator -/
theorem plain_of {P : Program} {w : World} {h : Heap} (hok : HOk P w H h) (new : OnlyNew Hs H) (old : ∀ b o, Hs b = some o → b < L) {b : Addr} {o : HO} (e : H b = some o) (hb : L ≤ b) (hL : b ≠ L) {ob : Obj} (eo : h.get? b = some ob) : Plain L b ob := by
  have n : Hs b = none := by
    cases q : Hs b with
    | none => rfl
    | some u => exact absurd (old b u q) (Nat.not_lt.mpr hb)
  have x := hok b o e
  rcases new b o e n with ⟨xs, rfl⟩ | ⟨xs, rfl⟩
  · obtain ⟨_, _, _, o', e', hc, n', hd⟩ := x
    rw [eo] at e'; cases e'
    exact ⟨hL, .inl (by rw [hc]; decide), fun v z => by rw [hd] at z; cases z⟩
  · obtain ⟨_, _, _, _, e'⟩ := x
    rw [eo] at e'; cases e'
    exact ⟨hL, .inl (show Value.type "list" ≠ Value.type "range_iterator" by decide), fun v z => by cases z⟩
/-- an item is taken: the consumer's state behind it -/
theorem taken {D : Addr} (F : g.Fix) (I : Inv X [] σ H s) (hpn : X.pn = []) (hP : g.prog = X.prog) (hw : g.w = X.w) (hfs : frs X.stack = frs g.outer) (hcells : ∀ x c, X.env.cells.lookup x = some c → c < g.L) (hloc : g.L < X.env.locals)
    (hex : ∀ b, g.L ≤ b → b ∈ X.ex ∨ X.s_0.heap.objs.size ≤ b ∨ b = D) (hD : ∃ acc, H D = some (.lst acc)) (sub0 : Sub g.H0 H) (nL : H g.L = none) (new : OnlyNew Hs H) (old : ∀ b o, Hs b = some o → b < g.L)
    (k : g.Kept s s6 Hg) (sub : Sub g.H0 Hg) (eT : Hg T = some (.tup [.int (out i).1, .int (out i).2])) (nT : g.H0 T = none) :
    Inv X [] σ (upd H T (.tup [.int (out i).1, .int (out i).2])) s6 ∧ H T = none ∧ T ≠ g.L := by
  have TL : T ≠ g.L := fun e => by rw [e, k.loc] at eT; cases eT
  have hfn : ∀ b ∈ frs g.outer, H b = none := fun b hb => I.stkFree b (by rw [hfs]; exact hb)
  -- what is tracked and is not the generator's is kept as it is
  have raw : ∀ b o, H b = some o → g.H0 b = none → ∀ ob, s.heap.get? b = some ob → s6.heap.get? b = some ob ∧ Hg b = none := fun b o e n ob eo => by
    refine k.plain b ob eo n (fun hb => by rw [hfn b hb] at e; cases e) ?_
    rcases Nat.lt_or_ge b g.L with hb | hb
    · exact .inl hb
    · exact .inr (plain_of I.hok new old e hb (fun z => by rw [z, nL] at e; cases e) eo)
  have HT : H T = none := by
    cases e : H T with
    | none => rfl
    | some o =>
      obtain ⟨ob, eo⟩ := obj_there (I.hok T o e)
      have := (raw T o e nT ob eo).2
      rw [this] at eT
      cases eT
  have upT : ∀ b o, H b = some o → upd H T (.tup [.int (out i).1, .int (out i).2]) b = some o := fun b o e => by rw [upd_ne (ne_of_none e HT)]; exact e
  have h0 : HOk X.prog X.w g.H0 s6.heap := by
    have z := F.clo Hg _ sub k.hok
    rw [hP, hw] at z
    exact z
  have hpl : ∀ b o, s.heap.get? b = some o → lostB g.L s.heap b = false → b ∉ frs g.outer → g.H0 b = none → s6.heap.get? b = some o ∧ Hg b = none := fun b o e n hf h => k.plain b o e h hf (not_lost e n)
  have n0 : ∀ b, H b = none → g.H0 b = none := fun b n => by
    cases e : g.H0 b with
    | none => rfl
    | some o => rw [sub0 b o e] at n; cases n
  generalize hch : (List.range (max s.heap.objs.size s6.heap.objs.size)).filter (lostB g.L s.heap) = ch
  have nch : ∀ b o, s.heap.get? b = some o → b ∉ ch → lostB g.L s.heap b = false := fun b o e hb => by
    cases q : lostB g.L s.heap b with
    | false => rfl
    | true => exact absurd (by rw [← hch]; exact List.mem_filter.mpr ⟨List.mem_range.mpr (Nat.lt_of_lt_of_le (Heap.lt_size e) (Nat.le_max_left _ _)), q⟩) hb
  have ich : ∀ b ∈ ch, lostB g.L s.heap b = true := fun b hb => by rw [← hch] at hb; exact (List.mem_filter.mp hb).2
  have kfree : ∀ b o, s.heap.get? b = some o → H b = none → b ∉ ch → Hg b = none := fun b o e n hb => by
    by_cases hf : b ∈ frs g.outer
    · exact (k.slot b o e hf).2
    · exact (hpl b o e (nch b o e hb) hf (n0 b n)).2
  have main : Inv X [] σ (upd H T (.tup [.int (out i).1, .int (out i).2])) s6 := by
    refine I.call' (ch := ch) k.os ⟨fun b o e n hf hb => ?_, fun b o e n hf hb => ?_, fun b o e n hb => ?_, fun b o e hb => ?_, fun b xs e => upT b _ e, fun b o u e => upT b _ e, fun b ps e => ⟨#[], by rw [upT b _ e]; simp⟩⟩ ?_ k.bare fun b hb => ?_
    · rw [hfs] at hf
      exact (hpl b o e (nch b o e hb) hf (n0 b n)).1
    · rw [hfs] at hf
      exact (k.slot b o e hf).1
    · rw [upd_ne fun z => ?_]
      · exact n
      · have q := kfree b o e n hb
        rw [z, eT] at q
        cases q
    · cases q : g.H0 b with
      | some u => exact obj_there (h0 b u q)
      | none =>
        by_cases hf : b ∈ frs g.outer
        · obtain ⟨⟨sl, e2⟩, _⟩ := k.slot b o e hf
          exact ⟨_, e2⟩
        · exact ⟨o, (hpl b o e (nch b o e hb) hf q).1⟩
    · intro b o e
      by_cases hb : b = T
      · subst hb
        rw [upd_same] at e
        cases e
        have z := k.hok _ _ eT
        exact z
      · rw [upd_ne hb] at e
        cases q : g.H0 b with
        | some u =>
          have e2 := sub0 b u q
          rw [e] at e2; cases e2
          have z := h0 b o q
          exact z.stay (fun _ _ _ r => r) (fun c r => upT c _ (sub0 c _ r)) fun c xs r => upT c _ (sub0 c _ r)
        | none =>
          refine (I.hok b o e).stay (fun c u hc r => ?_) (fun c r => upT c _ r) fun c xs r => upT c _ r
          rcases hc with rfl | hc
          · exact (raw c o e q u r).1
          · refine (raw c _ hc ?_ u r).1
            cases q2 : g.H0 c with
            | none => rfl
            | some v =>
              have e2 := sub0 c v q2
              rw [hc] at e2; cases e2
              exact absurd q (F.ownc c b q2)
    · obtain ⟨hl, np⟩ := of_lost (ich b hb)
      refine ⟨?_, fun z => ?_, fun x c e z => ?_, fun p hp => ?_⟩
      · rcases hex b hl with q | q | q
        · exact .inl q
        · exact .inr q
        · exfalso
          obtain ⟨acc, hD⟩ := hD
          rw [← q] at hD
          obtain ⟨ob, eo⟩ := obj_there (I.hok b _ hD)
          have hd : ∃ o2, s.heap.get? b = some o2 ∧ Plain g.L b o2 := by
            obtain ⟨_, its, n, _, e'⟩ := I.hok b _ hD
            exact ⟨_, e', ⟨(fun z => by rw [z, nL] at hD; cases hD), .inl (show Value.type "list" ≠ Value.type "range_iterator" by decide), fun v z => by cases z⟩⟩
          obtain ⟨o2, e2, p2⟩ := hd
          exact np o2 e2 p2
      · obtain ⟨m, ⟨o, es, ep, e, hdt, _⟩, _⟩ := I.loc
        rw [← z] at e
        exact np o e ⟨fun q => by rw [z] at q; exact Nat.ne_of_gt hloc q, .inr (fun vs q => by rw [hdt] at q; cases q), fun v q => by rw [hdt] at q; cases q⟩
      · have := hcells x c e
        rw [z] at this
        exact absurd hl (Nat.not_le.mpr this)
      · rw [hpn] at hp; simp at hp
  exact ⟨main, HT, TL⟩
/-- at the end: nothing is taken -/
theorem ended {D : Addr} (F : g.Fix) (I : Inv X [] σ H s) (hpn : X.pn = []) (hP : g.prog = X.prog) (hw : g.w = X.w) (hfs : frs X.stack = frs g.outer) (hcells : ∀ x c, X.env.cells.lookup x = some c → c < g.L) (hloc : g.L < X.env.locals)
    (hex : ∀ b, g.L ≤ b → b ∈ X.ex ∨ X.s_0.heap.objs.size ≤ b ∨ b = D) (hD : ∃ acc, H D = some (.lst acc)) (sub0 : Sub g.H0 H) (nL : H g.L = none) (new : OnlyNew Hs H) (old : ∀ b o, Hs b = some o → b < g.L)
    (k : g.Kept s s6 Hg) (sub : Sub g.H0 Hg) : Inv X [] σ H s6 := by
  have hfn : ∀ b ∈ frs g.outer, H b = none := fun b hb => I.stkFree b (by rw [hfs]; exact hb)
  have raw : ∀ b o, H b = some o → g.H0 b = none → ∀ ob, s.heap.get? b = some ob → s6.heap.get? b = some ob ∧ Hg b = none := fun b o e n ob eo => by
    refine k.plain b ob eo n (fun hb => by rw [hfn b hb] at e; cases e) ?_
    rcases Nat.lt_or_ge b g.L with hb | hb
    · exact .inl hb
    · exact .inr (plain_of I.hok new old e hb (fun z => by rw [z, nL] at e; cases e) eo)
  have h0 : HOk X.prog X.w g.H0 s6.heap := by
    have z := F.clo Hg _ sub k.hok
    rw [hP, hw] at z
    exact z
  have hpl : ∀ b o, s.heap.get? b = some o → lostB g.L s.heap b = false → b ∉ frs g.outer → g.H0 b = none → s6.heap.get? b = some o ∧ Hg b = none := fun b o e n hf h => k.plain b o e h hf (not_lost e n)
  have n0 : ∀ b, H b = none → g.H0 b = none := fun b n => by
    cases e : g.H0 b with
    | none => rfl
    | some o => rw [sub0 b o e] at n; cases n
  generalize hch : (List.range (max s.heap.objs.size s6.heap.objs.size)).filter (lostB g.L s.heap) = ch
  have nch : ∀ b o, s.heap.get? b = some o → b ∉ ch → lostB g.L s.heap b = false := fun b o e hb => by
    cases q : lostB g.L s.heap b with
    | false => rfl
    | true => exact absurd (by rw [← hch]; exact List.mem_filter.mpr ⟨List.mem_range.mpr (Nat.lt_of_lt_of_le (Heap.lt_size e) (Nat.le_max_left _ _)), q⟩) hb
  have ich : ∀ b ∈ ch, lostB g.L s.heap b = true := fun b hb => by rw [← hch] at hb; exact (List.mem_filter.mp hb).2
  refine I.call' (ch := ch) k.os ⟨fun b o e n hf hb => ?_, fun b o e n hf hb => ?_, fun b o e n hb => n, fun b o e hb => ?_, fun b xs e => e, fun b o u e => e, fun b ps e => ⟨#[], by rw [e]; simp⟩⟩ ?_ k.bare fun b hb => ?_
  · rw [hfs] at hf
    exact (hpl b o e (nch b o e hb) hf (n0 b n)).1
  · rw [hfs] at hf
    exact (k.slot b o e hf).1
  · cases q : g.H0 b with
    | some u => exact obj_there (h0 b u q)
    | none =>
      by_cases hf : b ∈ frs g.outer
      · obtain ⟨⟨sl, e2⟩, _⟩ := k.slot b o e hf
        exact ⟨_, e2⟩
      · exact ⟨o, (hpl b o e (nch b o e hb) hf q).1⟩
  · intro b o e
    cases q : g.H0 b with
    | some u =>
      have e2 := sub0 b u q
      rw [e] at e2; cases e2
      have z := h0 b o q
      exact z.stay (fun _ _ _ r => r) (fun c r => sub0 c _ r) fun c xs r => sub0 c _ r
    | none =>
      refine (I.hok b o e).stay (fun c u hc r => ?_) (fun c r => r) fun c xs r => r
      rcases hc with rfl | hc
      · exact (raw c o e q u r).1
      · refine (raw c _ hc ?_ u r).1
        cases q2 : g.H0 c with
        | none => rfl
        | some v =>
          have e2 := sub0 c v q2
          rw [hc] at e2; cases e2
          exact absurd q (F.ownc c b q2)
  · obtain ⟨hl, np⟩ := of_lost (ich b hb)
    refine ⟨?_, fun z => ?_, fun x c e z => ?_, fun p hp => ?_⟩
    · rcases hex b hl with q | q | q
      · exact .inl q
      · exact .inr q
      · exfalso
        obtain ⟨acc, hD⟩ := hD
        rw [← q] at hD
        have hd : ∃ o2, s.heap.get? b = some o2 ∧ Plain g.L b o2 := by
          obtain ⟨_, its, n, _, e'⟩ := I.hok b _ hD
          exact ⟨_, e', ⟨(fun z => by rw [z, nL] at hD; cases hD), .inl (show Value.type "list" ≠ Value.type "range_iterator" by decide), fun v z => by cases z⟩⟩
        obtain ⟨o2, e2, p2⟩ := hd
        exact np o2 e2 p2
    · obtain ⟨m, ⟨o, es, ep, e, hdt, _⟩, _⟩ := I.loc
      rw [← z] at e
      exact np o e ⟨fun q => by rw [z] at q; exact Nat.ne_of_gt hloc q, .inr (fun vs q => by rw [hdt] at q; cases q), fun v q => by rw [hdt] at q; cases q⟩
    · have := hcells x c e
      rw [z] at this
      exact absurd hl (Nat.not_le.mpr this)
    · rw [hpn] at hp; simp at hp
end
end Gz
end
section
set_option Elab.async false
set_option linter.all false
set_option maxRecDepth 100000
set_option maxHeartbeats 4000000
/-! The rule of such a comprehension. -/
namespace Gz
open PySem PySem.Spec PyProof.Rows L2 GenW

/-- the sleepers of s sleep on in s' -/
def StillZ (s s' : Shared) : Prop := ∀ (i : Nat) (x : GenState), s.gens[i]? = some x → susp x = true → s'.gens[i]? = some x
theorem asl {α : Type} {M : Model} {A : Around} {tm : Sem α} {Q : α → Shared → Prop} {s : Shared} (h : wpAny M A tm Q (fun _ _ => False) (hush s)) :
    wpAny M A tm (fun a s' => ∃ t, Slept s s' t ∧ Q a t) (fun _ _ => False) s :=
  wpAny_mono (keep_sleepers h) (fun _ _ q => q) fun _ _ ⟨_, _, q⟩ => q
section
variable {X : Cx} {g : Gd} {M : Nat} {out : Nat → Int × Int} {ga : Addr} {gi i : Nat} {s s' : Shared} {pins : List (Addr × Obj)} {σ : L2.St} {H Hs Hg : Hp} {L T D : Addr}
/-- no tuple, no list: not tracked anew -/
theorem notnew {P : Program} {w : World} {h : Heap} (hok : HOk P w H h) (new : OnlyNew Hs H) (old : ∀ b o, Hs b = some o → b < L) {b : Addr} (hb : L ≤ b) {ob : Obj} (eo : h.get? b = some ob) (hd : ∀ xs n, ob.data ≠ .seq xs n) : H b = none := by
  cases e : H b with
  | none => rfl
  | some o =>
    exfalso
    have n : Hs b = none := by
      cases q : Hs b with
      | none => rfl
      | some u => exact absurd (old b u q) (Nat.not_lt.mpr hb)
    have x := hok b o e
    rcases new b o e n with ⟨xs, rfl⟩ | ⟨xs, rfl⟩
    · obtain ⟨_, _, _, o', e', hc, n', hd'⟩ := x
      rw [eo] at e'; cases e'
      exact hd _ _ hd'
    · obtain ⟨_, its, n', _, e'⟩ := x
      rw [eo] at e'; cases e'
      exact hd its.toArray n' rfl
/-- what the generator has of its own may be pinned -/
theorem pinnable {b : Addr} {ob : Obj} (F : g.Fix) (I : Inv X [] σ H s) (hpn : X.pn = []) (hfs : ∀ b ∈ X.fs, b ∈ frs g.outer) (hcells : ∀ x c, X.env.cells.lookup x = some c → c < g.L) (hloc : g.L < X.env.locals)
    (hex : ∀ b, g.L ≤ b → b ∈ X.ex ∨ X.s_0.heap.objs.size ≤ b ∨ b = D) (hD : ∃ acc, H D = some (.lst acc)) (hb : g.L ≤ b) (hn : H b = none) (eo : s.heap.get? b = some ob) (hl : b = g.L ∨ ∃ vs, ob.data = .fields vs) : FpOk X [] H b := by
  refine ⟨hn, fun z => ?_, fun z => absurd (F.frl b (hfs b z)) (Nat.not_lt.mpr hb), ?_, fun x c e z => ?_, fun p hp => ?_⟩
  · rcases hl with q | ⟨vs, q⟩
    · rw [z] at q; exact Nat.ne_of_gt hloc q
    · obtain ⟨m, ⟨o, es, ep, e, hdt, _⟩, _⟩ := I.loc
      rw [z, e] at eo; cases eo
      rw [hdt] at q; cases q
  · rcases hex b hb with q | q | q
    · exact .inl q
    · exact .inr q
    · obtain ⟨acc, hD⟩ := hD
      rw [← q, hn] at hD; cases hD
  · have := hcells x c e
    rw [z] at this
    exact absurd hb (Nat.not_le.mpr this)
  · rw [hpn] at hp; simp at hp
/-- asleep still: its own objects are pinned -/
theorem Gd.Asleep.pinned (Z : g.Asleep M out ga gi i s) (hi : i ≠ 0) : ∃ fp : List Addr, (∀ b ∈ fp, g.L ≤ b ∧ ∃ ob, s.heap.get? b = some ob ∧ (∀ xs n, ob.data ≠ .seq xs n) ∧ (∀ v, ob.data ≠ .cell v) ∧ (b = g.L ∨ ∃ vs, ob.data = .fields vs)) ∧
    ∀ s', (∀ p ∈ pinsAt fp s.heap, s'.heap.get? p.1 = some p.2) → StillZ s s' → g.Asleep M out ga gi i s' := by
  obtain ⟨hg, gn, ip, σ, gs, hip, O, hgs, hsus, hgo⟩ := Z
  have hsus' : susp gs = true := hsus.elim (fun z => absurd z hi) id
  obtain ⟨oe, nm, qn, ho, hc, hd, hs⟩ := hg
  obtain ⟨m, ⟨ol, es, ep, el, hdl, hrest⟩, hlk⟩ := O.loc
  refine ⟨ga :: g.L :: ip.map (·.1), fun b hb => ?_, fun s' hp hz => ?_⟩
  · rcases List.mem_cons.mp hb with rfl | hb
    · exact ⟨Nat.le_of_lt gn.2.2, oe, ho, (fun xs n z => by rw [hd] at z; cases z), (fun v z => by rw [hd] at z; cases z), .inr ⟨_, hd⟩⟩
    · rcases List.mem_cons.mp hb with rfl | hb
      · exact ⟨Nat.le_refl _, ol, el, (fun xs n z => by rw [hdl] at z; cases z), (fun v z => by rw [hdl] at z; cases z), .inl rfl⟩
      · obtain ⟨p, hp, rfl⟩ := List.mem_map.mp hb
        obtain ⟨_, l, _, vs, hv⟩ := hip p hp
        exact ⟨Nat.le_of_lt l, p.2, (O.pin p hp).1, (fun xs n z => by rw [hv] at z; cases z), (fun v z => by rw [hv] at z; cases z), .inr ⟨vs, hv⟩⟩
  · have kp : ∀ b o, b ∈ ga :: g.L :: ip.map (·.1) → s.heap.get? b = some o → s'.heap.get? b = some o := fun b o hb e => hp (b, o) (mem_pinsAt hb e)
    refine ⟨⟨oe, nm, qn, kp _ _ List.mem_cons_self ho, hc, hd, hs⟩, gn, ip, σ, gs, hip, ⟨⟨m, ⟨ol, es, ep, kp _ _ (List.mem_cons_of_mem _ List.mem_cons_self) el, hdl, hrest⟩, hlk⟩, fun p hp' => ?_, O.len⟩, hz gi gs hgs hsus', .inr hsus', hgo⟩
    obtain ⟨a1, a2⟩ := O.pin p hp'
    exact ⟨kp _ _ (List.mem_cons_of_mem _ (List.mem_cons_of_mem _ (List.mem_map.mpr ⟨p, hp', rfl⟩))) a1, a2⟩
end
section
variable {X : Cx} {pins : List (Addr × Obj)} {σ : L2.St} {H : Hp} {s : Shared} {k : Nat} {C f : Addr} {m : Str} {spg : SpGn}
theorem lcG_core {Q : VK} {elt tg o : Expr} {scope : Scope} {own : List (Str × Nat)} {pos pos' pos2 apos : Pos} {ta : TE} {g : TG} {te : TE} {use : Option (Value → Sem Unit)} {Qf : Value → Shared → Prop} {pl : Sem Bool}
    (hc : X.calm = true) (hN : X.N.Nodup) (I : Inv X pins σ H s) (ho : PE X o ta) (c : Cls X.K C) (hm : Meth X.K C m f) (F : GFnX X k f spg) (hr : Room k X.A) (ok : BlkOk X.N X.env.scope scope own) (hnc : ∀ y ∈ scope.names, y.2 ≠ .cell)
    (hg : ∀ (s : Shared) (H : Hp) (C : Addr) (cl : List (Str × Addr)) (fp : List Addr), PG (X.blk s H scope (compEnvC scope cl C X.env) fp) tg g)
    (he : ∀ (s : Shared) (H : Hp) (C : Addr) (cl : List (Str × Addr)) (fp : List Addr), PE (X.blk s H scope (compEnvC scope cl C X.env) fp) elt te) (hs : ∀ x, foldedSetIterable (.Call (.Attribute o m apos) [] [] pos2) X.env x = pure x)
    (ht : eval (.Call (.Attribute o m apos) [] [] pos2) X.env = (do
      let ov ← eval o X.env
      standAt apos.atName
      let (f, first) ← holding [ov] (getMethod ov m pl)
      callWith pos2 f first (backTo pos2 (starEach [] X.env)) (backToKw pos2 (keywordEach [] X.env))))
    (h : tLcG C m spg ta g te (own.map (·.2)) σ H Q)
    (hRR : ∀ D C s' m H', Inv X pins σ H' s' → Q (.ref D) H' → s'.heap.Ns C m → FpOk X pins H' C → compPost (model X.prog X.w) X.A X.xe use Qf (.ref D) C (.ok .next) s') :
    wpAny (model X.prog X.w) X.A (comprehension (.ListComp elt [⟨tg, .Call (.Attribute o m apos) [] [] pos2, [], 0⟩] scope pos) scope X.env pos' (newList []) false (eval (.Call (.Attribute o m apos) [] [] pos2) X.env) use) Qf X.xe s := by
  have hfree : ∀ y ∈ scope.names, y.2 = .free → ∃ c, X.env.cells.lookup y.1 = some c := fun y hy e => by
    rcases ok.free y hy e with k | k
    · exact I.ok.has _ (.inl k)
    · exact I.ok.has _ (.inr k)
  refine wpAny_comprehension_free (use := use) rfl hs (closure_ok hfree) ok.kind (fun y hy e => by rw [ok.uniq y hy, e]) ?_
  refine PySem.W.methodCall_KW (pl := pl) (thn (ho.run pins s σ H _ I h) fun u s1 ⟨x, H1, I1, rx, a, dx, fs, M, out, ex, ea, l, hsp, q⟩ => ?_) ht
  subst ex
  obtain rfl : u = Value.ref a := rx
  refine getmeth_ok I1 ea c hm l ?_
  refine PySem.W.callWith_K0 (first := [.ref a]) I1.kIn hm.kp ?_
  refine thn (F pins σ H1 s1 a M out _ hc hr I1 hsp) fun u s2 hG => ?_
  obtain ⟨gd, ga, gi, rfl, I2, kp2, hga, hga2, Fx, Z2, G⟩ := hG
  have hgL : gd.L = s1.heap.objs.size := G.L
  refine wpAny_pyIter_gen Z2.gen ?_
  refine wpAny_newObj_type (newEnv_comp ?_) (by show 0 ≤ sizeLine; decide)
  generalize hD : s2.heap.objs.size = D
  have hDn : H1 D = none := I2.hok.fresh (Nat.le_of_eq hD)
  obtain ⟨W, w0, wok, turn, fin⟩ := q D hDn
  generalize hs3 : ({ s2 with heap := s2.heap.push { cls := .type "list", data := .seq ([] : List Value).toArray } } : Shared) = s3
  have I3 : Inv X pins σ (upd H1 D (.lst [])) s3 := by
    rw [← hs3]
    refine I2.laid (t' := s2.toks) (fun b o e => Heap.get?_push_of_some _ e) (Nat.le_of_eq hD) ⟨Nat.zero_le _, [], 0, .nil, ?_⟩
    rw [← hD]
    exact Heap.get?_push_size _ rfl
  have h3 : s3.heap = s2.heap.push { cls := .type "list", data := .seq ([] : List Value).toArray } := by rw [← hs3]
  have z3 : s3.heap.objs.size = D + 1 := by rw [h3, Heap.size_push, hD]
  have old : ∀ b o, H1 b = some o → b < gd.L := fun b o e => by rw [hgL]; exact I1.hok.lt e
  have hle : s1.heap.objs.size ≤ s2.heap.objs.size := Nat.le_of_lt (Nat.lt_trans hga hga2)
  generalize hfp : List.range' s1.heap.objs.size (s2.heap.objs.size - s1.heap.objs.size) = fp
  have mfp : ∀ b, b ∈ fp ↔ s1.heap.objs.size ≤ b ∧ b < s2.heap.objs.size := fun b => by
    rw [← hfp, List.mem_range'_1, Nat.add_sub_cancel' hle]
  have f3 : ∀ b ∈ fp, FpOk X pins (upd H1 D (.lst [])) b ∧ b < s3.heap.objs.size := fun b hb => by
    obtain ⟨l1, l2⟩ := (mfp b).mp hb
    refine ⟨I1.fpOk l1 ?_, by rw [z3, ← hD]; exact Nat.lt_succ_of_lt l2⟩
    rw [upd_ne (by rw [← hD]; exact Nat.ne_of_lt l2)]
    exact I1.hok.fresh l1
  have Z3 : gd.Asleep M out ga gi 0 s3 := by
    obtain ⟨ip, σg, gs, hip, O, hgs, hsus, hgo⟩ := Z2.own
    have kp : ∀ b o, s2.heap.get? b = some o → s3.heap.get? b = some o := fun b o e => by rw [h3]; exact Heap.get?_push_of_some _ e
    obtain ⟨mm, hn, hlk⟩ := O.loc
    exact ⟨Z2.gen.keeps kp, Z2.gn, ip, σg, gs, hip, ⟨⟨mm, hn.keeps kp, hlk⟩, fun p hp => ⟨kp _ _ (O.pin p hp).1, (O.pin p hp).2⟩, O.len⟩, by rw [← hs3]; exact hgs, hsus, hgo⟩
  have I4 := block_start I3 ok hN f3
  have pg := hg s3 (upd H1 D (.lst [])) s3.heap.objs.size (cellsFrom (s3.heap.objs.size + 1) scope.names (cloFrom X.env.cells scope.names [])) fp
  have pe := he s3 (upd H1 D (.lst [])) s3.heap.objs.size (cellsFrom (s3.heap.objs.size + 1) scope.names (cloFrom X.env.cells scope.names [])) fp
  show codeAny _ _ (.compStart (.ListComp elt [⟨tg, .Call (.Attribute o m apos) [] [] pos2, [], 0⟩] scope pos) 0 (.ref ga) (.ref D) (compEnvC scope (cellsFrom (s3.heap.objs.size + 1) scope.names (cloFrom X.env.cells scope.names [])) s3.heap.objs.size X.env)) (compPost (model X.prog X.w) X.A X.xe use Qf (.ref D) s3.heap.objs.size) { s3 with heap := pushCells (s3.heap.push { cls := .type "dict", data := .dict #[] }) scope.names }
  generalize hce : compEnvC scope (cellsFrom (s3.heap.objs.size + 1) scope.names (cloFrom X.env.cells scope.names [])) s3.heap.objs.size X.env = ce at I4 pg pe ⊢
  have cL : ce.locals = s3.heap.objs.size := by subst hce; rfl
  have hcells : ∀ x c, (X.blk s3 (upd H1 D (.lst [])) scope ce fp).env.cells.lookup x = some c → c < gd.L := fun x c e => by
    have e2 : ce.cells.lookup x = some c := e
    have hcl : ce.cells = cellsFrom (s3.heap.objs.size + 1) scope.names (cloFrom X.env.cells scope.names []) := by rw [← hce]; rfl
    rw [hcl, ← Heap.size_push s3.heap { cls := .type "dict", data := .dict #[] }] at e2
    rcases cells_mem (PySem.mem_of_lookup e2) with hm | ⟨h1, _, _⟩
    · rcases cloFrom_mem hm with hm | ⟨h1, rfl⟩
      · cases hm
      · obtain ⟨c', hc'⟩ := hfree _ h1 rfl
        rw [hc']
        obtain ⟨w, z⟩ := I1.cell _ _ hc'
        rw [hgL]
        exact z.lt
    · exact absurd rfl (hnc _ h1)
  generalize hH3 : upd H1 D (.lst []) = H3 at I3 I4 pg pe w0 f3 hcells
  generalize hs4 : ({ s3 with heap := pushCells (s3.heap.push { cls := .type "dict", data := .dict #[] }) scope.names } : Shared) = s4 at I4 ⊢
  have Z4 : gd.Asleep M out ga gi 0 s4 := by
    obtain ⟨ip, σg, gs, hip, O, hgs, hsus, hgo⟩ := Z3.own
    have kp : ∀ b o, s3.heap.get? b = some o → s4.heap.get? b = some o := fun b o e => by rw [← hs4]; exact pushCells_keeps _ _ _ _ (Heap.get?_push_of_some _ e)
    obtain ⟨mm, hn, hlk⟩ := O.loc
    exact ⟨Z3.gen.keeps kp, Z3.gn, ip, σg, gs, hip, ⟨⟨mm, hn.keeps kp, hlk⟩, fun p hp => ⟨kp _ _ (O.pin p hp).1, (O.pin p hp).2⟩, O.len⟩, by rw [← hs4]; exact hgs, hsus, hgo⟩
  have hfs : ∀ b ∈ (X.blk s3 H3 scope ce fp).fs, b ∈ frs gd.outer := fun b hb => by rw [G.outer]; exact hb
  have hfs2 : frs (X.blk s3 H3 scope ce fp).stack = frs gd.outer := by rw [G.outer]
  have hex : ∀ b, gd.L ≤ b → b ∈ (X.blk s3 H3 scope ce fp).ex ∨ (X.blk s3 H3 scope ce fp).s_0.heap.objs.size ≤ b ∨ b = D := fun b hb => by
    show b ∈ fp ∨ s3.heap.objs.size ≤ b ∨ b = D
    rw [mfp, z3, ← hD]
    rw [hgL] at hb
    rcases Nat.lt_trichotomy b s2.heap.objs.size with z | z | z
    · exact .inl ⟨hb, z⟩
    · exact .inr (.inr z)
    · exact .inr (.inl z)
  have hloc : gd.L < (X.blk s3 H3 scope ce fp).env.locals := by
    show gd.L < ce.locals
    rw [cL, hgL, z3, ← hD]
    exact Nat.lt_succ_of_le hle
  have ready : ∀ {s' : Shared} {H' : Hp} {pins' : List (Addr × Obj)} {σ' : L2.St}, Inv (X.blk s3 H3 scope ce fp) pins' σ' H' s' → Sub gd.H0 H' → gd.Ready s' := fun {s' H' pins' σ'} I' sb => by
    refine ⟨Nat.lt_trans hloc I'.lt, fun b o e => I'.bk b o (by rw [G.base] at e; exact e), by rw [G.base, G.outer]; exact I'.funs, ?_, I'.bare⟩
    have z := Fx.clo H' s'.heap sb
    rw [G.prog, G.w] at z ⊢
    exact z I'.hok
  have loop : codeAny (model X.prog X.w) X.A (.compLoop (.ListComp elt [⟨tg, .Call (.Attribute o m apos) [] [] pos2, [], 0⟩] scope pos) 0 (.ref ga) (.ref D) ce) (compPost (model X.prog X.w) X.A X.xe use Qf (.ref D) s3.heap.objs.size) s4 := by
    refine compLoop_any (fun n s' => ∃ i H', n = M - i ∧ i ≤ M ∧ Inv (X.blk s3 H3 scope ce fp) [] (wipe σ (own.map (·.2))) H' s' ∧ gd.Asleep M out ga gi i s' ∧ W i H') ?_ M ⟨0, H3, rfl, Nat.zero_le _, I4, Z4, w0⟩
    rintro n s5 ⟨i, H5, rfl, hiM, I5, Z5, w5⟩
    obtain ⟨sub5, new5, hD5⟩ := wok i H5 w5
    have sub50 : Sub gd.H0 H5 := fun b o e => sub5 b o (G.sub b o e)
    have nL5 : H5 gd.L = none := by
      obtain ⟨_, _, _, _, O, _⟩ := Z5.own
      obtain ⟨mm, ⟨ol, es, ep, el, hdl, _⟩, _⟩ := O.loc
      exact notnew I5.hok new5 old (Nat.le_refl _) el fun xs n z => by rw [hdl] at z; cases z
    have R5 := ready I5 sub50
    by_cases hlt : i < M
    · have eM : model X.prog X.w = model gd.prog gd.w := by rw [G.prog, G.w]
      rw [eM]
      refine next_item Fx R5 Z5 hlt G.A.symm (I5.ok.hd hc) I5.nolimit hr.depth fun T s6 Hg eT nT subg kept Z6 => ?_
      obtain ⟨I6, hT, _⟩ := taken (X := X.blk s3 H3 scope ce fp) Fx I5 rfl G.prog G.w hfs2 hcells hloc hex hD5 sub50 nL5 new5 old kept subg eT nT
      rw [← eM]
      obtain ⟨oe, nm, qn, hoe, hcl, hdt, _⟩ := Z6.gen
      refine go_of hoe hcl hdt (by decide) ?_
      obtain ⟨fpz, hfpz, keepz⟩ := Z6.pinned (Nat.succ_ne_zero i)
      have hD6 : ∃ acc, upd H5 T (.tup [.int (out i).1, .int (out i).2]) D = some (.lst acc) := by
        obtain ⟨acc, e⟩ := hD5
        exact ⟨acc, by rw [upd_ne (ne_of_none e hT)]; exact e⟩
      have new6 : OnlyNew H1 (upd H5 T (.tup [.int (out i).1, .int (out i).2])) := fun b o e n => by
        by_cases hb : b = T
        · subst hb; rw [upd_same] at e; cases e; exact .inl ⟨_, rfl⟩
        · rw [upd_ne hb] at e; exact new5 b o e n
      have I6' := I6.pinned (fp := fpz) (fun b hb => by
          obtain ⟨l1, ob, e1, d1, d2, d3⟩ := hfpz b hb
          exact pinnable Fx I6 rfl hfs hcells hloc hex hD6 l1 (notnew I6.hok new6 old l1 e1 d1) e1 d3) fun b hb => by
          obtain ⟨l1, ob, e1, d1, d2, d3⟩ := hfpz b hb
          exact ⟨ob, e1, d2⟩
      refine thnF (asl (pg.run _ (hush s6) _ _ (.ref T) (.ref T) _ (inv_hush I6') rfl (turn i H5 w5 hlt T hT))) fun _ s8 ⟨t8, z8, σ8, H8, I8, hw8, q8⟩ => ?_
      have I8' := inv_slept I8 z8 I6'.bare
      refine wpAny_tests_nil ?_
      rw [if_pos rfl]
      refine thnF (asl (pe.run _ (hush s8) σ8 H8 _ (inv_hush I8') q8)) fun zv s10 ⟨t10, z10, yv, H10, I10, r10, acc, hD10, hz10, nx⟩ => ?_
      have I10' := inv_slept I10 z10 I8'.bare
      refine thnF (asl (app_ok (X := X.blk s3 H3 scope ce fp) (Q := fun _ s' => Inv (X.blk s3 H3 scope ce fp) ([] ++ pinsAt fpz s6.heap) σ8 (upd H10 D (.lst (acc ++ [yv]))) s') (inv_hush I10') hD10 hz10 r10 fun s11 I11 => I11)) fun _ s12 ⟨t12, z12, I12⟩ => ?_
      have I12' := inv_slept I12 z12 I10'.bare
      refine ⟨M - (i + 1), by omega, i + 1, _, rfl, hlt, (I12'.unpinned (pins := [])).weak (by rw [← hw8, wipe_length]) (fun j v e => ?_), keepz s12 (fun p hp => (I12'.pin p (List.mem_append_right _ (List.mem_append_right _ hp))).1) fun j x e hx => z12.keep _ _ (z10.keep _ _ (z8.keep _ _ e hx) hx) hx, nx⟩
      rw [← hw8] at e
      exact (wipe_some e).1
    · have ei : i = M := by omega
      subst ei
      have eM : model X.prog X.w = model gd.prog gd.w := by rw [G.prog, G.w]
      rw [eM]
      refine next_end Fx R5 Z5 G.A.symm (I5.ok.hd hc) I5.nolimit hr.depth fun s6 Hg subg kept => ?_
      rw [← eM]
      have I6 := ended (X := X.blk s3 H3 scope ce fp) Fx I5 rfl G.prog G.w hfs2 hcells hloc hex hD5 sub50 nL5 new5 old kept subg
      have I7 : Inv X pins σ H5 s6 := I3.call' (ch := fp) I6.os I6.base I6.hok I6.bare fun b hb => ⟨(f3 b hb).1.2.2.2.1, (f3 b hb).1.2.1, (f3 b hb).1.2.2.2.2.1, (f3 b hb).1.2.2.2.2.2⟩
      have nC : H5 s3.heap.objs.size = none := by
        have z : H5 ce.locals = none := I6.free
        rw [cL] at z
        exact z
      obtain ⟨mm, hn, _⟩ := I6.loc
      have hn : s6.heap.Ns ce.locals mm := hn
      rw [cL] at hn
      exact hRR D s3.heap.objs.size s6 mm H5 I7 (fin H5 w5) hn (I3.fpOk (Nat.le_refl _) nC)
  exact codeAny_compStart_list loop (wpAny_pyIter_gen Z4.gen loop)
/-- name = [elt for tg in o.m()] on one line, the name a local -/
theorem ps_setLcG {i : Nat} {y : Str} {py : Pos} {elt tg o : Expr} {scope : Scope} {own : List (Str × Nat)} {pos spos pos2 apos : Pos} {ta : TE} {g : TG} {te : TE} {pl : Sem Bool} (hc : X.calm = true) (hN : X.N.Nodup) (hy : X.N[i]? = some y) (hyl : X.env.scope.names.lookup y = some .local)
    (hsw : swapsWith (.ListComp elt [⟨tg, .Call (.Attribute o m apos) [] [] pos2, [], 0⟩] scope pos) (some (.Name y py)) spos.line X.env = pure true) (ho : PE X o ta) (c : Cls X.K C) (hm : Meth X.K C m f) (F : GFnX X k f spg) (hr : Room k X.A) (ok : BlkOk X.N X.env.scope scope own) (hnc : ∀ y ∈ scope.names, y.2 ≠ .cell)
    (hg : ∀ (s : Shared) (H : Hp) (C : Addr) (cl : List (Str × Addr)) (fp : List Addr), PG (X.blk s H scope (compEnvC scope cl C X.env) fp) tg g)
    (he : ∀ (s : Shared) (H : Hp) (C : Addr) (cl : List (Str × Addr)) (fp : List Addr), PE (X.blk s H scope (compEnvC scope cl C X.env) fp) elt te) (hs : ∀ x, foldedSetIterable (.Call (.Attribute o m apos) [] [] pos2) X.env x = pure x := by intro _; rfl)
    (ht : eval (.Call (.Attribute o m apos) [] [] pos2) X.env = (do
      let ov ← eval o X.env
      standAt apos.atName
      let (f, first) ← holding [ov] (getMethod ov m pl)
      callWith pos2 f first (backTo pos2 (starEach [] X.env)) (backToKw pos2 (keywordEach [] X.env))) := by rfl) :
    PS X (.Assign [.Name y py] (.ListComp elt [⟨tg, .Call (.Attribute o m apos) [] [] pos2, [], 0⟩] scope pos) spos) (tAsg (tLcG C m spg ta g te (own.map (·.2))) (gName i)) := by
  refine ⟨fun pins s σ H D I h => ?_⟩
  rw [exec_Assign_Name_used _ _ _ _ hsw]
  refine wpAny_bind (wpAny_standAt (wpAny_bind ?_))
  show wpAny _ X.A (do let _ ← comprehension (.ListComp elt [⟨tg, .Call (.Attribute o m apos) [] [] pos2, [], 0⟩] scope pos) scope X.env (firstIterPos [⟨tg, .Call (.Attribute o m apos) [] [] pos2, [], 0⟩] pos) (newList []) false (eval (.Call (.Attribute o m apos) [] [] pos2) X.env) (some (assign (.Name y py) X.env))) _ _ s
  have h : tLcG C m spg ta g te (own.map (·.2)) σ H (fun x H1 => gName i x σ H1 D.nx) := h
  refine wpAny_bind (thn (lcG_core (Qf := fun _ s' => SP X pins D .next s') hc hN I ho c hm F hr ok hnc hg he hs ht h fun L C s' m H' I' q hn f => ?_) fun _ s' hq => wpAny_pure (wpAny_pure hq))
  show wpAny _ _ (assign (.Name y py) X.env (.ref L)) _ _ _
  refine wpAny_assign_Name (store_ok2 (v := V.ref L) I' hN hy (.inl hyl) rfl (fun s2 I2 ⟨a, sb, ha⟩ => ?_) (.inr hyl))
  obtain ⟨f0, f1, f2, f3, f4, f5⟩ := f
  have haC : C ≠ a := by
    rcases ha with z | z
    · rw [z]; exact f1
    · exact fun e => f4 y a z e.symm
  refine ⟨m, hn.sameBut sb haC, fun h3 sb3 => ?_⟩
  exact ⟨_, H', I2.turned (t' := s2.toks) (fun b o hb e => (sb3.2 b hb).trans e) f0 f1 f3 f4 f5, q⟩
end
end Gz
end
section
set_option Elab.async false
set_option linter.all false
set_option maxRecDepth 100000
set_option maxHeartbeats 4000000
/-! The program's defs by places, and what the written part has of them. -/
namespace Cp
open PySem PySem.Spec PyProof.Rows L2
theorem sc_is_integer : FnScope N_is_integer P_is_integer (defScope s_is_integer) := ⟨rfl, rfl, rfl, by decide +kernel, rfl, by decide +kernel, by decide +kernel⟩
theorem sc_is_place : FnScope N_is_place P_is_place (defScope s_is_place) := ⟨rfl, rfl, rfl, by decide +kernel, rfl, by decide +kernel, by decide +kernel⟩
theorem sc_check_place : FnScope N_check_place P_check_place (defScope s_check_place) := ⟨rfl, rfl, rfl, by decide +kernel, rfl, by decide +kernel, by decide +kernel⟩
theorem sc_divisors : FnScope N_divisors P_divisors (defScope s_divisors) := ⟨rfl, rfl, rfl, by decide +kernel, rfl, by decide +kernel, by decide +kernel⟩
theorem sc_plus : FnScope N_plus P_plus (defScope s_plus) := ⟨rfl, rfl, rfl, by decide +kernel, rfl, by decide +kernel, by decide +kernel⟩
theorem sc_minus : FnScope N_minus P_minus (defScope s_minus) := ⟨rfl, rfl, rfl, by decide +kernel, rfl, by decide +kernel, by decide +kernel⟩
theorem sc_are_numbers : FnScope N_are_numbers P_are_numbers (defScope s_are_numbers) := ⟨rfl, rfl, rfl, by decide +kernel, rfl, by decide +kernel, by decide +kernel⟩
theorem sc_Net___init__ : FnScope N_Net___init__ P_Net___init__ (defScope s_Net___init__) := ⟨rfl, rfl, rfl, by decide +kernel, rfl, by decide +kernel, by decide +kernel⟩
theorem sc_Net_whole : FnScope N_Net_whole P_Net_whole (defScope s_Net_whole) := ⟨rfl, rfl, rfl, by decide +kernel, rfl, by decide +kernel, by decide +kernel⟩
theorem sc_Net_numbers : FnScope N_Net_numbers P_Net_numbers (defScope s_Net_numbers) := ⟨rfl, rfl, rfl, by decide +kernel, rfl, by decide +kernel, by decide +kernel⟩
theorem sc_Net_size : FnScope N_Net_size P_Net_size (defScope s_Net_size) := ⟨rfl, rfl, rfl, by decide +kernel, rfl, by decide +kernel, by decide +kernel⟩
theorem sc_Net_place_in_cell : FnScope N_Net_place_in_cell P_Net_place_in_cell (defScope s_Net_place_in_cell) := ⟨rfl, rfl, rfl, by decide +kernel, rfl, by decide +kernel, by decide +kernel⟩
theorem sc_Net___eq__ : FnScope N_Net___eq__ P_Net___eq__ (defScope s_Net___eq__) := ⟨rfl, rfl, rfl, by decide +kernel, rfl, by decide +kernel, by decide +kernel⟩
theorem sc_Net_spots : FnScope N_Net_spots P_Net_spots (defScope s_Net_spots) := ⟨rfl, rfl, rfl, by decide +kernel, rfl, by decide +kernel, by decide +kernel⟩
theorem sc_is_colour : FnScope N_is_colour P_is_colour (defScope s_is_colour) := ⟨rfl, rfl, rfl, by decide +kernel, rfl, by decide +kernel, by decide +kernel⟩
theorem sc_check_colour : FnScope N_check_colour P_check_colour (defScope s_check_colour) := ⟨rfl, rfl, rfl, by decide +kernel, rfl, by decide +kernel, by decide +kernel⟩
theorem sc_is_row : FnScope N_is_row P_is_row (defScope s_is_row) := ⟨rfl, rfl, rfl, by decide +kernel, rfl, by decide +kernel, by decide +kernel⟩
theorem sc_colour_at : FnScope N_colour_at P_colour_at (defScope s_colour_at) := ⟨rfl, rfl, rfl, by decide +kernel, rfl, by decide +kernel, by decide +kernel⟩
theorem sc_is_kept : FnScope N_is_kept P_is_kept (defScope s_is_kept) := ⟨rfl, rfl, rfl, by decide +kernel, rfl, by decide +kernel, by decide +kernel⟩
theorem sc_kept_net : FnScope N_kept_net P_kept_net (defScope s_kept_net) := ⟨rfl, rfl, rfl, by decide +kernel, rfl, by decide +kernel, by decide +kernel⟩
theorem sc_least_cell : FnScope N_least_cell P_least_cell (defScope s_least_cell) := ⟨rfl, rfl, rfl, by decide +kernel, rfl, by decide +kernel, by decide +kernel⟩
theorem sc_Carpet_on : FnScope N_Carpet_on P_Carpet_on (defScope s_Carpet_on) := ⟨rfl, rfl, rfl, by decide +kernel, rfl, by decide +kernel, by decide +kernel⟩
theorem sc_Carpet_plain : FnScope N_Carpet_plain P_Carpet_plain (defScope s_Carpet_plain) := ⟨rfl, rfl, rfl, by decide +kernel, rfl, by decide +kernel, by decide +kernel⟩
theorem sc_Carpet_net : FnScope N_Carpet_net P_Carpet_net (defScope s_Carpet_net) := ⟨rfl, rfl, rfl, by decide +kernel, rfl, by decide +kernel, by decide +kernel⟩
theorem sc_Carpet_text : FnScope N_Carpet_text P_Carpet_text (defScope s_Carpet_text) := ⟨rfl, rfl, rfl, by decide +kernel, rfl, by decide +kernel, by decide +kernel⟩
theorem sc_Carpet_seen : FnScope N_Carpet_seen P_Carpet_seen (defScope s_Carpet_seen) := ⟨rfl, rfl, rfl, by decide +kernel, rfl, by decide +kernel, by decide +kernel⟩
theorem sc_Carpet___getitem__ : FnScope N_Carpet___getitem__ P_Carpet___getitem__ (defScope s_Carpet___getitem__) := ⟨rfl, rfl, rfl, by decide +kernel, rfl, by decide +kernel, by decide +kernel⟩
theorem sc_Carpet___len__ : FnScope N_Carpet___len__ P_Carpet___len__ (defScope s_Carpet___len__) := ⟨rfl, rfl, rfl, by decide +kernel, rfl, by decide +kernel, by decide +kernel⟩
theorem sc_Carpet___eq__ : FnScope N_Carpet___eq__ P_Carpet___eq__ (defScope s_Carpet___eq__) := ⟨rfl, rfl, rfl, by decide +kernel, rfl, by decide +kernel, by decide +kernel⟩
theorem sc_Carpet___add__ : FnScope N_Carpet___add__ P_Carpet___add__ (defScope s_Carpet___add__) := ⟨rfl, rfl, rfl, by decide +kernel, rfl, by decide +kernel, by decide +kernel⟩
theorem sc_Woven___init__ : FnScope N_Woven___init__ P_Woven___init__ (defScope s_Woven___init__) := ⟨rfl, rfl, rfl, by decide +kernel, rfl, by decide +kernel, by decide +kernel⟩
theorem sc_Attempt___init__ : FnScope N_Attempt___init__ P_Attempt___init__ (defScope s_Attempt___init__) := ⟨rfl, rfl, rfl, by decide +kernel, rfl, by decide +kernel, by decide +kernel⟩
theorem sc_Attempt___enter__ : FnScope N_Attempt___enter__ P_Attempt___enter__ (defScope s_Attempt___enter__) := ⟨rfl, rfl, rfl, by decide +kernel, rfl, by decide +kernel, by decide +kernel⟩
theorem sc_Attempt___exit__ : FnScope N_Attempt___exit__ P_Attempt___exit__ (defScope s_Attempt___exit__) := ⟨rfl, rfl, rfl, by decide +kernel, rfl, by decide +kernel, by decide +kernel⟩
theorem sc_Loom___init__ : FnScope N_Loom___init__ P_Loom___init__ (defScope s_Loom___init__) := ⟨rfl, rfl, rfl, by decide +kernel, rfl, by decide +kernel, by decide +kernel⟩
theorem sc_Loom_carpet : FnScope N_Loom_carpet P_Loom_carpet (defScope s_Loom_carpet) := ⟨rfl, rfl, rfl, by decide +kernel, rfl, by decide +kernel, by decide +kernel⟩
theorem sc_Loom_log : FnScope N_Loom_log P_Loom_log (defScope s_Loom_log) := ⟨rfl, rfl, rfl, by decide +kernel, rfl, by decide +kernel, by decide +kernel⟩
theorem sc_Loom___len__ : FnScope N_Loom___len__ P_Loom___len__ (defScope s_Loom___len__) := ⟨rfl, rfl, rfl, by decide +kernel, rfl, by decide +kernel, by decide +kernel⟩
theorem sc_Loom___eq__ : FnScope N_Loom___eq__ P_Loom___eq__ (defScope s_Loom___eq__) := ⟨rfl, rfl, rfl, by decide +kernel, rfl, by decide +kernel, by decide +kernel⟩
theorem sc_Loom_change : FnScope N_Loom_change P_Loom_change (defScope s_Loom_change) := ⟨rfl, rfl, rfl, by decide +kernel, rfl, by decide +kernel, by decide +kernel⟩
theorem sc_Loom_paint : FnScope N_Loom_paint P_Loom_paint (defScope s_Loom_paint) := ⟨rfl, rfl, rfl, by decide +kernel, rfl, by decide +kernel, by decide +kernel⟩
theorem sc_Loom_move : FnScope N_Loom_move P_Loom_move (defScope s_Loom_move) := ⟨rfl, rfl, rfl, by decide +kernel, rfl, by decide +kernel, by decide +kernel⟩
theorem sc_Loom_undo : FnScope N_Loom_undo P_Loom_undo (defScope s_Loom_undo) := ⟨rfl, rfl, rfl, by decide +kernel, rfl, by decide +kernel, by decide +kernel⟩
theorem sc_Loom_redo : FnScope N_Loom_redo P_Loom_redo (defScope s_Loom_redo) := ⟨rfl, rfl, rfl, by decide +kernel, rfl, by decide +kernel, by decide +kernel⟩
theorem sc_Loom_act : FnScope N_Loom_act P_Loom_act (defScope s_Loom_act) := ⟨rfl, rfl, rfl, by decide +kernel, rfl, by decide +kernel, by decide +kernel⟩
theorem sc_Loom_run : FnScope N_Loom_run P_Loom_run (defScope s_Loom_run) := ⟨rfl, rfl, rfl, by decide +kernel, rfl, by decide +kernel, by decide +kernel⟩
theorem sc_Loom_copy : FnScope N_Loom_copy P_Loom_copy (defScope s_Loom_copy) := ⟨rfl, rfl, rfl, by decide +kernel, rfl, by decide +kernel, by decide +kernel⟩
theorem sc__law_tape : FnScope N__law_tape P__law_tape (defScope s__law_tape) := ⟨rfl, rfl, rfl, by decide +kernel, rfl, by decide +kernel, by decide +kernel⟩
theorem sc__law_draw : FnScope N__law_draw P__law_draw (defScope s__law_draw) := ⟨rfl, rfl, rfl, by decide +kernel, rfl, by decide +kernel, by decide +kernel⟩
theorem sc__law_great : FnScope N__law_great P__law_great (defScope s__law_great) := ⟨rfl, rfl, rfl, by decide +kernel, rfl, by decide +kernel, by decide +kernel⟩
theorem sc__law_place : FnScope N__law_place P__law_place (defScope s__law_place) := ⟨rfl, rfl, rfl, by decide +kernel, rfl, by decide +kernel, by decide +kernel⟩
theorem sc__law_low : FnScope N__law_low P__law_low (defScope s__law_low) := ⟨rfl, rfl, rfl, by decide +kernel, rfl, by decide +kernel, by decide +kernel⟩
theorem sc__law_spots : FnScope N__law_spots P__law_spots (defScope s__law_spots) := ⟨rfl, rfl, rfl, by decide +kernel, rfl, by decide +kernel, by decide +kernel⟩
theorem sc__law_seen : FnScope N__law_seen P__law_seen (defScope s__law_seen) := ⟨rfl, rfl, rfl, by decide +kernel, rfl, by decide +kernel, by decide +kernel⟩
theorem sc__law_net : FnScope N__law_net P__law_net (defScope s__law_net) := ⟨rfl, rfl, rfl, by decide +kernel, rfl, by decide +kernel, by decide +kernel⟩
theorem sc__law_turned : FnScope N__law_turned P__law_turned (defScope s__law_turned) := ⟨rfl, rfl, rfl, by decide +kernel, rfl, by decide +kernel, by decide +kernel⟩
theorem sc__law_carried : FnScope N__law_carried P__law_carried (defScope s__law_carried) := ⟨rfl, rfl, rfl, by decide +kernel, rfl, by decide +kernel, by decide +kernel⟩
theorem sc__law_divisor : FnScope N__law_divisor P__law_divisor (defScope s__law_divisor) := ⟨rfl, rfl, rfl, by decide +kernel, rfl, by decide +kernel, by decide +kernel⟩
theorem sc__law_net_of : FnScope N__law_net_of P__law_net_of (defScope s__law_net_of) := ⟨rfl, rfl, rfl, by decide +kernel, rfl, by decide +kernel, by decide +kernel⟩
theorem sc__law_image : FnScope N__law_image P__law_image (defScope s__law_image) := ⟨rfl, rfl, rfl, by decide +kernel, rfl, by decide +kernel, by decide +kernel⟩
theorem sc__law_painted : FnScope N__law_painted P__law_painted (defScope s__law_painted) := ⟨rfl, rfl, rfl, by decide +kernel, rfl, by decide +kernel, by decide +kernel⟩
theorem sc__law_behind : FnScope N__law_behind P__law_behind (defScope s__law_behind) := ⟨rfl, rfl, rfl, by decide +kernel, rfl, by decide +kernel, by decide +kernel⟩
theorem sc__law_some : FnScope N__law_some P__law_some (defScope s__law_some) := ⟨rfl, rfl, rfl, by decide +kernel, rfl, by decide +kernel, by decide +kernel⟩
theorem sc__law_did : FnScope N__law_did P__law_did (defScope s__law_did) := ⟨rfl, rfl, rfl, by decide +kernel, rfl, by decide +kernel, by decide +kernel⟩
theorem sc__law_stepped : FnScope N__law_stepped P__law_stepped (defScope s__law_stepped) := ⟨rfl, rfl, rfl, by decide +kernel, rfl, by decide +kernel, by decide +kernel⟩
theorem sc__law_acted : FnScope N__law_acted P__law_acted (defScope s__law_acted) := ⟨rfl, rfl, rfl, by decide +kernel, rfl, by decide +kernel, by decide +kernel⟩
theorem sc_law : FnScope N_law P_law (defScope s_law) := ⟨rfl, rfl, rfl, by decide +kernel, rfl, by decide +kernel, by decide +kernel⟩

/-- what the written part K and the module's names mg have -/
structure Tx (K : PySem.W.Frag) (mg : Str → Option Value) (fa : Nat → Addr) (fd : Nat → FuncData) (ca : Nat → Addr) (pa : Nat → Addr) : Prop where
  fn : ∀ (i : Nat) {e : Str × Str × Stmt}, defTab[i]? = some e → Fun K e.1 e.2.1 e.2.2 (fa i) (fd i)
  gf : ∀ (j : Nat) {e : Str × Nat}, globTab[j]? = some e → mg e.1 = some (.ref (fa e.2))
  gc : ∀ (j : Nat) {e : Str}, clsTab[j]? = some e → mg e = some (.ref (ca j))
  cls : ∀ j : Nat, j < 5 → Cls K (ca j)
  meth : ∀ (j : Nat) {e : Nat × Str × Nat}, methTab[j]? = some e → Meth K (ca e.1) e.2.1 (fa e.2.2)
  prop : ∀ (j : Nat) {e : Nat × Str × Nat}, propTab[j]? = some e → PropOf K (ca e.1) e.2.1 (pa e.2.2) (fa e.2.2)
  noat : ∀ (j : Nat) {e : Nat × Str}, noTab[j]? = some e → NoAttr K (ca e.1) e.2
  maker : ∀ (j : Nat) {e : Nat × Nat}, mkTab[j]? = some e → Mk K (ca e.1) (fa e.2)
  blt : ∀ (j : Nat) {e : Str}, bltTab[j]? = some e → mg e = none
  ity : ∀ j : Nat, j < 5 → PySem.W.findIn K (.ref (ca j)) "__class__" = some (some (.builtin "object.__class__")) ∧ PySem.W.mroIn K (ca j) (.type "object") = some true
  cg : PySem.W.specialIn K (.builtin "object.__class__") "__get__" = some (some (.builtin "getset_descriptor.__get__")) ∧ PySem.W.takesIn K (.builtin "object.__class__") = some true
  kit : ∀ (j : Nat) {e : Nat × Nat}, kitTab[j]? = some e → PySem.W.kitOne K (.ref (ca e.1)) (.ref (ca e.2)) = some true
  ne : PySem.W.findIn K (.ref (ca 2)) "__ne__" = some (some (.builtin "object.__ne__"))
  sf : PySem.W.selfFirst K (ca 2) = true
  fnin : PySem.W.fnIn K (fa 27) = true
  lett : ∃ t, mg "LETTERS" = some (.str "abcdefghijklmnopqrstuvwxyz" t)
  intc : ∀ (j : Nat) {e : Str × Int}, intTab[j]? = some e → ∃ t, mg e.1 = some (.int e.2 t)
section
variable {K : PySem.W.Frag} {mg : Str → Option Value} {fa : Nat → Addr} {fd : Nat → FuncData} {ca pa : Nat → Addr}
theorem Tx.f_is_integer (T : Tx K mg fa fd ca pa) : Fun K "is_integer" "is_integer" s_is_integer (fa 0) (fd 0) := T.fn 0 rfl
theorem Tx.b_is_integer (T : Tx K mg fa fd ca pa) : Binds K (fd 0) P_is_integer [] := T.f_is_integer.binds (ps := P_is_integer) fun _ _ _ _ _ _ us hl => match us, hl with | [_], _ => rfl
theorem Tx.f_is_place (T : Tx K mg fa fd ca pa) : Fun K "is_place" "is_place" s_is_place (fa 1) (fd 1) := T.fn 1 rfl
theorem Tx.b_is_place (T : Tx K mg fa fd ca pa) : Binds K (fd 1) P_is_place [] := T.f_is_place.binds (ps := P_is_place) fun _ _ _ _ _ _ us hl => match us, hl with | [_], _ => rfl
theorem Tx.f_check_place (T : Tx K mg fa fd ca pa) : Fun K "check_place" "check_place" s_check_place (fa 2) (fd 2) := T.fn 2 rfl
theorem Tx.b_check_place (T : Tx K mg fa fd ca pa) : Binds K (fd 2) P_check_place [] := T.f_check_place.binds (ps := P_check_place) fun _ _ _ _ _ _ us hl => match us, hl with | [_], _ => rfl
theorem Tx.f_divisors (T : Tx K mg fa fd ca pa) : Fun K "divisors" "divisors" s_divisors (fa 3) (fd 3) := T.fn 3 rfl
theorem Tx.b_divisors (T : Tx K mg fa fd ca pa) : Binds K (fd 3) P_divisors [] := T.f_divisors.binds (ps := P_divisors) fun _ _ _ _ _ _ us hl => match us, hl with | [_], _ => rfl
theorem Tx.f_plus (T : Tx K mg fa fd ca pa) : Fun K "plus" "plus" s_plus (fa 4) (fd 4) := T.fn 4 rfl
theorem Tx.b_plus (T : Tx K mg fa fd ca pa) : Binds K (fd 4) P_plus [] := T.f_plus.binds (ps := P_plus) fun _ _ _ _ _ _ us hl => match us, hl with | [_, _], _ => rfl
theorem Tx.f_minus (T : Tx K mg fa fd ca pa) : Fun K "minus" "minus" s_minus (fa 5) (fd 5) := T.fn 5 rfl
theorem Tx.b_minus (T : Tx K mg fa fd ca pa) : Binds K (fd 5) P_minus [] := T.f_minus.binds (ps := P_minus) fun _ _ _ _ _ _ us hl => match us, hl with | [_, _], _ => rfl
theorem Tx.f_are_numbers (T : Tx K mg fa fd ca pa) : Fun K "are_numbers" "are_numbers" s_are_numbers (fa 6) (fd 6) := T.fn 6 rfl
theorem Tx.b_are_numbers (T : Tx K mg fa fd ca pa) : Binds K (fd 6) P_are_numbers [] := T.f_are_numbers.binds (ps := P_are_numbers) fun _ _ _ _ _ _ us hl => match us, hl with | [_], _ => rfl
theorem Tx.f_Net___init__ (T : Tx K mg fa fd ca pa) : Fun K "__init__" "Net.__init__" s_Net___init__ (fa 7) (fd 7) := T.fn 7 rfl
theorem Tx.b_Net___init__ (T : Tx K mg fa fd ca pa) : Binds K (fd 7) P_Net___init__ [] := T.f_Net___init__.binds (ps := P_Net___init__) fun _ _ _ _ _ _ us hl => match us, hl with | [_, _, _, _], _ => rfl
theorem Tx.f_Net_whole (T : Tx K mg fa fd ca pa) : Fun K "whole" "Net.whole" s_Net_whole (fa 8) (fd 8) := T.fn 8 rfl
theorem Tx.b_Net_whole (T : Tx K mg fa fd ca pa) : Binds K (fd 8) P_Net_whole [] := T.f_Net_whole.binds (ps := P_Net_whole) fun _ _ _ _ _ _ us hl => match us, hl with | [_], _ => rfl
theorem Tx.f_Net_numbers (T : Tx K mg fa fd ca pa) : Fun K "numbers" "Net.numbers" s_Net_numbers (fa 9) (fd 9) := T.fn 9 rfl
theorem Tx.b_Net_numbers (T : Tx K mg fa fd ca pa) : Binds K (fd 9) P_Net_numbers [] := T.f_Net_numbers.binds (ps := P_Net_numbers) fun _ _ _ _ _ _ us hl => match us, hl with | [_], _ => rfl
theorem Tx.f_Net_size (T : Tx K mg fa fd ca pa) : Fun K "size" "Net.size" s_Net_size (fa 10) (fd 10) := T.fn 10 rfl
theorem Tx.b_Net_size (T : Tx K mg fa fd ca pa) : Binds K (fd 10) P_Net_size [] := T.f_Net_size.binds (ps := P_Net_size) fun _ _ _ _ _ _ us hl => match us, hl with | [_], _ => rfl
theorem Tx.f_Net_place_in_cell (T : Tx K mg fa fd ca pa) : Fun K "place_in_cell" "Net.place_in_cell" s_Net_place_in_cell (fa 11) (fd 11) := T.fn 11 rfl
theorem Tx.b_Net_place_in_cell (T : Tx K mg fa fd ca pa) : Binds K (fd 11) P_Net_place_in_cell [] := T.f_Net_place_in_cell.binds (ps := P_Net_place_in_cell) fun _ _ _ _ _ _ us hl => match us, hl with | [_, _], _ => rfl
theorem Tx.f_Net___eq__ (T : Tx K mg fa fd ca pa) : Fun K "__eq__" "Net.__eq__" s_Net___eq__ (fa 12) (fd 12) := T.fn 12 rfl
theorem Tx.b_Net___eq__ (T : Tx K mg fa fd ca pa) : Binds K (fd 12) P_Net___eq__ [] := T.f_Net___eq__.binds (ps := P_Net___eq__) fun _ _ _ _ _ _ us hl => match us, hl with | [_, _], _ => rfl
theorem Tx.f_Net_spots (T : Tx K mg fa fd ca pa) : Fun K "spots" "Net.spots" s_Net_spots (fa 13) (fd 13) := T.fn 13 rfl
theorem Tx.b_Net_spots (T : Tx K mg fa fd ca pa) : Binds K (fd 13) P_Net_spots [] := T.f_Net_spots.binds (ps := P_Net_spots) fun _ _ _ _ _ _ us hl => match us, hl with | [_], _ => rfl
theorem Tx.f_Net_cell (T : Tx K mg fa fd ca pa) : Fun K "cell" "Net.cell" s_Net_cell (fa 14) (fd 14) := T.fn 14 rfl
theorem Tx.f_is_colour (T : Tx K mg fa fd ca pa) : Fun K "is_colour" "is_colour" s_is_colour (fa 15) (fd 15) := T.fn 15 rfl
theorem Tx.b_is_colour (T : Tx K mg fa fd ca pa) : Binds K (fd 15) P_is_colour [] := T.f_is_colour.binds (ps := P_is_colour) fun _ _ _ _ _ _ us hl => match us, hl with | [_], _ => rfl
theorem Tx.f_check_colour (T : Tx K mg fa fd ca pa) : Fun K "check_colour" "check_colour" s_check_colour (fa 16) (fd 16) := T.fn 16 rfl
theorem Tx.b_check_colour (T : Tx K mg fa fd ca pa) : Binds K (fd 16) P_check_colour [] := T.f_check_colour.binds (ps := P_check_colour) fun _ _ _ _ _ _ us hl => match us, hl with | [_], _ => rfl
theorem Tx.f_is_row (T : Tx K mg fa fd ca pa) : Fun K "is_row" "is_row" s_is_row (fa 17) (fd 17) := T.fn 17 rfl
theorem Tx.b_is_row (T : Tx K mg fa fd ca pa) : Binds K (fd 17) P_is_row [] := T.f_is_row.binds (ps := P_is_row) fun _ _ _ _ _ _ us hl => match us, hl with | [_, _, _], _ => rfl
theorem Tx.f_colour_at (T : Tx K mg fa fd ca pa) : Fun K "colour_at" "colour_at" s_colour_at (fa 18) (fd 18) := T.fn 18 rfl
theorem Tx.b_colour_at (T : Tx K mg fa fd ca pa) : Binds K (fd 18) P_colour_at [] := T.f_colour_at.binds (ps := P_colour_at) fun _ _ _ _ _ _ us hl => match us, hl with | [_, _, _], _ => rfl
theorem Tx.f_is_kept (T : Tx K mg fa fd ca pa) : Fun K "is_kept" "is_kept" s_is_kept (fa 19) (fd 19) := T.fn 19 rfl
theorem Tx.b_is_kept (T : Tx K mg fa fd ca pa) : Binds K (fd 19) P_is_kept [] := T.f_is_kept.binds (ps := P_is_kept) fun _ _ _ _ _ _ us hl => match us, hl with | [_, _, _], _ => rfl
theorem Tx.f_kept_net (T : Tx K mg fa fd ca pa) : Fun K "kept_net" "kept_net" s_kept_net (fa 20) (fd 20) := T.fn 20 rfl
theorem Tx.b_kept_net (T : Tx K mg fa fd ca pa) : Binds K (fd 20) P_kept_net [] := T.f_kept_net.binds (ps := P_kept_net) fun _ _ _ _ _ _ us hl => match us, hl with | [_, _], _ => rfl
theorem Tx.f_least_cell (T : Tx K mg fa fd ca pa) : Fun K "least_cell" "least_cell" s_least_cell (fa 21) (fd 21) := T.fn 21 rfl
theorem Tx.b_least_cell (T : Tx K mg fa fd ca pa) : Binds K (fd 21) P_least_cell [] := T.f_least_cell.binds (ps := P_least_cell) fun _ _ _ _ _ _ us hl => match us, hl with | [_, _], _ => rfl
theorem Tx.f_Carpet_on (T : Tx K mg fa fd ca pa) : Fun K "on" "Carpet.on" s_Carpet_on (fa 22) (fd 22) := T.fn 22 rfl
theorem Tx.b_Carpet_on (T : Tx K mg fa fd ca pa) : Binds K (fd 22) P_Carpet_on [] := T.f_Carpet_on.binds (ps := P_Carpet_on) fun _ _ _ _ _ _ us hl => match us, hl with | [_, _], _ => rfl
theorem Tx.f_Carpet_plain (T : Tx K mg fa fd ca pa) : Fun K "plain" "Carpet.plain" s_Carpet_plain (fa 23) (fd 23) := T.fn 23 rfl
theorem Tx.b_Carpet_plain (T : Tx K mg fa fd ca pa) : Binds K (fd 23) P_Carpet_plain [] := T.f_Carpet_plain.binds (ps := P_Carpet_plain) fun _ _ _ _ _ _ us hl => match us, hl with | [_, _], _ => rfl
theorem Tx.f_Carpet_net (T : Tx K mg fa fd ca pa) : Fun K "net" "Carpet.net" s_Carpet_net (fa 24) (fd 24) := T.fn 24 rfl
theorem Tx.b_Carpet_net (T : Tx K mg fa fd ca pa) : Binds K (fd 24) P_Carpet_net [] := T.f_Carpet_net.binds (ps := P_Carpet_net) fun _ _ _ _ _ _ us hl => match us, hl with | [_], _ => rfl
theorem Tx.f_Carpet_text (T : Tx K mg fa fd ca pa) : Fun K "text" "Carpet.text" s_Carpet_text (fa 25) (fd 25) := T.fn 25 rfl
theorem Tx.b_Carpet_text (T : Tx K mg fa fd ca pa) : Binds K (fd 25) P_Carpet_text [] := T.f_Carpet_text.binds (ps := P_Carpet_text) fun _ _ _ _ _ _ us hl => match us, hl with | [_], _ => rfl
theorem Tx.f_Carpet_seen (T : Tx K mg fa fd ca pa) : Fun K "seen" "Carpet.seen" s_Carpet_seen (fa 26) (fd 26) := T.fn 26 rfl
theorem Tx.b_Carpet_seen (T : Tx K mg fa fd ca pa) : Binds K (fd 26) P_Carpet_seen [] := T.f_Carpet_seen.binds (ps := P_Carpet_seen) fun _ _ _ _ _ _ us hl => match us, hl with | [_, _], _ => rfl
theorem Tx.f_Carpet___getitem__ (T : Tx K mg fa fd ca pa) : Fun K "__getitem__" "Carpet.__getitem__" s_Carpet___getitem__ (fa 27) (fd 27) := T.fn 27 rfl
theorem Tx.b_Carpet___getitem__ (T : Tx K mg fa fd ca pa) : Binds K (fd 27) P_Carpet___getitem__ [] := T.f_Carpet___getitem__.binds (ps := P_Carpet___getitem__) fun _ _ _ _ _ _ us hl => match us, hl with | [_, _], _ => rfl
theorem Tx.f_Carpet___len__ (T : Tx K mg fa fd ca pa) : Fun K "__len__" "Carpet.__len__" s_Carpet___len__ (fa 28) (fd 28) := T.fn 28 rfl
theorem Tx.b_Carpet___len__ (T : Tx K mg fa fd ca pa) : Binds K (fd 28) P_Carpet___len__ [] := T.f_Carpet___len__.binds (ps := P_Carpet___len__) fun _ _ _ _ _ _ us hl => match us, hl with | [_], _ => rfl
theorem Tx.f_Carpet___eq__ (T : Tx K mg fa fd ca pa) : Fun K "__eq__" "Carpet.__eq__" s_Carpet___eq__ (fa 29) (fd 29) := T.fn 29 rfl
theorem Tx.b_Carpet___eq__ (T : Tx K mg fa fd ca pa) : Binds K (fd 29) P_Carpet___eq__ [] := T.f_Carpet___eq__.binds (ps := P_Carpet___eq__) fun _ _ _ _ _ _ us hl => match us, hl with | [_, _], _ => rfl
theorem Tx.f_Carpet___add__ (T : Tx K mg fa fd ca pa) : Fun K "__add__" "Carpet.__add__" s_Carpet___add__ (fa 30) (fd 30) := T.fn 30 rfl
theorem Tx.b_Carpet___add__ (T : Tx K mg fa fd ca pa) : Binds K (fd 30) P_Carpet___add__ [] := T.f_Carpet___add__.binds (ps := P_Carpet___add__) fun _ _ _ _ _ _ us hl => match us, hl with | [_, _], _ => rfl
theorem Tx.f_Woven___init__ (T : Tx K mg fa fd ca pa) : Fun K "__init__" "Woven.__init__" s_Woven___init__ (fa 31) (fd 31) := T.fn 31 rfl
theorem Tx.b_Woven___init__ (T : Tx K mg fa fd ca pa) : Binds K (fd 31) P_Woven___init__ [] := T.f_Woven___init__.binds (ps := P_Woven___init__) fun _ _ _ _ _ _ us hl => match us, hl with | [_, _, _], _ => rfl
theorem Tx.f_Attempt___init__ (T : Tx K mg fa fd ca pa) : Fun K "__init__" "Attempt.__init__" s_Attempt___init__ (fa 32) (fd 32) := T.fn 32 rfl
theorem Tx.b_Attempt___init__ (T : Tx K mg fa fd ca pa) : Binds K (fd 32) P_Attempt___init__ [] := T.f_Attempt___init__.binds (ps := P_Attempt___init__) fun _ _ _ _ _ _ us hl => match us, hl with | [_, _], _ => rfl
theorem Tx.f_Attempt___enter__ (T : Tx K mg fa fd ca pa) : Fun K "__enter__" "Attempt.__enter__" s_Attempt___enter__ (fa 33) (fd 33) := T.fn 33 rfl
theorem Tx.b_Attempt___enter__ (T : Tx K mg fa fd ca pa) : Binds K (fd 33) P_Attempt___enter__ [] := T.f_Attempt___enter__.binds (ps := P_Attempt___enter__) fun _ _ _ _ _ _ us hl => match us, hl with | [_], _ => rfl
theorem Tx.f_Attempt___exit__ (T : Tx K mg fa fd ca pa) : Fun K "__exit__" "Attempt.__exit__" s_Attempt___exit__ (fa 34) (fd 34) := T.fn 34 rfl
theorem Tx.b_Attempt___exit__ (T : Tx K mg fa fd ca pa) : Binds K (fd 34) P_Attempt___exit__ [] := T.f_Attempt___exit__.binds (ps := P_Attempt___exit__) fun _ _ _ _ _ _ us hl => match us, hl with | [_, _, _, _], _ => rfl
theorem Tx.f_Loom___init__ (T : Tx K mg fa fd ca pa) : Fun K "__init__" "Loom.__init__" s_Loom___init__ (fa 35) (fd 35) := T.fn 35 rfl
theorem Tx.f_Loom_carpet (T : Tx K mg fa fd ca pa) : Fun K "carpet" "Loom.carpet" s_Loom_carpet (fa 36) (fd 36) := T.fn 36 rfl
theorem Tx.b_Loom_carpet (T : Tx K mg fa fd ca pa) : Binds K (fd 36) P_Loom_carpet [] := T.f_Loom_carpet.binds (ps := P_Loom_carpet) fun _ _ _ _ _ _ us hl => match us, hl with | [_], _ => rfl
theorem Tx.f_Loom_log (T : Tx K mg fa fd ca pa) : Fun K "log" "Loom.log" s_Loom_log (fa 37) (fd 37) := T.fn 37 rfl
theorem Tx.b_Loom_log (T : Tx K mg fa fd ca pa) : Binds K (fd 37) P_Loom_log [] := T.f_Loom_log.binds (ps := P_Loom_log) fun _ _ _ _ _ _ us hl => match us, hl with | [_], _ => rfl
theorem Tx.f_Loom___len__ (T : Tx K mg fa fd ca pa) : Fun K "__len__" "Loom.__len__" s_Loom___len__ (fa 38) (fd 38) := T.fn 38 rfl
theorem Tx.b_Loom___len__ (T : Tx K mg fa fd ca pa) : Binds K (fd 38) P_Loom___len__ [] := T.f_Loom___len__.binds (ps := P_Loom___len__) fun _ _ _ _ _ _ us hl => match us, hl with | [_], _ => rfl
theorem Tx.f_Loom___eq__ (T : Tx K mg fa fd ca pa) : Fun K "__eq__" "Loom.__eq__" s_Loom___eq__ (fa 39) (fd 39) := T.fn 39 rfl
theorem Tx.b_Loom___eq__ (T : Tx K mg fa fd ca pa) : Binds K (fd 39) P_Loom___eq__ [] := T.f_Loom___eq__.binds (ps := P_Loom___eq__) fun _ _ _ _ _ _ us hl => match us, hl with | [_, _], _ => rfl
theorem Tx.f_Loom_change (T : Tx K mg fa fd ca pa) : Fun K "change" "Loom.change" s_Loom_change (fa 40) (fd 40) := T.fn 40 rfl
theorem Tx.b_Loom_change (T : Tx K mg fa fd ca pa) : Binds K (fd 40) P_Loom_change [] := T.f_Loom_change.binds (ps := P_Loom_change) fun _ _ _ _ _ _ us hl => match us, hl with | [_, _], _ => rfl
theorem Tx.f_Loom_paint (T : Tx K mg fa fd ca pa) : Fun K "paint" "Loom.paint" s_Loom_paint (fa 41) (fd 41) := T.fn 41 rfl
theorem Tx.b_Loom_paint (T : Tx K mg fa fd ca pa) : Binds K (fd 41) P_Loom_paint [] := T.f_Loom_paint.binds (ps := P_Loom_paint) fun _ _ _ _ _ _ us hl => match us, hl with | [_, _, _], _ => rfl
theorem Tx.f_Loom_move (T : Tx K mg fa fd ca pa) : Fun K "move" "Loom.move" s_Loom_move (fa 42) (fd 42) := T.fn 42 rfl
theorem Tx.b_Loom_move (T : Tx K mg fa fd ca pa) : Binds K (fd 42) P_Loom_move [] := T.f_Loom_move.binds (ps := P_Loom_move) fun _ _ _ _ _ _ us hl => match us, hl with | [_, _], _ => rfl
theorem Tx.f_Loom_undo (T : Tx K mg fa fd ca pa) : Fun K "undo" "Loom.undo" s_Loom_undo (fa 43) (fd 43) := T.fn 43 rfl
theorem Tx.b_Loom_undo (T : Tx K mg fa fd ca pa) : Binds K (fd 43) P_Loom_undo [] := T.f_Loom_undo.binds (ps := P_Loom_undo) fun _ _ _ _ _ _ us hl => match us, hl with | [_], _ => rfl
theorem Tx.f_Loom_redo (T : Tx K mg fa fd ca pa) : Fun K "redo" "Loom.redo" s_Loom_redo (fa 44) (fd 44) := T.fn 44 rfl
theorem Tx.b_Loom_redo (T : Tx K mg fa fd ca pa) : Binds K (fd 44) P_Loom_redo [] := T.f_Loom_redo.binds (ps := P_Loom_redo) fun _ _ _ _ _ _ us hl => match us, hl with | [_], _ => rfl
theorem Tx.f_Loom_act (T : Tx K mg fa fd ca pa) : Fun K "act" "Loom.act" s_Loom_act (fa 45) (fd 45) := T.fn 45 rfl
theorem Tx.b_Loom_act (T : Tx K mg fa fd ca pa) : Binds K (fd 45) P_Loom_act [] := T.f_Loom_act.binds (ps := P_Loom_act) fun _ _ _ _ _ _ us hl => match us, hl with | [_, _], _ => rfl
theorem Tx.f_Loom_run (T : Tx K mg fa fd ca pa) : Fun K "run" "Loom.run" s_Loom_run (fa 46) (fd 46) := T.fn 46 rfl
theorem Tx.b_Loom_run (T : Tx K mg fa fd ca pa) : Binds K (fd 46) P_Loom_run [] := T.f_Loom_run.binds (ps := P_Loom_run) fun _ _ _ _ _ _ us hl => match us, hl with | [_, _], _ => rfl
theorem Tx.f_Loom_copy (T : Tx K mg fa fd ca pa) : Fun K "copy" "Loom.copy" s_Loom_copy (fa 47) (fd 47) := T.fn 47 rfl
theorem Tx.b_Loom_copy (T : Tx K mg fa fd ca pa) : Binds K (fd 47) P_Loom_copy [] := T.f_Loom_copy.binds (ps := P_Loom_copy) fun _ _ _ _ _ _ us hl => match us, hl with | [_], _ => rfl
theorem Tx.f__law_tape (T : Tx K mg fa fd ca pa) : Fun K "_law_tape" "_law_tape" s__law_tape (fa 48) (fd 48) := T.fn 48 rfl
theorem Tx.b__law_tape (T : Tx K mg fa fd ca pa) : Binds K (fd 48) P__law_tape [] := T.f__law_tape.binds (ps := P__law_tape) fun _ _ _ _ _ _ us hl => match us, hl with | [_], _ => rfl
theorem Tx.f__law_draw (T : Tx K mg fa fd ca pa) : Fun K "_law_draw" "_law_draw" s__law_draw (fa 49) (fd 49) := T.fn 49 rfl
theorem Tx.b__law_draw (T : Tx K mg fa fd ca pa) : Binds K (fd 49) P__law_draw [] := T.f__law_draw.binds (ps := P__law_draw) fun _ _ _ _ _ _ us hl => match us, hl with | [_, _], _ => rfl
theorem Tx.f__law_great (T : Tx K mg fa fd ca pa) : Fun K "_law_great" "_law_great" s__law_great (fa 50) (fd 50) := T.fn 50 rfl
theorem Tx.b__law_great (T : Tx K mg fa fd ca pa) : Binds K (fd 50) P__law_great [] := T.f__law_great.binds (ps := P__law_great) fun _ _ _ _ _ _ us hl => match us, hl with | [_, _], _ => rfl
theorem Tx.f__law_place (T : Tx K mg fa fd ca pa) : Fun K "_law_place" "_law_place" s__law_place (fa 51) (fd 51) := T.fn 51 rfl
theorem Tx.b__law_place (T : Tx K mg fa fd ca pa) : Binds K (fd 51) P__law_place [] := T.f__law_place.binds (ps := P__law_place) fun _ _ _ _ _ _ us hl => match us, hl with | [_], _ => rfl
theorem Tx.f__law_low (T : Tx K mg fa fd ca pa) : Fun K "_law_low" "_law_low" s__law_low (fa 52) (fd 52) := T.fn 52 rfl
theorem Tx.b__law_low (T : Tx K mg fa fd ca pa) : Binds K (fd 52) P__law_low [] := T.f__law_low.binds (ps := P__law_low) fun _ _ _ _ _ _ us hl => match us, hl with | [_, _], _ => rfl
theorem Tx.f__law_spots (T : Tx K mg fa fd ca pa) : Fun K "_law_spots" "_law_spots" s__law_spots (fa 53) (fd 53) := T.fn 53 rfl
theorem Tx.b__law_spots (T : Tx K mg fa fd ca pa) : Binds K (fd 53) P__law_spots [] := T.f__law_spots.binds (ps := P__law_spots) fun _ _ _ _ _ _ us hl => match us, hl with | [_], _ => rfl
theorem Tx.f__law_seen (T : Tx K mg fa fd ca pa) : Fun K "_law_seen" "_law_seen" s__law_seen (fa 54) (fd 54) := T.fn 54 rfl
theorem Tx.b__law_seen (T : Tx K mg fa fd ca pa) : Binds K (fd 54) P__law_seen [] := T.f__law_seen.binds (ps := P__law_seen) fun _ _ _ _ _ _ us hl => match us, hl with | [_, _, _], _ => rfl
theorem Tx.f__law_net (T : Tx K mg fa fd ca pa) : Fun K "_law_net" "_law_net" s__law_net (fa 55) (fd 55) := T.fn 55 rfl
theorem Tx.b__law_net (T : Tx K mg fa fd ca pa) : Binds K (fd 55) P__law_net [] := T.f__law_net.binds (ps := P__law_net) fun _ _ _ _ _ _ us hl => match us, hl with | [_, _], _ => rfl
theorem Tx.f__law_turned (T : Tx K mg fa fd ca pa) : Fun K "_law_turned" "_law_turned" s__law_turned (fa 56) (fd 56) := T.fn 56 rfl
theorem Tx.b__law_turned (T : Tx K mg fa fd ca pa) : Binds K (fd 56) P__law_turned [] := T.f__law_turned.binds (ps := P__law_turned) fun _ _ _ _ _ _ us hl => match us, hl with | [_, _], _ => rfl
theorem Tx.f__law_carried (T : Tx K mg fa fd ca pa) : Fun K "_law_carried" "_law_carried" s__law_carried (fa 57) (fd 57) := T.fn 57 rfl
theorem Tx.b__law_carried (T : Tx K mg fa fd ca pa) : Binds K (fd 57) P__law_carried [] := T.f__law_carried.binds (ps := P__law_carried) fun _ _ _ _ _ _ us hl => match us, hl with | [_, _], _ => rfl
theorem Tx.f__law_divisor (T : Tx K mg fa fd ca pa) : Fun K "_law_divisor" "_law_divisor" s__law_divisor (fa 58) (fd 58) := T.fn 58 rfl
theorem Tx.b__law_divisor (T : Tx K mg fa fd ca pa) : Binds K (fd 58) P__law_divisor [] := T.f__law_divisor.binds (ps := P__law_divisor) fun _ _ _ _ _ _ us hl => match us, hl with | [_, _], _ => rfl
theorem Tx.f__law_net_of (T : Tx K mg fa fd ca pa) : Fun K "_law_net_of" "_law_net_of" s__law_net_of (fa 59) (fd 59) := T.fn 59 rfl
theorem Tx.b__law_net_of (T : Tx K mg fa fd ca pa) : Binds K (fd 59) P__law_net_of [] := T.f__law_net_of.binds (ps := P__law_net_of) fun _ _ _ _ _ _ us hl => match us, hl with | [_], _ => rfl
theorem Tx.f__law_image (T : Tx K mg fa fd ca pa) : Fun K "_law_image" "_law_image" s__law_image (fa 60) (fd 60) := T.fn 60 rfl
theorem Tx.b__law_image (T : Tx K mg fa fd ca pa) : Binds K (fd 60) P__law_image [] := T.f__law_image.binds (ps := P__law_image) fun _ _ _ _ _ _ us hl => match us, hl with | [_, _, _], _ => rfl
theorem Tx.f__law_painted (T : Tx K mg fa fd ca pa) : Fun K "_law_painted" "_law_painted" s__law_painted (fa 61) (fd 61) := T.fn 61 rfl
theorem Tx.b__law_painted (T : Tx K mg fa fd ca pa) : Binds K (fd 61) P__law_painted [] := T.f__law_painted.binds (ps := P__law_painted) fun _ _ _ _ _ _ us hl => match us, hl with | [_, _, _], _ => rfl
theorem Tx.f__law_behind (T : Tx K mg fa fd ca pa) : Fun K "_law_behind" "_law_behind" s__law_behind (fa 62) (fd 62) := T.fn 62 rfl
theorem Tx.b__law_behind (T : Tx K mg fa fd ca pa) : Binds K (fd 62) P__law_behind [] := T.f__law_behind.binds (ps := P__law_behind) fun _ _ _ _ _ _ us hl => match us, hl with | [_, _, _], _ => rfl
theorem Tx.f__law_some (T : Tx K mg fa fd ca pa) : Fun K "_law_some" "_law_some" s__law_some (fa 63) (fd 63) := T.fn 63 rfl
theorem Tx.b__law_some (T : Tx K mg fa fd ca pa) : Binds K (fd 63) P__law_some [] := T.f__law_some.binds (ps := P__law_some) fun _ _ _ _ _ _ us hl => match us, hl with | [_], _ => rfl
theorem Tx.f__law_did (T : Tx K mg fa fd ca pa) : Fun K "_law_did" "_law_did" s__law_did (fa 64) (fd 64) := T.fn 64 rfl
theorem Tx.b__law_did (T : Tx K mg fa fd ca pa) : Binds K (fd 64) P__law_did [] := T.f__law_did.binds (ps := P__law_did) fun _ _ _ _ _ _ us hl => match us, hl with | [_], _ => rfl
theorem Tx.f__law_stepped (T : Tx K mg fa fd ca pa) : Fun K "_law_stepped" "_law_stepped" s__law_stepped (fa 65) (fd 65) := T.fn 65 rfl
theorem Tx.b__law_stepped (T : Tx K mg fa fd ca pa) : Binds K (fd 65) P__law_stepped [] := T.f__law_stepped.binds (ps := P__law_stepped) fun _ _ _ _ _ _ us hl => match us, hl with | [_, _, _], _ => rfl
theorem Tx.f__law_acted (T : Tx K mg fa fd ca pa) : Fun K "_law_acted" "_law_acted" s__law_acted (fa 66) (fd 66) := T.fn 66 rfl
theorem Tx.b__law_acted (T : Tx K mg fa fd ca pa) : Binds K (fd 66) P__law_acted [] := T.f__law_acted.binds (ps := P__law_acted) fun _ _ _ _ _ _ us hl => match us, hl with | [_, _, _, _], _ => rfl
theorem Tx.f_law (T : Tx K mg fa fd ca pa) : Fun K "law" "law" s_law (fa 67) (fd 67) := T.fn 67 rfl
theorem Tx.b_law (T : Tx K mg fa fd ca pa) : Binds K (fd 67) P_law [] := T.f_law.binds (ps := P_law) fun _ _ _ _ _ _ us hl => match us, hl with | [_], _ => rfl
theorem Tx.g_is_integer (T : Tx K mg fa fd ca pa) : mg "is_integer" = some (.ref (fa 0)) := T.gf 0 rfl
theorem Tx.g_is_place (T : Tx K mg fa fd ca pa) : mg "is_place" = some (.ref (fa 1)) := T.gf 1 rfl
theorem Tx.g_check_place (T : Tx K mg fa fd ca pa) : mg "check_place" = some (.ref (fa 2)) := T.gf 2 rfl
theorem Tx.g_divisors (T : Tx K mg fa fd ca pa) : mg "divisors" = some (.ref (fa 3)) := T.gf 3 rfl
theorem Tx.g_plus (T : Tx K mg fa fd ca pa) : mg "plus" = some (.ref (fa 4)) := T.gf 4 rfl
theorem Tx.g_minus (T : Tx K mg fa fd ca pa) : mg "minus" = some (.ref (fa 5)) := T.gf 5 rfl
theorem Tx.g_are_numbers (T : Tx K mg fa fd ca pa) : mg "are_numbers" = some (.ref (fa 6)) := T.gf 6 rfl
theorem Tx.g_is_colour (T : Tx K mg fa fd ca pa) : mg "is_colour" = some (.ref (fa 15)) := T.gf 7 rfl
theorem Tx.g_check_colour (T : Tx K mg fa fd ca pa) : mg "check_colour" = some (.ref (fa 16)) := T.gf 8 rfl
theorem Tx.g_is_row (T : Tx K mg fa fd ca pa) : mg "is_row" = some (.ref (fa 17)) := T.gf 9 rfl
theorem Tx.g_colour_at (T : Tx K mg fa fd ca pa) : mg "colour_at" = some (.ref (fa 18)) := T.gf 10 rfl
theorem Tx.g_is_kept (T : Tx K mg fa fd ca pa) : mg "is_kept" = some (.ref (fa 19)) := T.gf 11 rfl
theorem Tx.g_kept_net (T : Tx K mg fa fd ca pa) : mg "kept_net" = some (.ref (fa 20)) := T.gf 12 rfl
theorem Tx.g_least_cell (T : Tx K mg fa fd ca pa) : mg "least_cell" = some (.ref (fa 21)) := T.gf 13 rfl
theorem Tx.g__law_tape (T : Tx K mg fa fd ca pa) : mg "_law_tape" = some (.ref (fa 48)) := T.gf 14 rfl
theorem Tx.g__law_draw (T : Tx K mg fa fd ca pa) : mg "_law_draw" = some (.ref (fa 49)) := T.gf 15 rfl
theorem Tx.g__law_great (T : Tx K mg fa fd ca pa) : mg "_law_great" = some (.ref (fa 50)) := T.gf 16 rfl
theorem Tx.g__law_place (T : Tx K mg fa fd ca pa) : mg "_law_place" = some (.ref (fa 51)) := T.gf 17 rfl
theorem Tx.g__law_low (T : Tx K mg fa fd ca pa) : mg "_law_low" = some (.ref (fa 52)) := T.gf 18 rfl
theorem Tx.g__law_spots (T : Tx K mg fa fd ca pa) : mg "_law_spots" = some (.ref (fa 53)) := T.gf 19 rfl
theorem Tx.g__law_seen (T : Tx K mg fa fd ca pa) : mg "_law_seen" = some (.ref (fa 54)) := T.gf 20 rfl
theorem Tx.g__law_net (T : Tx K mg fa fd ca pa) : mg "_law_net" = some (.ref (fa 55)) := T.gf 21 rfl
theorem Tx.g__law_turned (T : Tx K mg fa fd ca pa) : mg "_law_turned" = some (.ref (fa 56)) := T.gf 22 rfl
theorem Tx.g__law_carried (T : Tx K mg fa fd ca pa) : mg "_law_carried" = some (.ref (fa 57)) := T.gf 23 rfl
theorem Tx.g__law_divisor (T : Tx K mg fa fd ca pa) : mg "_law_divisor" = some (.ref (fa 58)) := T.gf 24 rfl
theorem Tx.g__law_net_of (T : Tx K mg fa fd ca pa) : mg "_law_net_of" = some (.ref (fa 59)) := T.gf 25 rfl
theorem Tx.g__law_image (T : Tx K mg fa fd ca pa) : mg "_law_image" = some (.ref (fa 60)) := T.gf 26 rfl
theorem Tx.g__law_painted (T : Tx K mg fa fd ca pa) : mg "_law_painted" = some (.ref (fa 61)) := T.gf 27 rfl
theorem Tx.g__law_behind (T : Tx K mg fa fd ca pa) : mg "_law_behind" = some (.ref (fa 62)) := T.gf 28 rfl
theorem Tx.g__law_some (T : Tx K mg fa fd ca pa) : mg "_law_some" = some (.ref (fa 63)) := T.gf 29 rfl
theorem Tx.g__law_did (T : Tx K mg fa fd ca pa) : mg "_law_did" = some (.ref (fa 64)) := T.gf 30 rfl
theorem Tx.g__law_stepped (T : Tx K mg fa fd ca pa) : mg "_law_stepped" = some (.ref (fa 65)) := T.gf 31 rfl
theorem Tx.g__law_acted (T : Tx K mg fa fd ca pa) : mg "_law_acted" = some (.ref (fa 66)) := T.gf 32 rfl
theorem Tx.g_law (T : Tx K mg fa fd ca pa) : mg "law" = some (.ref (fa 67)) := T.gf 33 rfl
theorem Tx.g_Net (T : Tx K mg fa fd ca pa) : mg "Net" = some (.ref (ca 0)) := T.gc 0 rfl
theorem Tx.cl_Net (T : Tx K mg fa fd ca pa) : Cls K (ca 0) := T.cls 0 (by decide)
theorem Tx.g_Carpet (T : Tx K mg fa fd ca pa) : mg "Carpet" = some (.ref (ca 1)) := T.gc 1 rfl
theorem Tx.cl_Carpet (T : Tx K mg fa fd ca pa) : Cls K (ca 1) := T.cls 1 (by decide)
theorem Tx.g_Woven (T : Tx K mg fa fd ca pa) : mg "Woven" = some (.ref (ca 2)) := T.gc 2 rfl
theorem Tx.cl_Woven (T : Tx K mg fa fd ca pa) : Cls K (ca 2) := T.cls 2 (by decide)
theorem Tx.g_Attempt (T : Tx K mg fa fd ca pa) : mg "Attempt" = some (.ref (ca 3)) := T.gc 3 rfl
theorem Tx.cl_Attempt (T : Tx K mg fa fd ca pa) : Cls K (ca 3) := T.cls 3 (by decide)
theorem Tx.g_Loom (T : Tx K mg fa fd ca pa) : mg "Loom" = some (.ref (ca 4)) := T.gc 4 rfl
theorem Tx.cl_Loom (T : Tx K mg fa fd ca pa) : Cls K (ca 4) := T.cls 4 (by decide)
theorem Tx.m_Net_place_in_cell (T : Tx K mg fa fd ca pa) : Meth K (ca 0) "place_in_cell" (fa 11) := T.meth 0 rfl
theorem Tx.m_Net___eq__ (T : Tx K mg fa fd ca pa) : Meth K (ca 0) "__eq__" (fa 12) := T.meth 1 rfl
theorem Tx.m_Net_spots (T : Tx K mg fa fd ca pa) : Meth K (ca 0) "spots" (fa 13) := T.meth 2 rfl
theorem Tx.m_Net_cell (T : Tx K mg fa fd ca pa) : Meth K (ca 0) "cell" (fa 14) := T.meth 3 rfl
theorem Tx.m_Carpet_seen (T : Tx K mg fa fd ca pa) : Meth K (ca 2) "seen" (fa 26) := T.meth 4 rfl
theorem Tx.m_Carpet___getitem__ (T : Tx K mg fa fd ca pa) : Meth K (ca 2) "__getitem__" (fa 27) := T.meth 5 rfl
theorem Tx.m_Carpet___len__ (T : Tx K mg fa fd ca pa) : Meth K (ca 2) "__len__" (fa 28) := T.meth 6 rfl
theorem Tx.m_Carpet___eq__ (T : Tx K mg fa fd ca pa) : Meth K (ca 2) "__eq__" (fa 29) := T.meth 7 rfl
theorem Tx.m_Carpet___add__ (T : Tx K mg fa fd ca pa) : Meth K (ca 2) "__add__" (fa 30) := T.meth 8 rfl
theorem Tx.m_Attempt___enter__ (T : Tx K mg fa fd ca pa) : Meth K (ca 3) "__enter__" (fa 33) := T.meth 9 rfl
theorem Tx.m_Attempt___exit__ (T : Tx K mg fa fd ca pa) : Meth K (ca 3) "__exit__" (fa 34) := T.meth 10 rfl
theorem Tx.m_Loom___len__ (T : Tx K mg fa fd ca pa) : Meth K (ca 4) "__len__" (fa 38) := T.meth 11 rfl
theorem Tx.m_Loom___eq__ (T : Tx K mg fa fd ca pa) : Meth K (ca 4) "__eq__" (fa 39) := T.meth 12 rfl
theorem Tx.m_Loom_change (T : Tx K mg fa fd ca pa) : Meth K (ca 4) "change" (fa 40) := T.meth 13 rfl
theorem Tx.m_Loom_paint (T : Tx K mg fa fd ca pa) : Meth K (ca 4) "paint" (fa 41) := T.meth 14 rfl
theorem Tx.m_Loom_move (T : Tx K mg fa fd ca pa) : Meth K (ca 4) "move" (fa 42) := T.meth 15 rfl
theorem Tx.m_Loom_undo (T : Tx K mg fa fd ca pa) : Meth K (ca 4) "undo" (fa 43) := T.meth 16 rfl
theorem Tx.m_Loom_redo (T : Tx K mg fa fd ca pa) : Meth K (ca 4) "redo" (fa 44) := T.meth 17 rfl
theorem Tx.m_Loom_act (T : Tx K mg fa fd ca pa) : Meth K (ca 4) "act" (fa 45) := T.meth 18 rfl
theorem Tx.m_Loom_run (T : Tx K mg fa fd ca pa) : Meth K (ca 4) "run" (fa 46) := T.meth 19 rfl
theorem Tx.m_Loom_copy (T : Tx K mg fa fd ca pa) : Meth K (ca 4) "copy" (fa 47) := T.meth 20 rfl
theorem Tx.p_Net_numbers (T : Tx K mg fa fd ca pa) : PropOf K (ca 0) "numbers" (pa 9) (fa 9) := T.prop 0 rfl
theorem Tx.p_Net_size (T : Tx K mg fa fd ca pa) : PropOf K (ca 0) "size" (pa 10) (fa 10) := T.prop 1 rfl
theorem Tx.p_Carpet_net (T : Tx K mg fa fd ca pa) : PropOf K (ca 2) "net" (pa 24) (fa 24) := T.prop 2 rfl
theorem Tx.p_Carpet_text (T : Tx K mg fa fd ca pa) : PropOf K (ca 2) "text" (pa 25) (fa 25) := T.prop 3 rfl
theorem Tx.p_Loom_carpet (T : Tx K mg fa fd ca pa) : PropOf K (ca 4) "carpet" (pa 36) (fa 36) := T.prop 4 rfl
theorem Tx.p_Loom_log (T : Tx K mg fa fd ca pa) : PropOf K (ca 4) "log" (pa 37) (fa 37) := T.prop 5 rfl
theorem Tx.n0_own_numbers (T : Tx K mg fa fd ca pa) : NoAttr K (ca 0) "own_numbers" := T.noat 0 rfl
theorem Tx.n2_own_net (T : Tx K mg fa fd ca pa) : NoAttr K (ca 2) "own_net" := T.noat 1 rfl
theorem Tx.n2_own_text (T : Tx K mg fa fd ca pa) : NoAttr K (ca 2) "own_text" := T.noat 2 rfl
theorem Tx.n3_entries (T : Tx K mg fa fd ca pa) : NoAttr K (ca 3) "entries" := T.noat 3 rfl
theorem Tx.n4_own_net (T : Tx K mg fa fd ca pa) : NoAttr K (ca 4) "own_net" := T.noat 4 rfl
theorem Tx.n4_own_carpet (T : Tx K mg fa fd ca pa) : NoAttr K (ca 4) "own_carpet" := T.noat 5 rfl
theorem Tx.n4_earlier (T : Tx K mg fa fd ca pa) : NoAttr K (ca 4) "earlier" := T.noat 6 rfl
theorem Tx.n4_later (T : Tx K mg fa fd ca pa) : NoAttr K (ca 4) "later" := T.noat 7 rfl
theorem Tx.n4_entries (T : Tx K mg fa fd ca pa) : NoAttr K (ca 4) "entries" := T.noat 8 rfl
theorem Tx.mk0 (T : Tx K mg fa fd ca pa) : Mk K (ca 0) (fa 7) := T.maker 0 rfl
theorem Tx.mk2 (T : Tx K mg fa fd ca pa) : Mk K (ca 2) (fa 31) := T.maker 1 rfl
theorem Tx.mk3 (T : Tx K mg fa fd ca pa) : Mk K (ca 3) (fa 32) := T.maker 2 rfl
theorem Tx.mk4 (T : Tx K mg fa fd ca pa) : Mk K (ca 4) (fa 35) := T.maker 3 rfl
theorem Tx.z_len (T : Tx K mg fa fd ca pa) : mg "len" = none := T.blt 0 rfl
theorem Tx.z_all (T : Tx K mg fa fd ca pa) : mg "all" = none := T.blt 1 rfl
theorem Tx.z_isinstance (T : Tx K mg fa fd ca pa) : mg "isinstance" = none := T.blt 2 rfl
theorem Tx.z_range (T : Tx K mg fa fd ca pa) : mg "range" = none := T.blt 3 rfl
theorem Tx.z_list (T : Tx K mg fa fd ca pa) : mg "list" = none := T.blt 4 rfl
theorem Tx.z_max (T : Tx K mg fa fd ca pa) : mg "max" = none := T.blt 5 rfl
theorem Tx.z_min (T : Tx K mg fa fd ca pa) : mg "min" = none := T.blt 6 rfl
theorem Tx.z_enumerate (T : Tx K mg fa fd ca pa) : mg "enumerate" = none := T.blt 7 rfl
theorem Tx.z_abs (T : Tx K mg fa fd ca pa) : mg "abs" = none := T.blt 8 rfl
theorem Tx.z_int (T : Tx K mg fa fd ca pa) : mg "int" = none := T.blt 9 rfl
theorem Tx.z_bool (T : Tx K mg fa fd ca pa) : mg "bool" = none := T.blt 10 rfl
theorem Tx.z_tuple (T : Tx K mg fa fd ca pa) : mg "tuple" = none := T.blt 11 rfl
theorem Tx.z_str (T : Tx K mg fa fd ca pa) : mg "str" = none := T.blt 12 rfl
theorem Tx.ty (T : Tx K mg fa fd ca pa) {H : Hp} {j : Nat} {a dx : Addr} {fs : List (Str × V)} (hj : j < 5) (e : H a = some (.ins (ca j) dx fs)) : TyX K H (.ref a) (.ref (ca j)) := .base (.ins e (T.cls j hj) (T.ity j hj).1 T.cg.1 T.cg.2 (T.ity j hj).2)
theorem Tx.ne_Woven (T : Tx K mg fa fd ca pa) : PySem.W.findIn K (.ref (ca 2)) "__ne__" = some (some (.builtin "object.__ne__")) := T.ne
theorem Tx.sf_Woven (T : Tx K mg fa fd ca pa) : PySem.W.selfFirst K (ca 2) = true := T.sf
theorem Tx.fnin_getitem (T : Tx K mg fa fd ca pa) : PySem.W.fnIn K (fa 27) = true := T.fnin
theorem Tx.kit00 (T : Tx K mg fa fd ca pa) : PySem.W.kitOne K (.ref (ca 0)) (.ref (ca 0)) = some true := T.kit 0 rfl
theorem Tx.kit21 (T : Tx K mg fa fd ca pa) : PySem.W.kitOne K (.ref (ca 2)) (.ref (ca 1)) = some true := T.kit 1 rfl
theorem Tx.kit44 (T : Tx K mg fa fd ca pa) : PySem.W.kitOne K (.ref (ca 4)) (.ref (ca 4)) = some true := T.kit 2 rfl
end
end Cp
end
section
set_option Elab.async false
set_option linter.all false
set_option maxRecDepth 100000
set_option maxHeartbeats 4000000
/-! Own exceptions whose __init__ stores its one argument, over any built-in base. -/
namespace Xc
open PySem PySem.W PySem.Calls PyProof.Rows PySem.HandSPX Builtin Builtin.ObjectAttr
theorem refsT_cases (t : List Value) : ∀ l : List Value, refsT t l = true → (∃ c r, l = .ref c :: r ∧ refsT t r = true) ∨ l = t
  | [], e => .inr (beq_iff_eq.mp e)
  | .ref c :: r, e => .inl ⟨c, r, rfl, e⟩
  | .none :: _, e => .inr (beq_iff_eq.mp e)
  | .ellipsis :: _, e => .inr (beq_iff_eq.mp e)
  | .notImplemented :: _, e => .inr (beq_iff_eq.mp e)
  | .bool _ :: _, e => .inr (beq_iff_eq.mp e)
  | .int _ _ :: _, e => .inr (beq_iff_eq.mp e)
  | .float _ _ :: _, e => .inr (beq_iff_eq.mp e)
  | .str _ _ :: _, e => .inr (beq_iff_eq.mp e)
  | .bytes _ _ :: _, e => .inr (beq_iff_eq.mp e)
  | .type _ :: _, e => .inr (beq_iff_eq.mp e)
  | .builtin _ :: _, e => .inr (beq_iff_eq.mp e)
section
variable {B : String} {t : List Value}
theorem refsT_pass (S : StoreFacts B t "object.__setattr__" "object") (self : Value) : ∀ l : List Value, refsT t l = true → refuseLoop self "__setattr__" l = pure () := by
  intro l
  induction l with
  | nil =>
    intro e
    rcases refsT_cases t [] e with ⟨c, r', q, h⟩ | q
    · cases q
    · rw [q]; exact S.passes self
  | cons a r ih =>
    intro e
    rcases refsT_cases t (a :: r) e with ⟨c, r', q, h⟩ | q
    · obtain ⟨rfl, rfl⟩ := List.cons.inj q
      rw [refuseLoop_ref]; exact ih h
    · rw [q]; exact S.passes self
theorem refsT_contains (X : String) : ∀ l : List Value, refsT t l = true → l.contains (.type X) = t.contains (.type X) := by
  intro l
  induction l with
  | nil =>
    intro e
    rcases refsT_cases t [] e with ⟨c, r', q, h⟩ | q
    · cases q
    · rw [q]
  | cons a r ih =>
    intro e
    rcases refsT_cases t (a :: r) e with ⟨c, r', q, h⟩ | q
    · obtain ⟨rfl, rfl⟩ := List.cons.inj q
      rw [List.contains_cons, ih h]; rfl
    · rw [q]
end
section
variable {prog : Program} {w : World} {A : Around} {E : Value → Shared → Prop} {R : Result → Shared → Prop} {hp : Heap} {g : Array GenState} {d : Drawn} {t : Nat} {os : OsState}
theorem exc_osa {B : String} {bt : List Value} (S : StoreFacts B bt "object.__setattr__" "object") (hbt : bt.contains (.type "object") = true) {K : W.Frag} {name : Str} {tk : Tok} {v : Value} {x C : Addr} {fv : Array Value} {cd : ClassData} {rest : List Value}
    (X : K.In hp) (hx : hp.get? x = some { cls := .ref C, data := .fields fv }) (hcd : W.clsIn K C = some cd) (hmr0 : cd.mro = .ref C :: rest) (hm : refsT bt rest = true) (hh : cd.hasDict = true) (ha : W.findIn K (.ref C) name = some none)
    (hq : ∀ h' tk' dx, (∀ b o, b ≠ x → hp.get? b = some o → h'.get? b = some o) → hp.objs.size ≤ dx → dx ≠ x → h'.get? x = some { cls := .ref C, dict := some dx, data := .fields fv } →
      h'.Ns1 dx (fun y => if y = name then some v else none) → R (.ok (.ret .none)) ⟨h', g, d, tk', os⟩) :
    codeAny (model prog w) A (.call (.builtin "object.__setattr__") ⟨[.ref x, .str name tk, v], []⟩) R ⟨hp, g, d, t, os⟩ := by
  have I : W.InstAt hp x { cls := .ref C, data := .fields fv } C none := ⟨hx, rfl, rfl, trivial⟩
  have SF := F.store_object
  have ne : cd.mro.isEmpty = false := by rw [hmr0]; rfl
  have hm0 : refsT bt cd.mro = true := by rw [hmr0]; exact hm
  have hob : cd.mro.contains (.type "object") = true := (refsT_contains "object" _ hm0).trans hbt
  have hxs : x ≠ hp.objs.size := Nat.ne_of_lt (Heap.lt_size hx)
  have sub : W.Looks (model prog w) hp (isInstance (.ref x) (.type "object")) true := I.type.andThen (W.looks_mroIn X (by unfold W.mroIn; rw [hcd, Option.bind_some, if_neg (by rw [ne]; decide), hob]))
  refine codeAny_call_builtin SF.slot.plain SF.entry (@W.check_slot (model prog w) _ _ ⟨hp, g, d, t, os⟩ "object.__setattr__" "object" "__setattr__" (.ref x) [.str name tk, v] [] _ SF.kind SF.split sub (SF.args (.ref x) (.str name tk) v) ?_)
  have hmr : W.Looks (model prog w) hp (mroOf (.ref C)) cd.mro := (W.looks_clsIn X hcd).andThen .now
  have L3 : W.Looks (model prog w) hp (storeTaker? none) none := .now
  have hcls : W.Looks (model prog w) hp (classData C) cd := W.looks_clsIn X hcd
  rw [W.osa_eq, refuse_eq]
  refine wpAny_bind (wpAny_bind (I.type.at (wpAny_bind (hmr.at ?_))))
  rw [refsT_pass S _ _ hm0]
  refine wpAny_pure (wpAny_bind (I.type.at (wpAny_bind ((W.looks_findIn X ha).at (wpAny_bind (L3.at ?_))))))
  show wpAny _ _ (storeInOwnDict (.ref x) (.ref C) (.str name tk) name v false) _ _ _
  obtain ⟨nm, bs, mro, ns, qn, hd, sn, sb, ab, col, del⟩ := cd
  dsimp only at hh
  subst hh
  unfold storeInOwnDict ownDictForStores
  repeat (first | with_reducible refine store_in_new ?_ ?_ | with_reducible refine wpAny_loadPart_at hx ?_ | with_reducible refine hcls.at ?_ | wp_step)
  · exact ⟨_, #[], _, (Heap.get?_update_ne _ _ _ _ hxs.symm).trans (Heap.get?_push_at rfl rfl), rfl, fun e he => absurd he (by simp), fun _ => rfl⟩
  · intro h' tk' hn' hs
    have hx₁ : (hp.push { cls := .type "dict", data := .dict #[] }).get? x = some { cls := .ref C, data := .fields fv } := Heap.get?_push_of_some _ hx
    refine hq h' tk' hp.objs.size (fun b o hb ho => ?_) (Nat.le_refl _) hxs.symm ?_ hn'
    · exact (hs.2 b (Nat.ne_of_lt (Heap.lt_size ho))).trans ((Heap.get?_update_ne _ _ _ _ hb).trans (Heap.get?_push_of_some _ ho))
    · exact (hs.2 x hxs).trans (Heap.get?_update_self _ hx₁ rfl)
end
/-! ### the text of __init__ -/
def iA (f : Str) (p1 p2 : Pos) : Arguments := { posonlyargs := [], args := [{ arg := "self", annotation := none, pos := p1 }, { arg := f, annotation := none, pos := p2 }], vararg := none, kwonlyargs := [], kw_defaults := [], kwarg := none, defaults := [] }
def iB (f : Str) (q1 q2 q3 q4 : Pos) : List Stmt := [.Assign [.Attribute (.Name "self" q1) f q2] (.Name f q3) q4]
def iS (f : Str) : Scope := { kind := .function, names := [(PySem.Str.ofString "self", .local), (f, .local)], isGenerator := false, isCoroutine := false, more := [] }
/-- what is to be known of the field's name -/
structure FldOk (f : Str) : Prop where
  b1 : ∀ (q : Str) (p1 p2 q1 q2 q3 q4 : Pos) (kV doc pm : Value) (an : Option Addr) (cdv ct a v : Value), bindArgs (fnOf "__init__" q (iA f p1 p2) (iB f q1 q2 q3 q4) (iS f) .none kV doc pm an cdv ct) ⟨[a, v], []⟩ = pure [(("self" : Str), a), (f, v)]
  b2 : ∀ a v : Value, ([(("self" : Str), a), (f, v)].all fun y => (iS f).names.lookup y.1 == some .local || (iS f).names.lookup y.1 == some .cell) = true
  b3 : ∀ (q : Str) (L fI : Addr) (cdv a v : Value), bindL (envOfC q (iS f) L fI cdv).kindOf [(("self" : Str), a), (f, v)] (fun _ => none) "self" = some a
  b4 : ∀ (q : Str) (L fI : Addr) (cdv a v : Value), bindL (envOfC q (iS f) L fI cdv).kindOf [(("self" : Str), a), (f, v)] (fun _ => none) f = some v
  b5 : ∀ (q : Str) (L fI : Addr) (cdv : Value), (envOfC q (iS f) L fI cdv).kindOf "self" = some .local
  b6 : ∀ (q : Str) (L fI : Addr) (cdv : Value), (envOfC q (iS f) L fI cdv).kindOf f = some .local
  b7 : (f == ("__debug__" : Str)) = false
theorem fld_value : FldOk "value" := ⟨by intros; rfl, by intros; rfl, by intros; first | rfl | with_unfolding_all rfl | kernel_rfl, by intros; first | rfl | with_unfolding_all rfl | kernel_rfl, by intros; rfl, by intros; rfl, by decide⟩
theorem fld_index : FldOk "index" := ⟨by intros; rfl, by intros; rfl, by intros; first | rfl | with_unfolding_all rfl | kernel_rfl, by intros; first | rfl | with_unfolding_all rfl | kernel_rfl, by intros; rfl, by intros; rfl, by decide⟩
structure Own (K : Frag) (mg : Str → Option Value) (x f : Str) (C fI : Addr) (B newId initId : String) (bt : List Value) : Prop where
  bf : ExcBaseFacts B newId initId bt
  sf : StoreFacts B bt "object.__setattr__" "object"
  hbt : bt.contains (.type "object") = true
  fld : FldOk f
  gC : mg x = some (.ref C)
  cls : ∃ nm q N bs bm sn sub ab col dd k0 k1 k2 k3 k5, K.lookup C = some (excClassObj nm q C N bs bm true sn sub ab col dd k0 k1 k2 k3 k5 newId) ∧ refsT bt bm = true
  sa : findIn K (.ref C) "__setattr__" = some (some (.builtin "object.__setattr__"))
  ga : findIn K (.ref C) "__getattribute__" = some (some (.builtin "BaseException.__getattribute__"))
  gg : findIn K (.ref C) "__getattr__" = some none
  noN : findIn K (.ref C) f = some none
  iC : findIn K (.ref C) "__init__" = some (some (.ref fI))
  tC : typeIn K (.ref fI) = some (.type "function")
  kC : keepIn K (.ref C) = true
  exC : subIn K (.ref C) (.type "BaseException") = some true
  tyC : typeIn K (.ref C) = some (.type "type")
  hdC : hasDictIn K C = true
  fn : ∃ (q : Str) (oc : Value) (od : Option Addr) (doc pm : Value) (an : Option Addr) (cdv ct kV : Value) (osl : Array (Option Value)) (p1 p2 q1 q2 q3 q4 : Pos),
    K.lookup fI = some ⟨oc, od, .func (fnOf "__init__" q (iA f p1 p2) (iB f q1 q2 q3 q4) (iS f) .none kV doc pm an cdv ct), osl⟩ ∧ codeIn K cdv q = true
theorem ldC {M : Model} {s : Shared} {name : Str} {scope : Scope} {L a : Addr} {cd : Value} {m : Str → Option Value} {x : Str} {pos : Pos} {v : Value} {Q : Value → Shared → Prop} {A : Around} {E : Value → Shared → Prop} (hn : s.heap.Ns L m) (hv : m x = some v) (h : Q v s)
    (hk : scope.kind = .function) (hl : (envOfC name scope L a cd).kindOf x = some .local) (hd : (x == ("__debug__" : Str)) = false) :
    wpAny M A (eval (.Name x pos) (envOfC name scope L a cd)) Q E s := wpAny_Name (wpAny_loadName_local hk hl hn hv h) hd
/-- what __init__ leaves of a fresh exception at x -/
structure InitEnd (h h' : Heap) (x C dx t1 : Addr) (f : Str) (v : Value) : Prop where
  keep : ∀ b o, b ≠ x → h.get? b = some o → h'.get? b = some o
  obj : h'.get? x = some { cls := .ref C, dict := some dx, data := .fields #[.ref t1, .none, .none, .none, .bool false, .none] }
  dbig : h.objs.size ≤ dx
  dne : dx ≠ x
  ns : h'.Ns1 dx (fun y => if y = f then some v else none)
/-- a made one -/
structure Made (h h' : Heap) (e C d : Addr) (f : Str) (v : Value) : Prop where
  keep : ∀ b o, h.get? b = some o → h'.get? b = some o
  new : h.objs.size ≤ e
  obj : ∃ t1 : Addr, h'.get? e = some { cls := .ref C, dict := some d, data := .fields #[.ref t1, .none, .none, .none, .bool false, .none] }
  dbig : h.objs.size ≤ d
  dne : d ≠ e
  ns : h'.Ns1 d (fun y => if y = f then some v else none)
section
variable {prog : Program} {w : World} {A : Around} {E : Value → Shared → Prop} {R : Result → Shared → Prop} {s : Shared} {K : Frag} {mg : Str → Option Value} {C fI : Addr} {x f : Str} {B newId initId : String} {bt : List Value}
theorem init_ok (T : Own K mg x f C fI B newId initId bt) {a t0 : Addr} {v : Value} (X : K.In s.heap) (hlim : s.heap.NoLimit) (hx : s.heap.get? a = some (excO C t0)) (hroom : A.depth < recursionLimit)
    (hq : ∀ h' tk dx, InitEnd s.heap h' a C dx t0 f v → R (.ok (.ret .none)) { s with heap := h', toks := tk }) :
    codeAny (model prog w) A (.call (.ref fI) ⟨[.ref a, v], []⟩) R s := by
  obtain ⟨q, oc, od, doc, pm, an, cdv, ct, kV, osl, p1, p2, q1, q2, q3, q4, ho, hcd⟩ := T.fn
  obtain ⟨nm, qn, N, bs, bm, sn, sub, ab, col, dd, k0, k1, k2, k3, k5, hC, hbm⟩ := T.cls
  have hcl : clsIn K C = some { name := nm, bases := bs, mro := .ref C :: bm, ns := N, qualname := qn, hasDict := true, slotNames := sn, subclasses := sub, abstract := ab, collection := col, hasDel := false } := by unfold clsIn; rw [hC] <;> rfl
  refine Att.call_fn (binds := [("self", .ref a), (f, v)]) X hlim ho hcd hroom (BindsTo.of_eq (T.fld.b1 ..)) (T.fld.b2 ..) (fun s₁ IC => ?_) rfl rfl rfl
  obtain ⟨h₁, tk₁, rfl⟩ := IC.toInCall.same
  have k : ∀ b o, s.heap.get? b = some o → h₁.get? b = some o := IC.toInCall.keep
  have hn := IC.toInCall.ns
  have hxL : s.heap.objs.size ≠ a := Nat.ne_of_gt (Heap.lt_size hx)
  have X₁ : K.In h₁ := X.keeps k
  have hx₁ := k _ _ hx
  show wpAny _ _ (execs _ _) _ _ _
  refine wpAny_execs_cons (plainObj_wpAny_Assign_Attribute ?_)
  refine ldC (v := v) hn (T.fld.b4 ..) (ldC (v := .ref a) hn (T.fld.b3 ..) ?_ rfl (T.fld.b5 ..) (by decide)) rfl (T.fld.b6 ..) T.fld.b7
  refine set_plain X₁ (ox := excO C t0) (od := none) ⟨hx₁, rfl, rfl, trivial⟩ T.sa ?_
  refine exc_osa T.sf T.hbt X₁ hx₁ hcl rfl hbm rfl T.noN (fun h₃ tk₃ dx k₃ dn dne hx₃ hn₃ => ?_)
  show wpAny _ _ (execs _ _) _ _ _
  have z : s.heap.objs.size < h₁.objs.size := hn.lt
  exact wpAny_execs_nil (hq h₃ tk₃ dx ⟨fun b o hb e => k₃ b o hb (k b o e), hx₃, Nat.le_of_lt (Nat.lt_of_lt_of_le z dn), dne, hn₃⟩)
theorem made_ok (T : Own K mg x f C fI B newId initId bt) {v : Value} (X : K.In s.heap) (hlim : s.heap.NoLimit) (hroom : A.depth + 1 < recursionLimit)
    (hq : ∀ h' tk e d, Made s.heap h' e C d f v → R (.ok (.ret (.ref e))) { s with heap := h', toks := tk }) :
    codeAny (model prog w) A (.call (.ref C) ⟨[v], []⟩) R s := by
  obtain ⟨nm, q, N, bs, bm, sn, sub, ab, col, dd, k0, k1, k2, k3, k5, hC, hbm⟩ := T.cls
  obtain ⟨hp, g, d, tk, os⟩ := s
  have k : ∀ b o, hp.get? b = some o → ((hp.push (kdv_tup [v])).push (excO C hp.objs.size)).get? b = some o := fun b o e => Heap.get?_push_of_some _ (Heap.get?_push_of_some _ e)
  have hget : ((hp.push (kdv_tup [v])).push (excO C hp.objs.size)).get? (hp.objs.size + 1) = some (excO C hp.objs.size) := by heap_get
  have one : [v].length ≤ sizeLine := by rw [sizeLine_eq]; exact (by decide : 1 ≤ 16777216)
  refine call_own T.bf (fun X => refsT_contains X bm hbm) (X _ _ hC) (looks_findIn X T.iC) (fun self => bind_fn X self T.tC) one ?_
  refine init_ok (s := ⟨(hp.push (kdv_tup [v])).push (excO C hp.objs.size), g, d, tk, os⟩) T (X.keeps k) (hlim.keeps k) hget ?_ fun h' tk' dx ⟨k', hx, dn, dne, hns⟩ => ?_
  · show A.depth + 1 < recursionLimit
    exact hroom
  · have old : ∀ b o, hp.get? b = some o → h'.get? b = some o := fun b o e => k' b o (Nat.ne_of_lt (Nat.lt_succ_of_lt (Heap.lt_size e))) (k b o e)
    have z : hp.objs.size + 1 + 1 ≤ dx := by
      first
        | (simpa only [Heap.size_push] using dn)
        | exact dn
        | (have q := dn; rw [Heap.size_push, Heap.size_push] at q; exact q)
    exact ⟨rfl, hq h' tk' (hp.objs.size + 1) dx ⟨old, Nat.le_succ _, ⟨_, hx⟩, Nat.le_trans (Nat.le_trans (Nat.le_succ _) (Nat.le_succ _)) z, dne, hns⟩⟩
end
end Xc
namespace Cp
open PySem PySem.Spec PyProof.Rows L2
theorem relO_own {v : V} {v' : Value} {fl : Str} (r : RelV v v') (f : Str) : RelO (List.lookup f [(fl, v)]) (if f = fl then some v' else none) := by
  by_cases hw : f = fl
  · subst hw
    rw [if_pos rfl]
    have q : List.lookup f [(f, v)] = some v := by simp [List.lookup]
    rw [q]
    exact r
  · rw [if_neg hw]
    have qw : (f == fl) = false := by simpa using hw
    have q2 : List.lookup f [(fl, v)] = none := by simp [List.lookup, qw]
    rw [q2]
    trivial
section
variable {X : Cx} {C fI : Addr} {x f : Str} {B newId initId : String} {bt : List Value}
/-- C(e) -/
def tMkX (C : Addr) (f : Str) (ta : TA) : L2.St → Hp → XK → Prop := fun σ H Q => ta σ H fun vs H1 => ∃ v, vs = [v] ∧ ∀ d, H1 d = none → Q (.ref C) (some d) (upd H1 d (.xd [(f, v)]))
/-- as it lies when it is made: its context is None, its record has six fields -/
theorem pmk_x {a : Expr} {ta : TA} {p pos : Pos} (T : Xc.Own X.K X.mg x f C fI B newId initId bt) (hr : X.A.depth + 1 < recursionLimit) (ha : PA X [a] ta) (hg : Gl X x) (hdb : (x == ("__debug__" : Str)) = false := by decide)
    (he : starEach (a :: []) X.env = (false, eval a X.env) :: starEach [] X.env := by rfl) (hpl : (backTo pos (starEach [] X.env)).any (·.1) = false := by rfl) :
    ∀ (pins : List (Addr × Obj)) (s : Shared) (σ : L2.St) (H : Hp) (Q : XK), Inv X pins σ H s → tMkX C f ta σ H Q → wpAny (model X.prog X.w) X.A (eval (.Call (.Name x p) [a] [] pos) X.env) (fun u s' => L2N.MkP X pins σ Q u s' ∧ L2H.Six u s') X.xe s := by
  intro pins s σ H Q I h
  refine wpAny_Call_Name_kw (ld_glob I hg T.gC ?_ hdb)
  refine PySem.W.callWith_K (h₀ := X.base) I.ok.mod.kin T.kC (thn (ha.run pos pins s σ H _ I h) fun us s1 hh => ?_) he hpl
  obtain ⟨vs, H1, I1, r1, v, ev, q1⟩ := hh
  subst ev
  refine ⟨I1.kIn, ?_⟩
  cases r1 with
  | cons rv rn =>
    rename_i v' us'
    cases rn
    show wpAny _ _ (call (.ref C) [v']) _ _ _
    have hlim := I1.nolimit
    obtain ⟨hp, g, dr, tk, os⟩ := s1
    refine wpAny_call (Xc.made_ok T I1.kIn hlim hr fun h' tk' e d M => ?_)
    obtain ⟨t1, hoe⟩ := M.obj
    have hns := M.ns
    obtain ⟨G', g1, g2⟩ := restrict h' fun b => decide (b ≠ e)
    have gk : ∀ b, b ≠ e → G'.get? b = h'.get? b := fun b hb => g1 b (decide_eq_true hb)
    have ge : G'.get? e = none := g2 e (by simp)
    have old : ∀ b o, hp.get? b = some o → G'.get? b = some o := fun b o q => (gk b (Nat.ne_of_lt (Nat.lt_of_lt_of_le (Heap.lt_size q) M.new))).trans (M.keep b o q)
    have ob : ObjOk X.prog X.w (upd H1 d (.xd [(f, v)])) G' d (.xd [(f, v)]) :=
      ⟨_, hns.at (fun o q => (gk d M.dne).trans q), fun f => relO_own rv f⟩
    have J : Inv X pins σ (upd H1 d (.xd [(f, v)])) ⟨G', g, dr, tk', os⟩ := I1.laid (t' := tk') old M.dbig ob
    refine ⟨⟨e, _, _, ⟨G', g, dr, tk', os⟩, _, .ref C, some d, rfl, J, fun b o q => ?_, ge, hoe, ⟨rfl, rfl, fun vs q => by cases q; rfl⟩, rfl, rfl, ?_, rfl, I1.bare, raises_own T.exC T.tyC, q1 d (I1.hok.fresh M.dbig)⟩, fun a oe vs ea hg2 hd2 => ?_⟩
    · by_cases hb : b = e
      · have q' : G'.get? b = some o := q
        rw [hb, ge] at q'; cases q'
      · exact (gk b hb).symm.trans q
    · rw [upd_ne (Ne.symm M.dne)]
      exact I1.hok.fresh M.new
    · cases ea
      have hg3 : h'.get? e = some oe := hg2
      rw [hoe] at hg3
      cases hg3
      cases hd2
      show (4 : Nat) < 6
      decide
end
end Cp
end
section
set_option Elab.async false
set_option linter.all false
set_option maxRecDepth 100000
set_option maxHeartbeats 4000000
namespace Cp
open PySem PySem.Spec PyProof.Rows L2
section
variable {X : Cx} {C : Addr} {bmB : List Value} {B newId initId : String}
/-- C() of an own class without __init__ -/
theorem pmk_own0 {x : Str} {p pos : Pos} (F : ExcBaseFacts B newId initId bmB) (q : PySem.W.excIn X.K C bmB newId = true) (gC : X.mg x = some (.ref C)) (kC : PySem.W.keepIn X.K (.ref C) = true) (r : Raises X (.ref C)) (hg : Gl X x) (hdb : (x == ("__debug__" : Str)) = false := by decide) :
    PMk X (.Call (.Name x p) [] [] pos) (fun _ H Q => Q (.ref C) none H) := by
  intro pins s σ H Q I h
  refine wpAny_Call_Name_kw (ld_glob I hg gC ?_ hdb)
  refine PySem.W.callWith_K0 (first := []) I.kIn kC ?_
  show wpAny _ _ (call (.ref C) []) _ _ _
  obtain ⟨bm, N, nm, qn, bs, hdct, sn, sub, ab, col, dd, k0, k1, k2, k3, k5, mN, hC, hN, hni, T⟩ := exc_obj I.kIn q
  refine wpAny_call_exc_subT F T hC hN hni (fun h' e hm => ?_) (Nat.zero_le _)
  exact mk_of I hm r h (I.hok.gone hm.new)
end
section
variable {P : Program} {w : World} {K : PySem.W.Frag} {mg : Str → Option Value} {base : Heap}
/-- as Fun.ok, for a def that may raise what has no context -/
theorem okN {x qual : Str} {st : Stmt} {f : Addr} {fd : FuncData} {N ps : List Str} {k : Nat} {sp : Sp} (F : Fun K x qual st f fd) (S : FnScope N ps (defScope st)) (len : ∀ vs H Q E, sp vs H Q E → vs.length = ps.length)
    (hbody : ∀ (cdv : Value) (A : Around) (outer : List Env) (s : Shared) (H : Hp) (vs : List V) (Q : VK) (E : XK), Room k (A.deeper (envOfC qual (defScope st) s.heap.objs.size f cdv)) → sp vs H Q E →
      ∃ t, PSs (cxOf (L2N.CX P w) P w K mg base N qual (defScope st) f cdv A outer s H E) (defBody st) t ∧ t { nx := fun _ H' => Q .non H', rt := Q } (start N vs) H) : FnOk P w K mg base (L2N.CX P w) (k + 1) f fd ps sp := by
  obtain ⟨oc, od, kV, doc, pm, an, cdv, ct, osl, rfl, lk, hcd⟩ := F.ex
  exact fn_of lk hcd S len fun A outer s H vs Q E hr hsp => hbody cdv A outer s H vs Q E hr hsp
/-- no exception of such a def is let out -/
theorem passLN {X : Cx} : Passes (L2N.CX X.prog X.w) X E0 := fun _ _ _ _ _ _ _ h => by
  obtain ⟨_, _, _, _, _, _, _, _, _, _, _, _, z⟩ := h
  exact z.elim
theorem passLNp {P : Program} {w : World} {X : Cx} : Passes (L2N.CX P w) X E0 := fun _ _ _ _ _ _ _ h => by
  obtain ⟨_, _, _, _, _, _, _, _, _, _, _, _, z⟩ := h
  exact z.elim
end
/-- the exceptions' classes: InvalidColour 0 (its __init__ 1), RunFailed 2 (3), NothingToUndo 4, CarpetError 5, LimitExceeded 6 -/
structure TxE (K : PySem.W.Frag) (mg : Str → Option Value) (ea : Nat → Addr) : Prop where
  col : Xc.Own K mg "InvalidColour" "value" (ea 0) (ea 1) "ValueError" "ValueError.__new__" "ValueError.__init__" veT
  run : Xc.Own K mg "RunFailed" "index" (ea 2) (ea 3) "ArithmeticError" "ArithmeticError.__new__" "ArithmeticError.__init__" aeT
  gU : mg "NothingToUndo" = some (.ref (ea 4))
  xU : PySem.W.excIn K (ea 4) reT "RuntimeError.__new__" = true
  kU : PySem.W.keepIn K (.ref (ea 4)) = true
  bU : PySem.W.subIn K (.ref (ea 4)) (.type "BaseException") = some true
  tU : PySem.W.typeIn K (.ref (ea 4)) = some (.type "type")
  gE : mg "CarpetError" = some (.ref (ea 5))
  gL : mg "LimitExceeded" = some (.ref (ea 6))
  mUU : PySem.W.exmOne K (.ref (ea 4)) (.ref (ea 4)) = some true
  mRU : PySem.W.exmOne K (.ref (ea 2)) (.ref (ea 4)) = some false
  mRR : PySem.W.exmOne K (.ref (ea 2)) (.ref (ea 2)) = some true
  mCE : PySem.W.exmOne K (.ref (ea 0)) (.ref (ea 5)) = some true
  mCL : PySem.W.exmOne K (.ref (ea 0)) (.ref (ea 6)) = some false
end Cp
end
section
set_option Elab.async false
set_option linter.all false
set_option maxRecDepth 100000
set_option maxHeartbeats 4000000
/-! Rules that the hand layer has not: operators, subscripts, len of own classes; attributes as targets. -/
namespace Cp
open PySem PySem.Spec PyProof.Rows L2

section
variable {X : Cx} {CX : CXT} {k : Nat} {C f : Addr} {fd : FuncData} {ps : List Str} {sp : Sp} {E : XK} {pins : List (Addr × Obj)} {σ : L2.St} {H : Hp} {s : Shared} {dvs : List V} {ds : List Value}
/-- the callee runs, one unit deeper -/
theorem run_in1 {Q : VK} {us : List Value} {vs : List V} (F : FnOk X.prog X.w X.K X.mg X.base CX k f fd ps sp) (hr : Room (k + 1) X.A) (hb : Binds X.K fd ps ds) (hd : Vals dvs ds) (hx : Passes CX X E)
    (I : Inv X pins σ H s) (r : Vals vs us) (h : sp (vs ++ dvs) H Q E) : wpAny (model X.prog X.w) X.A.in1 (call (.ref f) us) (EP X pins σ Q) X.xe s := by
  have r2 : Vals (vs ++ dvs) (us ++ ds) := r.append hd
  have hl : (us ++ ds).length = ps.length := by rw [← r2.length]; exact F.len _ _ _ _ h
  refine wpAny_call (codeAny_mono (F.run X.A.in1 X.stack s H ⟨us, []⟩ (us ++ ds) (vs ++ dvs) Q E hr.in1 I.env0.in1 (hb s us I.kIn hl) r2 h) fun r s' hq => ?_)
  cases r with
  | error e => exact hx pins σ H s e s' I hq
  | ok fl =>
    cases fl with
    | ret u => exact I.after hq
    | next => exact False.elim hq
    | brk => exact False.elim hq
    | cont => exact False.elim hq
/-- two instances of the class at C -/
def rOwn2 (C : Addr) (sp : Sp) (E : XK) : R2 := fun x y H Q => ∃ a dx fs b dy gs, x = .ref a ∧ y = .ref b ∧ H a = some (.ins C dx fs) ∧ H b = some (.ins C dy gs) ∧ sp [x, y] H Q E
theorem op_ownEq (m : Meth X.K C "__eq__" f) (F : FnOk X.prog X.w X.K X.mg X.base CX k f fd ps sp) (hr : Room k X.A) (hb : Binds X.K fd ps []) (hx : Passes CX X E) : OpR X (compareOp .Eq) (rOwn2 C sp E) := by
  intro pins s σ H x y v u Q I rx ry h
  obtain ⟨a, dx, fs, b, dy, gs, rfl, rfl, ha, hb', q⟩ := h
  cases (show v = Value.ref a from rx)
  cases (show u = Value.ref b from ry)
  obtain ⟨mA, J, _⟩ := ins_get I.hok ha
  obtain ⟨mB, J', _⟩ := ins_get I.hok hb'
  obtain ⟨od, J, _⟩ := J.look
  obtain ⟨od', J', _⟩ := J'.look
  obtain ⟨m0, hF⟩ := I.fr
  show wpAny (model X.prog X.w) X.A (richCompare .Eq (.ref a) (.ref b)) (EP X pins σ Q) X.xe s
  refine PySem.W.cmp_K (op := .Eq) (tb := .ref C) hr.units0 hF I.ok.mod.kin J J'.type (by simp [PySem.W.notFirst]) m.at_ m.fn ?_
  refine wpAny_mono (run_fn (us := [.ref a, .ref b]) (vs := [.ref a, .ref b]) F hr hb .nil hx I (.cons rfl (.cons rfl .nil)) q) (fun w s' z => ?_) fun _ _ x => x
  obtain ⟨z', H', I', rz, qz⟩ := z
  exact SlX.cmpback rz ⟨z', H', I', rz, qz⟩
/-- != by the class's own == -/
def rOwnNe (C : Addr) (sp : Sp) (E : XK) : R2 := fun x y H Q => ∃ a dx fs b dy gs, x = .ref a ∧ y = .ref b ∧ H a = some (.ins C dx fs) ∧ H b = some (.ins C dy gs) ∧ sp [x, y] H (fun v H' => ∃ k, v = .bl k ∧ Q (.bl !k) H') E
theorem op_ownNe (m : Meth X.K C "__eq__" f) (hn : PySem.W.findIn X.K (.ref C) "__ne__" = some (some (.builtin "object.__ne__"))) (hm : PySem.W.mroIn X.K C (.type "object") = some true) (F : FnOk X.prog X.w X.K X.mg X.base CX k f fd ps sp) (hr : Room (k + 1) X.A) (hb : Binds X.K fd ps []) (hx : Passes CX X E) :
    OpR X (compareOp .NotEq) (rOwnNe C sp E) := by
  intro pins s σ H x y v u Q I rx ry h
  obtain ⟨a, dx, fs, b, dy, gs, rfl, rfl, ha, hb', q⟩ := h
  cases (show v = Value.ref a from rx)
  cases (show u = Value.ref b from ry)
  obtain ⟨mA, J, _⟩ := ins_get I.hok ha
  obtain ⟨mB, J', _⟩ := ins_get I.hok hb'
  obtain ⟨od, J, _⟩ := J.look
  obtain ⟨od', J', _⟩ := J'.look
  have KX := I.kIn
  have FN := PySem.F.cmp_object.ne
  have hu : X.A.units + 1 < cLine := hu_of hr
  show wpAny (model X.prog X.w) X.A (richCompare .NotEq (.ref a) (.ref b)) (EP X pins σ Q) X.xe s
  unfold richCompare
  simp only [oneThing_ref]
  refine wpAny_holding ?_
  refine wpAny_bind (wpAny_cRoomFor hr.units0 ?_)
  rw [cmpInfo_NotEq]
  dsimp only
  refine wpAny_bind (J.type.here (wpAny_bind (J'.type.here ?_)))
  rw [show (Value.ref C != Value.ref C) = false from by simp]
  simp only [Bool.false_eq_true, if_false]
  refine wpAny_bind (wpAny_pure ?_)
  simp only [Bool.false_eq_true, if_false]
  have sub : PySem.W.Looks (model X.prog X.w) s.heap (isInstance (.ref a) (.type "object")) true := J.type.andThen (PySem.W.looks_mroIn KX hm)
  have one : wpAny (model X.prog X.w) X.A (call (.builtin "object.__ne__") [.ref a, .ref b]) (fun r s' => ∃ k, r = .bool (!k) ∧ ∃ H', Inv X pins σ H' s' ∧ Q (.bl !k) H') X.xe s := by
    refine wpAny_call (codeAny_call_builtin FN.plain PySem.F.cmpEntry_ne (PySem.W.check_slot PySem.F.cmpKind_ne PySem.F.cmpSplit_ne sub (PySem.F.cmpArgs_ne _ _) ?_))
    unfold Builtin.«object.__ne__»
    refine wpAny_bind (m := slotArgs "__ne__" 1 _) (wpAny_pure ?_)
    refine wpAny_bind (wpAny_cRoomFor (by show X.A.units + 1 < cLine; exact hu) ?_)
    refine wpAny_bind (PySem.W.ifBound_K KX J m.at_ m.fn ?_)
    refine wpAny_mono (run_in1 (us := [.ref a, .ref b]) (vs := [.ref a, .ref b]) F hr hb .nil hx I (.cons rfl (.cons rfl .nil)) q) (fun w s' z => ?_) fun _ _ x => x
    obtain ⟨z', H', I', rz, k', rfl, qz⟩ := z
    cases (show w = Value.bool k' from rz)
    exact wpAny_bind (m := truthy (.bool k')) (wpAny_truthy_bool (wpAny_pure ⟨k', rfl, H', I', qz⟩))
  have two : wpAny (model X.prog X.w) X.A (tryCompare (.ref a) "__ne__" (.ref b)) (fun r s' => ∃ k, r = some (.bool (!k)) ∧ ∃ H', Inv X pins σ H' s' ∧ Q (.bl !k) H') X.xe s := by
    simp only [tryCompare, callSpecialIfBound?, bindSpecialIfBound?]
    refine wpAny_bind (wpAny_holding (wpAny_bind (wpAny_bind (wpAny_bind (J.type.here ((PySem.W.looks_findIn KX hn).here ?_))))))
    simp only [FN.bind]
    refine wpAny_bind (wpAny_askSetting (wpAny_ite ?_))
    have fin : wpAny (model X.prog X.w) X.A (call (.builtin "object.__ne__") ([.ref a] ++ [.ref b]) >>= fun v => pure (some v)) (fun a s' =>
        wpAny (model X.prog X.w) X.A (match a with
            | some Value.notImplemented => pure none
            | none => pure none
            | some r => pure (some r)) (fun r s' => ∃ k, r = some (Value.bool !k) ∧ ∃ H', Inv X pins σ H' s' ∧ Q (V.bl !k) H') X.xe s') X.xe s := by
      refine wpAny_bind (wpAny_mono one (fun r s' z => ?_) fun _ _ x => x)
      obtain ⟨k', rfl, z⟩ := z
      exact wpAny_pure (wpAny_pure ⟨k', rfl, z⟩)
    split
    · exact wpAny_bind (wpAny_pure (wpAny_pure fin))
    · exact wpAny_tryCatch (wpAny_bind (wpAny_pure (wpAny_pure fin)))
  refine wpAny_bind (wpAny_mono two (fun r s' z => ?_) fun _ _ e => e)
  obtain ⟨k', rfl, H', I', qz⟩ := z
  exact wpAny_pure ⟨.bl !k', H', I', rfl, qz⟩
/-- a op t, t a tuple, the class of a has op -/
def rOwnT (C : Addr) (sp : Sp) (E : XK) : R2 := fun x y H Q => ∃ a dx fs b xs, x = .ref a ∧ y = .ref b ∧ H a = some (.ins C dx fs) ∧ H b = some (.tup xs) ∧ sp [x, y] H Q E
theorem op_ownAdd (m : Meth X.K C "__add__" f) (hc : PySem.W.selfFirst X.K C = true) (F : FnOk X.prog X.w X.K X.mg X.base CX k f fd ps sp) (hr : Room k X.A) (hb : Binds X.K fd ps []) (hx : Passes CX X E) :
    OpR X (binaryOp .Add) (rOwnT C sp E) := by
  intro pins s σ H x y v u Q I rx ry h
  obtain ⟨a, dx, fs, b, xs, rfl, rfl, ha, hb', q⟩ := h
  cases (show v = Value.ref a from rx)
  cases (show u = Value.ref b from ry)
  obtain ⟨mA, J, _⟩ := ins_get I.hok ha
  obtain ⟨od, J, _⟩ := J.look
  have KX := I.kIn
  obtain ⟨cd, rest, hcd, hmro⟩ := PySem.W.ksp_first hc
  obtain ⟨_, its, _, ob, hob, hcl, _⟩ := I.hok b _ hb'
  have fin : wpAny (model X.prog X.w) X.A (call (.ref f) [.ref a, .ref b]) (PySem.W.CmpBack (EP X pins σ Q)) X.xe s := by
    refine wpAny_mono (run_fn (us := [.ref a, .ref b]) (vs := [.ref a, .ref b]) F hr hb .nil hx I (.cons rfl (.cons rfl .nil)) q) (fun w s' z => ?_) fun _ _ x => x
    obtain ⟨z', H', I', rz, qz⟩ := z
    exact SlX.cmpback rz ⟨z', H', I', rz, qz⟩
  have one := PySem.W.ksp_try KX J m.at_ m.fn fin
  have L1 : PySem.W.Looks (model X.prog X.w) s.heap (typeOf (.ref a)) (.ref C) := J.type
  have L3 : PySem.W.Looks (model X.prog X.w) s.heap (fillsNumberSlot (.ref C) "add") true := PySem.W.fills_K KX hcd hmro (by rw [show PySem.dunder "add" = ("__add__" : Str) by decide +kernel]; exact m.at_)
  show wpAny (model X.prog X.w) X.A (binaryOp .Add (.ref a) (.ref b)) (EP X pins σ Q) X.xe s
  unfold binaryOp
  refine wpAny_holding (wpAny_bind ?_)
  show wpAny _ _ (binaryOp1 "add" (.ref a) (.ref b)) _ _ _
  unfold binaryOp1
  refine wpAny_bind (L1.here (wpAny_bind (wpAny_typeOf_ref hob ?_)))
  rw [hcl]
  refine wpAny_bind (L3.here ?_)
  have hne : (Value.ref C == Value.type "tuple") = false := Bool.eq_false_iff.mpr fun q => by cases beq_iff_eq.mp q
  simp only [hne, Bool.false_eq_true, if_false, noFill_tuple_add]
  refine wpAny_bind (wpAny_pure ?_)
  simp only [Bool.and_false, Bool.false_and, Bool.false_eq_true, if_false]
  refine wpAny_bind (wpAny_pure ?_)
  simp only [Bool.false_eq_true, if_false, if_true]
  have e1 : (PySem.dunder "add") = ("__add__" : Str) := by decide +kernel
  rw [e1]
  refine wpAny_bind (wpAny_mono one (fun r s' z => ?_) fun _ _ x => x)
  obtain ⟨v, rfl, hq⟩ := z
  exact wpAny_pure (wpAny_pure hq)
/-- a[i], the class of a has it -/
def rOwnI (C : Addr) (sp : Sp) (E : XK) : R2 := fun x y H Q => ∃ a dx fs, x = .ref a ∧ H a = some (.ins C dx fs) ∧ sp [x, y] H Q E
theorem pe_ownItem {a b : Expr} {ta tb : TE} {pos : Pos} (m : Meth X.K C "__getitem__" f) (hf : PySem.W.fnIn X.K f = true) (F : FnOk X.prog X.w X.K X.mg X.base CX k f fd ps sp) (hr : Room (k + 1) X.A) (hb : Binds X.K fd ps []) (hx : Passes CX X E)
    (ha : PE X a ta) (hi : PE X b tb) (hsl : ∀ v i, subscripted b true v i = runValue (.builtin "lifetime.subscript" ⟨[v, i], []⟩) := by intro _ _; with_unfolding_all rfl) : PE X (.Subscript a b pos) (tOp (rOwnI C sp E) ta tb) := by
  refine ⟨fun pins s σ H Q I h => ?_⟩
  refine Subscript_ (binT ha hi I h fun v u s2 x y H2 I2 rx ry q => ?_)
  obtain ⟨a', dx, fs, rfl, ea, q⟩ := q
  cases (show v = Value.ref a' from rx)
  obtain ⟨mA, J, _⟩ := ins_get I2.hok ea
  obtain ⟨od, J, _⟩ := J.look
  obtain ⟨m0, hF⟩ := I2.fr
  refine PySem.W.sub_K hF I2.ok.mod.kin J m.at_ hf m.fn ?_ (hsl _ _)
  exact run_in1 (us := [.ref a', u]) (vs := [.ref a', y]) F hr hb .nil hx I2 (.cons rfl (.cons ry .nil)) q
/-- len(a), the class of a has it -/
def rOwnL (C : Addr) (sp : Sp) (E : XK) : List V → Hp → VK → Prop := fun xs H Q => ∃ a dx fs, xs = [.ref a] ∧ H a = some (.ins C dx fs) ∧ sp xs H (fun v H' => ∃ n : Int, v = .int n ∧ 0 ≤ n ∧ n < 2 ^ 63 ∧ Q v H') E
theorem call_ownLen (m : Meth X.K C "__len__" f) (F : FnOk X.prog X.w X.K X.mg X.base CX k f fd ps sp) (hr : Room (k + 1) X.A) (hb : Binds X.K fd ps []) (hx : Passes CX X E) : CallR X (.builtin "len") (rOwnL C sp E) := by
  intro pins s σ H xs us Q I r h
  obtain ⟨a, dx, fs, rfl, ea, q⟩ := h
  obtain ⟨u, rfl, rx⟩ := vals1 r
  cases (show u = Value.ref a from rx)
  obtain ⟨mA, J, _⟩ := ins_get I.hok ea
  obtain ⟨od, J, _⟩ := J.look
  obtain ⟨m0, hF⟩ := I.fr
  refine PySem.W.len_K hF I.ok.mod.kin J m.at_ m.fn ?_
  refine wpAny_mono (run_in1 (us := [.ref a]) (vs := [.ref a]) F hr hb .nil hx I (.cons rfl .nil) q) (fun w s' z => ?_) fun _ _ x => x
  obtain ⟨z', H', I', rz, n, rfl, h0, h1, qz⟩ := z
  obtain ⟨t, rfl⟩ := (show ∃ t, w = Value.int n t from rz)
  exact ⟨⟨h0, h1⟩, .int n, H', I'.tok _, ⟨_, rfl⟩, qz⟩
/-- o.f = .., as one target of several -/
def gFldA (K : PySem.W.Frag) (to : TE) (f : Str) : TG := fun v σ H Q => to σ H fun x H1 => ∃ a C dx fs, x = .ref a ∧ H1 a = some (.ins C dx fs) ∧ Cls K C ∧ NoAttr K C f ∧ fs.length < 1000 ∧ Q σ (upd H1 a (.ins C dx (putF f v fs)))
theorem pg_fld {o : Expr} {to : TE} {nm : Str} {pos : Pos} (ho : PE X o to) : PG X (.Attribute o nm pos) (gFldA X.K to nm) := by
  refine ⟨fun pins s σ H v u Q I r h => ?_⟩
  rw [assign_Attribute]
  refine wpAny_bind (wpAny_holding (thn (ho.run pins s σ H _ I h) fun ov s1 ⟨x, H1, I1, r1, a, C', dx, fs, ex, ea, c, n, l, q1⟩ => ?_))
  subst ex
  obtain rfl : ov = Value.ref a := r1
  refine wpAny_bind (wpAny_standAt (wpAny_bind (wpAny_holding (setattr_ok I1 ea c n l r fun s3 I3 => ?_))))
  exact wpAny_release ⟨σ, _, I3, q1⟩
end
end Cp
end
section
set_option Elab.async false
set_option linter.all false
set_option maxRecDepth 100000
set_option maxHeartbeats 4000000
/-! classmethods and staticmethods, called on the class. -/
namespace Cp
open PySem PySem.Spec PyProof.Rows L2 ClX
/-- C.m is a staticmethod: its record at p, its def at g -/
structure SMet (K : PySem.W.Frag) (C : Addr) (mc : Value) (m : Str) (p g : Addr) : Prop where
  at_ : PySem.W.findCls K (.ref C) mc m = some (.get (.builtin "staticmethod.__get__") (.ref p) .none (.ref C))
  rc : ∃ rest, PySem.W.recIn K p "staticmethod" = some (.ref g :: rest)
  kp : PySem.W.keepIn K (.ref g) = true
section
variable {X : Cx} {CX : CXT} {k : Nat} {C p g : Addr} {mc : Value} {fd : FuncData} {ps : List Str} {sp : Sp} {E : XK} {o e : Expr} {es : List Expr} {m : Str} {pos apos : Pos} {ta : TE} {t : TA} {pl : Sem Bool}
theorem run_cmF {pins : List (Addr × Obj)} {σ : L2.St} {H : Hp} {s : Shared} {q : Addr} {Q : VK} {us : List Value} {vs : List V} (F : FnOk X.prog X.w X.K X.mg X.base CX k g fd ps sp) (hr : Room k X.A) (hb : Binds X.K fd ps []) (hx : Passes CX X E) (I : Inv X ((q, PySem.W.methodObj (.ref g) (.ref C)) :: pins) σ H s)
    (r : Vals vs us) (h : sp (.ref C :: vs) H Q E) : wpAny (model X.prog X.w) X.A (call (.ref q) us) (EP X pins σ Q) X.xe s := by
  have one : codeAny (model X.prog X.w) X.A (.call (.ref g) ⟨.ref C :: us, []⟩) (CR CX X.stack X.prog X.w H s Q E) s := by
    have hl : (Value.ref C :: us).length = ps.length := by
      have := F.len _ _ _ _ h
      rw [← this]
      simp [r.length]
    refine F.run X.A X.stack s H ⟨.ref C :: us, []⟩ (.ref C :: us) (.ref C :: vs) Q E hr I.env0 ?_ (.cons rfl r) h
    have := hb s (.ref C :: us) I.kIn (by rw [List.append_nil]; exact hl)
    rw [List.append_nil] at this
    exact this
  have z : wpAny (model X.prog X.w) X.A (call (.ref q) us) (EP X ((q, PySem.W.methodObj (.ref g) (.ref C)) :: pins) σ Q) X.xe s := by
    refine wpAny_call (PySem.W.method_call (pin_at I) (codeAny_mono one fun r s' hq => ?_))
    cases r with
    | error e => exact hx _ σ H s e s' I hq
    | ok fl =>
      cases fl with
      | ret u => exact I.after hq
      | next => exact False.elim hq
      | brk => exact False.elim hq
      | cont => exact False.elim hq
  exact thn z fun _ _ y => unpinE y
/-- C.m(e, ..), m a classmethod -/
theorem pe_cm (he : PE X o ta) (r : CRead X.K C mc) (c : CMet X.K C mc m p g) (F : FnOk X.prog X.w X.K X.mg X.base CX k g fd ps sp) (hr : Room k X.A) (hb : Binds X.K fd ps []) (hx : Passes CX X E) (ha : PA X (e :: es) t)
    (hst : starEach (e :: es) X.env = (false, eval e X.env) :: starEach es X.env := by rfl) (hpl : (backTo pos (starEach es X.env)).any (·.1) = false := by rfl)
    (ht : eval (.Call (.Attribute o m apos) (e :: es) [] pos) X.env = (do
      let ov ← eval o X.env
      standAt apos.atName
      let (f, first) ← holding [ov] (getMethod ov m pl)
      callWith pos f first (backTo pos (starEach (e :: es) X.env)) (backToKw pos (keywordEach [] X.env))) := by rfl) :
    PE X (.Call (.Attribute o m apos) (e :: es) [] pos) (tCMeth C sp E ta t) := by
  refine ⟨fun pins s σ H Q I h => ?_⟩
  refine PySem.W.methodCall_KW (pl := pl) (thn (he.run pins s σ H _ I h) fun u s1 ⟨x, H1, I1, rx, ex, q⟩ => ?_) ht
  subst ex
  obtain rfl : u = Value.ref C := rx
  refine getmethcm_ok I1 r c fun s2 I2 => ?_
  refine callwith_cm I2 (base_none I1 (Nat.le_refl _)) c.fi (thn (ha.run pos _ s2 σ H1 _ I2 q) fun us s3 ⟨vs, H2, I3, rv, q2⟩ => ⟨⟨pin_at I3, I3.kIn⟩, ?_⟩) hst hpl
  exact run_cmF F hr hb hx I3 rv q2
/-- C.m(), m a classmethod -/
theorem pe_cm0 (he : PE X o ta) (r : CRead X.K C mc) (c : CMet X.K C mc m p g) (F : FnOk X.prog X.w X.K X.mg X.base CX k g fd ps sp) (hr : Room k X.A) (hb : Binds X.K fd ps []) (hx : Passes CX X E)
    (ht : eval (.Call (.Attribute o m apos) [] [] pos) X.env = (do
      let ov ← eval o X.env
      standAt apos.atName
      let (f, first) ← holding [ov] (getMethod ov m pl)
      callWith pos f first (backTo pos (starEach [] X.env)) (backToKw pos (keywordEach [] X.env))) := by rfl) :
    PE X (.Call (.Attribute o m apos) [] [] pos) (tCMeth C sp E ta tNil) := by
  refine ⟨fun pins s σ H Q I h => ?_⟩
  refine PySem.W.methodCall_KW (pl := pl) (thn (he.run pins s σ H _ I h) fun u s1 ⟨x, H1, I1, rx, ex, q⟩ => ?_) ht
  subst ex
  obtain rfl : u = Value.ref C := rx
  refine getmethcm_ok I1 r c fun s2 I2 => ?_
  have hq := pin_at I2
  exact PySem.W.callWith_M0 ⟨hq, I2.kIn⟩ c.fi (run_cmF (us := []) F hr hb hx I2 .nil q)
/-- C.m(e, ..), m a staticmethod -/
def tSMeth (C : Addr) (sp : Sp) (E : XK) (ta : TE) (t : TA) : TE := fun σ H Q => ta σ H fun x H1 => x = .ref C ∧ t σ H1 fun vs H2 => sp vs H2 Q E
theorem pe_sm (he : PE X o ta) (r : CRead X.K C mc) (c : SMet X.K C mc m p g) (F : FnOk X.prog X.w X.K X.mg X.base CX k g fd ps sp) (hr : Room k X.A) (hb : Binds X.K fd ps []) (hx : Passes CX X E) (ha : PA X (e :: es) t)
    (hst : starEach (e :: es) X.env = (false, eval e X.env) :: starEach es X.env := by rfl) (hpl : (backTo pos (starEach es X.env)).any (·.1) = false := by rfl)
    (ht : eval (.Call (.Attribute o m apos) (e :: es) [] pos) X.env = (do
      let ov ← eval o X.env
      standAt apos.atName
      let (f, first) ← holding [ov] (getMethod ov m pl)
      callWith pos f first (backTo pos (starEach (e :: es) X.env)) (backToKw pos (keywordEach [] X.env))) := by rfl) :
    PE X (.Call (.Attribute o m apos) (e :: es) [] pos) (tSMeth C sp E ta t) := by
  refine ⟨fun pins s σ H Q I h => ?_⟩
  refine PySem.W.methodCall_KW (pl := pl) (thn (he.run pins s σ H _ I h) fun u s1 ⟨x, H1, I1, rx, ex, q⟩ => ?_) ht
  subst ex
  obtain rfl : u = Value.ref C := rx
  obtain ⟨rest, hp⟩ := c.rc
  refine PySem.W.method_cls I1.kIn r.ga (PySem.W.cls_bind I1.kIn r.rd c.at_ (wpAny_call (PySem.W.sm_get (s := { s1 with toks := s1.toks + 1 }) I1.kIn hp (PySem.W.handed_on rfl ?_))))
  have I2 : Inv X pins σ H1 { s1 with toks := s1.toks + 1 } := I1.tok _
  refine PySem.W.callWith_K (h₀ := X.base) (first := []) I1.ok.mod.kin c.kp (thn (ha.run pos pins _ σ H1 _ I2 q) fun us s3 ⟨vs, H2, I3, rv, q2⟩ => ⟨I3.kIn, ?_⟩) hst hpl
  exact run_fn F hr hb .nil hx I3 rv (by rw [List.append_nil]; exact q2)
end
section
variable {X : Cx} {CX : CXT} {k i : Nat} {C f : Addr} {fd : FuncData} {ps : List Str} {sp : Sp} {E : XK} {x : Str} {p pos : Pos} {e : Expr} {es : List Expr} {t : TA}
/-- x(e, ..), x a name of the def that holds the class at C -/
theorem pe_makeV (M : Mk X.K C f) (F : FnOk X.prog X.w X.K X.mg X.base CX k f fd ps sp) (hr : Room (k + 1) X.A) (hb : Binds X.K fd ps []) (hx : Passes CX X E) (hN : X.N[i]? = some x) (hv : Vis X.env.scope x)
    (ha : PA X (e :: es) t) (hdb : (x == ("__debug__" : Str)) = false := by decide) (hcd : (x == ("__classdict__" : Str)) = false := by decide) (he : starEach (e :: es) X.env = (false, eval e X.env) :: starEach es X.env := by rfl) (hpl : (backTo pos (starEach es X.env)).any (·.1) = false := by rfl) :
    PE X (.Call (.Name x p) (e :: es) [] pos) (fun σ H Q => σ[i]? = some (some (.ref C)) ∧ tMake C sp [] E t σ H Q) := by
  refine ⟨fun pins s σ H Q I h => ?_⟩
  obtain ⟨hs, h⟩ := h
  refine wpAny_Call_Name_kw (thn ((pe_var (pos := p) (i := i) hN hv hdb hcd).run pins s σ H (fun v H1 => v = .ref C ∧ H1 = H) I ⟨.ref C, hs, rfl, rfl⟩) fun u s1 ⟨v, H1, I1, r1, q1⟩ => ?_)
  obtain ⟨ev, eH⟩ := q1
  subst ev
  rw [eH] at I1
  obtain rfl : u = Value.ref C := r1
  refine PySem.W.callWith_K (h₀ := X.base) I1.ok.mod.kin M.kp (thn (ha.run pos pins s1 σ H _ I1 h) fun us s2 ⟨vs, H2, I2, r, q⟩ => ⟨I2.kIn, ?_⟩) he hpl
  exact run_make M F hr hb .nil hx I2 r q
end
/-- classmethods, staticmethods, a keyword-only default -/
structure TxC (K : PySem.W.Frag) (fa : Nat → Addr) (fd : Nat → FuncData) (ca : Nat → Addr) (qa : Nat → Addr) : Prop where
  rN : CRead K (ca 0) (.type "type")
  rC : CRead K (ca 1) (.type "type")
  whole : CMet K (ca 0) (.type "type") "whole" (qa 0) (fa 8)
  plain : CMet K (ca 1) (.type "type") "plain" (qa 1) (fa 23)
  on : SMet K (ca 1) (.type "type") "on" (qa 2) (fa 22)
  loom : FunD K "__init__" "Loom.__init__" (defArgs s_Loom___init__) (defBody s_Loom___init__) (defScope s_Loom___init__) [] [("colour", .str "a")] (fa 35) (fd 35)
structure Ty (K : PySem.W.Frag) (mg : Str → Option Value) (fa : Nat → Addr) (fd : Nat → FuncData) (ca pa ea qa : Nat → Addr) : Prop extends Tx K mg fa fd ca pa, TxE K mg ea, TxC K fa fd ca qa
theorem Tx.c_LETTERS {K : PySem.W.Frag} {mg : Str → Option Value} {fa : Nat → Addr} {fd : Nat → FuncData} {ca pa : Nat → Addr} (T : Tx K mg fa fd ca pa) : ∃ t, mg "LETTERS" = some (.str "abcdefghijklmnopqrstuvwxyz" t) := T.lett
theorem Tx.c_MOST_PLACES_carpets {K : PySem.W.Frag} {mg : Str → Option Value} {fa : Nat → Addr} {fd : Nat → FuncData} {ca pa : Nat → Addr} (T : Tx K mg fa fd ca pa) : ∃ t, mg "MOST_PLACES_carpets" = some (.int 2000 t) := T.intc 0 rfl
theorem Tx.c_MOST_PLACES_looms {K : PySem.W.Frag} {mg : Str → Option Value} {fa : Nat → Addr} {fd : Nat → FuncData} {ca pa : Nat → Addr} (T : Tx K mg fa fd ca pa) : ∃ t, mg "MOST_PLACES_looms" = some (.int 2000 t) := T.intc 1 rfl
end Cp
end
section
set_option Elab.async false
set_option linter.all false
set_option maxRecDepth 100000
set_option maxHeartbeats 4000000
namespace Cp
open PySem PySem.Spec PyProof.Rows L2
/-! ### integers, places -/
abbrev pl (x y : Int) : HO := .tup [.int x, .int y]
def sp_is_integer : Sp := fun vs H Q _ => ∃ i : Int, vs = [.int i] ∧ Q (.bl true) H
def sp_is_place : Sp := fun vs H Q _ => ∃ (t : Addr) (x y : Int), vs = [.ref t] ∧ H t = some (pl x y) ∧ ∀ H', Same H H' → Q (.bl true) H'
def sp_check_place : Sp := fun vs H Q _ => ∃ (t : Addr) (x y : Int), vs = [.ref t] ∧ H t = some (pl x y) ∧ ∀ H', Same H H' → Q .non H'
def sp_plus : Sp := fun vs H Q _ => ∃ (t u : Addr) (x y p q : Int), vs = [.ref t, .ref u] ∧ H t = some (pl x y) ∧ H u = some (pl p q) ∧ ∀ n, H n = none → Q (.ref n) (upd H n (pl (x + p) (y + q)))
def sp_minus : Sp := fun vs H Q _ => ∃ (t u : Addr) (x y p q : Int), vs = [.ref t, .ref u] ∧ H t = some (pl x y) ∧ H u = some (pl p q) ∧ ∀ n, H n = none → Q (.ref n) (upd H n (pl (x - p) (y - q)))
/-- the divisors of n, upwards -/
def divs (n : Int) : List Int := ((List.range n.toNat).map fun (i : Nat) => (1 : Int) + i).filter fun d => n.fmod d = 0
def sp_divisors : Sp := fun vs H Q _ => ∃ n : Int, vs = [.int n] ∧ 1 ≤ n ∧ n ≤ 1000 ∧ ∀ H' D, Same H H' → H D = none → H' D = some (.lst ((divs n).map .int)) → Q (.ref D) H'
theorem same_new {H : Hp} {p : Addr} {o : HO} (h : H p = none) : Same H (upd H p o) := fun b u e => by rw [upd_ne (ne_of_none e h)]; exact e
theorem same_upd {H H1 : Hp} {D : Addr} {o : HO} (s : Same H H1) (h : H D = none) : Same H (upd H1 D o) := fun b u e => by rw [upd_ne (ne_of_none e h)]; exact s b u e
section
variable {P : Program} {w : World} {K : PySem.W.Frag} {mg : Str → Option Value} {base : Heap} {fa : Nat → Addr} {fd : Nat → FuncData} {ca pa : Nat → Addr}
theorem ok_is_integer (T : Tx K mg fa fd ca pa) : FnOk P w K mg base CX0 1 (fa 0) (fd 0) P_is_integer (sp_is_integer) := by
  refine T.f_is_integer.ok sc_is_integer (fun vs H Q E h => ?_) (fun cdv A outer s H vs Q E hr h => ?_)
  · obtain ⟨i, rfl, k⟩ := h; rfl
  · obtain ⟨i, rfl, k⟩ := h
    refine ⟨_, (pss_one (ps_ret (pe_and (pe_callB call_isi (by rfl) T.z_isinstance (by decide +kernel) (pa_cons (pv 0) (pa_cons (pe_bltn (v := .ty "int") (u := .type "int") (by rfl) T.z_int (by decide +kernel) rfl) pa_nil))) (pe_one (pe_not (pe_callB call_isi (by rfl) T.z_isinstance (by decide +kernel) (pa_cons (pv 0) (pa_cons (pe_bltn (v := .ty "bool") (u := .type "bool") (by rfl) T.z_bool (by decide +kernel) rfl) pa_nil)))))))), ?_⟩
    refine ⟨_, rfl, _, _, _, _, true, rfl, .ty _, .base (.int _), kit_ty (by decide +kernel), ?_⟩
    refine ⟨_, rfl, ?_⟩
    refine iteT ?_
    refine ⟨_, rfl, _, _, _, _, false, rfl, .ty _, .base (.int _), kit_ty (by decide +kernel), ?_⟩
    exact ⟨_, rfl, k⟩
theorem ok_is_place (T : Tx K mg fa fd ca pa) : FnOk P w K mg base CX0 2 (fa 1) (fd 1) P_is_place (sp_is_place) := by
  refine T.f_is_place.ok sc_is_place (fun vs H Q E h => ?_) (fun cdv A outer s H vs Q E hr h => ?_)
  · obtain ⟨t, x, y, rfl, ht, k⟩ := h; rfl
  · obtain ⟨t, x, y, rfl, ht, k⟩ := h
    refine ⟨_, (pss_one (ps_ret (pe_and (pe_callB call_isi (by rfl) T.z_isinstance (by decide +kernel) (pa_cons (pv 0) (pa_cons (pe_bltn (v := .ty "tuple") (u := .type "tuple") (by rfl) T.z_tuple (by decide +kernel) rfl) pa_nil))) (pe_and (pe_cmpR op_eq (pe_callB call_len_seq (by rfl) T.z_len PySem.boot_len (pa_cons (pv 0) pa_nil)) pe_int (nomark _)) (pe_one (pe_callB (cr_all rfl) (by rfl) T.z_all (by decide +kernel) (pa_cons (pe_lc (own := [("number", 1)]) (by rfl) sc_is_place.nd (pi_tup (pv 0)) (blkOk_by (own := [("number", 1)]) (N := N_is_place) (sc := defScope s_is_place) (by decide +kernel)) (fun _ _ _ _ _ => (pg_name (i := 1) sc_is_place.nd rfl (Or.inl rfl))) (fun _ _ _ _ _ => pts_nil) (fun _ _ _ _ _ => (pe_call (ok_is_integer T) (hr.mono (by decide)) (by rfl) T.g_is_integer T.f_is_integer.kp T.b_is_integer .nil pass0 (pa_cons (pv 1) pa_nil)))) pa_nil))))))), ?_⟩
    refine ⟨_, rfl, _, _, _, _, true, rfl, .ty _, .base (.tup ht), kit_ty (by decide +kernel), _, rfl, iteT ?_⟩
    refine ⟨_, rfl, t, _, rfl, .inr (SqT.of ht), rfl, true, rfl, iteT ?_⟩
    refine ⟨_, rfl, t, rfl, ⟨_, SqT.of ht⟩, fun D hD => lc_tup (K := K) (a := t) (xs := [.int x, .int y]) (fun i H' => H' D = some (.lst (List.replicate i (.bl true))) ∧ Same H H') ⟨upd_same, same_new hD⟩ (fun i H' _ q => SqT.of (q.2 _ _ ht)) (fun i v H' hv q => ?_) (fun H' q => ?_)⟩
    · obtain ⟨n, rfl⟩ : ∃ n : Int, v = .int n := by
        match i, hv with
        | 0, hv => cases hv; exact ⟨_, rfl⟩
        | 1, hv => cases hv; exact ⟨_, rfl⟩
        | i + 2, hv => simp at hv
      refine ⟨rfl, _, rfl, n, rfl, _, q.1, ?_, ?_, same_upd q.2 hD⟩
      · have := (List.getElem?_eq_some_iff.mp hv).1
        rw [List.length_replicate]
        exact small1000 (by have : i < 2 := this; omega)
      · rw [upd_same, List.replicate_succ']
    · exact ⟨D, [true, true], rfl, SqL.of q.1, k _ q.2⟩
theorem ok_check_place (T : Tx K mg fa fd ca pa) : FnOk P w K mg base CX0 3 (fa 2) (fd 2) P_check_place (sp_check_place) := by
  refine T.f_check_place.ok sc_check_place (fun vs H Q E h => ?_) (fun cdv A outer s H vs Q E hr h => ?_)
  · obtain ⟨t, x, y, rfl, ht, k⟩ := h; rfl
  · obtain ⟨t, x, y, rfl, ht, k⟩ := h
    refine ⟨_, (pss_one (ps_if (pt_not (pt_val (pe_call (ok_is_place T) (hr.mono (by decide)) (by rfl) T.g_is_place T.f_is_place.kp T.b_is_place .nil pass0 (pa_cons (pv 0) pa_nil)))) (pss_one ps_never) pss_nil)), ?_⟩
    refine ⟨_, rfl, t, x, y, rfl, ht, fun H' s' => ⟨_, rfl, ?_⟩⟩
    exact iteF (k _ s')
theorem ok_plus (T : Tx K mg fa fd ca pa) : FnOk P w K mg base CX0 1 (fa 4) (fd 4) P_plus (sp_plus) := by
  refine T.f_plus.ok sc_plus (fun vs H Q E h => ?_) (fun cdv A outer s H vs Q E hr h => ?_)
  · obtain ⟨t, u, x, y, p, q, rfl, ht, hu, k⟩ := h; rfl
  · obtain ⟨t, u, x, y, p, q, rfl, ht, hu, k⟩ := h
    refine ⟨_, (pss_one (ps_ret (pe_tup (pa_cons (pe_op op_add (pe_ix ix_tup (pv 0) pe_int (fun _ _ => rfl)) (pe_ix ix_tup (pv 1) pe_int (fun _ _ => rfl))) (pa_cons (pe_op op_add (pe_ix ix_tup (pv 0) pe_int (fun _ _ => rfl)) (pe_ix ix_tup (pv 1) pe_int (fun _ _ => rfl))) pa_nil))))), ?_⟩
    refine ⟨_, rfl, _, _, _, _, rfl, rfl, SqT.of ht, atI_nat (j := 0) rfl, ?_⟩
    refine ⟨_, rfl, _, _, _, _, rfl, rfl, SqT.of hu, atI_nat (j := 0) rfl, _, _, rfl, rfl, ?_⟩
    refine ⟨_, rfl, _, _, _, _, rfl, rfl, SqT.of ht, atI_nat (j := 1) rfl, ?_⟩
    refine ⟨_, rfl, _, _, _, _, rfl, rfl, SqT.of hu, atI_nat (j := 1) rfl, _, _, rfl, rfl, ?_⟩
    exact ⟨by show 2 ≤ sizeLine; decide, fun n hn => k n hn⟩
theorem ok_minus (T : Tx K mg fa fd ca pa) : FnOk P w K mg base CX0 1 (fa 5) (fd 5) P_minus (sp_minus) := by
  refine T.f_minus.ok sc_minus (fun vs H Q E h => ?_) (fun cdv A outer s H vs Q E hr h => ?_)
  · obtain ⟨t, u, x, y, p, q, rfl, ht, hu, k⟩ := h; rfl
  · obtain ⟨t, u, x, y, p, q, rfl, ht, hu, k⟩ := h
    refine ⟨_, (pss_one (ps_ret (pe_tup (pa_cons (pe_op op_sub (pe_ix ix_tup (pv 0) pe_int (fun _ _ => rfl)) (pe_ix ix_tup (pv 1) pe_int (fun _ _ => rfl))) (pa_cons (pe_op op_sub (pe_ix ix_tup (pv 0) pe_int (fun _ _ => rfl)) (pe_ix ix_tup (pv 1) pe_int (fun _ _ => rfl))) pa_nil))))), ?_⟩
    refine ⟨_, rfl, _, _, _, _, rfl, rfl, SqT.of ht, atI_nat (j := 0) rfl, ?_⟩
    refine ⟨_, rfl, _, _, _, _, rfl, rfl, SqT.of hu, atI_nat (j := 0) rfl, _, _, rfl, rfl, ?_⟩
    refine ⟨_, rfl, _, _, _, _, rfl, rfl, SqT.of ht, atI_nat (j := 1) rfl, ?_⟩
    refine ⟨_, rfl, _, _, _, _, rfl, rfl, SqT.of hu, atI_nat (j := 1) rfl, _, _, rfl, rfl, ?_⟩
    exact ⟨by show 2 ≤ sizeLine; decide, fun n hn => k n hn⟩
theorem ok_divisors (T : Tx K mg fa fd ca pa) : FnOk P w K mg base CX0 1 (fa 3) (fd 3) P_divisors (sp_divisors) := by
  refine T.f_divisors.ok sc_divisors (fun vs H Q E h => ?_) (fun cdv A outer s H vs Q E hr h => ?_)
  · obtain ⟨n, rfl, n1, n2, k⟩ := h; rfl
  · obtain ⟨n, rfl, n1, n2, k⟩ := h
    refine ⟨_, (pss_one (ps_ret (pe_lc (own := [("divisor", 1)]) (by rfl) sc_divisors.nd (pi_range2 (by rfl) T.z_range (pa_cons pe_int (pa_cons (pe_op op_add (pv 0) pe_int) pa_nil))) (blkOk_by (own := [("divisor", 1)]) (N := N_divisors) (sc := defScope s_divisors) (by decide +kernel)) (fun _ _ _ _ _ => (pg_name (i := 1) sc_divisors.nd rfl (Or.inl rfl))) (fun _ _ _ _ _ => pts_one (pt_cmpR op_eq (pe_op op_modN (pv 0) (pv 1)) pe_int (nomark _))) (fun _ _ _ _ _ => (pv 1))))), ?_⟩
    refine ⟨_, rfl, _, _, rfl, rfl, 1, n + 1, rfl, ⟨by omega, by omega, by omega, by omega⟩, fun D hD => lc_range (lo := 1) (n := (n + 1 - 1).toNat) (fun i H' => H' D = some (.lst ((((List.range i).map fun (i : Nat) => (1 : Int) + i).filter fun d => n.fmod d = 0).map .int)) ∧ Same H H') ⟨upd_same, same_new hD⟩ (fun i H' hi q => ?_) (fun H' q => ?_)⟩
    · refine ⟨rfl, _, rfl, _, rfl, _, _, rfl, rfl, by omega, rfl, _, rfl, ?_⟩
      have e1 : ((List.range (i + 1)).map fun (i : Nat) => (1 : Int) + i) = ((List.range i).map fun (i : Nat) => (1 : Int) + i) ++ [1 + (i : Int)] := by rw [List.range_succ, List.map_append]; rfl
      refine ite2 (fun z => ?_) (fun z => ?_)
      · have z' : n.fmod (1 + (i : Int)) = 0 := by
          have := of_decide_eq_true z
          injection this
        refine ⟨_, rfl, _, q.1, ?_, ?_, same_upd q.2 hD⟩
        · rw [List.length_map]
          refine small1000 (Nat.le_trans (List.length_filter_le _ _) ?_)
          rw [List.length_map, List.length_range]
          omega
        · rw [upd_same, e1, List.filter_append, List.map_append]
          simp [z']
      · have z' : ¬ n.fmod (1 + (i : Int)) = 0 := fun e => z (decide_eq_true (congrArg V.int e))
        refine ⟨?_, q.2⟩
        rw [q.1, e1, List.filter_append, List.map_append]
        simp [z']
    · refine k _ D q.2 hD ?_
      have e : (n + 1 - 1).toNat = n.toNat := by omega
      rw [e] at q
      exact q.1
end
/-! ### nets -/
/-- a net's numbers -/
abbrev nums (n : Lm.Nt) : HO := .tup [.int n.a, .int n.b, .int n.c]
def IsNet (ca : Nat → Addr) (H : Hp) (p : Addr) (n : Lm.Nt) : Prop := ∃ dx t, H p = some (.ins (ca 0) dx [("own_numbers", .ref t)]) ∧ H t = some (nums n)
theorem IsNet.same {ca : Nat → Addr} {H H' : Hp} {p : Addr} {n : Lm.Nt} (s : Same H H') (h : IsNet ca H p n) : IsNet ca H' p n := by
  obtain ⟨dx, t, h1, h2⟩ := h
  exact ⟨dx, t, s _ _ h1, s _ _ h2⟩
/-- places at ts -/
def Pls (H : Hp) (ts : List Addr) (ps : List (Int × Int)) : Prop := Paired (fun t p => H t = some (pl p.1 p.2)) ts ps
theorem Pls.imp {H H' : Hp} : ∀ {ts : List Addr} {ps : List (Int × Int)}, Pls H ts ps → (∀ t xs, H t = some (.tup xs) → H' t = some (.tup xs)) → Pls H' ts ps := fun h f => Paired.mapP h fun t p e => f _ _ e
theorem Pls.snoc {H : Hp} : ∀ {ts : List Addr} {ps : List (Int × Int)} {t : Addr} {p : Int × Int}, Pls H ts ps → H t = some (pl p.1 p.2) → Pls H (ts ++ [t]) (ps ++ [p])
  | _, _, _, _, .nil, e => .cons e .nil
  | _, _, _, _, .cons r h, e => .cons r (Pls.snoc h e)
theorem Pls.length {H : Hp} {ts : List Addr} {ps : List (Int × Int)} (h : Pls H ts ps) : ts.length = ps.length := Paired.length h
theorem Pls.get {H : Hp} : ∀ {ts : List Addr} {ps : List (Int × Int)} {i : Nat} {t : Addr}, Pls H ts ps → ts[i]? = some t → ∃ p, ps[i]? = some p ∧ H t = some (pl p.1 p.2)
  | _, _, 0, _, .cons r h, e => by cases e; exact ⟨_, rfl, r⟩
  | _, _, i + 1, t, .cons r h, e => Pls.get (i := i) h e
  | _, _, 0, _, .nil, e => by simp at e
  | _, _, _ + 1, _, .nil, e => by simp at e
/-- small enough for all that is reckoned with it -/
structure Sm (n : Lm.Nt) : Prop where
  ok : n.Ok
  a9 : n.a ≤ 9
  c9 : n.c ≤ 9
theorem Sm.size {n : Lm.Nt} (s : Sm n) : n.a * n.c ≤ 81 := by
  have h1 : n.a * n.c ≤ 9 * 9 := Int.mul_le_mul s.a9 s.c9 (by have := s.ok.c1; omega) (by omega)
  omega
theorem Sm.size1 {n : Lm.Nt} (s : Sm n) : 1 ≤ n.a * n.c := by
  have h1 : 1 * 1 ≤ n.a * n.c := Int.mul_le_mul s.ok.a1 s.ok.c1 (by omega) (by have := s.ok.a1; omega)
  omega
theorem Sm.sizeN {n : Lm.Nt} (s : Sm n) : Lm.size n ≤ 81 := by
  have h1 := Lm.size_cast s.ok
  have h2 := s.size
  omega
def sp_are_numbers : Sp := fun vs H Q _ => ∃ (t : Addr) (n : Lm.Nt), vs = [.ref t] ∧ H t = some (nums n) ∧ n.Ok ∧ ∀ H', Same H H' → Q (.bl true) H'
def sp_Net_init (ca : Nat → Addr) : Sp := fun vs H Q _ => ∃ (p dx : Addr) (n : Lm.Nt), vs = [.ref p, .int n.a, .int n.b, .int n.c] ∧ H p = some (.ins (ca 0) dx []) ∧ n.Ok ∧
  ∀ H', (∀ b o, b ≠ p → H b = some o → H' b = some o) → IsNet ca H' p n → Q .non H'
def sp_Net_numbers (ca : Nat → Addr) : Sp := fun vs H Q _ => ∃ (p dx t : Addr) (n : Lm.Nt), vs = [.ref p] ∧ H p = some (.ins (ca 0) dx [("own_numbers", .ref t)]) ∧ H t = some (nums n) ∧ Q (.ref t) H
def sp_Net_size (ca : Nat → Addr) : Sp := fun vs H Q _ => ∃ (p : Addr) (n : Lm.Nt), vs = [.ref p] ∧ IsNet ca H p n ∧ Sm n ∧ Q (.int (n.a * n.c)) H
def sp_place_in_cell (ca : Nat → Addr) : Sp := fun vs H Q _ => ∃ (p t : Addr) (n : Lm.Nt) (x y : Int), vs = [.ref p, .ref t] ∧ IsNet ca H p n ∧ Sm n ∧ H t = some (pl x y) ∧ ∀ u, H u = none → Q (.ref u) (upd H u (pl (Lm.lowX n x y) (Lm.lowY n y)))
def sp_Net_eq (ca : Nat → Addr) : Sp := fun vs H Q _ => ∃ (p q : Addr) (n m : Lm.Nt), vs = [.ref p, .ref q] ∧ IsNet ca H p n ∧ IsNet ca H q m ∧ Q (.bl (decide (n = m))) H
def sp_Net_spots (ca : Nat → Addr) : Sp := fun vs H Q _ => ∃ (p : Addr) (n : Lm.Nt), vs = [.ref p] ∧ IsNet ca H p n ∧ Sm n ∧ ∀ H' D (ts : List Addr), Same H H' → H D = none → H' D = some (.lst (ts.map .ref)) → Pls H' ts (Lm.spots n) → Q (.ref D) H'
section
variable {P : Program} {w : World} {K : PySem.W.Frag} {mg : Str → Option Value} {base : Heap} {fa : Nat → Addr} {fd : Nat → FuncData} {ca pa : Nat → Addr}
theorem ok_are_numbers (T : Tx K mg fa fd ca pa) : FnOk P w K mg base CX0 2 (fa 6) (fd 6) P_are_numbers (sp_are_numbers) := by
  refine T.f_are_numbers.ok sc_are_numbers (fun vs H Q E h => ?_) (fun cdv A outer s H vs Q E hr h => ?_)
  · obtain ⟨t, n, rfl, ht, ok, k⟩ := h; rfl
  · obtain ⟨t, n, rfl, ht, ok, k⟩ := h
    refine ⟨_, (pss_cons (ps_if (pt_not (pt_val (pe_callB (cr_all rfl) (by rfl) T.z_all (by decide +kernel) (pa_cons (pe_lc (own := [("number", 1)]) (by rfl) sc_are_numbers.nd (pi_tup (pv 0)) (blkOk_by (own := [("number", 1)]) (N := N_are_numbers) (sc := defScope s_are_numbers) (by decide +kernel)) (fun _ _ _ _ _ => (pg_name (i := 1) sc_are_numbers.nd rfl (Or.inl rfl))) (fun _ _ _ _ _ => pts_nil) (fun _ _ _ _ _ => (pe_call (ok_is_integer T) (hr.mono (by decide)) (by rfl) T.g_is_integer T.f_is_integer.kp T.b_is_integer .nil pass0 (pa_cons (pv 1) pa_nil)))) pa_nil)))) (pss_one (ps_ret pe_bl)) pss_nil)
      (pss_cons (ps_asg (pv 0) (pg_tup (by rfl) (pgs_cons (pg_name (i := 2) sc_are_numbers.nd rfl (Or.inl rfl)) (pgs_cons (pg_name (i := 3) sc_are_numbers.nd rfl (Or.inl rfl)) (pgs_cons (pg_name (i := 4) sc_are_numbers.nd rfl (Or.inl rfl)) pgs_nil)))))
      (pss_one (ps_ret (pe_and (pe_cmpR op_ge (pv 4) pe_int (nomark _)) (pe_one (pe_chain op_le op_lt pe_int (pv 3) (pv 2)))))))), ?_⟩
    refine ⟨_, rfl, t, rfl, ⟨_, SqT.of ht⟩, fun D hD => lc_tup (K := K) (a := t) (xs := [.int n.a, .int n.b, .int n.c]) (fun i H' => H' D = some (.lst (List.replicate i (.bl true))) ∧ Same H H') ⟨upd_same, same_new hD⟩ (fun i H' _ q => SqT.of (q.2 _ _ ht)) (fun i v H' hv q => ?_) (fun H' q => ?_)⟩
    · obtain ⟨z, rfl⟩ : ∃ z : Int, v = .int z := by
        match i, hv with
        | 0, hv => cases hv; exact ⟨_, rfl⟩
        | 1, hv => cases hv; exact ⟨_, rfl⟩
        | 2, hv => cases hv; exact ⟨_, rfl⟩
        | i + 3, hv => simp at hv
      refine ⟨rfl, _, rfl, z, rfl, _, q.1, ?_, ?_, same_upd q.2 hD⟩
      · have := (List.getElem?_eq_some_iff.mp hv).1
        rw [List.length_replicate]
        exact small1000 (by have : i < 3 := this; omega)
      · rw [upd_same, List.replicate_succ']
    · refine ⟨D, [true, true, true], rfl, SqL.of q.1, _, rfl, ?_⟩
      refine iteF ?_
      have ht' := q.2 _ _ ht
      refine ⟨_, rfl, t, _, rfl, SqT.of ht', rfl, _, _, rfl, _, _, rfl, _, _, rfl, rfl, ?_⟩
      refine ⟨_, rfl, _, _, rfl, rfl, true, congrArg V.bl (decide_eq_true ok.c1), iteT ?_⟩
      refine ⟨_, rfl, _, _, rfl, rfl, true, congrArg V.bl (decide_eq_true ok.b0), iteT ?_⟩
      refine ⟨_, rfl, _, _, rfl, rfl, ?_⟩
      refine Eq.mpr ?_ (k _ q.2)
      exact congrArg (fun z => Q (V.bl z) H') (decide_eq_true ok.ba)
theorem ok_Net___init__ (T : Tx K mg fa fd ca pa) : FnOk P w K mg base CX0 3 (fa 7) (fd 7) P_Net___init__ (sp_Net_init ca) := by
  refine T.f_Net___init__.ok sc_Net___init__ (fun vs H Q E h => ?_) (fun cdv A outer s H vs Q E hr h => ?_)
  · obtain ⟨p, dx, n, rfl, hp, ok, k⟩ := h; rfl
  · obtain ⟨p, dx, n, rfl, hp, ok, k⟩ := h
    refine ⟨_, (pss_cons (ps_if (pt_not (pt_val (pe_call (ok_are_numbers T) (hr.mono (by decide)) (by rfl) T.g_are_numbers T.f_are_numbers.kp T.b_are_numbers .nil pass0 (pa_cons (pe_tup (pa_cons (pv 1) (pa_cons (pv 2) (pa_cons (pv 3) pa_nil)))) pa_nil)))) (pss_one ps_never) pss_nil)
      (pss_one (ps_fld (pv 0) (pe_tup (pa_cons (pv 1) (pa_cons (pv 2) (pa_cons (pv 3) pa_nil)))) rfl))), ?_⟩
    refine ⟨_, rfl, _, rfl, _, rfl, by show 3 ≤ sizeLine; decide, fun t ht => ⟨t, n, rfl, upd_same, ok, fun H1 s1 => ⟨_, rfl, ?_⟩⟩⟩
    refine iteF ?_
    refine ⟨_, rfl, _, rfl, _, rfl, by show 3 ≤ sizeLine; decide, fun u hu => ?_⟩
    have s2 : Same H (upd H1 u (nums n)) := same_upd (Same.trans (same_new ht) s1) (by
      cases e : H u with
      | none => rfl
      | some o => rw [s1 _ _ (same_new ht _ _ e)] at hu; cases hu)
    have nu : p ≠ u := ne_of_none (s1 _ _ (same_new ht _ _ hp)) hu
    refine ⟨_, rfl, p, _, dx, _, rfl, s2 _ _ hp, T.cl_Net, T.n0_own_numbers, by show 0 < 1000; decide, ?_⟩
    refine k _ (fun b o hb e => ?_) ⟨dx, u, upd_same, ?_⟩
    · rw [upd_ne hb]; exact s2 _ _ e
    · rw [upd_ne nu.symm]; exact upd_same
theorem ok_Net_numbers (T : Tx K mg fa fd ca pa) : FnOk P w K mg base CX0 1 (fa 9) (fd 9) P_Net_numbers (sp_Net_numbers ca) := by
  refine T.f_Net_numbers.ok sc_Net_numbers (fun vs H Q E h => ?_) (fun cdv A outer s H vs Q E hr h => ?_)
  · obtain ⟨p, dx, t, n, rfl, hp, ht, k⟩ := h; rfl
  · obtain ⟨p, dx, t, n, rfl, hp, ht, k⟩ := h
    refine ⟨_, (pss_one (ps_ret (pe_fld (pv 0) rfl))), ?_⟩
    exact ⟨_, rfl, p, _, dx, _, _, rfl, hp, T.cl_Net, T.n0_own_numbers, rfl, k⟩
theorem ok_Net_size (T : Tx K mg fa fd ca pa) : FnOk P w K mg base CX0 1 (fa 10) (fd 10) P_Net_size (sp_Net_size ca) := by
  refine T.f_Net_size.ok sc_Net_size (fun vs H Q E h => ?_) (fun cdv A outer s H vs Q E hr h => ?_)
  · obtain ⟨p, n, rfl, ⟨dx, t, hp, ht⟩, sm, k⟩ := h; rfl
  · obtain ⟨p, n, rfl, ⟨dx, t, hp, ht⟩, sm, k⟩ := h
    refine ⟨_, (pss_one (ps_ret (pe_op op_mul (pe_ix ix_tup (pe_fld (pv 0) rfl) pe_int (fun _ _ => rfl)) (pe_ix ix_tup (pe_fld (pv 0) rfl) pe_int (fun _ _ => rfl))))), ?_⟩
    refine ⟨_, rfl, p, _, dx, _, _, rfl, hp, T.cl_Net, T.n0_own_numbers, rfl, t, _, _, _, rfl, rfl, SqT.of ht, atI_nat (j := 0) rfl, ?_⟩
    refine ⟨_, rfl, p, _, dx, _, _, rfl, hp, T.cl_Net, T.n0_own_numbers, rfl, t, _, _, _, rfl, rfl, SqT.of ht, atI_nat (j := 2) rfl, ?_⟩
    exact ⟨_, _, rfl, rfl, .inl ⟨by have := sm.ok.a1; omega, by have := sm.a9; omega⟩, k⟩
theorem ok_Net_place_in_cell (T : Tx K mg fa fd ca pa) : FnOk P w K mg base CX0 1 (fa 11) (fd 11) P_Net_place_in_cell (sp_place_in_cell ca) := by
  refine T.f_Net_place_in_cell.ok sc_Net_place_in_cell (fun vs H Q E h => ?_) (fun cdv A outer s H vs Q E hr h => ?_)
  · obtain ⟨p, t, n, x, y, rfl, ⟨dx, u, hp, hu⟩, sm, ht, k⟩ := h; rfl
  · obtain ⟨p, t, n, x, y, rfl, ⟨dx, u, hp, hu⟩, sm, ht, k⟩ := h
    refine ⟨_, (pss_cons (ps_asg (pe_fld (pv 0) rfl) (pg_tup (by rfl) (pgs_cons (pg_name (i := 2) sc_Net_place_in_cell.nd rfl (Or.inl rfl)) (pgs_cons (pg_name (i := 3) sc_Net_place_in_cell.nd rfl (Or.inl rfl)) (pgs_cons (pg_name (i := 4) sc_Net_place_in_cell.nd rfl (Or.inl rfl)) pgs_nil)))))
      (pss_cons (ps_set (i := 5) sc_Net_place_in_cell.nd rfl (Or.inl rfl) (pe_op op_fdivN (pe_ix ix_tup (pv 1) pe_int (fun _ _ => rfl)) (pv 4)))
      (pss_one (ps_ret (pe_tup (pa_cons (pe_op op_modN (pe_op op_sub (pe_ix ix_tup (pv 1) pe_int (fun _ _ => rfl)) (pe_op op_mul (pv 5) (pv 3))) (pv 2)) (pa_cons (pe_op op_sub (pe_ix ix_tup (pv 1) pe_int (fun _ _ => rfl)) (pe_op op_mul (pv 5) (pv 4))) pa_nil))))))), ?_⟩
    have ok := sm.ok
    refine ⟨_, rfl, p, _, dx, _, _, rfl, hp, T.cl_Net, T.n0_own_numbers, rfl, u, _, rfl, SqT.of hu, rfl, _, _, rfl, _, _, rfl, _, _, rfl, rfl, ?_⟩
    refine ⟨_, rfl, t, _, _, _, rfl, rfl, SqT.of ht, atI_nat (j := 1) rfl, _, rfl, _, _, rfl, rfl, ⟨by have := ok.c1; omega, by have := ok.c1; have := sm.c9; omega⟩, ?_⟩
    refine ⟨_, rfl, t, _, _, _, rfl, rfl, SqT.of ht, atI_nat (j := 0) rfl, _, rfl, _, rfl, _, _, rfl, rfl, .inr ⟨by have := ok.b0; omega, by have := ok.ba; have := sm.a9; omega⟩, _, _, rfl, rfl, _, rfl, _, _, rfl, rfl, by have := ok.a1; omega, ?_⟩
    refine ⟨_, rfl, t, _, _, _, rfl, rfl, SqT.of ht, atI_nat (j := 1) rfl, _, rfl, _, rfl, _, _, rfl, rfl, .inr ⟨by have := ok.c1; omega, by have := sm.c9; omega⟩, _, _, rfl, rfl, by show 2 ≤ sizeLine; decide, fun z hz => ?_⟩
    have e1 : y.fdiv n.c = y / n.c := Int.fdiv_eq_ediv_of_nonneg _ (by have := ok.c1; omega)
    have e2 : (x - y.fdiv n.c * n.b).fmod n.a = Lm.lowX n x y := by rw [e1, Int.fmod_eq_emod_of_nonneg _ (by have := ok.a1; omega)]; rfl
    have e3 : y - y.fdiv n.c * n.c = Lm.lowY n y := by rw [e1]; rfl
    have q := k z hz
    rw [← e2, ← e3] at q
    exact q
theorem eqv_nums (n m : Lm.Nt) : PyData.eqv (.tuple [.int n.a, .int n.b, .int n.c]) (.tuple [.int m.a, .int m.b, .int m.c]) = decide (n = m) := by
  cases n with
  | mk a b c =>
  cases m with
  | mk p q r => 
    have e : ∀ x y : Int, (x == y) = decide (x = y) := fun x y => by by_cases h : x = y <;> simp [h]
    simp [PyData.eqv, PyData.eqvAll, Lm.Nt.mk.injEq, e]
theorem ok_Net___eq__ (T : Tx K mg fa fd ca pa) : FnOk P w K mg base CX0 1 (fa 12) (fd 12) P_Net___eq__ (sp_Net_eq ca) := by
  refine T.f_Net___eq__.ok sc_Net___eq__ (fun vs H Q E h => ?_) (fun cdv A outer s H vs Q E hr h => ?_)
  · obtain ⟨p, q, n, m, rfl, ⟨dx, u, hp, hu⟩, ⟨dy, v, hq, hv⟩, k⟩ := h; rfl
  · obtain ⟨p, q, n, m, rfl, ⟨dx, u, hp, hu⟩, ⟨dy, v, hq, hv⟩, k⟩ := h
    refine ⟨_, (pss_one (ps_ret (pe_and (pe_callB call_isi (by rfl) T.z_isinstance (by decide +kernel) (pa_cons (pv 1) (pa_cons (pe_glob (v := .ref (ca 0)) (by rfl) T.g_Net rfl) pa_nil))) (pe_one (pe_cmpR (op_eqD hr.units) (pe_fld (pv 0) rfl) (pe_fld (pv 1) rfl) (nomark _)))))), ?_⟩
    refine ⟨_, rfl, _, _, _, _, true, rfl, .own _, T.ty (by decide) hq, T.kit00, true, rfl, iteT ?_⟩
    refine ⟨_, rfl, p, _, dx, _, _, rfl, hp, T.cl_Net, T.n0_own_numbers, rfl, _, rfl, q, _, dy, _, _, rfl, hq, T.cl_Net, T.n0_own_numbers, rfl, ?_⟩
    refine ⟨.tuple [.int n.a, .int n.b, .int n.c], .tuple [.int m.a, .int m.b, .int m.c], .tup (SqT.of hu) (.cons (.int _) (.cons (.int _) (.cons (.int _) .nil))), .tup (SqT.of hv) (.cons (.int _) (.cons (.int _) (.cons (.int _) .nil))), rfl, rfl, ?_⟩
    rw [eqv_nums]
    exact k
theorem spots_next {n : Lm.Nt} (ok : n.Ok) {i j : Nat} (hi : i < n.c.toNat) (hj : j < n.a.toNat) : (Lm.spots n).take (i * n.a.toNat + (j + 1)) = (Lm.spots n).take (i * n.a.toNat + j) ++ [((j : Int), (i : Int))] := by
  have a1 := ok.a1
  have c1 := ok.c1
  have ea : ((n.a.toNat : Nat) : Int) = n.a := Int.toNat_of_nonneg (by omega)
  have hsz : i * n.a.toNat + j < Lm.size n := by
    have e2 := Lm.size_cast ok
    have ec : ((n.c.toNat : Nat) : Int) = n.c := Int.toNat_of_nonneg (by omega)
    have h1 : (i + 1) * n.a.toNat ≤ n.c.toNat * n.a.toNat := Nat.mul_le_mul_right _ hi
    have h2 : Lm.size n = n.c.toNat * n.a.toNat := by
      have : ((Lm.size n : Nat) : Int) = ((n.c.toNat * n.a.toNat : Nat) : Int) := by rw [e2, Int.natCast_mul, ea, ec, Int.mul_comm]
      omega
    rw [Nat.add_mul] at h1
    omega
  have e : (Lm.spots n)[i * n.a.toNat + j]? = some ((j : Int), (i : Int)) := by
    rw [Lm.spots_at ok hsz]
    have e3 : (((i * n.a.toNat + j : Nat)) : Int) = (j : Int) + n.a * i := by rw [Int.natCast_add, Int.natCast_mul, ea, Int.mul_comm]; omega
    rw [e3, Int.add_mul_emod_self_left, Int.add_mul_ediv_left _ _ (by omega), Int.emod_eq_of_lt (by omega) (by omega), Int.ediv_eq_zero_of_lt (by omega) (by omega), Int.zero_add]
  rw [← Nat.add_assoc, List.take_add_one, e]
  rfl
theorem ok_Net_spots (T : Tx K mg fa fd ca pa) : FnOk P w K mg base CX0 1 (fa 13) (fd 13) P_Net_spots (sp_Net_spots ca) := by
  refine T.f_Net_spots.ok sc_Net_spots (fun vs H Q E h => ?_) (fun cdv A outer s H vs Q E hr h => ?_)
  · obtain ⟨p, n, rfl, ⟨dx, t, hp, ht⟩, sm, k⟩ := h; rfl
  · obtain ⟨p, n, rfl, ⟨dx, t, hp, ht⟩, sm, k⟩ := h
    refine ⟨_, (pss_cons (ps_asg (pe_fld (pv 0) rfl) (pg_tup (by rfl) (pgs_cons (pg_name (i := 1) sc_Net_spots.nd rfl (Or.inr rfl)) (pgs_cons (pg_name (i := 2) sc_Net_spots.nd rfl (Or.inl rfl)) (pgs_cons (pg_name (i := 3) sc_Net_spots.nd rfl (Or.inl rfl)) pgs_nil)))))
      (pss_one (ps_ret (pe_lc2 (vs1 := [5]) (own := [("y", 4), ("x", 5)]) (by rfl) sc_Net_spots.nd (pi_range1 (by rfl) T.z_range (pa_cons (pv 3) pa_nil)) (blkOk_by (own := [("y", 4), ("x", 5)]) (N := N_Net_spots) (sc := defScope s_Net_spots) (by decide +kernel)) (by decide) (fun _ _ _ _ _ => (pg_name (i := 4) sc_Net_spots.nd rfl (Or.inl rfl))) (fun _ _ _ _ _ => pts_nil) (fun _ _ _ _ _ => (pi_range1 (by rfl) T.z_range (pa_cons (pv 1) pa_nil))) (fun _ _ _ _ _ => (pg_name (i := 5) sc_Net_spots.nd rfl (Or.inl rfl))) (fun _ _ _ _ _ => pts_nil) (fun _ _ _ _ _ => (pe_tup (pa_cons (pv 5) (pa_cons (pv 4) pa_nil)))))))), ?_⟩
    have ok := sm.ok
    have a1 := ok.a1
    have c1 := ok.c1
    have a9 := sm.a9
    have c9 := sm.c9
    refine ⟨_, rfl, p, _, dx, _, _, rfl, hp, T.cl_Net, T.n0_own_numbers, rfl, t, _, rfl, SqT.of ht, rfl, _, _, rfl, _, _, rfl, _, _, rfl, rfl, ?_⟩
    refine ⟨_, rfl, n.c, rfl, by omega, by omega, fun D hD => ⟨fun i m H' => m = n.c.toNat - i ∧ i ≤ n.c.toNat ∧ ∃ ts, H' D = some (.lst (ts.map .ref)) ∧ Pls H' ts ((Lm.spots n).take (i * n.a.toNat)) ∧ Same H H', ⟨_, rfl, Nat.zero_le _, [], upd_same, ?_, same_new hD⟩, ?_⟩⟩
    · rw [Nat.zero_mul]; exact .nil
    rintro i m H1 ⟨rfl, hi, ts, hL, hP, hS⟩
    by_cases hlt : i < n.c.toNat
    · refine .inr ⟨hlt, fun H' => ∃ ts, H' D = some (.lst (ts.map .ref)) ∧ Pls H' ts ((Lm.spots n).take ((i + 1) * n.a.toNat)) ∧ Same H H', fun H' q => ⟨_, by omega, rfl, hlt, q⟩, fun x H' y => ?_⟩
      obtain ⟨e, rfl⟩ := y
      subst e
      refine ⟨rfl, _, rfl, n.a, rfl, by omega, by omega, fun j m H' => m = n.a.toNat - j ∧ j ≤ n.a.toNat ∧ ∃ ts, H' D = some (.lst (ts.map .ref)) ∧ Pls H' ts ((Lm.spots n).take (i * n.a.toNat + j)) ∧ Same H H', ⟨_, rfl, Nat.zero_le _, ts, hL, hP, hS⟩, ?_⟩
      rintro j m H2 ⟨rfl, hj, ts2, hL2, hP2, hS2⟩
      by_cases hlt2 : j < n.a.toNat
      · refine .inr ⟨hlt2, fun H' => ∃ ts, H' D = some (.lst (ts.map .ref)) ∧ Pls H' ts ((Lm.spots n).take (i * n.a.toNat + (j + 1))) ∧ Same H H', fun H' q => ⟨_, by omega, rfl, hlt2, q⟩, fun x H' y => ?_⟩
        obtain ⟨e, rfl⟩ := y
        subst e
        refine ⟨rfl, _, rfl, _, rfl, by show 2 ≤ sizeLine; decide, fun T0 hT => ?_⟩
        have hD0 : H D = none := hD
        have nTD : D ≠ T0 := ne_of_none hL2 hT
        refine ⟨ts2.map .ref, by rw [upd_ne nTD]; exact hL2, ?_, ts2 ++ [T0], by rw [upd_same, List.map_append]; rfl, ?_, same_upd (hS2.trans (same_new hT)) hD⟩
        · have h1 := hP2.length
          rw [List.length_take, Lm.spots_length] at h1
          rw [List.length_map]
          refine small1000 ?_
          have := sm.sizeN
          omega
        · rw [spots_next ok hlt hlt2]
          refine (Pls.imp hP2 fun t xs e => ?_).snoc ?_
          · rw [upd_ne (ne_of e hL2 (by intro z; cases z)), upd_ne (ne_of_none e hT)]; exact e
          · rw [upd_ne nTD.symm, upd_same]
            simp
      · have e : j = n.a.toNat := by omega
        subst e
        refine .inl ⟨Nat.le_refl _, ts2, hL2, ?_, hS2⟩
        rw [Nat.add_mul, Nat.one_mul]
        exact hP2
    · have e : i = n.c.toNat := by omega
      subst e
      refine .inl ⟨Nat.le_refl _, k _ D ts hS hD hL ?_⟩
      have h2 : Lm.size n = n.c.toNat * n.a.toNat := by
        have e2 := Lm.size_cast ok
        have ea : ((n.a.toNat : Nat) : Int) = n.a := Int.toNat_of_nonneg (by omega)
        have ec : ((n.c.toNat : Nat) : Int) = n.c := Int.toNat_of_nonneg (by omega)
        have : ((Lm.size n : Nat) : Int) = ((n.c.toNat * n.a.toNat : Nat) : Int) := by rw [e2, Int.natCast_mul, ea, ec, Int.mul_comm]
        omega
      rw [List.take_of_length_le (by rw [Lm.spots_length, h2]; exact Nat.le_refl _)] at hP
      exact hP
end
end Cp
end
section
set_option Elab.async false
set_option linter.all false
set_option maxRecDepth 100000
set_option maxHeartbeats 4000000
namespace Cp
open PySem PySem.Spec PyProof.Rows L2
/-! ### carpets: the least cell -/
abbrev st (l : List Nat) : Str := ⟨l.toArray⟩
abbrev sg (c : Nat) : Str := ⟨#[c]⟩
theorem st_len (l : List Nat) : (st l).length = l.length := by show l.toArray.size = _; simp
def sp_colour_at (ca : Nat → Addr) : Sp := fun vs H Q _ => ∃ (p t : Addr) (n : Lm.Nt) (z : List Nat) (x y : Int), vs = [.ref p, .str (st z), .ref t] ∧ IsNet ca H p n ∧ Sm n ∧ z.length = Lm.size n ∧ H t = some (pl x y) ∧
  ∀ u, H u = none → Q (.str (sg (Lm.col n z x y))) (upd H u (pl (Lm.lowX n x y) (Lm.lowY n y)))
def sp_is_kept (ca : Nat → Addr) : Sp := fun vs H Q _ => ∃ (p t : Addr) (n : Lm.Nt) (z : List Nat) (u v : Int), vs = [.ref p, .str (st z), .ref t] ∧ IsNet ca H p n ∧ Sm n ∧ z.length = Lm.size n ∧ H t = some (pl u v) ∧
  ∀ b H', Same H H' → (b = true ↔ Lm.Kept (Lm.col n z) u v) → Q (.bl b) H'
section
variable {P : Program} {w : World} {K : PySem.W.Frag} {mg : Str → Option Value} {base : Heap} {fa : Nat → Addr} {fd : Nat → FuncData} {ca pa : Nat → Addr}
theorem ok_colour_at (T : Tx K mg fa fd ca pa) : FnOk P w K mg base CX0 3 (fa 18) (fd 18) P_colour_at (sp_colour_at ca) := by
  refine T.f_colour_at.ok sc_colour_at (fun vs H Q E h => ?_) (fun cdv A outer s H vs Q E hr h => ?_)
  · obtain ⟨p, t, n, z, x, y, rfl, hN, sm, hz, ht, k⟩ := h; rfl
  · obtain ⟨p, t, n, z, x, y, rfl, hN, sm, hz, ht, k⟩ := h
    refine ⟨_, (pss_cons (ps_asg (pe_meth (pv 0) T.cl_Net T.m_Net_place_in_cell (ok_Net_place_in_cell T) (hr.mono (by decide)) T.b_Net_place_in_cell .nil pass0 (pa_cons (pv 2) pa_nil)) (pg_tup (by rfl) (pgs_cons (pg_name (i := 3) sc_colour_at.nd rfl (Or.inl rfl)) (pgs_cons (pg_name (i := 4) sc_colour_at.nd rfl (Or.inl rfl)) pgs_nil))))
      (pss_one (ps_ret (pe_ix ix_str (pv 1) (pe_op op_add (pe_op op_mul (pv 4) (pe_ix ix_tup (pe_prop (pv 0) T.cl_Net T.p_Net_numbers (ok_Net_numbers T) (hr.mono (by decide)) T.b_Net_numbers .nil pass0 rfl) pe_int (fun _ _ => rfl))) (pv 3)) (fun _ _ => rfl))))), ?_⟩
    have ok := sm.ok
    have hN' := hN
    obtain ⟨dx, v, hp, hv⟩ := hN'
    refine ⟨_, rfl, p, dx, _, rfl, hp, rfl, _, rfl, p, t, n, x, y, rfl, hN, sm, ht, fun u hu => ?_⟩
    have s1 := same_new (o := pl (Lm.lowX n x y) (Lm.lowY n y)) hu
    refine ⟨u, _, rfl, SqT.of upd_same, rfl, _, _, rfl, _, _, rfl, rfl, ?_⟩
    refine ⟨_, rfl, _, rfl, _, rfl, p, dx, _, rfl, s1 _ _ hp, p, dx, v, n, rfl, s1 _ _ hp, s1 _ _ hv, v, _, _, _, rfl, rfl, SqT.of (s1 _ _ hv), atI_nat (j := 0) rfl, ?_⟩
    have h1 := Lm.lowX_nonneg ok x y
    have h2 := Lm.lowX_lt ok x y
    have h3 := Lm.lowY_nonneg ok y
    have h4 := Lm.lowY_lt ok y
    have c9 := sm.c9
    refine ⟨_, _, rfl, rfl, .inl ⟨by omega, by omega⟩, _, rfl, _, _, rfl, rfl, ?_⟩
    have hi : Lm.ix n (Lm.lowX n x y) (Lm.lowY n y) < z.length := by rw [hz]; exact Lm.ix_lt ok h1 h2 h3 h4
    have ei := Lm.ix_cast ok h1 h3 (n := n)
    refine ⟨st z, Lm.lowY n y * n.a + Lm.lowX n x y, z[Lm.ix n (Lm.lowX n x y) (Lm.lowY n y)], rfl, rfl, ?_, ?_, ?_⟩
    · rw [st_len, hz]; exact Nat.le_trans sm.sizeN (by decide)
    · rw [← ei]
      exact atI_nat (by simp [hi])
    · have q := k u hu
      have e : Lm.col n z x y = z[Lm.ix n (Lm.lowX n x y) (Lm.lowY n y)] := by
        unfold Lm.col
        rw [List.getD_eq_getElem?_getD, List.getElem?_eq_getElem hi]
        rfl
      rw [e] at q
      exact q
theorem ok_is_kept (T : Tx K mg fa fd ca pa) : FnOk P w K mg base CX0 4 (fa 19) (fd 19) P_is_kept (sp_is_kept ca) := by
  refine T.f_is_kept.ok sc_is_kept (fun vs H Q E h => ?_) (fun cdv A outer s H vs Q E hr h => ?_)
  · obtain ⟨p, t, n, z, u, v, rfl, hN, sm, hz, ht, k⟩ := h; rfl
  · obtain ⟨p, t, n, z, u, v, rfl, hN, sm, hz, ht, k⟩ := h
    refine ⟨_, (pss_cons (ps_for PassesOwn.never rfl (pi_list (pe_meth0 (pv 0) T.cl_Net T.m_Net_spots (ok_Net_spots T) (hr.mono (by decide)) T.b_Net_spots .nil pass0)) (pg_name (i := 3) sc_is_kept.nd rfl (Or.inl rfl)) (pss_one (ps_if (pt_cmpR op_ne (pe_call (ok_colour_at T) (hr.mono (by decide)) (by rfl) T.g_colour_at T.f_colour_at.kp T.b_colour_at .nil pass0 (pa_cons (pv 0) (pa_cons (pv 1) (pa_cons (pv 3) pa_nil)))) (pe_call (ok_colour_at T) (hr.mono (by decide)) (by rfl) T.g_colour_at T.f_colour_at.kp T.b_colour_at .nil pass0 (pa_cons (pv 0) (pa_cons (pv 1) (pa_cons (pe_call (ok_plus T) (hr.mono (by decide)) (by rfl) T.g_plus T.f_plus.kp T.b_plus .nil pass0 (pa_cons (pv 3) (pa_cons (pv 2) pa_nil))) pa_nil)))) (nomark _)) (pss_one (ps_ret pe_bl)) pss_nil)))
      (pss_one (ps_ret pe_bl))), ?_⟩
    have ok := sm.ok
    have hN' := hN
    obtain ⟨dx, nt, hp, hv⟩ := hN'
    refine ⟨_, rfl, p, dx, _, rfl, hp, rfl, p, n, rfl, hN, sm, fun H1 D ts s1 hD hL hP => ?_⟩
    refine ⟨D, rfl, ⟨_, SqL.of hL⟩, for_list (K := K) (a := D) (xs := ts.map .ref) (fun i σ H' => (∃ c, σ = [some (.ref p), some (.str (st z)), some (.ref t), c]) ∧ Same H1 H' ∧ ∀ j q, j < i → (Lm.spots n)[j]? = some q → Lm.col n z (q.1 + u) (q.2 + v) = Lm.col n z q.1 q.2) ⟨⟨_, rfl⟩, Same.refl _, fun j q hj => absurd hj (by omega)⟩ (fun i σ H' _ q => SqL.of (q.2.1 _ _ hL)) ?_ ?_⟩
    · rintro i w0 σ H2 hi ⟨⟨c0, rfl⟩, s2, hkept⟩
      obtain ⟨t0, ht0, rfl⟩ : ∃ t0, ts[i]? = some t0 ∧ w0 = V.ref t0 := by
        rw [List.getElem?_map] at hi
        cases e : ts[i]? with
        | none => rw [e] at hi; cases hi
        | some z => rw [e] at hi; exact ⟨z, rfl, (Option.some.inj hi).symm⟩
      obtain ⟨q0, hq0, hpl⟩ := hP.get ht0
      have hN2 := (hN.same s1).same s2
      refine ⟨_, rfl, _, rfl, _, rfl, p, t0, n, z, q0.1, q0.2, rfl, hN2, sm, hz, s2 _ _ hpl, fun a ha => ?_⟩
      have s3 := same_new (o := pl (Lm.lowX n q0.1 q0.2) (Lm.lowY n q0.2)) ha
      refine ⟨_, rfl, _, rfl, _, rfl, _, rfl, t0, t, q0.1, q0.2, u, v, rfl, s3 _ _ (s2 _ _ hpl), s3 _ _ (s2 _ _ (s1 _ _ ht)), fun b hb => ?_⟩
      have s4 := same_new (o := pl (q0.1 + u) (q0.2 + v)) hb
      refine ⟨p, b, n, z, q0.1 + u, q0.2 + v, rfl, (hN2.same s3).same s4, sm, hz, upd_same, fun d hd => ?_⟩
      have s5 := same_new (o := pl (Lm.lowX n (q0.1 + u) (q0.2 + v)) (Lm.lowY n (q0.2 + v))) hd
      have sAll := (s3.trans s4).trans s5
      refine ⟨rfl, _, rfl, ?_⟩
      by_cases hc : Lm.col n z q0.1 q0.2 = Lm.col n z (q0.1 + u) (q0.2 + v)
      · have e : (!decide (V.str (sg (Lm.col n z q0.1 q0.2)) = V.str (sg (Lm.col n z (q0.1 + u) (q0.2 + v))))) = false := by rw [hc]; simp
        rw [e]
        refine iteF ⟨⟨_, rfl⟩, s2.trans sAll, fun j q hj hq => ?_⟩
        by_cases hji : j = i
        · subst hji
          rw [hq0] at hq; cases hq
          exact hc.symm
        · exact hkept j q (by omega) hq
      · have e : (!decide (V.str (sg (Lm.col n z q0.1 q0.2)) = V.str (sg (Lm.col n z (q0.1 + u) (q0.2 + v))))) = true := by
          rw [decide_eq_false (fun z => hc (by injection z with z; injection z with z; simpa using z))]; rfl
        rw [e]
        refine iteT ?_
        refine k false _ ((s1.trans s2).trans sAll) ⟨(fun z => by cases z), fun hk => absurd (hk q0.1 q0.2).symm hc⟩
    · rintro σ H2 ⟨⟨c0, rfl⟩, s2, hkept⟩
      refine k true _ (s1.trans s2) ⟨fun _ => ?_, fun _ => rfl⟩
      refine Lm.kept_of_cell ok (Lm.col_base ok z).1 (Lm.col_base ok z).2 fun q hq => ?_
      obtain ⟨j, hj, e⟩ := List.mem_iff_getElem.mp hq
      refine hkept j q ?_ (by rw [List.getElem?_eq_getElem hj, e])
      rw [List.length_map, hP.length]
      exact hj
end
theorem mem_divs {n d : Int} : d ∈ divs n ↔ 1 ≤ d ∧ d ≤ n ∧ n.fmod d = 0 := by
  unfold divs
  rw [List.mem_filter, List.mem_map]
  constructor
  · rintro ⟨⟨i, hi, rfl⟩, h⟩
    have := List.mem_range.mp hi
    exact ⟨by omega, by omega, of_decide_eq_true h⟩
  · rintro ⟨h1, h2, h3⟩
    exact ⟨⟨(d - 1).toNat, List.mem_range.mpr (by omega), by omega⟩, decide_eq_true h3⟩
theorem dvd_fmod {n d : Int} (h : 1 ≤ d) : d ∣ n ↔ n.fmod d = 0 := by
  rw [Int.fmod_eq_emod_of_nonneg _ (by omega)]
  exact Int.dvd_iff_emod_eq_zero
theorem divs_of {n d : Int} (hn : 1 ≤ n) (h1 : 1 ≤ d) (h2 : d ∣ n) : d ∈ divs n := mem_divs.mpr ⟨h1, Int.le_of_dvd (by omega) h2, (dvd_fmod h1).mp h2⟩
theorem divs_sorted (n : Int) : (divs n).Pairwise (· < ·) := by
  unfold divs
  refine List.Pairwise.filter _ (List.Pairwise.map _ (fun a b h => ?_) List.pairwise_lt_range)
  omega
theorem before {l : List Int} (hs : l.Pairwise (· < ·)) {i : Nat} {r d : Int} (hr : l[i]? = some r) (hd : d ∈ l) (h : d < r) : ∃ j, j < i ∧ l[j]? = some d := by
  obtain ⟨j, hj, e⟩ := List.mem_iff_getElem.mp hd
  obtain ⟨hi, er⟩ := List.getElem?_eq_some_iff.mp hr
  refine ⟨j, ?_, by rw [List.getElem?_eq_getElem hj, e]⟩
  rcases Nat.lt_trichotomy j i with z | z | z
  · exact z
  · subst z; rw [er] at e; omega
  · have := (List.pairwise_iff_getElem.mp hs) i j hi hj z
    omega
theorem head_least {l : List Int} (hs : l.Pairwise (· < ·)) {p : Int → Bool} {h : Int} {t : List Int} (e : l.filter p = h :: t) : h ∈ l ∧ p h = true ∧ ∀ d ∈ l, d < h → p d = false := by
  have hm : h ∈ l.filter p := by rw [e]; exact List.mem_cons_self
  refine ⟨(List.mem_filter.mp hm).1, (List.mem_filter.mp hm).2, fun d hd hlt => ?_⟩
  cases q : p d with
  | false => rfl
  | true =>
    have hd' : d ∈ h :: t := by rw [← e]; exact List.mem_filter.mpr ⟨hd, q⟩
    have hs' := hs.filter p
    rw [e] at hs'
    rcases List.mem_cons.mp hd' with z | z
    · omega
    · have := (List.pairwise_cons.mp hs').1 d z
      omega
open Classical in
noncomputable def kb (f : Lm.Fn) (d : Int) : Bool := decide (Lm.Kept f d 0)
theorem kb_iff {f : Lm.Fn} {d : Int} : kb f d = true ↔ Lm.Kept f d 0 := by unfold kb; exact @decide_eq_true_iff _ (Classical.propDecidable _)
def sp_kept_net (ca : Nat → Addr) : Sp := fun vs H Q _ => ∃ (p : Addr) (n : Lm.Nt) (z : List Nat), vs = [.ref p, .str (st z)] ∧ IsNet ca H p n ∧ Sm n ∧ z.length = Lm.size n ∧
  ∀ q k H', Same H H' → Lm.Least (Lm.col n z) k → Sm k → IsNet ca H' q k → Q (.ref q) H'
section
variable {P : Program} {w : World} {K : PySem.W.Frag} {mg : Str → Option Value} {base : Heap} {fa : Nat → Addr} {fd : Nat → FuncData} {ca pa : Nat → Addr}
theorem ok_kept_net (T : Tx K mg fa fd ca pa) : FnOk P w K mg base CX0 5 (fa 20) (fd 20) P_kept_net (sp_kept_net ca) := by
  refine T.f_kept_net.ok sc_kept_net (fun vs H Q E h => ?_) (fun cdv A outer s H vs Q E hr h => ?_)
  · obtain ⟨p, n, z, rfl, hN, sm, hz, k⟩ := h; rfl
  · obtain ⟨p, n, z, rfl, hN, sm, hz, k⟩ := h
    refine ⟨_, (pss_cons (ps_asg (pe_prop (pv 0) T.cl_Net T.p_Net_numbers (ok_Net_numbers T) (hr.mono (by decide)) T.b_Net_numbers .nil pass0 rfl) (pg_tup (by rfl) (pgs_cons (pg_name (i := 2) sc_kept_net.nd rfl (Or.inl rfl)) (pgs_cons (pg_name (i := 3) sc_kept_net.nd rfl (Or.inl rfl)) (pgs_cons (pg_name (i := 4) sc_kept_net.nd rfl (Or.inl rfl)) pgs_nil)))))
      (pss_cons (ps_set (i := 5) sc_kept_net.nd rfl (Or.inl rfl) (pe_ix ix_list (pe_lc (own := [("number", 6)]) (by rfl) sc_kept_net.nd (pi_list (pe_call (ok_divisors T) (hr.mono (by decide)) (by rfl) T.g_divisors T.f_divisors.kp T.b_divisors .nil pass0 (pa_cons (pv 2) pa_nil))) (blkOk_by (own := [("number", 6)]) (N := N_kept_net) (sc := defScope s_kept_net) (by decide +kernel)) (fun _ _ _ _ _ => (pg_name (i := 6) sc_kept_net.nd rfl (Or.inl rfl))) (fun _ _ _ _ _ => pts_one (pt_val (pe_call (ok_is_kept T) (hr.mono (by decide)) (by rfl) T.g_is_kept T.f_is_kept.kp T.b_is_kept .nil pass0 (pa_cons (pv 0) (pa_cons (pv 1) (pa_cons (pe_tup (pa_cons (pv 6) (pa_cons pe_int pa_nil))) pa_nil)))))) (fun _ _ _ _ _ => (pv 6))) pe_int (fun _ _ => rfl)))
      (pss_cons (ps_for PassesOwn.never rfl (pi_list (pe_call (ok_divisors T) (hr.mono (by decide)) (by rfl) T.g_divisors T.f_divisors.kp T.b_divisors .nil pass0 (pa_cons (pv 4) pa_nil))) (pg_name (i := 7) sc_kept_net.nd rfl (Or.inl rfl)) (pss_one (ps_for PassesOwn.never rfl (pi_range1 (by rfl) T.z_range (pa_cons (pv 5) pa_nil)) (pg_name (i := 8) sc_kept_net.nd rfl (Or.inl rfl)) (pss_one (ps_if (pt_val (pe_call (ok_is_kept T) (hr.mono (by decide)) (by rfl) T.g_is_kept T.f_is_kept.kp T.b_is_kept .nil pass0 (pa_cons (pv 0) (pa_cons (pv 1) (pa_cons (pe_tup (pa_cons (pv 8) (pa_cons (pv 7) pa_nil))) pa_nil))))) (pss_one (ps_ret (pe_make T.mk0 (ok_Net___init__ T) (hr.mono (by decide)) (by rfl) T.g_Net T.b_Net___init__ .nil pass0 (pa_cons (pv 5) (pa_cons (pv 8) (pa_cons (pv 7) pa_nil)))))) pss_nil)))))
      (pss_one (ps_ret (pv 0)))))), ?_⟩
    have ok := sm.ok
    have a9 := sm.a9
    have c9 := sm.c9
    have a1 := ok.a1
    have c1 := ok.c1
    have hN' := hN
    obtain ⟨dx, nt, hp, hv⟩ := hN'
    have kbase := Lm.col_base ok z
    refine ⟨_, rfl, p, dx, _, rfl, hp, p, dx, nt, n, rfl, hp, hv, nt, _, rfl, SqT.of hv, rfl, _, _, rfl, _, _, rfl, _, _, rfl, rfl, ?_⟩
    refine ⟨_, rfl, n.a, rfl, a1, by omega, fun H1 D0 s1 hD0 hL => ⟨D0, rfl, ⟨_, SqL.of hL⟩, fun D hD => lc_list (K := K) (a := D0) (xs := (divs n.a).map .int) (fun i H' => Same H1 H' ∧ H' D = some (.lst ((((divs n.a).take i).filter (kb (Lm.col n z))).map .int))) ⟨same_new hD, upd_same⟩ (fun i H' _ q => SqL.of (q.1 _ _ hL)) (fun i v H2 hi q => ?_) (fun H2 q => ?_)⟩⟩
    · obtain ⟨d, hd, rfl⟩ : ∃ d, (divs n.a)[i]? = some d ∧ v = V.int d := by
        rw [List.getElem?_map] at hi
        cases e : (divs n.a)[i]? with
        | none => rw [e] at hi; cases hi
        | some z => rw [e] at hi; exact ⟨z, rfl, (Option.some.inj hi).symm⟩
      obtain ⟨s2, hLD⟩ := q
      refine ⟨rfl, _, rfl, _, rfl, _, rfl, by show 2 ≤ sizeLine; decide, fun t0 ht0 => ?_⟩
      have s3 := same_new (o := pl d 0) ht0
      refine ⟨p, t0, n, z, d, 0, rfl, ((hN.same s1).same s2).same s3, sm, hz, upd_same, fun b H3 s4 hb => ⟨b, rfl, ?_⟩⟩
      have et : (divs n.a).take (i + 1) = (divs n.a).take i ++ [d] := by rw [List.take_add_one, hd]; rfl
      have hD3 : H3 D = some (.lst ((((divs n.a).take i).filter (kb (Lm.col n z))).map .int)) := s4 _ _ (s3 _ _ hLD)
      have hD1 : H1 D = none := hD
      have sa := (s2.trans s3).trans s4
      cases b with
      | true =>
        refine iteT ⟨_, rfl, _, hD3, ?_, same_upd sa hD1, ?_⟩
        · rw [List.length_map]
          refine small1000 (Nat.le_trans (List.length_filter_le _ _) ?_)
          have h1 : (divs n.a).length ≤ n.a.toNat := by
            unfold divs
            refine Nat.le_trans (List.length_filter_le _ _) ?_
            simp
          rw [List.length_take]
          omega
        · rw [upd_same, et, List.filter_append, List.map_append]
          have := kb_iff.mpr (hb.mp rfl)
          simp [this]
      | false =>
        refine iteF ⟨sa, ?_⟩
        rw [hD3, et, List.filter_append, List.map_append]
        have : kb (Lm.col n z) d = false := by
          cases q : kb (Lm.col n z) d with
          | false => rfl
          | true => exact absurd (hb.mpr (kb_iff.mp q)) (by simp)
        simp [this]
    obtain ⟨s2, hLD⟩ := q
    rw [List.length_map, List.take_length] at hLD
    obtain ⟨wd, rest, ew⟩ : ∃ wd rest, (divs n.a).filter (kb (Lm.col n z)) = wd :: rest := by
      cases e : (divs n.a).filter (kb (Lm.col n z)) with
      | cons a l => exact ⟨a, l, rfl⟩
      | nil =>
        have : n.a ∈ (divs n.a).filter (kb (Lm.col n z)) := List.mem_filter.mpr ⟨divs_of a1 a1 (Int.dvd_refl _), kb_iff.mpr kbase.1⟩
        rw [e] at this
        cases this
    obtain ⟨hw1, hw2, hw3⟩ := head_least (divs_sorted _) ew
    obtain ⟨w1, wa, wf⟩ := mem_divs.mp hw1
    have hwK := kb_iff.mp hw2
    rw [ew] at hLD
    refine ⟨D, _, 0, _, rfl, rfl, SqL.of hLD, atI_nat (j := 0) rfl, ?_⟩
    have s12 := s1.trans s2
    have hN2 := hN.same s12
    refine ⟨_, rfl, n.c, rfl, c1, by omega, fun H3 D3 s3 hD3 hL3 => ⟨D3, rfl, ⟨_, SqL.of hL3⟩, for_list (K := K) (a := D3) (xs := (divs n.c).map .int)
      (fun i σ H' => (∃ c0 c1, σ = [some (.ref p), some (.str (st z)), some (.int n.a), some (.int n.b), some (.int n.c), some (.int wd), none, c0, c1]) ∧ Same H3 H' ∧ ∀ j d, j < i → (divs n.c)[j]? = some d → ∀ x, 0 ≤ x → x < wd → ¬ Lm.Kept (Lm.col n z) x d)
      ⟨⟨none, none, rfl⟩, Same.refl _, fun j d hj => absurd hj (by omega)⟩ (fun i σ H' _ q => SqL.of (q.2.1 _ _ hL3)) ?_ ?_⟩⟩
    · rintro i v σ H4 hi ⟨⟨c0, c1', rfl⟩, s4, hno⟩
      obtain ⟨r, hr0, rfl⟩ : ∃ r, (divs n.c)[i]? = some r ∧ v = V.int r := by
        rw [List.getElem?_map] at hi
        cases e : (divs n.c)[i]? with
        | none => rw [e] at hi; cases hi
        | some z => rw [e] at hi; exact ⟨z, rfl, (Option.some.inj hi).symm⟩
      obtain ⟨r1, rc, rf⟩ := mem_divs.mp (List.mem_of_getElem? hr0)
      have s34 := (s12.trans s3).trans s4
      refine ⟨_, rfl, wd, rfl, by omega, by omega, for_range (lo := 0) (n := wd.toNat)
        (fun j σ H' => (∃ c1, σ = [some (.ref p), some (.str (st z)), some (.int n.a), some (.int n.b), some (.int n.c), some (.int wd), none, some (.int r), c1]) ∧ Same H3 H' ∧ ∀ x, 0 ≤ x → x < (j : Int) → ¬ Lm.Kept (Lm.col n z) x r)
        ⟨⟨_, rfl⟩, s4, fun x h1 h2 => absurd h2 (by omega)⟩ ?_ ?_⟩
      · rintro j σ H5 hj ⟨⟨c2, rfl⟩, s5, hno2⟩
        have s35 := (s12.trans s3).trans s5
        refine ⟨_, rfl, _, rfl, _, rfl, _, rfl, by show 2 ≤ sizeLine; decide, fun t0 ht0 => ?_⟩
        have s6 := same_new (o := pl (0 + (j : Int)) r) ht0
        refine ⟨p, t0, n, z, 0 + (j : Int), r, rfl, (hN.same s35).same s6, sm, hz, upd_same, fun b H6 s7 hb => ⟨b, rfl, ?_⟩⟩
        have e0 : (0 : Int) + (j : Int) = (j : Int) := by omega
        cases b with
        | false =>
          refine iteF ⟨⟨_, rfl⟩, (s5.trans s6).trans s7, fun x h1 h2 hk => ?_⟩
          by_cases hx : x = (j : Int)
          · have := hb.mpr (by rw [e0, ← hx]; exact hk)
            cases this
          · exact hno2 x h1 (by omega) hk
        | true =>
          have hk := hb.mp rfl
          rw [e0] at hk
          have hL : Lm.Least (Lm.col n z) ⟨wd, (j : Int), r⟩ := by
            refine Lm.least_of ok kbase.1 kbase.2 w1 hwK (fun d h1 h2 h3 hkd => ?_) r1 (by omega) (by omega) hk (fun d h1 h2 h3 x h4 h5 => ?_)
            · have := hw3 d (divs_of a1 h1 h3) h2
              rw [kb_iff.mpr hkd] at this
              cases this
            · obtain ⟨j', hj', e⟩ := before (divs_sorted n.c) hr0 (divs_of c1 h1 h3) h2
              exact hno j' d hj' e x h4 h5
          have smk : Sm ⟨wd, (j : Int), r⟩ := ⟨hL.ok, by show wd ≤ 9; omega, by show r ≤ 9; omega⟩
          refine iteT ?_
          refine ⟨_, rfl, _, rfl, _, rfl, fun x dx' nx ndx nex => ?_⟩
          refine ⟨x, dx', ⟨wd, (j : Int), r⟩, ?_, upd_same, hL.ok, fun H7 hkp hnet => ⟨rfl, k x _ _ (((s35.trans s6).trans s7).trans fun b o e => ?_) hL smk hnet⟩⟩
          · rw [e0]; rfl
          · refine hkp b o (ne_of_none e nx) ?_
            rw [upd_ne (ne_of_none e nx), upd_ne (ne_of_none e ndx)]
            exact e
      · rintro σ H5 ⟨⟨c2, rfl⟩, s5, hno2⟩
        refine ⟨⟨_, _, rfl⟩, s5, fun j d hj hd x h1 h2 => ?_⟩
        by_cases hji : j = i
        · subst hji
          rw [hr0] at hd; cases hd
          exact hno2 x h1 (by omega)
        · exact hno j d (by omega) hd x h1 h2
    · rintro σ H4 ⟨⟨c0, c1', rfl⟩, s4, hno⟩
      exfalso
      obtain ⟨x, h1, h2, h3⟩ := Lm.least_ends ok kbase.2 w1 hwK
      obtain ⟨j, hj, e⟩ := List.mem_iff_getElem.mp (divs_of c1 c1 (Int.dvd_refl n.c))
      rw [List.length_map] at hno
      exact hno j n.c hj (by rw [List.getElem?_eq_getElem hj, e]) x h1 h2 h3
end
end Cp
end
section
set_option Elab.async false
set_option linter.all false
set_option maxRecDepth 100000
set_option maxHeartbeats 4000000
namespace Cp
open PySem PySem.Spec PyProof.Rows L2
theorem str_ext {a b : Str} (h : a.cps.toList = b.cps.toList) : a = b := by
  cases a; cases b
  simp only [Str.mk.injEq]
  exact Array.toList_inj.mp h
theorem join_sg : ∀ l : List Nat, Str.join (Str.ofString "") (l.map sg) = st l
  | [] => rfl
  | [x] => rfl
  | x :: y :: r => by
    have ih := join_sg (y :: r)
    have e0 : (Str.ofString "").cps.toList = [] := by decide +kernel
    refine str_ext ?_
    show ((sg x).cps ++ (Str.ofString "").cps ++ (Str.join (Str.ofString "") ((y :: r).map sg)).cps).toList = _
    rw [ih, Array.toList_append, Array.toList_append, e0]
    simp
theorem join_sum : ∀ l : List Nat, ((l.map sg).map (·.length)).sum = l.length
  | [] => rfl
  | x :: r => by
    have ih := join_sum r
    show (sg x).length + ((r.map sg).map (·.length)).sum = r.length + 1
    rw [ih]
    show 1 + r.length = _
    omega
theorem putF_2 {f g : Str} {v w : V} (h : ¬ f = g) : putF g w (putF f v []) = [(f, v), (g, w)] := by
  simp [putF, h]
/-- a carpet: the colouring f on its least net -/
def IsCar (ca : Nat → Addr) (H : Hp) (p : Addr) (f : Lm.Fn) : Prop := ∃ dx q k, H p = some (.ins (ca 2) dx [("own_net", .ref q), ("own_text", .str (st (Lm.textOf k f)))]) ∧ IsNet ca H q k ∧ Lm.Least f k ∧ Sm k
theorem IsCar.same {ca : Nat → Addr} {H H' : Hp} {p : Addr} {f : Lm.Fn} (s : Same H H') (h : IsCar ca H p f) : IsCar ca H' p f := by
  obtain ⟨dx, q, k, h1, h2, h3⟩ := h
  exact ⟨dx, q, k, s _ _ h1, h2.same s, h3⟩
def sp_least_cell (ca : Nat → Addr) : Sp := fun vs H Q _ => ∃ (p : Addr) (n : Lm.Nt) (z : List Nat), vs = [.ref p, .str (st z)] ∧ IsNet ca H p n ∧ Sm n ∧ z.length = Lm.size n ∧
  ∀ t q k H', Same H H' → Lm.Least (Lm.col n z) k → Sm k → IsNet ca H' q k → H' t = some (.tup [.ref q, .str (st (Lm.textOf k (Lm.col n z)))]) → Q (.ref t) H'
def sp_Woven_init (ca : Nat → Addr) : Sp := fun vs H Q _ => ∃ (s dx p : Addr) (n : Lm.Nt) (z : List Nat), vs = [.ref s, .ref p, .str (st z)] ∧ H s = some (.ins (ca 2) dx []) ∧ IsNet ca H p n ∧ Sm n ∧ z.length = Lm.size n ∧
  ∀ H', (∀ b o, b ≠ s → H b = some o → H' b = some o) → IsCar ca H' s (Lm.col n z) → Q .non H'
section
variable {P : Program} {w : World} {K : PySem.W.Frag} {mg : Str → Option Value} {base : Heap} {fa : Nat → Addr} {fd : Nat → FuncData} {ca pa : Nat → Addr}
theorem ok_least_cell (T : Tx K mg fa fd ca pa) : FnOk P w K mg base CX0 6 (fa 21) (fd 21) P_least_cell (sp_least_cell ca) := by
  refine T.f_least_cell.ok sc_least_cell (fun vs H Q E h => ?_) (fun cdv A outer s H vs Q E hr h => ?_)
  · obtain ⟨p, n, z, rfl, hN, sm, hz, k⟩ := h; rfl
  · obtain ⟨p, n, z, rfl, hN, sm, hz, k⟩ := h
    refine ⟨_, (pss_cons (ps_set (i := 2) sc_least_cell.nd rfl (Or.inl rfl) (pe_call (ok_kept_net T) (hr.mono (by decide)) (by rfl) T.g_kept_net T.f_kept_net.kp T.b_kept_net .nil pass0 (pa_cons (pv 0) (pa_cons (pv 1) pa_nil))))
      (pss_one (ps_ret (pe_tup (pa_cons (pv 2) (pa_cons (pe_join pe_str (pe_lc (own := [("place", 3)]) (by rfl) sc_least_cell.nd (pi_list (pe_meth0 (pv 2) T.cl_Net T.m_Net_spots (ok_Net_spots T) (hr.mono (by decide)) T.b_Net_spots .nil pass0)) (blkOk_by (own := [("place", 3)]) (N := N_least_cell) (sc := defScope s_least_cell) (by decide +kernel)) (fun _ _ _ _ _ => (pg_name (i := 3) sc_least_cell.nd rfl (Or.inl rfl))) (fun _ _ _ _ _ => pts_nil) (fun _ _ _ _ _ => (pe_call (ok_colour_at T) (hr.mono (by decide)) (by rfl) T.g_colour_at T.f_colour_at.kp T.b_colour_at .nil pass0 (pa_cons (pv 0) (pa_cons (pv 1) (pa_cons (pv 3) pa_nil))))))) pa_nil)))))), ?_⟩
    refine ⟨_, rfl, _, rfl, p, n, z, rfl, hN, sm, hz, fun q m H1 s1 hL smk hq => ?_⟩
    have hq' := hq
    obtain ⟨dx, nt, hqp, hqv⟩ := hq'
    refine ⟨_, rfl, ⟨_, rfl⟩, _, rfl, q, dx, _, rfl, hqp, rfl, q, m, rfl, hq, smk, fun H2 D0 ts s2 hD0 hL0 hP => ?_⟩
    have sz : (Lm.textOf m (Lm.col n z)).length = Lm.size m := Lm.textOf_length _ _
    refine ⟨D0, rfl, ⟨_, SqL.of hL0⟩, fun D hD => lc_list (K := K) (a := D0) (xs := ts.map .ref) (fun i H' => Same H2 H' ∧ H' D = some (.lst ((((Lm.textOf m (Lm.col n z)).take i).map sg).map V.str))) ⟨same_new hD, upd_same⟩ (fun i H' _ q => SqL.of (q.1 _ _ hL0)) (fun i v H3 hi qq => ?_) (fun H3 qq => ?_)⟩
    · obtain ⟨t0, ht0, rfl⟩ : ∃ t0, ts[i]? = some t0 ∧ v = V.ref t0 := by
        rw [List.getElem?_map] at hi
        cases e : ts[i]? with
        | none => rw [e] at hi; cases hi
        | some z => rw [e] at hi; exact ⟨z, rfl, (Option.some.inj hi).symm⟩
      obtain ⟨q0, hq0, hpl⟩ := hP.get ht0
      obtain ⟨s3, hLD⟩ := qq
      refine ⟨rfl, _, rfl, _, rfl, _, rfl, p, t0, n, z, q0.1, q0.2, rfl, ((hN.same s1).same s2).same s3, sm, hz, s3 _ _ hpl, fun u hu => ?_⟩
      have s4 := same_new (o := pl (Lm.lowX n q0.1 q0.2) (Lm.lowY n q0.2)) hu
      have et : (Lm.textOf m (Lm.col n z)).take (i + 1) = (Lm.textOf m (Lm.col n z)).take i ++ [Lm.col n z q0.1 q0.2] := by
        rw [List.take_add_one]
        unfold Lm.textOf
        rw [List.getElem?_map, hq0]
        rfl
      refine ⟨_, s4 _ _ hLD, ?_, same_upd (s3.trans s4) hD, ?_⟩
      · rw [List.length_map, List.length_map, List.length_take, sz]
        have := smk.sizeN
        exact small1000 (by omega)
      · rw [upd_same, et, List.map_append, List.map_append]
        rfl
    · obtain ⟨s3, hLD⟩ := qq
      rw [List.length_map, hP.length, Lm.spots_length, ← sz, List.take_length] at hLD
      refine ⟨_, D, _, rfl, rfl, .inl (SqL.of hLD), ?_, ?_⟩
      · rw [join_sum, sz, List.length_map, sz]
        have := smk.sizeN
        have e0 : (Str.ofString "").length = 0 := by decide +kernel
        rw [e0]
        omega
      · rw [TL.join_eq, join_sg]
        refine ⟨by show 2 ≤ sizeLine; decide, fun t ht => ?_⟩
        have s4 := same_new (o := HO.tup [.ref q, .str (st (Lm.textOf m (Lm.col n z)))]) ht
        exact k t q m _ (((s1.trans s2).trans s3).trans s4) hL smk (((hq.same s2).same s3).same s4) upd_same
theorem ok_Woven___init__ (T : Tx K mg fa fd ca pa) : FnOk P w K mg base CX0 7 (fa 31) (fd 31) P_Woven___init__ (sp_Woven_init ca) := by
  refine T.f_Woven___init__.ok sc_Woven___init__ (fun vs H Q E h => ?_) (fun cdv A outer s H vs Q E hr h => ?_)
  · obtain ⟨s, dx, p, n, z, rfl, hs, hN, sm, hz, k⟩ := h; rfl
  · obtain ⟨s, dx, p, n, z, rfl, hs, hN, sm, hz, k⟩ := h
    refine ⟨_, (pss_one (ps_asg (pe_call (ok_least_cell T) (hr.mono (by decide)) (by rfl) T.g_least_cell T.f_least_cell.kp T.b_least_cell .nil pass0 (pa_cons (pv 1) (pa_cons (pv 2) pa_nil))) (pg_tup (by rfl) (pgs_cons (pg_fld (pv 0)) (pgs_cons (pg_fld (pv 0)) pgs_nil))))), ?_⟩
    refine ⟨_, rfl, _, rfl, p, n, z, rfl, hN, sm, hz, fun t q m H1 s1 hL smk hq ht => ?_⟩
    refine ⟨t, _, rfl, SqT.of ht, rfl, _, _, rfl, ?_⟩
    have nst : s ≠ t := fun e => by
      rw [← e, s1 _ _ hs] at ht; cases ht
    refine ⟨_, rfl, s, ca 2, dx, _, rfl, s1 _ _ hs, T.cl_Woven, T.n2_own_net, by show 0 < 1000; decide, ?_⟩
    refine ⟨_, _, rfl, _, rfl, s, ca 2, dx, _, rfl, upd_same, T.cl_Woven, T.n2_own_text, by show 1 < 1000; decide, rfl, ?_⟩
    have e1 : putF "own_text" (V.str (st (Lm.textOf m (Lm.col n z)))) (putF "own_net" (V.ref q) []) = ([("own_net", V.ref q), ("own_text", V.str (st (Lm.textOf m (Lm.col n z))))] : List (Str × V)) := putF_2 (by decide +kernel)
    rw [e1, upd_upd]
    refine k _ (fun b o hb e => by rw [upd_ne hb]; exact s1 _ _ e) ⟨dx, q, m, upd_same, ?_, hL, smk⟩
    obtain ⟨d1, d2, h1, h2⟩ := hq
    refine ⟨d1, d2, ?_, ?_⟩
    · rw [upd_ne (ne_of h1 (s1 _ _ hs) (by intro z; injection z with _ _ e; cases e))]; exact h1
    · rw [upd_ne (ne_of h2 (s1 _ _ hs) (by intro z; cases z))]; exact h2
end
/-! ### carpets: methods -/
def sp_seen (ca : Nat → Addr) : Sp := fun vs H Q _ => ∃ (p t : Addr) (f : Lm.Fn) (x y : Int), vs = [.ref p, .ref t] ∧ IsCar ca H p f ∧ H t = some (pl x y) ∧ ∀ u a b, H u = none → Q (.str (sg (f x y))) (upd H u (pl a b))
def sp_getitem (ca : Nat → Addr) : Sp := fun vs H Q _ => ∃ (p t : Addr) (f : Lm.Fn) (x y : Int), vs = [.ref p, .ref t] ∧ IsCar ca H p f ∧ H t = some (pl x y) ∧ ∀ H', Same H H' → Q (.str (sg (f x y))) H'
def sp_car_eq (ca : Nat → Addr) : Sp := fun vs H Q _ => ∃ (p q : Addr) (f g : Lm.Fn), vs = [.ref p, .ref q] ∧ IsCar ca H p f ∧ IsCar ca H q g ∧ ∀ b, (b = true ↔ f = g) → Q (.bl b) H
def sp_car_add (ca : Nat → Addr) : Sp := fun vs H Q _ => ∃ (p t : Addr) (f : Lm.Fn) (x y : Int), vs = [.ref p, .ref t] ∧ IsCar ca H p f ∧ H t = some (pl x y) ∧ ∀ q H', Same H H' → H q = none → IsCar ca H' q (Lm.moved f x y) → Q (.ref q) H'
theorem car_eq {k m : Lm.Nt} {f g : Lm.Fn} (h1 : Lm.Least f k) (h2 : Lm.Least g m) : (k = m ∧ Lm.textOf k f = Lm.textOf m g) ↔ f = g := by
  constructor
  · rintro ⟨rfl, e⟩
    rw [← h1.col, ← h2.col, e]
  · rintro rfl
    have := h1.unique h2
    subst this
    exact ⟨rfl, rfl⟩
section
variable {P : Program} {w : World} {K : PySem.W.Frag} {mg : Str → Option Value} {base : Heap} {fa : Nat → Addr} {fd : Nat → FuncData} {ca pa : Nat → Addr}
theorem ok_Carpet_seen (T : Tx K mg fa fd ca pa) : FnOk P w K mg base CX0 4 (fa 26) (fd 26) P_Carpet_seen (sp_seen ca) := by
  refine T.f_Carpet_seen.ok sc_Carpet_seen (fun vs H Q E h => ?_) (fun cdv A outer s H vs Q E hr h => ?_)
  · obtain ⟨p, t, f, x, y, rfl, hC, ht, k⟩ := h; rfl
  · obtain ⟨p, t, f, x, y, rfl, hC, ht, k⟩ := h
    refine ⟨_, (pss_one (ps_ret (pe_call (ok_colour_at T) (hr.mono (by decide)) (by rfl) T.g_colour_at T.f_colour_at.kp T.b_colour_at .nil pass0 (pa_cons (pe_fld (pv 0) rfl) (pa_cons (pe_fld (pv 0) rfl) (pa_cons (pv 1) pa_nil)))))), ?_⟩
    obtain ⟨dx, q, m, hp, hN, hL, sm⟩ := hC
    refine ⟨_, rfl, p, ca 2, dx, _, _, rfl, hp, T.cl_Woven, T.n2_own_net, rfl, ?_⟩
    refine ⟨_, rfl, p, ca 2, dx, _, _, rfl, hp, T.cl_Woven, T.n2_own_text, rfl, ?_⟩
    refine ⟨_, rfl, q, t, m, Lm.textOf m f, x, y, rfl, hN, sm, Lm.textOf_length _ _, ht, fun u hu => ?_⟩
    rw [hL.col]
    exact k u _ _ hu
theorem ok_Carpet___getitem__ (T : Tx K mg fa fd ca pa) : FnOk P w K mg base CX0 5 (fa 27) (fd 27) P_Carpet___getitem__ (sp_getitem ca) := by
  refine T.f_Carpet___getitem__.ok sc_Carpet___getitem__ (fun vs H Q E h => ?_) (fun cdv A outer s H vs Q E hr h => ?_)
  · obtain ⟨p, t, f, x, y, rfl, hC, ht, k⟩ := h; rfl
  · obtain ⟨p, t, f, x, y, rfl, hC, ht, k⟩ := h
    refine ⟨_, (pss_cons (ps_if (pt_not (pt_val (pe_call (ok_is_place T) (hr.mono (by decide)) (by rfl) T.g_is_place T.f_is_place.kp T.b_is_place .nil pass0 (pa_cons (pv 1) pa_nil)))) (pss_one ps_never) pss_nil)
      (pss_one (ps_ret (pe_meth (pv 0) T.cl_Woven T.m_Carpet_seen (ok_Carpet_seen T) (hr.mono (by decide)) T.b_Carpet_seen .nil pass0 (pa_cons (pv 1) pa_nil))))), ?_⟩
    refine ⟨_, rfl, t, x, y, rfl, ht, fun H1 s1 => ⟨_, rfl, ?_⟩⟩
    refine iteF ?_
    have hC1 := hC.same s1
    obtain ⟨dx, q, m, hp, hN, hL, sm⟩ := id hC1
    refine ⟨_, rfl, p, dx, _, rfl, hp, rfl, _, rfl, p, t, f, x, y, rfl, hC1, s1 _ _ ht, fun u a b hu => ?_⟩
    exact k _ (s1.trans (same_new hu))
theorem ok_Carpet___eq__ (T : Tx K mg fa fd ca pa) : FnOk P w K mg base CX0 2 (fa 29) (fd 29) P_Carpet___eq__ (sp_car_eq ca) := by
  refine T.f_Carpet___eq__.ok sc_Carpet___eq__ (fun vs H Q E h => ?_) (fun cdv A outer s H vs Q E hr h => ?_)
  · obtain ⟨p, q, f, g, rfl, ⟨dx, n, k1, hp, hN, hL, sm⟩, ⟨dy, m, k2, hq, hM, hL2, sm2⟩, k⟩ := h; rfl
  · obtain ⟨p, q, f, g, rfl, ⟨dx, n, k1, hp, hN, hL, sm⟩, ⟨dy, m, k2, hq, hM, hL2, sm2⟩, k⟩ := h
    refine ⟨_, (pss_one (ps_ret (pe_and (pe_callB call_isi (by rfl) T.z_isinstance (by decide +kernel) (pa_cons (pv 1) (pa_cons (pe_glob (v := .ref (ca 1)) (by rfl) T.g_Carpet rfl) pa_nil))) (pe_and (pe_cmpR (op_ownEq T.m_Net___eq__ (ok_Net___eq__ T) (hr.mono (by decide)) T.b_Net___eq__ pass0) (pe_fld (pv 0) rfl) (pe_fld (pv 1) rfl) (nomark _)) (pe_one (pe_cmpR op_eq (pe_fld (pv 0) rfl) (pe_fld (pv 1) rfl) (nomark _))))))), ?_⟩
    refine ⟨_, rfl, _, _, _, _, true, rfl, .own _, T.ty (by decide) hq, T.kit21, true, rfl, iteT ?_⟩
    refine ⟨_, rfl, p, _, dx, _, _, rfl, hp, T.cl_Woven, T.n2_own_net, rfl, _, rfl, q, _, dy, _, _, rfl, hq, T.cl_Woven, T.n2_own_net, rfl, ?_⟩
    have hN' := hN
    have hM' := hM
    obtain ⟨d1, t1, hn1, hn2⟩ := hN'
    obtain ⟨d2, t2, hm1, hm2⟩ := hM'
    refine ⟨n, d1, _, m, d2, _, rfl, rfl, hn1, hm1, n, m, k1, k2, rfl, hN, hM, _, rfl, ?_⟩
    by_cases hk : k1 = k2
    · rw [decide_eq_true hk]
      refine iteT ?_
      refine ⟨_, rfl, p, _, dx, _, _, rfl, hp, T.cl_Woven, T.n2_own_text, rfl, _, rfl, q, _, dy, _, _, rfl, hq, T.cl_Woven, T.n2_own_text, rfl, rfl, ?_⟩
      refine k _ ?_
      rw [← car_eq hL hL2, decide_eq_true_iff]
      constructor
      · intro z
        injection z with z
        exact ⟨hk, by simpa using z⟩
      · rintro ⟨_, e⟩
        rw [e]
    · rw [decide_eq_false hk]
      refine iteF (k _ ?_)
      rw [← car_eq hL hL2]
      exact ⟨(fun z => by cases z), fun z => absurd z.1 hk⟩
theorem ok_Carpet___add__ (T : Tx K mg fa fd ca pa) : FnOk P w K mg base CX0 9 (fa 30) (fd 30) P_Carpet___add__ (sp_car_add ca) := by
  refine T.f_Carpet___add__.ok sc_Carpet___add__ (fun vs H Q E h => ?_) (fun cdv A outer s H vs Q E hr h => ?_)
  · obtain ⟨p, t, f, x, y, rfl, hC, ht, k⟩ := h; rfl
  · obtain ⟨p, t, f, x, y, rfl, hC, ht, k⟩ := h
    refine ⟨_, (pss_one (ps_ret (pe_make T.mk2 (ok_Woven___init__ T) (hr.mono (by decide)) (by rfl) T.g_Woven T.b_Woven___init__ .nil pass0 (pa_cons (pe_fld (pv 0) rfl) (pa_cons (pe_join pe_str (pe_lc (own := [("place", 2)]) (by rfl) sc_Carpet___add__.nd (pi_list (pe_meth0 (pe_fld (pv 0) rfl) T.cl_Net T.m_Net_spots (ok_Net_spots T) (hr.mono (by decide)) T.b_Net_spots .nil pass0)) (blkOk_by (own := [("place", 2)]) (N := N_Carpet___add__) (sc := defScope s_Carpet___add__) (by decide +kernel)) (fun _ _ _ _ _ => (pg_name (i := 2) sc_Carpet___add__.nd rfl (Or.inl rfl))) (fun _ _ _ _ _ => pts_nil) (fun _ _ _ _ _ => (pe_meth (pv 0) T.cl_Woven T.m_Carpet_seen (ok_Carpet_seen T) (hr.mono (by decide)) T.b_Carpet_seen .nil pass0 (pa_cons (pe_call (ok_minus T) (hr.mono (by decide)) (by rfl) T.g_minus T.f_minus.kp T.b_minus .nil pass0 (pa_cons (pv 2) (pa_cons (pv 1) pa_nil))) pa_nil))))) pa_nil))))), ?_⟩
    have hC0 := hC
    obtain ⟨dx, q, m, hp, hN, hL, sm⟩ := hC
    have hN' := hN
    obtain ⟨d1, t1, hn1, hn2⟩ := hN'
    have hK : Lm.Kept (Lm.moved f x y) m.a 0 ∧ Lm.Kept (Lm.moved f x y) m.b m.c := ⟨Lm.moved_kept hL.ka, Lm.moved_kept hL.kb⟩
    have sz : (Lm.textOf m (Lm.moved f x y)).length = Lm.size m := Lm.textOf_length _ _
    refine ⟨_, rfl, p, ca 2, dx, _, _, rfl, hp, T.cl_Woven, T.n2_own_net, rfl, ⟨_, rfl⟩, ?_⟩
    refine ⟨_, rfl, p, ca 2, dx, _, _, rfl, hp, T.cl_Woven, T.n2_own_net, rfl, q, d1, _, rfl, hn1, rfl, q, m, rfl, hN, sm, fun H2 D0 ts s2 hD0 hL0 hP => ?_⟩
    refine ⟨D0, rfl, ⟨_, SqL.of hL0⟩, fun D hD => lc_list (K := K) (a := D0) (xs := ts.map .ref) (fun i H' => Same H2 H' ∧ H' D = some (.lst ((((Lm.textOf m (Lm.moved f x y)).take i).map sg).map V.str))) ⟨same_new hD, upd_same⟩ (fun i H' _ q => SqL.of (q.1 _ _ hL0)) (fun i v H3 hi qq => ?_) (fun H3 qq => ?_)⟩
    · obtain ⟨t0, ht0, rfl⟩ : ∃ t0, ts[i]? = some t0 ∧ v = V.ref t0 := by
        rw [List.getElem?_map] at hi
        cases e : ts[i]? with
        | none => rw [e] at hi; cases hi
        | some z => rw [e] at hi; exact ⟨z, rfl, (Option.some.inj hi).symm⟩
      obtain ⟨q0, hq0, hpl⟩ := hP.get ht0
      obtain ⟨s3, hLD⟩ := qq
      have s23 := s2.trans s3
      refine ⟨rfl, _, rfl, p, dx, _, rfl, s23 _ _ hp, rfl, _, rfl, _, rfl, t0, t, q0.1, q0.2, x, y, rfl, s3 _ _ hpl, s23 _ _ ht, fun b hb => ?_⟩
      have s4 := same_new (o := pl (q0.1 - x) (q0.2 - y)) hb
      refine ⟨p, b, f, q0.1 - x, q0.2 - y, rfl, (hC0.same s23).same s4, upd_same, fun u a' b' hu => ?_⟩
      have s5 := same_new (o := pl a' b') hu
      have et : (Lm.textOf m (Lm.moved f x y)).take (i + 1) = (Lm.textOf m (Lm.moved f x y)).take i ++ [f (q0.1 - x) (q0.2 - y)] := by
        rw [List.take_add_one]
        unfold Lm.textOf
        rw [List.getElem?_map, hq0]
        rfl
      refine ⟨_, s5 _ _ (s4 _ _ hLD), ?_, same_upd ((s3.trans s4).trans s5) hD, ?_⟩
      · rw [List.length_map, List.length_map, List.length_take, sz]
        have := sm.sizeN
        exact small1000 (by omega)
      · rw [upd_same, et, List.map_append, List.map_append]
        rfl
    · obtain ⟨s3, hLD⟩ := qq
      rw [List.length_map, hP.length, Lm.spots_length, ← sz, List.take_length] at hLD
      refine ⟨_, D, _, rfl, rfl, .inl (SqL.of hLD), ?_, ?_⟩
      · rw [join_sum, sz, List.length_map, sz]
        have := sm.sizeN
        have e0 : (Str.ofString "").length = 0 := by decide +kernel
        rw [e0]
        omega
      · rw [TL.join_eq, join_sg]
        intro x0 dx0 nx ndx nex
        have s23 := s2.trans s3
        have s4 : Same H3 (upd (upd H3 dx0 (.own x0)) x0 (.ins (ca 2) dx0 [])) := fun b o e => by rw [upd_ne (ne_of_none e nx), upd_ne (ne_of_none e ndx)]; exact e
        refine ⟨x0, dx0, q, m, Lm.textOf m (Lm.moved f x y), rfl, upd_same, (hN.same s23).same s4, sm, sz, fun H' hk hc => ⟨rfl, ?_⟩⟩
        rw [Lm.col_moved hL.ok hL.ka hL.kb] at hc
        refine k x0 H' (fun b o e => ?_) ?_ hc
        · have e3 := s23 _ _ e
          exact hk b o (ne_of_none e3 nx) (s4 _ _ e3)
        · cases e : H x0 with
          | none => rfl
          | some o => rw [s23 _ _ e] at nx; cases nx
end
end Cp
end
section
set_option Elab.async false
set_option linter.all false
set_option maxRecDepth 100000
set_option maxHeartbeats 4000000
namespace Cp
open PySem PySem.Spec PyProof.Rows L2
theorem dp1 {k : Nat} {A : Around} (r : Room k A) : A.depth + 1 < recursionLimit := by have := r.dp; omega
theorem pmkN_x {X : Cx} {C fI : Addr} {x f : Str} {B newId initId : String} {bt : List Value} {a : Expr} {ta : TA} {p pos : Pos} (T : Xc.Own X.K X.mg x f C fI B newId initId bt) (hr : X.A.depth + 1 < recursionLimit) (ha : PA X [a] ta) (hg : Gl X x) (hdb : (x == ("__debug__" : Str)) = false := by decide)
    (he : starEach (a :: []) X.env = (false, eval a X.env) :: starEach [] X.env := by rfl) (hpl : (backTo pos (starEach [] X.env)).any (·.1) = false := by rfl) : L2N.PMk X (.Call (.Name x p) [a] [] pos) (tMkX C f ta) :=
  fun pins s σ H Q I q => thn (pmk_x T hr ha hg hdb he hpl pins s σ H Q I q) fun _ _ z => z.1
abbrev letters : Str := "abcdefghijklmnopqrstuvwxyz"
/-- one of the letters -/
def Ltr (c : Nat) : Prop := c ∈ letters.cps.toList
def sp_is_colour : Sp := fun vs H Q _ => (∃ c, vs = [.str (sg c)] ∧ Ltr c ∧ Q (.bl true) H) ∨ (vs = [.str "ab"] ∧ Q (.bl false) H)
def sp_check_colour (ea : Nat → Addr) : Sp := fun vs H Q E => (∃ c, vs = [.str (sg c)] ∧ Ltr c ∧ Q .non H) ∨ (vs = [.str "ab"] ∧ ∀ d H', Same H H' → E (.ref (ea 0)) d H')
def sp_is_row : Sp := fun vs H Q _ => ∃ z : List Nat, vs = [.str (st z), .str letters, .int 2000] ∧ 1 ≤ z.length ∧ z.length ≤ 2000 ∧ (∀ c ∈ z, Ltr c) ∧ ∀ H', Same H H' → Q (.bl true) H'
def sp_Net_whole (ca : Nat → Addr) : Sp := fun vs H Q _ => vs = [.ref (ca 0)] ∧ ∀ H' p, Same H H' → H p = none → IsNet ca H' p Lm.one → Q (.ref p) H'
def sp_Carpet_on (ca : Nat → Addr) : Sp := fun vs H Q _ => ∃ (p : Addr) (n : Lm.Nt) (z : List Nat), vs = [.ref p, .str (st z)] ∧ IsNet ca H p n ∧ Sm n ∧ z.length = Lm.size n ∧ (∀ c ∈ z, Ltr c) ∧ ∀ H' q, Same H H' → H q = none → IsCar ca H' q (Lm.col n z) → Q (.ref q) H'
def sp_Carpet_plain (ca : Nat → Addr) : Sp := fun vs H Q _ => ∃ c, vs = [.ref (ca 1), .str (sg c)] ∧ Ltr c ∧ ∀ H' q, Same H H' → H q = none → IsCar ca H' q (fun _ _ => c) → Q (.ref q) H'
section
variable {P : Program} {w : World} {K : PySem.W.Frag} {mg : Str → Option Value} {base : Heap} {fa : Nat → Addr} {fd : Nat → FuncData} {ca pa ea qa : Nat → Addr}
theorem ok_is_colour (T : Tx K mg fa fd ca pa) : FnOk P w K mg base CX0 1 (fa 15) (fd 15) P_is_colour sp_is_colour := by
  refine T.f_is_colour.ok sc_is_colour (fun vs H Q E h => ?_) (fun cdv A outer s H vs Q E hr h => ?_)
  · rcases h with ⟨c, rfl, _⟩ | ⟨rfl, _⟩ <;> rfl
  · obtain ⟨_, hLETTERS⟩ := T.c_LETTERS
    refine ⟨_, (pss_one (ps_ret (pe_and (pe_callB call_isi (by rfl) T.z_isinstance (by decide +kernel) (pa_cons (pv 0) (pa_cons (pe_bltn (v := .ty "str") (u := .type "str") (by rfl) T.z_str (by decide +kernel) rfl) pa_nil))) (pe_and (pe_cmpR op_eq (pe_callB call_len_str (by rfl) T.z_len (by decide +kernel) (pa_cons (pv 0) pa_nil)) pe_int (nomark _)) (pe_one (pe_cmpR op_in_sign (pv 0) (pe_glob (v := .str "abcdefghijklmnopqrstuvwxyz") (by rfl) hLETTERS ⟨_, rfl⟩) rfl)))))), ?_⟩
    rcases h with ⟨c, rfl, hc, k⟩ | ⟨rfl, k⟩
    · refine ⟨_, rfl, _, _, _, _, true, rfl, .ty _, .base (.str _), kit_ty (by decide +kernel), true, rfl, iteT ?_⟩
      refine ⟨_, rfl, _, rfl, by show 1 ≤ sizeLine; decide, rfl, true, rfl, iteT ?_⟩
      refine ⟨_, rfl, c, _, rfl, rfl, ?_⟩
      have e : decide (c ∈ letters.cps.toList) = true := decide_eq_true hc
      exact Eq.mpr (congrArg (fun z => Q (V.bl z) H) e) k
    · refine ⟨_, rfl, _, _, _, _, true, rfl, .ty _, .base (.str _), kit_ty (by decide +kernel), true, rfl, iteT ?_⟩
      refine ⟨_, rfl, _, rfl, by show 2 ≤ sizeLine; decide, rfl, false, ?_, iteF ?_⟩
      · have e1 : decide (V.int ((Str.ofString "ab").length : Nat) = V.int 1) = false := by decide +kernel
        exact congrArg V.bl e1
      · exact k
theorem ok_check_colour (U : Ty K mg fa fd ca pa ea qa) : FnOk P w K mg base (L2N.CX P w) 2 (fa 16) (fd 16) P_check_colour (sp_check_colour ea) := by
  have T := U.toTx
  refine okN T.f_check_colour sc_check_colour (fun vs H Q E h => ?_) (fun cdv A outer s H vs Q E hr h => ?_)
  · rcases h with ⟨c, rfl, _⟩ | ⟨rfl, _⟩ <;> rfl
  · refine ⟨_, (pss_one (ps_if (pt_not (pt_val (pe_call (ok_is_colour T) (hr.mono (by decide)) (by rfl) T.g_is_colour T.f_is_colour.kp T.b_is_colour .nil pass0 (pa_cons (pv 0) pa_nil)))) (pss_one (L2N.ps_raise rfl (L2N.takes_of rfl rfl rfl rfl) (pmkN_x U.col (dp1 hr) (pa_cons (pv 0) pa_nil) (by rfl)))) pss_nil)), ?_⟩
    rcases h with ⟨c, rfl, hc, k⟩ | ⟨rfl, k⟩
    · refine ⟨_, rfl, .inl ⟨c, rfl, hc, true, rfl, ?_⟩⟩
      exact iteF k
    · refine ⟨_, rfl, .inr ⟨rfl, false, rfl, ?_⟩⟩
      refine iteT ⟨_, rfl, _, rfl, fun d hd => ?_⟩
      exact k _ _ (same_new hd)
theorem ok_is_row (T : Tx K mg fa fd ca pa) : FnOk P w K mg base CX0 1 (fa 17) (fd 17) P_is_row (sp_is_row) := by
  refine T.f_is_row.ok sc_is_row (fun vs H Q E h => ?_) (fun cdv A outer s H vs Q E hr h => ?_)
  · obtain ⟨z, rfl, z1, z2, hz, k⟩ := h; rfl
  · obtain ⟨z, rfl, z1, z2, hz, k⟩ := h
    refine ⟨_, (pss_one (ps_ret (pe_and (pe_callB call_isi (by rfl) T.z_isinstance (by decide +kernel) (pa_cons (pv 0) (pa_cons (pe_bltn (v := .ty "str") (u := .type "str") (by rfl) T.z_str (by decide +kernel) rfl) pa_nil))) (pe_and (pe_chain op_le op_le pe_int (pe_callB call_len_str (by rfl) T.z_len (by decide +kernel) (pa_cons (pv 0) pa_nil)) (pv 2)) (pe_one (pe_callB (cr_all rfl) (by rfl) T.z_all (by decide +kernel) (pa_cons (pe_lc (own := [("sign", 3)]) (by rfl) sc_is_row.nd (pi_str (pv 0)) (blkOk_by (own := [("sign", 3)]) (N := N_is_row) (sc := defScope s_is_row) (by decide +kernel)) (fun _ _ _ _ _ => (pg_name (i := 3) sc_is_row.nd rfl (Or.inl rfl))) (fun _ _ _ _ _ => pts_nil) (fun _ _ _ _ _ => (pe_cmpR op_in_sign (pv 3) (pv 1) rfl))) pa_nil))))))), ?_⟩
    have l0 : (st z).length = z.length := st_len z
    refine ⟨_, rfl, _, _, _, _, true, rfl, .ty _, .base (.str _), kit_ty (by decide +kernel), true, rfl, iteT ?_⟩
    have sl : (st z).length ≤ sizeLine := by rw [l0]; exact Nat.le_trans z2 (by decide)
    refine ⟨_, rfl, _, rfl, sl, _, _, rfl, rfl, true, congrArg V.bl (decide_eq_true (by rw [l0]; omega)), iteT ?_⟩
    refine ⟨_, rfl, _, _, rfl, rfl, true, congrArg V.bl (decide_eq_true (by rw [l0]; omega)), iteT ?_⟩
    refine ⟨_, rfl, _, rfl, fun D hD => ⟨fun i m H' => m = z.length - i ∧ i ≤ z.length ∧ H' D = some (.lst ((List.replicate i true).map V.bl)) ∧ Same H H', ⟨_, rfl, Nat.zero_le _, upd_same, same_new hD⟩, ?_⟩⟩
    rintro i m H1 ⟨rfl, hi, hL, hS⟩
    by_cases hlt : i < z.length
    · refine .inr ⟨by show i < z.toArray.size; simpa using hlt, fun H' => H' D = some (.lst ((List.replicate (i + 1) true).map V.bl)) ∧ Same H H', fun H' q => ⟨_, by omega, rfl, hlt, q⟩, fun x H' y => ?_⟩
      obtain ⟨rfl, c, hc, rfl⟩ := y
      have hc' : z[i]? = some c := by simpa using hc
      have hcl : Ltr c := hz c (List.mem_of_getElem? hc')
      refine ⟨rfl, _, rfl, _, rfl, c, _, rfl, rfl, _, hL, ?_, ?_, same_upd hS hD⟩
      · rw [List.length_map, List.length_replicate]
        exact Nat.lt_of_lt_of_le hlt (Nat.le_trans z2 (by decide))
      · have e : decide (c ∈ letters.cps.toList) = true := decide_eq_true hcl
        show upd _ _ _ _ = some (.lst ((List.replicate (i + 1) true).map V.bl))
        rw [upd_same, List.replicate_succ', List.map_append]
        show some (HO.lst (_ ++ [V.bl (decide (c ∈ letters.cps.toList))])) = _
        rw [e]
        rfl
    · have e : i = z.length := by omega
      subst e
      refine .inl ⟨by show z.toArray.size ≤ z.length; simp, D, _, rfl, SqL.of hL, ?_⟩
      have e2 : (List.replicate z.length true).all id = true := by simp
      rw [e2]
      exact k _ hS
theorem ok_Net_whole (T : Tx K mg fa fd ca pa) : FnOk P w K mg base CX0 5 (fa 8) (fd 8) P_Net_whole (sp_Net_whole ca) := by
  refine T.f_Net_whole.ok sc_Net_whole (fun vs H Q E h => ?_) (fun cdv A outer s H vs Q E hr h => ?_)
  · obtain ⟨rfl, k⟩ := h; rfl
  · obtain ⟨rfl, k⟩ := h
    refine ⟨_, (pss_one (ps_ret (pe_makeV (i := 0) T.mk0 (ok_Net___init__ T) (hr.mono (by decide)) T.b_Net___init__ pass0 rfl (Or.inl rfl) (pa_cons pe_int (pa_cons pe_int (pa_cons pe_int pa_nil)))))), ?_⟩
    refine ⟨rfl, fun x dx nx ndx nex => ⟨x, dx, Lm.one, rfl, upd_same, Lm.one_ok, fun H' hk hn => ⟨rfl, k _ _ (fun b o e => ?_) nx hn⟩⟩⟩
    refine hk b o (ne_of_none e nx) ?_
    rw [upd_ne (ne_of_none e nx), upd_ne (ne_of_none e ndx)]
    exact e
theorem ok_Carpet_on (U : Ty K mg fa fd ca pa ea qa) : FnOk P w K mg base CX0 9 (fa 22) (fd 22) P_Carpet_on (sp_Carpet_on ca) := by
  have T := U.toTx
  refine T.f_Carpet_on.ok sc_Carpet_on (fun vs H Q E h => ?_) (fun cdv A outer s H vs Q E hr h => ?_)
  · obtain ⟨p, n, z, rfl, hN, sm, hz, hl, k⟩ := h; rfl
  · obtain ⟨p, n, z, rfl, hN, sm, hz, hl, k⟩ := h
    obtain ⟨_, hLETTERS⟩ := T.c_LETTERS
    obtain ⟨_, hMOST_PLACES_carpets⟩ := T.c_MOST_PLACES_carpets
    refine ⟨_, (pss_cons (ps_if (pt_cmpR op_gt (pe_prop (pv 0) T.cl_Net T.p_Net_size (ok_Net_size T) (hr.mono (by decide)) T.b_Net_size .nil pass0 rfl) (pe_glob (v := .int 2000) (by rfl) hMOST_PLACES_carpets ⟨_, rfl⟩) (nomark _)) (pss_one ps_never) pss_nil)
      (pss_cons (ps_if (PW.pt (pw_or (pt_not (pt_val (pe_call (ok_is_row T) (hr.mono (by decide)) (by rfl) T.g_is_row T.f_is_row.kp T.b_is_row .nil pass0 (pa_cons (pv 1) (pa_cons (pe_glob (v := .str "abcdefghijklmnopqrstuvwxyz") (by rfl) hLETTERS ⟨_, rfl⟩) (pa_cons (pe_glob (v := .int 2000) (by rfl) hMOST_PLACES_carpets ⟨_, rfl⟩) pa_nil)))))) (pw_or1 (pt_cmpR op_ne (pe_callB call_len_str (by rfl) T.z_len (by decide +kernel) (pa_cons (pv 1) pa_nil)) (pe_prop (pv 0) T.cl_Net T.p_Net_size (ok_Net_size T) (hr.mono (by decide)) T.b_Net_size .nil pass0 rfl) (nomark _))))) (pss_one ps_never) pss_nil)
      (pss_one (ps_ret (pe_make T.mk2 (ok_Woven___init__ T) (hr.mono (by decide)) (by rfl) T.g_Woven T.b_Woven___init__ .nil pass0 (pa_cons (pv 0) (pa_cons (pv 1) pa_nil))))))), ?_⟩
    have hN' := hN
    obtain ⟨dx, t, hp, ht⟩ := hN'
    have s1 := sm.size
    have s2 := sm.size1
    have ez := Lm.size_cast sm.ok
    refine ⟨_, rfl, p, dx, _, rfl, hp, p, n, rfl, hN, sm, _, _, rfl, rfl, ?_⟩
    refine ⟨false, congrArg V.bl (decide_eq_false (by omega)), iteF ?_⟩
    refine ⟨_, rfl, z, rfl, by omega, by omega, hl, fun H1 sH => ⟨_, rfl, ?_⟩⟩
    refine iteF ?_
    have hN1 := hN.same sH
    refine ⟨_, rfl, _, rfl, ?_, _, rfl, p, dx, _, rfl, sH _ _ hp, p, n, rfl, hN1, sm, rfl, ?_⟩
    · rw [st_len, hz]; exact Nat.le_trans sm.sizeN (by decide)
    refine ⟨false, ?_, iteF ?_⟩
    · have e : ((st z).length : Int) = n.a * n.c := by rw [st_len, hz, ez]
      rw [e]
      simp
    refine ⟨_, rfl, _, rfl, fun x dx' nx ndx nex => ?_⟩
    have s4 : Same H1 (upd (upd H1 dx' (.own x)) x (.ins (ca 2) dx' [])) := fun b o e => by rw [upd_ne (ne_of_none e nx), upd_ne (ne_of_none e ndx)]; exact e
    refine ⟨x, dx', p, n, z, rfl, upd_same, hN1.same s4, sm, hz, fun H' hk hc => ⟨rfl, k H' x (fun b o e => ?_) ?_ hc⟩⟩
    · have e3 := sH _ _ e
      exact hk b o (ne_of_none e3 nx) (s4 _ _ e3)
    · exact sH.free nx
theorem ok_Carpet_plain (U : Ty K mg fa fd ca pa ea qa) : FnOk P w K mg base CX0 9 (fa 23) (fd 23) P_Carpet_plain (sp_Carpet_plain ca) := by
  have T := U.toTx
  refine T.f_Carpet_plain.ok sc_Carpet_plain (fun vs H Q E h => ?_) (fun cdv A outer s H vs Q E hr h => ?_)
  · obtain ⟨c, rfl, hc, k⟩ := h; rfl
  · obtain ⟨c, rfl, hc, k⟩ := h
    refine ⟨_, (pss_cons (ps_expr (pe_call (ok_check_colour U) (hr.mono (by decide)) (by rfl) T.g_check_colour T.f_check_colour.kp T.b_check_colour .nil passLN (pa_cons (pv 1) pa_nil)))
      (pss_one (ps_ret (pe_make T.mk2 (ok_Woven___init__ T) (hr.mono (by decide)) (by rfl) T.g_Woven T.b_Woven___init__ .nil pass0 (pa_cons (pe_cm0 (pe_glob (v := .ref (ca 0)) (by rfl) T.g_Net rfl) U.rN U.whole (ok_Net_whole T) (hr.mono (by decide)) T.b_Net_whole pass0) (pa_cons (pv 1) pa_nil)))))), ?_⟩
    refine ⟨_, rfl, .inl ⟨c, rfl, hc, ?_⟩⟩
    refine ⟨rfl, rfl, fun H1 p s1 np hN => ⟨_, rfl, fun x dx' nx ndx nex => ?_⟩⟩
    have s4 : Same H1 (upd (upd H1 dx' (.own x)) x (.ins (ca 2) dx' [])) := fun b o e => by rw [upd_ne (ne_of_none e nx), upd_ne (ne_of_none e ndx)]; exact e
    refine ⟨x, dx', p, Lm.one, [c], rfl, upd_same, hN.same s4, ⟨Lm.one_ok, by decide, by decide⟩, rfl, fun H' hk hcar => ⟨rfl, k H' x (fun b o e => ?_) (s1.free nx) ?_⟩⟩
    · have e3 := s1 _ _ e
      exact hk b o (ne_of_none e3 nx) (s4 _ _ e3)
    · rw [Lm.col_one] at hcar
      exact hcar
end
end Cp
end
section
set_option Elab.async false
set_option linter.all false
set_option maxRecDepth 100000
set_option maxHeartbeats 4000000
namespace Cp
open PySem PySem.Spec PyProof.Rows L2
/-! ### looms -/
abbrev loomF (n c e l t : Addr) : List (Str × V) := [("own_net", .ref n), ("own_carpet", .ref c), ("earlier", .ref e), ("later", .ref l), ("entries", .ref t)]
theorem put_car {n c e l t : Addr} {v : Addr} : putF "own_carpet" (.ref v) (loomF n c e l t) = loomF n v e l t := by kernel_rfl
theorem put_earlier {n c e l t : Addr} {v : Addr} : putF "earlier" (.ref v) (loomF n c e l t) = loomF n c v l t := by kernel_rfl
theorem put_later {n c e l t : Addr} {v : Addr} : putF "later" (.ref v) (loomF n c e l t) = loomF n c e v t := by kernel_rfl
theorem put_init {n c e l t : Addr} : putF "entries" (.ref t) (putF "later" (.ref l) (putF "earlier" (.ref e) (putF "own_carpet" (.ref c) (putF "own_net" (.ref n) [])))) = loomF n c e l t := by kernel_rfl
def Cars (ca : Nat → Addr) (H : Hp) (cs : List Addr) (fs : List Lm.Fn) : Prop := Paired (fun c f => IsCar ca H c f) cs fs
theorem Cars.snoc {ca : Nat → Addr} {H : Hp} : ∀ {cs : List Addr} {fs : List Lm.Fn} {c : Addr} {f : Lm.Fn}, Cars ca H cs fs → IsCar ca H c f → Cars ca H (cs ++ [c]) (fs ++ [f])
  | _, _, _, _, .nil, e => .cons e .nil
  | _, _, _, _, .cons r h, e => .cons r (Cars.snoc h e)
theorem Cars.unsnoc {ca : Nat → Addr} {H : Hp} : ∀ {fs : List Lm.Fn} {cs : List Addr} {f : Lm.Fn}, Cars ca H cs (fs ++ [f]) → ∃ cs' c, cs = cs' ++ [c] ∧ Cars ca H cs' fs ∧ IsCar ca H c f
  | [], _, _, .cons r .nil => ⟨[], _, rfl, .nil, r⟩
  | g :: fs, _, f, .cons (a := a) r h => by
    obtain ⟨cs', c, e, h1, h2⟩ := Cars.unsnoc (fs := fs) h
    subst e
    exact ⟨a :: cs', c, rfl, .cons r h1, h2⟩
/-- all but what stands at ch is as it was -/
def But (ch : List Addr) (H H' : Hp) : Prop := ∀ b o, H b = some o → b ∉ ch → H' b = some o
theorem But.of {ch : List Addr} {H H' : Hp} (s : Same H H') : But ch H H' := fun b o e _ => s b o e
theorem But.trans {ch : List Addr} {H H1 H2 : Hp} (a : But ch H H1) (b : But ch H1 H2) : But ch H H2 := fun c o e n => b c o (a c o e n) n
theorem But.mono {ch ch' : List Addr} {H H1 : Hp} (a : But ch H H1) (h : ∀ b ∈ ch, b ∈ ch') : But ch' H H1 := fun c o e n => a c o e fun z => n (h c z)
theorem But.put {ch : List Addr} {H H1 : Hp} {b : Addr} {o : HO} (a : But ch H H1) (h : b ∈ ch ∨ H b = none) : But ch H (upd H1 b o) := fun c u e n => by
  have hb : c ≠ b := fun z => by
    subst z
    rcases h with h | h
    · exact n h
    · rw [h] at e; cases e
  rw [upd_ne hb]
  exact a c u e n
theorem But.refl {ch : List Addr} {H : Hp} : But ch H H := fun _ _ e _ => e
/-- neither a list nor a loom -/
def Still (ca : Nat → Addr) (H : Hp) (ch : List Addr) : Prop := ∀ b ∈ ch, (∃ xs, H b = some (.lst xs)) ∨ (∃ dx fs, H b = some (.ins (ca 4) dx fs) ∧ fs.length ≠ 1 ∧ fs.length ≠ 2) ∨ H b = none
theorem IsNet.but {ca : Nat → Addr} {H H' : Hp} {ch : List Addr} {p : Addr} {n : Lm.Nt} (b : But ch H H') (st : Still ca H ch) (h : IsNet ca H p n) : IsNet ca H' p n := by
  obtain ⟨dx, t, h1, h2⟩ := h
  refine ⟨dx, t, b _ _ h1 fun z => ?_, b _ _ h2 fun z => ?_⟩
  · rcases st _ z with ⟨xs, e⟩ | ⟨d, fs, e, l⟩ | e <;> rw [h1] at e
    · cases e
    · injection e with e; injection e with _ _ e; subst e; exact l.1 rfl
    · cases e
  · rcases st _ z with ⟨xs, e⟩ | ⟨d, fs, e, l⟩ | e <;> rw [h2] at e <;> cases e
theorem IsCar.but {ca : Nat → Addr} {H H' : Hp} {ch : List Addr} {p : Addr} {f : Lm.Fn} (b : But ch H H') (st : Still ca H ch) (h : IsCar ca H p f) : IsCar ca H' p f := by
  obtain ⟨dx, q, k, h1, h2, h3⟩ := h
  refine ⟨dx, q, k, b _ _ h1 fun z => ?_, h2.but b st, h3⟩
  rcases st _ z with ⟨xs, e⟩ | ⟨d, fs, e, l⟩ | e <;> rw [h1] at e
  · cases e
  · injection e with e; injection e with _ _ e; subst e; exact l.2 rfl
  · cases e
theorem Cars.but {ca : Nat → Addr} {H H' : Hp} {ch : List Addr} {cs : List Addr} {fs : List Lm.Fn} (b : But ch H H') (st : Still ca H ch) (h : Cars ca H cs fs) : Cars ca H' cs fs := Paired.mapP h fun _ _ z => z.but b st
/-- a loom at p over the net N at n: its carpet f; the carpets behind (e) and ahead (l), its log (t) -/
structure LoomAt (ca : Nat → Addr) (H : Hp) (p n e l t : Addr) (N : Lm.Nt) (f : Lm.Fn) (es ls : List Lm.Fn) (lg : List Str) : Prop where
  ins : ∃ dx c, H p = some (.ins (ca 4) dx (loomF n c e l t)) ∧ IsCar ca H c f
  net : IsNet ca H n N
  sm : Sm N
  es : ∃ cs, H e = some (.lst (cs.map .ref)) ∧ Cars ca H cs es
  ls : ∃ cs, H l = some (.lst (cs.map .ref)) ∧ Cars ca H cs ls
  lg : H t = some (.lst (lg.map .str))
  el : e ≠ l
  et : e ≠ t
  lt : l ≠ t
theorem LoomAt.but {ca : Nat → Addr} {H H' : Hp} {p n e l t : Addr} {N : Lm.Nt} {f : Lm.Fn} {es ls : List Lm.Fn} {lg : List Str} {ch : List Addr} (b : But ch H H') (st : Still ca H ch) (h : LoomAt ca H p n e l t N f es ls lg) (hp : p ∉ ch) (he : e ∉ ch) (hl : l ∉ ch) (ht : t ∉ ch) : LoomAt ca H' p n e l t N f es ls lg := by
  obtain ⟨⟨dx, c, h1, h2⟩, h3, h4, ⟨cs, h5, h6⟩, ⟨ds, h7, h8⟩, h9, h10, h11, h12⟩ := h
  exact ⟨⟨dx, c, b _ _ h1 hp, h2.but b st⟩, h3.but b st, h4, ⟨cs, b _ _ h5 he, h6.but b st⟩, ⟨ds, b _ _ h7 hl, h8.but b st⟩, b _ _ h9 ht, h10, h11, h12⟩
theorem LoomAt.same {ca : Nat → Addr} {H H' : Hp} {p n e l t : Addr} {N : Lm.Nt} {f : Lm.Fn} {es ls : List Lm.Fn} {lg : List Str} (s : Same H H') (h : LoomAt ca H p n e l t N f es ls lg) : LoomAt ca H' p n e l t N f es ls lg :=
  h.but (ch := []) (But.of s) (fun b z => by cases z) (by simp) (by simp) (by simp) (by simp)
def sp_Loom_init (ca : Nat → Addr) : Sp := fun vs H Q _ => ∃ (p dx n : Addr) (N : Lm.Nt) (c : Nat), vs = [.ref p, .ref n, .str (sg c)] ∧ H p = some (.ins (ca 4) dx []) ∧ IsNet ca H n N ∧ Sm N ∧ Ltr c ∧
  ∀ H' e l t, But [p] H H' → H e = none → H l = none → H t = none → LoomAt ca H' p n e l t N (fun _ _ => c) [] [] [] → Q .non H'
def sp_Loom_carpet (ca : Nat → Addr) : Sp := fun vs H Q _ => ∃ (p n e l t : Addr) (N : Lm.Nt) (f : Lm.Fn) (es ls : List Lm.Fn) (lg : List Str), vs = [.ref p] ∧ LoomAt ca H p n e l t N f es ls lg ∧ ∀ c, IsCar ca H c f → Q (.ref c) H
def sp_Loom_log (ca : Nat → Addr) : Sp := fun vs H Q _ => ∃ (p n e l t : Addr) (N : Lm.Nt) (f : Lm.Fn) (es ls : List Lm.Fn) (lg : List Str), vs = [.ref p] ∧ LoomAt ca H p n e l t N f es ls lg ∧ ∀ D, H D = none → Q (.ref D) (upd H D (.lst (lg.map .str)))
def sp_Loom_len (ca : Nat → Addr) : Sp := fun vs H Q _ => ∃ (p n e l t : Addr) (N : Lm.Nt) (f : Lm.Fn) (es ls : List Lm.Fn) (lg : List Str), vs = [.ref p] ∧ LoomAt ca H p n e l t N f es ls lg ∧ Q (.int es.length) H
def sp_Loom_eq (ca : Nat → Addr) : Sp := fun vs H Q _ => ∃ (p n e l t : Addr) (N : Lm.Nt) (f : Lm.Fn) (es ls : List Lm.Fn) (lg : List Str) (p' n' e' l' t' : Addr) (N' : Lm.Nt) (f' : Lm.Fn) (es' ls' : List Lm.Fn) (lg' : List Str), vs = [.ref p, .ref p'] ∧ LoomAt ca H p n e l t N f es ls lg ∧ LoomAt ca H p' n' e' l' t' N' f' es' ls' lg' ∧
  ∀ b, (b = true ↔ N = N' ∧ f = f') → Q (.bl b) H
def sp_Loom_change (ca : Nat → Addr) : Sp := fun vs H Q _ => ∃ (p n e l t q : Addr) (N : Lm.Nt) (f g : Lm.Fn) (es ls : List Lm.Fn) (lg : List Str), vs = [.ref p, .ref q] ∧ LoomAt ca H p n e l t N f es ls lg ∧ IsCar ca H q g ∧ es.length ≤ 900 ∧
  ∀ H' l', But [p, e] H H' → H l' = none → LoomAt ca H' p n e l' t N g (es ++ [f]) [] lg → Q .non H'
section
variable {P : Program} {w : World} {K : PySem.W.Frag} {mg : Str → Option Value} {base : Heap} {fa : Nat → Addr} {fd : Nat → FuncData} {ca pa ea qa : Nat → Addr}
theorem ok_Loom_carpet (T : Tx K mg fa fd ca pa) : FnOk P w K mg base CX0 1 (fa 36) (fd 36) P_Loom_carpet (sp_Loom_carpet ca) := by
  refine T.f_Loom_carpet.ok sc_Loom_carpet (fun vs H Q E h => ?_) (fun cdv A outer s H vs Q E hr h => ?_)
  · obtain ⟨p, n, e, l, t, N, f, es, ls, lg, rfl, hL, k⟩ := h; rfl
  · obtain ⟨p, n, e, l, t, N, f, es, ls, lg, rfl, hL, k⟩ := h
    refine ⟨_, (pss_one (ps_ret (pe_fld (pv 0) rfl))), ?_⟩
    obtain ⟨dx, c, h1, h2⟩ := hL.ins
    exact ⟨_, rfl, p, _, dx, _, _, rfl, h1, T.cl_Loom, T.n4_own_carpet, rfl, k _ h2⟩
theorem ok_Loom_log (T : Tx K mg fa fd ca pa) : FnOk P w K mg base CX0 1 (fa 37) (fd 37) P_Loom_log (sp_Loom_log ca) := by
  refine T.f_Loom_log.ok sc_Loom_log (fun vs H Q E h => ?_) (fun cdv A outer s H vs Q E hr h => ?_)
  · obtain ⟨p, n, e, l, t, N, f, es, ls, lg, rfl, hL, k⟩ := h; rfl
  · obtain ⟨p, n, e, l, t, N, f, es, ls, lg, rfl, hL, k⟩ := h
    refine ⟨_, (pss_one (ps_ret (pe_callTy call_list_of (by rfl) T.z_list (by decide +kernel) (pa_cons (pe_fld (pv 0) rfl) pa_nil)))), ?_⟩
    obtain ⟨dx, c, h1, h2⟩ := hL.ins
    exact ⟨_, rfl, p, _, dx, _, _, rfl, h1, T.cl_Loom, T.n4_entries, rfl, t, _, rfl, .inl (SqL.of hL.lg), fun D hD => k D hD⟩
theorem ok_Loom___len__ (T : Tx K mg fa fd ca pa) : FnOk P w K mg base CX0 1 (fa 38) (fd 38) P_Loom___len__ (sp_Loom_len ca) := by
  refine T.f_Loom___len__.ok sc_Loom___len__ (fun vs H Q E h => ?_) (fun cdv A outer s H vs Q E hr h => ?_)
  · obtain ⟨p, n, e, l, t, N, f, es, ls, lg, rfl, hL, k⟩ := h; rfl
  · obtain ⟨p, n, e, l, t, N, f, es, ls, lg, rfl, hL, k⟩ := h
    refine ⟨_, (pss_one (ps_ret (pe_callB call_len_seq (by rfl) T.z_len PySem.boot_len (pa_cons (pe_fld (pv 0) rfl) pa_nil)))), ?_⟩
    obtain ⟨dx, c, h1, h2⟩ := hL.ins
    obtain ⟨cs, h3, h4⟩ := hL.es
    have el : (cs.map V.ref).length = es.length := by rw [List.length_map]; exact Paired.length h4
    refine ⟨_, rfl, p, _, dx, _, _, rfl, h1, T.cl_Loom, T.n4_earlier, rfl, e, _, rfl, .inl (SqL.of h3), ?_⟩
    rw [el]
    exact k
theorem ok_Loom___eq__ (T : Tx K mg fa fd ca pa) : FnOk P w K mg base CX0 3 (fa 39) (fd 39) P_Loom___eq__ (sp_Loom_eq ca) := by
  refine T.f_Loom___eq__.ok sc_Loom___eq__ (fun vs H Q E h => ?_) (fun cdv A outer s H vs Q E hr h => ?_)
  · obtain ⟨p, n, e, l, t, N, f, es, ls, lg, p', n', e', l', t', N', f', es', ls', lg', rfl, hL, hM, k⟩ := h; rfl
  · obtain ⟨p, n, e, l, t, N, f, es, ls, lg, p', n', e', l', t', N', f', es', ls', lg', rfl, hL, hM, k⟩ := h
    refine ⟨_, (pss_one (ps_ret (pe_and (pe_callB call_isi (by rfl) T.z_isinstance (by decide +kernel) (pa_cons (pv 1) (pa_cons (pe_glob (v := .ref (ca 4)) (by rfl) T.g_Loom rfl) pa_nil))) (pe_and (pe_cmpR (op_ownEq T.m_Net___eq__ (ok_Net___eq__ T) (hr.mono (by decide)) T.b_Net___eq__ pass0) (pe_fld (pv 0) rfl) (pe_fld (pv 1) rfl) (nomark _)) (pe_one (pe_cmpR (op_ownEq T.m_Carpet___eq__ (ok_Carpet___eq__ T) (hr.mono (by decide)) T.b_Carpet___eq__ pass0) (pe_fld (pv 0) rfl) (pe_fld (pv 1) rfl) (nomark _))))))), ?_⟩
    obtain ⟨dx, c, h1, h2⟩ := hL.ins
    obtain ⟨dy, c', g1, g2⟩ := hM.ins
    obtain ⟨d1, t1, a1, a2⟩ := id hL.net
    obtain ⟨d2, t2, b1, b2⟩ := id hM.net
    refine ⟨_, rfl, _, _, _, _, true, rfl, .own _, T.ty (by decide) g1, T.kit44, true, rfl, iteT ?_⟩
    refine ⟨_, rfl, p, _, dx, _, _, rfl, h1, T.cl_Loom, T.n4_own_net, rfl, _, rfl, p', _, dy, _, _, rfl, g1, T.cl_Loom, T.n4_own_net, rfl, ?_⟩
    refine ⟨n, d1, _, n', d2, _, rfl, rfl, a1, b1, n, n', N, N', rfl, hL.net, hM.net, _, rfl, ?_⟩
    by_cases hN : N = N'
    · rw [decide_eq_true hN]
      refine iteT ?_
      refine ⟨_, rfl, p, _, dx, _, _, rfl, h1, T.cl_Loom, T.n4_own_carpet, rfl, _, rfl, p', _, dy, _, _, rfl, g1, T.cl_Loom, T.n4_own_carpet, rfl, ?_⟩
      obtain ⟨dc, qc, kc, c1, c2⟩ := id h2
      obtain ⟨dc', qc', kc', c1', c2'⟩ := id g2
      exact ⟨c, dc, _, c', dc', _, rfl, rfl, c1, c1', c, c', f, f', rfl, h2, g2, fun b hb => k b (hb.trans ⟨fun z => ⟨hN, z⟩, fun z => z.2⟩)⟩
    · rw [decide_eq_false hN]
      exact iteF (k _ ⟨(fun z => by cases z), fun z => absurd z.1 hN⟩)
theorem ok_Loom_change (T : Tx K mg fa fd ca pa) : FnOk P w K mg base CX0 1 (fa 40) (fd 40) P_Loom_change (sp_Loom_change ca) := by
  refine T.f_Loom_change.ok sc_Loom_change (fun vs H Q E h => ?_) (fun cdv A outer s H vs Q E hr h => ?_)
  · obtain ⟨p, n, e, l, t, q, N, f, g, es, ls, lg, rfl, hL, hq, hlen, k⟩ := h; rfl
  · obtain ⟨p, n, e, l, t, q, N, f, g, es, ls, lg, rfl, hL, hq, hlen, k⟩ := h
    refine ⟨_, (pss_cons (ps_expr (pe_bm PySem.F.plainAttrs_list PySem.F.slot_list_append PySem.F.type_list_append mt_append (pe_fld (pv 0) rfl) (pa_cons (pe_fld (pv 0) rfl) pa_nil)))
      (pss_cons (ps_fld (pv 0) (pv 1) rfl)
      (pss_one (ps_fld (pv 0) (pe_lst pa_nil) rfl)))), ?_⟩
    obtain ⟨dx, c, h1, h2⟩ := hL.ins
    obtain ⟨cs, h3, h4⟩ := hL.es
    have el : cs.length = es.length := Paired.length h4
    have npe : p ≠ e := ne_of h1 h3 (by intro z; cases z)
    refine ⟨_, rfl, p, _, dx, _, _, rfl, h1, T.cl_Loom, T.n4_earlier, rfl, .inl ⟨rfl, _, SqL.of h3⟩, _, rfl, p, _, dx, _, _, rfl, h1, T.cl_Loom, T.n4_own_carpet, rfl, e, _, _, rfl, rfl, h3, ?_, ?_⟩
    · rw [List.length_map]; exact small1000 (by omega)
    refine ⟨_, rfl, _, rfl, p, _, dx, _, rfl, by rw [upd_ne npe]; exact h1, T.cl_Loom, T.n4_own_carpet, by show 5 < 1000; decide, ?_⟩
    rw [put_car]
    refine ⟨Nat.zero_le _, fun l' hl' => ?_⟩
    have npl : p ≠ l' := ne_of_none upd_same hl'
    have hl1 : (upd H e (.lst (cs.map V.ref ++ [V.ref c]))) l' = none := by rw [upd_ne npl.symm] at hl'; exact hl'
    have nel : e ≠ l' := ne_of_none upd_same hl1
    have hl2 : H l' = none := by rw [upd_ne nel.symm] at hl1; exact hl1
    refine ⟨_, rfl, p, _, dx, _, rfl, by rw [upd_ne npl]; exact upd_same, T.cl_Loom, T.n4_later, by show 5 < 1000; decide, ?_⟩
    rw [put_later]
    have bt : But [p, e] H (upd (upd (upd (upd H e (.lst (cs.map V.ref ++ [V.ref c]))) p (.ins (ca 4) dx (loomF n q e l t))) l' (.lst [])) p (.ins (ca 4) dx (loomF n q e l' t))) :=
      ((((But.refl.put (.inl (by simp))).put (.inl (by simp))).put (.inr hl2)).put (.inl (by simp)))
    have stl : Still ca H [p, e] := fun b hb => by
      rcases List.mem_cons.mp hb with rfl | hb
      · exact .inr (.inl ⟨dx, _, h1, (fun z => Nat.noConfusion (Nat.succ.inj z)), (fun z => Nat.noConfusion (Nat.succ.inj (Nat.succ.inj z)))⟩)
      · rw [List.mem_singleton.mp hb]
        exact .inl ⟨_, h3⟩
    have ntp : t ≠ p := (ne_of h1 hL.lg (by intro z; cases z)).symm
    have nte : t ≠ e := hL.et.symm
    have ntl : t ≠ l' := ne_of_none hL.lg hl2
    refine k _ l' bt hl2 ⟨⟨dx, q, upd_same, hq.but bt stl⟩, hL.net.but bt stl, hL.sm, ⟨cs ++ [c], ?_, (h4.but bt stl).snoc (h2.but bt stl)⟩, ⟨[], ?_, .nil⟩, ?_, nel, hL.et, ntl.symm⟩
    · rw [upd_ne npe.symm, upd_ne nel, upd_ne npe.symm, upd_same, List.map_append]
      rfl
    · rw [upd_ne npl.symm, upd_same]
      rfl
    · rw [upd_ne ntp, upd_ne ntl, upd_ne ntp, upd_ne nte]
      exact hL.lg
end
end Cp
end
section
set_option Elab.async false
set_option linter.all false
set_option maxRecDepth 100000
set_option maxHeartbeats 4000000
namespace Cp
open PySem PySem.Spec PyProof.Rows L2
/-- xs == [] of any list -/
theorem op_eqNil {X : Cx} (hu : X.A.units < cLine) : OpR X (compareOp .Eq) (fun x y H Q => ∃ p q xs, x = .ref p ∧ y = .ref q ∧ H p = some (.lst xs) ∧ H q = some (.lst []) ∧ Q (.bl xs.isEmpty) H) := by
  intro pins s σ H x y v u Q I rx ry h
  obtain ⟨p, q, xs, rfl, rfl, hp, hq, k⟩ := h
  cases (show v = Value.ref p from rx)
  cases (show u = Value.ref q from ry)
  obtain ⟨its, r, pl, hz⟩ := I.list (SqL.of hp)
  obtain ⟨its2, r2, pl2, hz2⟩ := I.list (SqL.of hq)
  cases r2
  cases xs with
  | nil =>
    cases r
    exact SeqAt.eq_listAt (e := fun _ => true) pl.isList pl2.isList rfl hu (fun j h1 => absurd h1 (by simp)) ⟨.bl true, H, I, rfl, k⟩
  | cons a l =>
    refine SeqAt.eq_list_lengthsAt pl.isList pl2.isList ?_ hu ⟨.bl false, H, I, rfl, k⟩
    have hl := r.length
    simp at hl
    simp
    intro e
    rw [e] at hl
    simp at hl
def sp_Loom_move (ca : Nat → Addr) : Sp := fun vs H Q _ => ∃ (p n e l t u : Addr) (N : Lm.Nt) (f : Lm.Fn) (es ls : List Lm.Fn) (lg : List Str) (x y : Int), vs = [.ref p, .ref u] ∧ LoomAt ca H p n e l t N f es ls lg ∧ H u = some (pl x y) ∧ es.length ≤ 900 ∧
  ∀ H' l', But [p, e] H H' → H l' = none → LoomAt ca H' p n e l' t N (Lm.moved f x y) (es ++ [f]) [] lg → Q .non H'
def sp_Loom_undo (ca ea : Nat → Addr) : Sp := fun vs H Q E => ∃ (p n e l t : Addr) (N : Lm.Nt) (f : Lm.Fn) (es ls : List Lm.Fn) (lg : List Str), vs = [.ref p] ∧ LoomAt ca H p n e l t N f es ls lg ∧ ls.length ≤ 900 ∧ (es = [] → ∀ H', Same H H' → E (.ref (ea 4)) none H') ∧
  ∀ es' g, es = es' ++ [g] → ∀ H', But [p, e, l] H H' → LoomAt ca H' p n e l t N g es' (ls ++ [f]) lg → Q .non H'
def sp_Loom_redo (ca ea : Nat → Addr) : Sp := fun vs H Q E => ∃ (p n e l t : Addr) (N : Lm.Nt) (f : Lm.Fn) (es ls : List Lm.Fn) (lg : List Str), vs = [.ref p] ∧ LoomAt ca H p n e l t N f es ls lg ∧ es.length ≤ 900 ∧ (ls = [] → ∀ H', Same H H' → E (.ref (ea 4)) none H') ∧
  ∀ ls' g, ls = ls' ++ [g] → ∀ H', But [p, e, l] H H' → LoomAt ca H' p n e l t N g (es ++ [f]) ls' lg → Q .non H'
theorem ends_snoc {α : Type} : ∀ (l : List α), l = [] ∨ ∃ l' a, l = l' ++ [a]
  | [] => .inl rfl
  | x :: l => by
    rcases ends_snoc l with rfl | ⟨l', a, rfl⟩
    · exact .inr ⟨[], x, rfl⟩
    · exact .inr ⟨x :: l', a, rfl⟩
section
variable {P : Program} {w : World} {K : PySem.W.Frag} {mg : Str → Option Value} {base : Heap} {fa : Nat → Addr} {fd : Nat → FuncData} {ca pa ea qa : Nat → Addr}
theorem ok_Loom_move (T : Tx K mg fa fd ca pa) : FnOk P w K mg base CX0 10 (fa 42) (fd 42) P_Loom_move (sp_Loom_move ca) := by
  refine T.f_Loom_move.ok sc_Loom_move (fun vs H Q E h => ?_) (fun cdv A outer s H vs Q E hr h => ?_)
  · obtain ⟨p, n, e, l, t, u, N, f, es, ls, lg, x, y, rfl, hL, hu, hlen, k⟩ := h; rfl
  · obtain ⟨p, n, e, l, t, u, N, f, es, ls, lg, x, y, rfl, hL, hu, hlen, k⟩ := h
    refine ⟨_, (pss_cons (ps_expr (pe_call (ok_check_place T) (hr.mono (by decide)) (by rfl) T.g_check_place T.f_check_place.kp T.b_check_place .nil pass0 (pa_cons (pv 1) pa_nil)))
      (pss_one (ps_expr (pe_meth (pv 0) T.cl_Loom T.m_Loom_change (ok_Loom_change T) (hr.mono (by decide)) T.b_Loom_change .nil pass0 (pa_cons (pe_op (op_ownAdd T.m_Carpet___add__ T.sf_Woven (ok_Carpet___add__ T) (hr.mono (by decide)) T.b_Carpet___add__ pass0) (pe_fld (pv 0) rfl) (pv 1)) pa_nil))))), ?_⟩
    refine ⟨_, rfl, u, x, y, rfl, hu, fun H1 s1 => ?_⟩
    have hL1 := hL.same s1
    obtain ⟨dx, c, h1, h2⟩ := id hL1.ins
    obtain ⟨dc, qc, kc, c1, c2⟩ := id h2
    refine ⟨_, rfl, p, dx, _, rfl, h1, rfl, _, rfl, p, _, dx, _, _, rfl, h1, T.cl_Loom, T.n4_own_carpet, rfl, _, rfl, ?_⟩
    refine ⟨c, dc, _, u, _, rfl, rfl, c1, s1 _ _ hu, c, u, f, x, y, rfl, h2, s1 _ _ hu, fun q H2 s2 nq hq => ?_⟩
    refine ⟨p, n, e, l, t, q, N, f, Lm.moved f x y, es, ls, lg, rfl, hL1.same s2, hq, hlen, fun H' l' b nl hL' => ?_⟩
    have s12 := s1.trans s2
    exact k H' l' ((But.of s12).trans b) (s12.free nl) hL'
theorem ok_Loom_undo (U : Ty K mg fa fd ca pa ea qa) : FnOk P w K mg base (L2.CX P w) 1 (fa 43) (fd 43) P_Loom_undo (sp_Loom_undo ca ea) := by
  have T := U.toTx
  refine T.f_Loom_undo.okX sc_Loom_undo (fun vs H Q E h => ?_) (fun cdv A outer s H vs Q E hr h => ?_)
  · obtain ⟨p, n, e, l, t, N, f, es, ls, lg, rfl, hL, hlen, kE, k⟩ := h; rfl
  · obtain ⟨p, n, e, l, t, N, f, es, ls, lg, rfl, hL, hlen, kE, k⟩ := h
    refine ⟨_, (pss_cons (ps_if (pt_cmpR (op_eqNil hr.units0) (pe_fld (pv 0) rfl) (pe_lst pa_nil) (nomark _)) (pss_one (ps_raise rfl (takes_of rfl rfl rfl rfl) (pmk_own0 PySem.F.excBase_RuntimeError U.xU U.gU U.kU (raises_own U.bU U.tU) (by rfl)))) pss_nil)
      (pss_cons (ps_expr (pe_bm PySem.F.plainAttrs_list PySem.F.slot_list_append PySem.F.type_list_append mt_append (pe_fld (pv 0) rfl) (pa_cons (pe_fld (pv 0) rfl) pa_nil)))
      (pss_one (ps_fld (pv 0) (pe_bm0 PySem.F.plainAttrs_list PySem.F.slot_list_pop PySem.F.type_list_pop mt_pop (pe_fld (pv 0) rfl)) rfl)))), ?_⟩
    obtain ⟨dx, c, h1, h2⟩ := hL.ins
    obtain ⟨cs, h3, h4⟩ := hL.es
    obtain ⟨ds, h5, h6⟩ := hL.ls
    refine ⟨_, rfl, p, _, dx, _, _, rfl, h1, T.cl_Loom, T.n4_earlier, rfl, Nat.zero_le _, fun b hb => ?_⟩
    have s1 := same_new (o := HO.lst []) hb
    refine ⟨e, b, _, rfl, rfl, s1 _ _ h3, upd_same, _, rfl, ?_⟩
    have hL1 := hL.same s1
    rcases ends_snoc es with he | ⟨es', g, he⟩
    · subst he
      have ec : cs = [] := by cases h4; rfl
      subst ec
      exact iteT (kE rfl _ s1)
    · subst he
      obtain ⟨cs', d, ec, h7, h8⟩ := Cars.unsnoc h4
      subst ec
      have e0 : ((cs' ++ [d]).map V.ref).isEmpty = false := by simp
      rw [e0]
      refine iteF ?_
      generalize hH1 : upd H b (.lst []) = H1 at s1 hL1
      have npl : p ≠ l := ne_of h1 h5 (by intro z; cases z)
      have npe : p ≠ e := ne_of h1 h3 (by intro z; cases z)
      have nel := hL.el
      have dl : ds.length = ls.length := Paired.length h6
      refine ⟨_, rfl, p, _, dx, _, _, rfl, s1 _ _ h1, T.cl_Loom, T.n4_later, rfl, .inl ⟨rfl, _, SqL.of (s1 _ _ h5)⟩, _, rfl, p, _, dx, _, _, rfl, s1 _ _ h1, T.cl_Loom, T.n4_own_carpet, rfl, l, _, _, rfl, rfl, s1 _ _ h5, ?_, ?_⟩
      · rw [List.length_map]; exact small1000 (by omega)
      have h3' : upd H1 l (.lst (ds.map V.ref ++ [V.ref c])) e = some (.lst ((cs' ++ [d]).map V.ref)) := by rw [upd_ne nel]; exact s1 _ _ h3
      have h1' : upd H1 l (.lst (ds.map V.ref ++ [V.ref c])) p = some (.ins (ca 4) dx (loomF n c e l t)) := by rw [upd_ne npl]; exact s1 _ _ h1
      refine ⟨_, rfl, p, _, dx, _, _, rfl, h1', T.cl_Loom, T.n4_earlier, rfl, .inl ⟨rfl, _, SqL.of h3'⟩, e, _, V.ref d, rfl, rfl, h3', ?_, ?_⟩
      · simp
      refine ⟨_, rfl, p, _, dx, _, rfl, by rw [upd_ne npe]; exact h1', T.cl_Loom, T.n4_own_carpet, by show 5 < 1000; decide, ?_⟩
      rw [put_car]
      have bt1 : But [p, e, l] H1 (upd (upd (upd H1 l (.lst (ds.map V.ref ++ [V.ref c]))) e (.lst ((cs' ++ [d]).map V.ref).dropLast)) p (.ins (ca 4) dx (loomF n d e l t))) :=
        (((But.refl.put (.inl (by simp))).put (.inl (by simp))).put (.inl (by simp)))
      have stl : Still ca H1 [p, e, l] := fun b hb => by
        rcases List.mem_cons.mp hb with rfl | hb
        · exact .inr (.inl ⟨dx, _, s1 _ _ h1, (fun z => Nat.noConfusion (Nat.succ.inj z)), (fun z => Nat.noConfusion (Nat.succ.inj (Nat.succ.inj z)))⟩)
        · rcases List.mem_cons.mp hb with rfl | hb
          · exact .inl ⟨_, s1 _ _ h3⟩
          · rw [List.mem_singleton.mp hb]
            exact .inl ⟨_, s1 _ _ h5⟩
      have ntp : t ≠ p := (ne_of h1 hL.lg (by intro z; cases z)).symm
      refine k es' g rfl _ ((But.of s1).trans bt1) ⟨⟨dx, d, upd_same, (h8.same s1).but bt1 stl⟩, (hL.net.same s1).but bt1 stl, hL.sm, ⟨cs', ?_, ?_⟩, ⟨ds ++ [c], ?_, ?_⟩, ?_, hL.el, hL.et, hL.lt⟩
      · rw [upd_ne npe.symm, upd_same]; simp
      · exact Cars.but (But.trans (But.of s1) bt1) (fun b hb => by
          rcases List.mem_cons.mp hb with rfl | hb
          · exact .inr (.inl ⟨dx, _, h1, (fun z => Nat.noConfusion (Nat.succ.inj z)), (fun z => Nat.noConfusion (Nat.succ.inj (Nat.succ.inj z)))⟩)
          · rcases List.mem_cons.mp hb with rfl | hb
            · exact .inl ⟨_, h3⟩
            · rw [List.mem_singleton.mp hb]
              exact .inl ⟨_, h5⟩) h7
      · rw [upd_ne npl.symm, upd_ne nel.symm, upd_same, List.map_append]; rfl
      · have st0 : Still ca H [p, e, l] := fun b hb => by
          rcases List.mem_cons.mp hb with rfl | hb
          · exact .inr (.inl ⟨dx, _, h1, (fun z => Nat.noConfusion (Nat.succ.inj z)), (fun z => Nat.noConfusion (Nat.succ.inj (Nat.succ.inj z)))⟩)
          · rcases List.mem_cons.mp hb with rfl | hb
            · exact .inl ⟨_, h3⟩
            · rw [List.mem_singleton.mp hb]
              exact .inl ⟨_, h5⟩
        exact (h6.but ((But.of s1).trans bt1) st0).snoc (h2.but ((But.of s1).trans bt1) st0)
      · rw [upd_ne ntp, upd_ne hL.et.symm, upd_ne hL.lt.symm]
        exact s1 _ _ hL.lg
theorem ok_Loom_redo (U : Ty K mg fa fd ca pa ea qa) : FnOk P w K mg base (L2.CX P w) 1 (fa 44) (fd 44) P_Loom_redo (sp_Loom_redo ca ea) := by
  have T := U.toTx
  refine T.f_Loom_redo.okX sc_Loom_redo (fun vs H Q E h => ?_) (fun cdv A outer s H vs Q E hr h => ?_)
  · obtain ⟨p, n, e, l, t, N, f, es, ls, lg, rfl, hL, hlen, kE, k⟩ := h; rfl
  · obtain ⟨p, n, e, l, t, N, f, es, ls, lg, rfl, hL, hlen, kE, k⟩ := h
    refine ⟨_, (pss_cons (ps_if (pt_cmpR (op_eqNil hr.units0) (pe_fld (pv 0) rfl) (pe_lst pa_nil) (nomark _)) (pss_one (ps_raise rfl (takes_of rfl rfl rfl rfl) (pmk_own0 PySem.F.excBase_RuntimeError U.xU U.gU U.kU (raises_own U.bU U.tU) (by rfl)))) pss_nil)
      (pss_cons (ps_expr (pe_bm PySem.F.plainAttrs_list PySem.F.slot_list_append PySem.F.type_list_append mt_append (pe_fld (pv 0) rfl) (pa_cons (pe_fld (pv 0) rfl) pa_nil)))
      (pss_one (ps_fld (pv 0) (pe_bm0 PySem.F.plainAttrs_list PySem.F.slot_list_pop PySem.F.type_list_pop mt_pop (pe_fld (pv 0) rfl)) rfl)))), ?_⟩
    obtain ⟨dx, c, h1, h2⟩ := hL.ins
    obtain ⟨cs, h3, h4⟩ := hL.es
    obtain ⟨ds, h5, h6⟩ := hL.ls
    refine ⟨_, rfl, p, _, dx, _, _, rfl, h1, T.cl_Loom, T.n4_later, rfl, Nat.zero_le _, fun b hb => ?_⟩
    have s1 := same_new (o := HO.lst []) hb
    refine ⟨l, b, _, rfl, rfl, s1 _ _ h5, upd_same, _, rfl, ?_⟩
    have hL1 := hL.same s1
    rcases ends_snoc ls with he | ⟨ls', g, he⟩
    · subst he
      have ec : ds = [] := by cases h6; rfl
      subst ec
      exact iteT (kE rfl _ s1)
    · subst he
      obtain ⟨ds', d, ec, h7, h8⟩ := Cars.unsnoc h6
      subst ec
      have e0 : ((ds' ++ [d]).map V.ref).isEmpty = false := by simp
      rw [e0]
      refine iteF ?_
      generalize hH1 : upd H b (.lst []) = H1 at s1 hL1
      have npl : p ≠ l := ne_of h1 h5 (by intro z; cases z)
      have npe : p ≠ e := ne_of h1 h3 (by intro z; cases z)
      have nel := hL.el
      have dl : cs.length = es.length := Paired.length h4
      refine ⟨_, rfl, p, _, dx, _, _, rfl, s1 _ _ h1, T.cl_Loom, T.n4_earlier, rfl, .inl ⟨rfl, _, SqL.of (s1 _ _ h3)⟩, _, rfl, p, _, dx, _, _, rfl, s1 _ _ h1, T.cl_Loom, T.n4_own_carpet, rfl, e, _, _, rfl, rfl, s1 _ _ h3, ?_, ?_⟩
      · rw [List.length_map]; exact small1000 (by omega)
      have h5' : upd H1 e (.lst (cs.map V.ref ++ [V.ref c])) l = some (.lst ((ds' ++ [d]).map V.ref)) := by rw [upd_ne nel.symm]; exact s1 _ _ h5
      have h1' : upd H1 e (.lst (cs.map V.ref ++ [V.ref c])) p = some (.ins (ca 4) dx (loomF n c e l t)) := by rw [upd_ne npe]; exact s1 _ _ h1
      refine ⟨_, rfl, p, _, dx, _, _, rfl, h1', T.cl_Loom, T.n4_later, rfl, .inl ⟨rfl, _, SqL.of h5'⟩, l, _, V.ref d, rfl, rfl, h5', ?_, ?_⟩
      · simp
      refine ⟨_, rfl, p, _, dx, _, rfl, by rw [upd_ne npl]; exact h1', T.cl_Loom, T.n4_own_carpet, by show 5 < 1000; decide, ?_⟩
      rw [put_car]
      have bt1 : But [p, e, l] H1 (upd (upd (upd H1 e (.lst (cs.map V.ref ++ [V.ref c]))) l (.lst ((ds' ++ [d]).map V.ref).dropLast)) p (.ins (ca 4) dx (loomF n d e l t))) :=
        (((But.refl.put (.inl (by simp))).put (.inl (by simp))).put (.inl (by simp)))
      have ntp : t ≠ p := (ne_of h1 hL.lg (by intro z; cases z)).symm
      have st0 : Still ca H [p, e, l] := fun b hb => by
        rcases List.mem_cons.mp hb with rfl | hb
        · exact .inr (.inl ⟨dx, _, h1, (fun z => Nat.noConfusion (Nat.succ.inj z)), (fun z => Nat.noConfusion (Nat.succ.inj (Nat.succ.inj z)))⟩)
        · rcases List.mem_cons.mp hb with rfl | hb
          · exact .inl ⟨_, h3⟩
          · rw [List.mem_singleton.mp hb]
            exact .inl ⟨_, h5⟩
      have bt0 := (But.of (ch := [p, e, l]) s1).trans bt1
      refine k ls' g rfl _ bt0 ⟨⟨dx, d, upd_same, h8.but bt0 st0⟩, hL.net.but bt0 st0, hL.sm, ⟨cs ++ [c], ?_, (h4.but bt0 st0).snoc (h2.but bt0 st0)⟩, ⟨ds', ?_, h7.but bt0 st0⟩, ?_, hL.el, hL.et, hL.lt⟩
      · rw [upd_ne npe.symm, upd_ne nel, upd_same, List.map_append]; rfl
      · rw [upd_ne npl.symm, upd_same]; simp
      · rw [upd_ne ntp, upd_ne hL.lt.symm, upd_ne hL.et.symm]
        exact s1 _ _ hL.lg
theorem ok_Loom___init__ (U : Ty K mg fa fd ca pa ea qa) : FnOk P w K mg base CX0 10 (fa 35) (fd 35) P_Loom___init__ (sp_Loom_init ca) := by
  have T := U.toTx
  refine U.loom.ok sc_Loom___init__ (fun vs H Q E h => ?_) (fun cdv A outer s H vs Q E hr h => ?_)
  · obtain ⟨p, dx, n, N, c, rfl, _⟩ := h; rfl
  · obtain ⟨p, dx, n, N, c, rfl, hp, hN, sm, hc, k⟩ := h
    obtain ⟨_, hMOST_PLACES_looms⟩ := T.c_MOST_PLACES_looms
    refine ⟨_, PSs.nox (pss_cons (ps_expr (pe_call (ok_check_colour U) (hr.mono (by decide)) (by rfl) T.g_check_colour T.f_check_colour.kp T.b_check_colour .nil passLN (pa_cons (pv 2) pa_nil)))
      (pss_cons (ps_if (pt_cmpR op_gt (pe_prop (pv 1) T.cl_Net T.p_Net_size (ok_Net_size T) (hr.mono (by decide)) T.b_Net_size .nil pass0 rfl) (pe_glob (v := .int 2000) (by rfl) hMOST_PLACES_looms ⟨_, rfl⟩) (nomark _)) (pss_one ps_never) pss_nil)
      (pss_cons (ps_fld (pv 0) (pv 1) rfl)
      (pss_cons (ps_fld (pv 0) (pe_cm (pe_glob (v := .ref (ca 1)) (by rfl) T.g_Carpet rfl) U.rC U.plain (ok_Carpet_plain U) (hr.mono (by decide)) T.b_Carpet_plain pass0 (pa_cons (pv 2) pa_nil)) rfl)
      (pss_cons (ps_fld (pv 0) (pe_lst pa_nil) rfl)
      (pss_cons (ps_fld (pv 0) (pe_lst pa_nil) rfl)
      (pss_one (ps_fld (pv 0) (pe_lst pa_nil) rfl)))))))), ?_⟩
    have s1 := sm.size
    obtain ⟨dn, tn, n1, n2⟩ := id hN
    refine ⟨_, rfl, .inl ⟨c, rfl, hc, ?_⟩⟩
    refine ⟨_, rfl, n, dn, _, rfl, n1, n, N, rfl, hN, sm, _, _, rfl, rfl, false, congrArg V.bl (decide_eq_false (by omega)), iteF ?_⟩
    refine ⟨_, rfl, _, rfl, p, _, dx, _, rfl, hp, T.cl_Loom, T.n4_own_net, by show 0 < 1000; decide, ?_⟩
    refine ⟨rfl, _, rfl, c, rfl, hc, fun H1 q hs hq hcar => ?_⟩
    have h1p : H1 p = some (.ins (ca 4) dx (putF "own_net" (.ref n) [])) := hs _ _ upd_same
    have bt1 : But [p] H H1 := (But.refl.put (o := .ins (ca 4) dx (putF "own_net" (.ref n) [])) (.inl (by simp))).trans (But.of hs)
    have fr1 : ∀ b, b ≠ p → H1 b = none → H b = none := fun b hb z => by
      have := hs.free z
      rw [upd_ne hb] at this
      exact this
    refine ⟨_, rfl, p, _, dx, _, rfl, h1p, T.cl_Loom, T.n4_own_carpet, by show 1 < 1000; decide, Nat.zero_le _, fun e he => ?_⟩
    have npe : p ≠ e := ne_of_none upd_same he
    have he1 : H1 e = none := by rw [upd_ne npe.symm] at he; exact he
    refine ⟨_, rfl, p, _, dx, _, rfl, by rw [upd_ne npe]; exact upd_same, T.cl_Loom, T.n4_earlier, by show 2 < 1000; decide, Nat.zero_le _, fun l hl => ?_⟩
    have npl : p ≠ l := ne_of_none upd_same hl
    rw [upd_ne npl.symm] at hl
    have nel : e ≠ l := ne_of_none upd_same hl
    rw [upd_ne nel.symm, upd_ne npl.symm] at hl
    refine ⟨_, rfl, p, _, dx, _, rfl, by rw [upd_ne npl]; exact upd_same, T.cl_Loom, T.n4_later, by show 3 < 1000; decide, Nat.zero_le _, fun t ht => ?_⟩
    have npt : p ≠ t := ne_of_none upd_same ht
    rw [upd_ne npt.symm] at ht
    have nlt : l ≠ t := ne_of_none upd_same ht
    rw [upd_ne nlt.symm, upd_ne npt.symm] at ht
    have net : e ≠ t := ne_of_none upd_same ht
    rw [upd_ne net.symm, upd_ne npt.symm] at ht
    refine ⟨_, rfl, p, _, dx, _, rfl, by rw [upd_ne npt]; exact upd_same, T.cl_Loom, T.n4_entries, by show 4 < 1000; decide, ?_⟩
    rw [put_init]
    have he0 := fr1 e npe.symm he1
    have hl0 := fr1 l npl.symm hl
    have ht0 := fr1 t npt.symm ht
    generalize hX : upd (upd (upd (upd (upd (upd (upd H1 p _) e _) p _) l _) p _) t _) p _ = HX
    have atX : ∀ b, b ≠ p → b ≠ e → b ≠ l → b ≠ t → HX b = H1 b := fun b h1 h2 h3 h4 => by rw [← hX, upd_ne h1, upd_ne h4, upd_ne h1, upd_ne h3, upd_ne h1, upd_ne h2, upd_ne h1]
    have bt : But [p] H HX := fun b o eb nb => by
      have hb : b ≠ p := fun z => nb (by simp [z])
      rw [atX b hb (ne_of_none eb he0) (ne_of_none eb hl0) (ne_of_none eb ht0)]
      exact bt1 b o eb nb
    have bt2 : But [p] H1 HX := fun b o eb nb => by
      have hb : b ≠ p := fun z => nb (by simp [z])
      rw [atX b hb (ne_of_none eb he1) (ne_of_none eb hl) (ne_of_none eb ht)]
      exact eb
    have st2 : Still ca H [p] := fun b hb => by
      rw [List.mem_singleton.mp hb]
      exact .inr (.inl ⟨dx, _, hp, (fun z => Nat.noConfusion z), (fun z => Nat.noConfusion z)⟩)
    have hcar2 : IsCar ca HX q (fun _ _ => c) := by
      obtain ⟨dq, qq, kk, q1, ⟨d1, t1, q2, q3⟩, q4⟩ := hcar
      have hqp : ∀ {b o}, H1 b = some o → (∀ fs, o = .ins (ca 4) dx fs → False) → HX b = some o := fun {b o} e h => by
        refine bt2 b o e fun z => ?_
        rw [List.mem_singleton.mp z, h1p] at e
        cases e
        exact h _ rfl
      have e1 : ∀ {a : Addr} {fs gs : List (Str × V)} {C dy : Addr}, H1 a = some (.ins C dy fs) → fs.length ≠ 1 ∨ a ≠ p → HX a = some (.ins C dy fs) := fun {a fs gs C dy} e h => by
        refine bt2 _ _ e fun z => ?_
        have za := List.mem_singleton.mp z
        rcases h with h | h
        · rw [za, h1p] at e
          cases e
          exact h rfl
        · exact h za
      refine ⟨dq, qq, kk, e1 (gs := []) q1 (.inl (fun z => Nat.noConfusion (Nat.succ.inj z))), ⟨d1, t1, ?_, ?_⟩, q4⟩
      · refine bt2 _ _ q2 fun z => ?_
        rw [List.mem_singleton.mp z, h1p] at q2
        injection q2 with q2
        injection q2 with _ _ q2
        have q2' : [(("own_net" : Str), V.ref n)] = [(("own_numbers" : Str), V.ref t1)] := q2
        injection q2' with q2' _
        injection q2' with q2' _
        exact absurd q2' (by decide +kernel)
      · refine bt2 _ _ q3 fun z => ?_
        rw [List.mem_singleton.mp z, h1p] at q3
        cases q3
    refine k HX e l t bt he0 hl0 ht0 ⟨⟨dx, q, by rw [← hX]; exact upd_same, hcar2⟩, hN.but bt st2, sm, ⟨[], ?_, .nil⟩, ⟨[], ?_, .nil⟩, ?_, nel, net, nlt⟩
    · rw [← hX, upd_ne npe.symm, upd_ne net, upd_ne npe.symm, upd_ne nel, upd_ne npe.symm, upd_same]; rfl
    · rw [← hX, upd_ne npl.symm, upd_ne nlt, upd_ne npl.symm, upd_same]; rfl
    · rw [← hX, upd_ne npt.symm, upd_same]; rfl
end
end Cp
end
section
set_option Elab.async false
set_option linter.all false
set_option maxRecDepth 100000
set_option maxHeartbeats 4000000
namespace Cp
open PySem PySem.Spec PyProof.Rows L2
theorem loomB {K : PySem.W.Frag} {mg : Str → Option Value} {fa : Nat → Addr} {fd : Nat → FuncData} {ca pa ea qa : Nat → Addr} (U : Ty K mg fa fd ca pa ea qa) : ∃ ds, Vals [V.str "a"] ds ∧ Binds K (fd 35) P_Loom___init__ ds :=
  U.loom.binds0 2 (by simp) rfl fun D doc pm an cdv ct us ks hu hk => match us, ks, hu, hk with
    | [_, _], [_], _, _ => ⟨_, _, _, _, _, _, rfl, rfl, rfl⟩
def sp_Loom_copy (ca : Nat → Addr) : Sp := fun vs H Q _ => ∃ (p n e l t : Addr) (N : Lm.Nt) (f : Lm.Fn) (es ls : List Lm.Fn) (lg : List Str), vs = [.ref p] ∧ LoomAt ca H p n e l t N f es ls lg ∧ 
  ∀ H' p' e' l' t', Same H H' → H p' = none → H e' = none → H l' = none → H t' = none → LoomAt ca H' p' n e' l' t' N f es ls [] → Q (.ref p') H'
section
variable {P : Program} {w : World} {K : PySem.W.Frag} {mg : Str → Option Value} {base : Heap} {fa : Nat → Addr} {fd : Nat → FuncData} {ca pa ea qa : Nat → Addr}
theorem ok_Loom_copy (U : Ty K mg fa fd ca pa ea qa) : FnOk P w K mg base CX0 12 (fa 47) (fd 47) P_Loom_copy (sp_Loom_copy ca) := by
  have T := U.toTx
  obtain ⟨dsL, hdL, hbL⟩ := loomB U
  refine T.f_Loom_copy.ok sc_Loom_copy (fun vs H Q E h => ?_) (fun cdv A outer s H vs Q E hr h => ?_)
  · obtain ⟨p, n, e, l, t, N, f, es, ls, lg, rfl, _⟩ := h; rfl
  · obtain ⟨p, n, e, l, t, N, f, es, ls, lg, rfl, hL, k⟩ := h
    refine ⟨_, (pss_cons (ps_set (i := 1) sc_Loom_copy.nd rfl (Or.inl rfl) (pe_make T.mk4 (ok_Loom___init__ U) (hr.mono (by decide)) (by rfl) T.g_Loom hbL hdL pass0 (pa_cons (pe_fld (pv 0) rfl) pa_nil)))
      (pss_cons (ps_fld (pv 1) (pe_fld (pv 0) rfl) rfl)
      (pss_cons (ps_fld (pv 1) (pe_callTy call_list_of (by rfl) T.z_list (by decide +kernel) (pa_cons (pe_fld (pv 0) rfl) pa_nil)) rfl)
      (pss_cons (ps_fld (pv 1) (pe_callTy call_list_of (by rfl) T.z_list (by decide +kernel) (pa_cons (pe_fld (pv 0) rfl) pa_nil)) rfl)
      (pss_one (ps_ret (pv 1))))))), ?_⟩
    obtain ⟨dx, c, h1, h2⟩ := id hL.ins
    refine ⟨_, rfl, p, _, dx, _, _, rfl, h1, T.cl_Loom, T.n4_own_net, rfl, fun x dy nx ndy nexy => ?_⟩
    have s1 : Same H (upd (upd H dy (.own x)) x (.ins (ca 4) dy [])) := fun b o e => by rw [upd_ne (ne_of_none e nx), upd_ne (ne_of_none e ndy)]; exact e
    refine ⟨x, dy, n, N, 97, rfl, upd_same, hL.net.same s1, hL.sm, by unfold Ltr; decide +kernel, fun H1 e1 l1 t1 b1 ne1 nl1 nt1 hM => ⟨rfl, ?_⟩⟩
    have s2 : Same H H1 := fun b o eb => b1 b o (s1 b o eb) (by simp; exact ne_of_none eb nx)
    have hL1 := hL.same s2
    obtain ⟨dz, c1, g1, g2⟩ := hM.ins
    obtain ⟨cs, a10, a2⟩ := hL.es
    obtain ⟨ds, a30, a4⟩ := hL.ls
    have a1 := s2 _ _ a10
    have a3 := s2 _ _ a30
    obtain ⟨es1, m1, _⟩ := hM.es
    obtain ⟨ls1, m2, _⟩ := hM.ls
    have fre : ∀ b, (upd (upd H dy (.own x)) x (.ins (ca 4) dy [])) b = none → H b = none := fun b z => s1.free z
    have hx0 : H x = none := nx
    -- other.own_carpet = self.own_carpet
    refine ⟨_, rfl, p, _, dx, _, _, rfl, s2 _ _ h1, T.cl_Loom, T.n4_own_carpet, rfl, _, rfl, x, _, dz, _, rfl, g1, T.cl_Loom, T.n4_own_carpet, by show 5 < 1000; decide, ?_⟩
    rw [put_car]
    have npx : p ≠ x := ne_of_none h1 nx
    have nex : e ≠ x := ne_of_none a10 nx
    have nlx : l ≠ x := ne_of_none a30 nx
    refine ⟨_, rfl, p, _, dx, _, _, rfl, by rw [upd_ne npx]; exact s2 _ _ h1, T.cl_Loom, T.n4_earlier, rfl, e, _, rfl, .inl (SqL.of (by rw [upd_ne nex]; exact a1)), fun e2 he2 => ?_⟩
    have nxe2 : x ≠ e2 := ne_of_none upd_same he2
    rw [upd_ne nxe2.symm] at he2
    refine ⟨_, rfl, x, _, dz, _, rfl, by rw [upd_ne nxe2]; exact upd_same, T.cl_Loom, T.n4_earlier, by show 5 < 1000; decide, ?_⟩
    rw [put_earlier]
    have e2e : e ≠ e2 := ne_of_none a1 he2
    have e2l : l ≠ e2 := ne_of_none a3 he2
    have e2p : p ≠ e2 := ne_of_none (s2 _ _ h1) he2
    refine ⟨_, rfl, p, _, dx, _, _, rfl, by rw [upd_ne npx, upd_ne e2p, upd_ne npx]; exact s2 _ _ h1, T.cl_Loom, T.n4_later, rfl, l, _, rfl, .inl (SqL.of (by rw [upd_ne nlx, upd_ne e2l, upd_ne nlx]; exact a3)), fun l2 hl2 => ?_⟩
    have nxl2 : x ≠ l2 := ne_of_none upd_same hl2
    rw [upd_ne nxl2.symm] at hl2
    have nel2 : e2 ≠ l2 := ne_of_none upd_same hl2
    rw [upd_ne nel2.symm, upd_ne nxl2.symm] at hl2
    refine ⟨_, rfl, x, _, dz, _, rfl, by rw [upd_ne nxl2]; exact upd_same, T.cl_Loom, T.n4_later, by show 5 < 1000; decide, ?_⟩
    rw [put_later]
    refine ⟨_, rfl, ?_⟩
    generalize hX : upd (upd (upd (upd (upd H1 x _) e2 _) x _) l2 _) x _ = HX
    have atX : ∀ b, b ≠ x → b ≠ e2 → b ≠ l2 → HX b = H1 b := fun b h1 h2 h3 => by rw [← hX, upd_ne h1, upd_ne h3, upd_ne h1, upd_ne h2, upd_ne h1]
    have sX : Same H HX := fun b o eb => by
      rw [atX b (ne_of_none eb nx) (ne_of_none (s2 _ _ eb) he2) (ne_of_none (s2 _ _ eb) hl2)]
      exact s2 _ _ eb
    have ntx : t1 ≠ x := (ne_of g1 hM.lg (by intro z; cases z)).symm
    have nte2 : t1 ≠ e2 := ne_of_none hM.lg he2
    have ntl2 : t1 ≠ l2 := ne_of_none hM.lg hl2
    refine k HX x e2 l2 t1 sX nx (s2.free he2) (s2.free hl2) (fre _ nt1) ⟨⟨dz, c, by rw [← hX]; exact upd_same, h2.same sX⟩, hL.net.same sX, hL.sm, ⟨cs, ?_, ?_⟩, ⟨ds, ?_, ?_⟩, ?_, nel2, nte2.symm, ntl2.symm⟩
    · rw [← hX, upd_ne nxe2.symm, upd_ne nel2, upd_ne nxe2.symm, upd_same]
    · exact a2.but (ch := []) (But.of sX) (fun b z => by cases z)
    · rw [← hX, upd_ne nxl2.symm, upd_same]
    · exact a4.but (ch := []) (But.of sX) (fun b z => by cases z)
    · rw [atX t1 ntx nte2 ntl2]
      exact hM.lg
end
end Cp
end
section
set_option Elab.async false
set_option linter.all false
set_option maxRecDepth 100000
set_option maxHeartbeats 4000000
namespace Cp
open PySem PySem.Spec PyProof.Rows L2 Gz
/-! ### Net.cell -/
/-- what the generator of a net at a hands out -/
def spg_cell (ca : Nat → Addr) : SpGn := fun a H M out => ∃ n : Lm.Nt, IsNet ca H a n ∧ Sm n ∧ M = Lm.size n ∧ out = fun (k : Nat) => ((k : Int) % n.a, (k : Int) / n.a)
theorem sc_Net_cell : GScope N_Net_cell P_Net_cell (defScope s_Net_cell) := ⟨rfl, rfl, rfl, by decide +kernel, rfl, by decide +kernel, by decide +kernel⟩
theorem cell_nocell : ∀ y ∈ (defScope s_Net_cell).names, y.2 ≠ .cell := by decide +kernel
/-- the net's own part of the heap -/
def netH (H : Hp) (a dx t : Addr) : Hp := fun b => if b = a ∨ b = dx ∨ b = t then H b else none
theorem netH_sub {H : Hp} {a dx t : Addr} : Sub (netH H a dx t) H := fun b o e => by
  unfold netH at e
  split at e
  · exact e
  · cases e
section
variable {K : PySem.W.Frag} {mg : Str → Option Value} {fa : Nat → Addr} {fd : Nat → FuncData} {ca pa ea qa : Nat → Addr}
theorem ok_Net_cell {X : Cx} {k : Nat} (T : Tx X.K X.mg fa fd ca pa) : GFnX X k (fa 14) (spg_cell ca) := by
  intro pins σ H s a M out E hc hr I hsp
  obtain ⟨n, hN, sm, rfl, rfl⟩ := hsp
  have ok := sm.ok
  have a1 := ok.a1
  have c1 := ok.c1
  obtain ⟨dx, t, hp, ht⟩ := id hN
  obtain ⟨hown, _, hda, _⟩ := (show ObjOk X.prog X.w H s.heap a (.ins (ca 0) dx _) from I.hok a _ hp)
  obtain ⟨oc, od, kV, doc, pm, an, cdv, ct, osl, efd, lk, hcd⟩ := T.f_Net_cell.ex
  have nta : t ≠ a := ne_of ht hp (by intro z; cases z)
  have ntd : t ≠ dx := ne_of ht hown (by intro z; cases z)
  have hA : netH H a dx t a = some (.ins (ca 0) dx [("own_numbers", .ref t)]) := by unfold netH; rw [if_pos (.inl rfl)]; exact hp
  have hD : netH H a dx t dx = some (.own a) := by unfold netH; rw [if_pos (.inr (.inl rfl))]; exact hown
  have hT : netH H a dx t t = some (nums n) := by unfold netH; rw [if_pos (.inr (.inr rfl))]; exact ht
  have cases_ : ∀ b o, netH H a dx t b = some o → (b = a ∧ o = .ins (ca 0) dx [("own_numbers", .ref t)]) ∨ (b = dx ∧ o = .own a) ∨ (b = t ∧ o = nums n) := fun b o e => by
    have e0 := e
    unfold netH at e
    split at e
    · rename_i h
      rcases h with rfl | rfl | rfl
      · rw [hA] at e0; cases e0; exact .inl ⟨rfl, rfl⟩
      · rw [hD] at e0; cases e0; exact .inr (.inl ⟨rfl, rfl⟩)
      · rw [hT] at e0; cases e0; exact .inr (.inr ⟨rfl, rfl⟩)
    · cases e
  rw [efd] at lk
  have ea : ((n.a.toNat : Nat) : Int) = n.a := Int.toNat_of_nonneg (by omega)
  have ec : ((n.c.toNat : Nat) : Int) = n.c := Int.toNat_of_nonneg (by omega)
  have esz : Lm.size n = n.c.toNat * n.a.toNat := by
    have e2 := Lm.size_cast ok
    have : ((Lm.size n : Nat) : Int) = ((n.c.toNat * n.a.toNat : Nat) : Int) := by rw [e2, Int.natCast_mul, ea, ec, Int.mul_comm]
    omega
  have clN : Cls X.K (ca 0) := T.cl_Net
  have naN : NoAttr X.K (ca 0) "own_numbers" := T.n0_own_numbers
  have a9 := sm.a9
  have c9 := sm.c9
  have body : ∃ tt : TG2, ((gdOf X N_Net_cell "Net.cell" (defScope s_Net_cell) (fa 14) cdv s.heap.objs.size (netH H a dx t)).Fix → GSs2 (gdOf X N_Net_cell "Net.cell" (defScope s_Net_cell) (fa 14) cdv s.heap.objs.size (netH H a dx t)) (Lm.size n) (fun (k : Nat) => ((k : Int) % n.a, (k : Int) / n.a)) (defBody s_Net_cell) tt) ∧
      tt (gEnd (gdOf X N_Net_cell "Net.cell" (defScope s_Net_cell) (fa 14) cdv s.heap.objs.size (netH H a dx t)) (Lm.size n)) 0 (start N_Net_cell [.ref a]) (netH H a dx t) := by
    apply Exists.intro
    apply And.intro
    · intro F
      refine' gss2_cons (gs2_ps fun s0 => ?h1) (gss2_cons (gs2_for (i := 4) F rfl T.z_range (fun s0 => ?h2) sc_Net_cell.nd rfl rfl (gss2_cons (gs2_for (i := 5) F rfl T.z_range (fun s0 => ?h3) sc_Net_cell.nd rfl rfl (gss2_cons (gs2_yield F (fun s0 => ?h4) rfl) gss2_nil)) gss2_nil)) gss2_nil)
      case h1 => exact show PS _ _ (tAsg (tFld X.K (tVar 0) "own_numbers") (gTup X.K 3 (gCons (gName 1) (gCons (gName 2) (gCons (gName 3) gNil))))) from ps_asg (pe_fld (pv 0) rfl) (pg_tup (by rfl) (pgs_cons (pg_name (i := 1) sc_Net_cell.nd rfl (Or.inl rfl)) (pgs_cons (pg_name (i := 2) sc_Net_cell.nd rfl (Or.inl rfl)) (pgs_cons (pg_name (i := 3) sc_Net_cell.nd rfl (Or.inl rfl)) pgs_nil))))
      case h2 => exact pa_cons (pv 3) pa_nil
      case h3 => exact pa_cons (pv 1) pa_nil
      case h4 => exact pe_tup (pa_cons (pv 5) (pa_cons (pv 4) pa_nil))
    · refine ⟨_, rfl, a, _, dx, _, _, rfl, hA, clN, naN, rfl, t, _, rfl, SqT.of hT, rfl, _, _, rfl, _, _, rfl, _, _, rfl, rfl, ?_⟩
      refine ⟨_, rfl, n.c.toNat, by rw [ec], by omega, fun i k σ H' => k = i * n.a.toNat ∧ H' = netH H a dx t ∧ ∃ v4 v5, σ = [some (.ref a), some (.int n.a), some (.int n.b), some (.int n.c), v4, v5], fun j k σ H' h => by rw [h.2.1]; exact Sub.refl _, ⟨by rw [Nat.zero_mul], rfl, none, none, rfl⟩, ?_, ?_⟩
      · rintro i k σ H' hi ⟨rfl, rfl, v4, v5, rfl⟩
        refine ⟨_, rfl, n.a.toNat, by rw [ea], by omega, fun j k σ H' => k = i * n.a.toNat + j ∧ H' = netH H a dx t ∧ ∃ v5, σ = [some (.ref a), some (.int n.a), some (.int n.b), some (.int n.c), some (.int i), v5], fun j k σ H' h => by rw [h.2.1]; exact Sub.refl _, ⟨rfl, rfl, v5, rfl⟩, ?_, ?_⟩
        · rintro j k σ H' hj ⟨rfl, rfl, v5', rfl⟩
          have h1 : (i + 1) * n.a.toNat ≤ n.c.toNat * n.a.toNat := Nat.mul_le_mul_right _ hi
          rw [Nat.add_mul] at h1
          refine ⟨by omega, _, rfl, _, rfl, by show 2 ≤ sizeLine; decide, fun T0 hT0 => ⟨T0, rfl, ?_, hT0, fun b o e => ?_, rfl, rfl, _, rfl⟩⟩
          · rw [upd_same]
            have e3 : (((i * n.a.toNat + j : Nat)) : Int) = (j : Int) + n.a * i := by rw [Int.natCast_add, Int.natCast_mul, ea, Int.mul_comm]; omega
            show some (HO.tup [V.int (j : Int), V.int (i : Int)]) = some (HO.tup [V.int ((((i * n.a.toNat + j : Nat)) : Int) % n.a), V.int ((((i * n.a.toNat + j : Nat)) : Int) / n.a)])
            rw [e3, Int.add_mul_emod_self_left, Int.add_mul_ediv_left _ _ (by omega), Int.emod_eq_of_lt (by omega) (by omega), Int.ediv_eq_zero_of_lt (by omega) (by omega), Int.zero_add]
          · rw [upd_ne (ne_of_none (show netH H a dx t b = some o from e) hT0)]
            exact e
        · rintro k σ H' ⟨rfl, rfl, v5', rfl⟩
          exact ⟨by rw [Nat.add_mul, Nat.one_mul], rfl, _, _, rfl⟩
      · rintro k σ H' ⟨rfl, rfl, v4, v5, rfl⟩
        exact ⟨esz.symm, Sub.refl _⟩
  obtain ⟨tt, hb, ht0⟩ := body
  refine thn (gen_made (N := N_Net_cell) (ps := P_Net_cell) (qual := "Net.cell") (H0 := netH H a dx t) (us := [.ref a]) (vs := [.ref a]) (M := Lm.size n) (out := fun (k : Nat) => ((k : Int) % n.a, (k : Int) / n.a)) I hc hr sc_Net_cell cell_nocell ?_ netH_sub ?_ ?_ lk hcd rfl (.of_eq rfl) (.cons rfl .nil) hb ht0) fun u s' h => ?_
  · rfl
  · intro H' h sb hok b o e
    rcases cases_ b o e with ⟨rfl, rfl⟩ | ⟨rfl, rfl⟩ | ⟨rfl, rfl⟩
    · obtain ⟨_, r⟩ := (show ObjOk X.prog X.w H' h b (.ins (ca 0) dx _) from hok b _ (sb _ _ e))
      exact ⟨hD, r⟩
    · exact (show ObjOk X.prog X.w H' h b (.own a) from hok b _ (sb _ _ e))
    · exact (show ObjOk X.prog X.w H' h b (nums n) from hok b _ (sb _ _ e))
  · intro b x e
    rcases cases_ b _ e with ⟨rfl, z⟩ | ⟨rfl, z⟩ | ⟨rfl, z⟩
    · cases z
    · cases z
      rw [hA]
      exact fun z => by cases z
    · cases z
  · obtain ⟨ga, gi, rfl, I', kp, l1, l2, Fx, Z⟩ := h
    exact ⟨_, ga, gi, rfl, I', kp, l1, l2, Fx, Z, ⟨rfl, rfl, rfl, rfl, rfl, rfl, netH_sub⟩⟩
end
end Cp
end
section
set_option Elab.async false
set_option linter.all false
set_option maxRecDepth 100000
set_option maxHeartbeats 4000000
namespace Cp
open PySem PySem.Spec PyProof.Rows L2 Gz
/-- the text with one letter painted -/
def paintT (N : Lm.Nt) (t : List Nat) (x y : Int) (c : Nat) : List Nat := t.set (Lm.ix N (Lm.lowX N x y) (Lm.lowY N y)) c
def sp_Loom_paint (ca ea : Nat → Addr) : Sp := fun vs H Q E => ∃ (p n e l t u : Addr) (N : Lm.Nt) (f : Lm.Fn) (es ls : List Lm.Fn) (lg : List Str) (x y : Int), LoomAt ca H p n e l t N f es ls lg ∧ H u = some (pl x y) ∧ es.length ≤ 900 ∧
  ((∃ c, vs = [.ref p, .ref u, .str (sg c)] ∧ Ltr c ∧ ∀ H' l', But [p, e] H H' → H l' = none → LoomAt ca H' p n e l' t N (Lm.col N (paintT N (Lm.textOf N f) x y c)) (es ++ [f]) [] lg → Q .non H') ∨
    (vs = [.ref p, .ref u, .str "ab"] ∧ ∀ d H', Same H H' → E (.ref (ea 0)) d H'))
theorem eqv_pl (a b c d : Int) : PyData.eqv (.tuple [.int a, .int b]) (.tuple [.int c, .int d]) = decide ((a, b) = (c, d)) := by
  have e : ∀ x y : Int, (x == y) = decide (x = y) := fun x y => by by_cases h : x = y <;> simp [h]
  simp [PyData.eqv, PyData.eqvAll, e]
section
variable {P : Program} {w : World} {K : PySem.W.Frag} {mg : Str → Option Value} {base : Heap} {fa : Nat → Addr} {fd : Nat → FuncData} {ca pa ea qa : Nat → Addr}
theorem ok_Loom_paint (U : Ty K mg fa fd ca pa ea qa) : FnOk P w K mg base (L2N.CX P w) 10 (fa 41) (fd 41) P_Loom_paint (sp_Loom_paint ca ea) := by
  have T := U.toTx
  refine okN T.f_Loom_paint sc_Loom_paint (fun vs H Q E h => ?_) (fun cdv A outer s H vs Q E hr h => ?_)
  · obtain ⟨p, n, e, l, t, u, N, f, es, ls, lg, x, y, _, _, _, h⟩ := h
    rcases h with ⟨c, rfl, _⟩ | ⟨rfl, _⟩ <;> rfl
  · obtain ⟨p, n, e, l, t, u, N, f, es, ls, lg, x, y, hL, hu, hlen, h⟩ := h
    refine ⟨_, (pss_cons (ps_expr (pe_call (ok_check_place T) (hr.mono (by decide)) (by rfl) T.g_check_place T.f_check_place.kp T.b_check_place .nil pass0 (pa_cons (pv 1) pa_nil)))
      (pss_cons (ps_expr (pe_call (ok_check_colour U) (hr.mono (by decide)) (by rfl) T.g_check_colour T.f_check_colour.kp T.b_check_colour .nil (L2N.passes_call (L2N.takes_of rfl rfl rfl rfl) fun _ _ _ _ h => h) (pa_cons (pv 2) pa_nil)))
      (pss_cons (ps_set (i := 3) sc_Loom_paint.nd rfl (Or.inr rfl) (pe_meth (pe_fld (pv 0) rfl) T.cl_Net T.m_Net_place_in_cell (ok_Net_place_in_cell T) (hr.mono (by decide)) T.b_Net_place_in_cell .nil pass0 (pa_cons (pv 1) pa_nil)))
      (pss_cons (ps_setLcG (i := 4) (own := [("other", 5)]) (k := 0) (te := tIf (tTest (tOp (rEqD K) (tVar 5) (tVar 3))) (tVar 2) (tMeth (ca 2) "seen" (sp_seen ca) [] E0 (tFld K (tVar 0) "own_carpet") (tCons (tVar 5) tNil))) rfl sc_Loom_paint.nd rfl rfl (sw_true rfl rfl rfl (by decide +kernel)) (pe_fld (pv 0) rfl) T.cl_Net T.m_Net_cell (ok_Net_cell T) (hr.mono (Nat.zero_le _)) (blkOk_by (own := [("other", 5)]) (N := N_Loom_paint) (sc := defScope s_Loom_paint) (by decide +kernel)) (by decide +kernel) (fun _ _ _ _ _ => (pg_name (i := 5) sc_Loom_paint.nd rfl (Or.inl rfl))) (fun _ _ _ _ _ => (pe_ifExp (pt_cmpR (op_eqD hr.units) (pv 5) (pv 3) (nomark _)) (pv 2) (pe_meth (pe_fld (pv 0) rfl) T.cl_Woven T.m_Carpet_seen (ok_Carpet_seen T) (hr.mono (by decide)) T.b_Carpet_seen .nil pass0 (pa_cons (pv 5) pa_nil)))))
      (pss_one (ps_expr (pe_meth (pv 0) T.cl_Loom T.m_Loom_change (ok_Loom_change T) (hr.mono (by decide)) T.b_Loom_change .nil pass0 (pa_cons (pe_make T.mk2 (ok_Woven___init__ T) (hr.mono (by decide)) (by rfl) T.g_Woven T.b_Woven___init__ .nil pass0 (pa_cons (pe_fld (pv 0) rfl) (pa_cons (pe_join pe_str (pv 4)) pa_nil))) pa_nil)))))))), ?_⟩
    rcases h with ⟨c, rfl, hc, k⟩ | ⟨rfl, k⟩
    · refine ⟨_, rfl, u, x, y, rfl, hu, fun H1 s1 => ?_⟩
      refine ⟨_, rfl, .inl ⟨c, rfl, hc, ?_⟩⟩
      have hL1 := hL.same s1
      obtain ⟨dx, c0, h1, h2⟩ := id hL1.ins
      obtain ⟨dn, tn, n1, n2⟩ := id hL1.net
      have sm := hL.sm
      have ok := sm.ok
      refine ⟨_, rfl, p, _, dx, _, _, rfl, h1, T.cl_Loom, T.n4_own_net, rfl, n, dn, _, rfl, n1, rfl, _, rfl, n, u, N, x, y, rfl, hL1.net, sm, s1 _ _ hu, fun v hv => ?_⟩
      have s2 := same_new (o := pl (Lm.lowX N x y) (Lm.lowY N y)) hv
      generalize hH2 : upd H1 v (pl (Lm.lowX N x y) (Lm.lowY N y)) = H2 at s2
      have hv2 : H2 v = some (pl (Lm.lowX N x y) (Lm.lowY N y)) := by rw [← hH2]; exact upd_same
      have hL2 := hL1.same s2
      have b1 := Lm.lowX_nonneg ok x y
      have b2 := Lm.lowX_lt ok x y
      have b3 := Lm.lowY_nonneg ok y
      have b4 := Lm.lowY_lt ok y
      have tl : (Lm.textOf N f).length = Lm.size N := Lm.textOf_length _ _
      have pl_ : (paintT N (Lm.textOf N f) x y c).length = Lm.size N := by unfold paintT; rw [List.length_set, tl]
      have szN := sm.sizeN
      refine ⟨_, rfl, p, _, dx, _, _, rfl, s2 _ _ h1, T.cl_Loom, T.n4_own_net, rfl, n, dn, _, _, _, rfl, s2 _ _ n1, rfl, ⟨N, hL2.net, sm, rfl, rfl⟩, fun D hD => ⟨fun i H' => Same H2 H' ∧ OnlyNew H2 H' ∧ H' D = some (.lst ((((paintT N (Lm.textOf N f) x y c).take i).map sg).map V.str)), ⟨same_new hD, fun b o e n => ?_, upd_same⟩, fun i H' q => ⟨q.1, q.2.1, _, q.2.2⟩, fun i H3 q hi T0 hT0 => ?_, fun H3 q => ?_⟩⟩
      · by_cases hb : b = D
        · subst hb; rw [upd_same] at e; cases e; exact .inr ⟨_, rfl⟩
        · rw [upd_ne hb] at e; rw [e] at n; cases n
      · obtain ⟨s3, o3, hD3⟩ := q
        have hD0 : H2 D = none := hD
        have s4 := same_new (o := HO.tup [.int ((i : Int) % N.a), .int ((i : Int) / N.a)]) hT0
        have s34 := s3.trans s4
        refine ⟨rfl, _, rfl, _, rfl, .tuple [.int ((i : Int) % N.a), .int ((i : Int) / N.a)], .tuple [.int (Lm.lowX N x y), .int (Lm.lowY N y)], .tup (SqT.of upd_same) (.cons (.int _) (.cons (.int _) .nil)), .tup (SqT.of (s34 _ _ hv2)) (.cons (.int _) (.cons (.int _) .nil)), rfl, rfl, ?_⟩
        rw [eqv_pl]
        refine ⟨_, rfl, ?_⟩
        have hix : ((i : Int) % N.a, (i : Int) / N.a) = (Lm.lowX N x y, Lm.lowY N y) ↔ Lm.ix N (Lm.lowX N x y) (Lm.lowY N y) = i := by
          constructor
          · intro z
            injection z with z1 z2
            rw [← z1, ← z2]
            exact Lm.ix_spot ok i
          · rintro rfl
            obtain ⟨z1, z2⟩ := Lm.spot_ix ok b1 b2 b3
            rw [z1, z2]
        have nTD : D ≠ T0 := ne_of_none hD3 hT0
        have o4 : ∀ b o, (upd H3 T0 (HO.tup [.int ((i : Int) % N.a), .int ((i : Int) / N.a)])) b = some o → H2 b = none → (∃ xs, o = HO.tup xs) ∨ ∃ xs, o = HO.lst xs := fun b o e n => by
          by_cases hb : b = T0
          · subst hb; rw [upd_same] at e; cases e; exact .inl ⟨_, rfl⟩
          · rw [upd_ne hb] at e; exact o3 b o e n
        have ti : ∀ c', (paintT N (Lm.textOf N f) x y c)[i]? = some c' → (paintT N (Lm.textOf N f) x y c).take (i + 1) = (paintT N (Lm.textOf N f) x y c).take i ++ [c'] := fun c' h => by rw [List.take_add_one, h]; rfl
        have lacc : ((((paintT N (Lm.textOf N f) x y c).take i).map sg).map V.str).length < sizeLine := by
          rw [List.length_map, List.length_map, List.length_take, pl_]
          exact small1000 (by omega)
        by_cases hz : ((i : Int) % N.a, (i : Int) / N.a) = (Lm.lowX N x y, Lm.lowY N y)
        · rw [decide_eq_true hz]
          have hi' := hix.mp hz
          have e5 : (paintT N (Lm.textOf N f) x y c)[i]? = some c := by
            unfold paintT
            rw [hi', List.getElem?_set_self (by rw [tl]; exact hi)]
          refine ⟨_, rfl, _, by rw [upd_ne nTD]; exact hD3, lacc, same_upd s34 hD0, fun b o e n => ?_, ?_⟩
          · by_cases hb : b = D
            · subst hb; rw [upd_same] at e; cases e; exact .inr ⟨_, rfl⟩
            · rw [upd_ne hb] at e; exact o4 b o e n
          · rw [upd_same, ti c e5, List.map_append, List.map_append]
            rfl
        · rw [decide_eq_false hz]
          have hi' : Lm.ix N (Lm.lowX N x y) (Lm.lowY N y) ≠ i := fun z => hz (hix.mpr z)
          have e5 : (paintT N (Lm.textOf N f) x y c)[i]? = some (f ((i : Int) % N.a) ((i : Int) / N.a)) := by
            unfold paintT
            rw [List.getElem?_set_ne hi', Lm.textOf_at ok f hi]
          have hcar := (h2.same s2).same s34
          obtain ⟨dc, qc, kc, c1, c2⟩ := id hcar
          refine ⟨_, rfl, p, _, dx, _, _, rfl, s34 _ _ (s2 _ _ h1), T.cl_Loom, T.n4_own_carpet, rfl, c0, dc, _, rfl, c1, rfl, _, rfl, c0, T0, f, _, _, rfl, hcar, upd_same, fun w' a' b' hw => ?_⟩
          have s5 := same_new (o := pl a' b') hw
          refine ⟨_, s5 _ _ (by rw [upd_ne nTD]; exact hD3), lacc, same_upd (s34.trans s5) hD0, fun b o e n => ?_, ?_⟩
          · by_cases hb : b = D
            · subst hb; rw [upd_same] at e; cases e; exact .inr ⟨_, rfl⟩
            · rw [upd_ne hb] at e
              by_cases hbw : b = w'
              · subst hbw; rw [upd_same] at e; cases e; exact .inl ⟨_, rfl⟩
              · rw [upd_ne hbw] at e; exact o4 b o e n
          · rw [upd_same, ti _ e5, List.map_append, List.map_append]
            rfl
      · obtain ⟨s3, o3, hD3⟩ := q
        rw [← pl_, List.take_length] at hD3
        have hL3 := hL2.same s3
        have s23 := s2.trans s3
        have s13 := s1.trans s23
        have h13 := s23 _ _ h1
        refine ⟨_, rfl, p, dx, _, rfl, h13, rfl, _, rfl, p, _, dx, _, _, rfl, h13, T.cl_Loom, T.n4_own_net, rfl, ⟨_, rfl⟩, _, rfl, _, D, _, rfl, rfl, .inl (SqL.of hD3), ?_, ?_⟩
        · rw [join_sum, pl_, List.length_map, pl_]
          have e0 : (Str.ofString "").length = 0 := by decide +kernel
          rw [e0]
          omega
        rw [TL.join_eq, join_sg]
        intro x0 dx0 nx ndx nex
        have s4 : Same H3 (upd (upd H3 dx0 (.own x0)) x0 (.ins (ca 2) dx0 [])) := fun b o e => by rw [upd_ne (ne_of_none e nx), upd_ne (ne_of_none e ndx)]; exact e
        refine ⟨x0, dx0, n, N, paintT N (Lm.textOf N f) x y c, rfl, upd_same, hL3.net.same s4, sm, pl_, fun H' hk hc' => ⟨rfl, ?_⟩⟩
        have s5 : Same H3 H' := fun b o e => hk b o (ne_of_none e nx) (s4 _ _ e)
        have s15 := s13.trans s5
        exact ⟨p, n, e, l, t, x0, N, f, _, es, ls, lg, rfl, hL3.same s5, hc', hlen, fun H'' l' b nl hL'' => k H'' l' ((But.of s15).trans b) (s15.free nl) hL''⟩
    · refine ⟨_, rfl, u, x, y, rfl, hu, fun H1 s1 => ?_⟩
      exact ⟨_, rfl, .inr ⟨rfl, fun d H' s2 => k d H' (s1.trans s2)⟩⟩
end
end Cp
end
section
set_option Elab.async false
set_option linter.all false
set_option maxRecDepth 100000
set_option maxHeartbeats 4000000
/-! match over tuples: case ['word', name, ..]. -/
namespace Cp
open PySem PySem.Spec PyProof.Rows L2
/-- slots set one after the other -/
def sets (σ : L2.St) : List Nat → List V → L2.St
  | i :: is, v :: vs => sets (σ.set i (some v)) is vs
  | _, _ => σ
def caps : List (Str × Pos) → List Pattern
  | [] => []
  | (n, p) :: r => .MatchAs none (some n) p :: caps r
section
variable {X : Cx}
/-- the names of a case: their slots -/
def CapOk (X : Cx) : List (Str × Pos) → List Nat → Prop
  | [], [] => True
  | (n, _) :: r, i :: is => X.N[i]? = some n ∧ X.env.scope.names.lookup n = some .local ∧ CapOk X r is
  | _, _ => False
theorem binds_ok {M : Model} {A : Around} {E : Value → Shared → Prop} {pins : List (Addr × Obj)} {H : Hp} (hN : X.N.Nodup) : ∀ {ns : List (Str × Pos)} {is : List Nat} {vs : List V} {us : List Value} {σ : L2.St} {s : Shared} {Q : Unit → Shared → Prop}, CapOk X ns is → Vals vs us → vs.length = ns.length → Inv X pins σ H s →
    (∀ s', Inv X pins (sets σ is vs) H s' → Q () s') → wpAny M A (assignInOrder (((ns.map (·.1)).zip us).map fun (n, _) => bindName X.env n) (((ns.map (·.1)).zip us).map (·.2))) Q E s
  | [], [], [], _, σ, s, Q, _, .nil, _, I, h => wpAny_assignInOrder_none (h s I)
  | (n, p) :: ns, i :: is, v :: vs, _, σ, s, Q, c, .cons r rs, hl, I, h => by
    obtain ⟨c1, c2, c3⟩ := c
    refine wpAny_assignInOrder_more ?_
    refine wpAny_bindName (store_ok I hN c1 (.inl c2) r (fun s1 I1 => ?_) (.inr c2))
    exact binds_ok hN c3 rs (by simpa using hl) I1 h
theorem caps_ok {M : Model} {A : Around} {E : Value → Shared → Prop} {env : Env} : ∀ {ns : List (Str × Pos)} {us : List Value} {s : Shared} {Q : Option (List (Str × Value)) → Shared → Prop}, us.length = ns.length →
    Q (some ((ns.map (·.1)).zip us)) s → wpAny M A (matchEach (caps ns) env us) Q E s
  | [], _, s, Q, hl, h => wpAny_matchEach_nil (by simpa using h)
  | (n, p) :: ns, u :: us, s, Q, hl, h => by
    refine wpAny_matchEach_cons (wpAny_matchPattern_Capture (caps_ok (ns := ns) (by simpa using hl) ?_))
    exact h
  | (n, p) :: ns, [], s, Q, hl, h => by simp at hl
theorem caps_length : ∀ ns : List (Str × Pos), (caps ns).length = ns.length
  | [] => rfl
  | (n, p) :: r => congrArg Nat.succ (caps_length r)
/-- the cases of a match, the subject x -/
structure PMs (X : Cx) (cases : List MatchCase) (t : V → TS) : Prop where
  run : ∀ (first : Bool) (pins : List (Addr × Obj)) (s : Shared) (σ : L2.St) (H : Hp) (D : Ends) (x : V) (u : Value), Inv X pins σ H s → RelV x u → t x D σ H → wpAny (model X.prog X.w) X.A (matchCases cases X.env u first) (SP X pins D) X.xe s
def tMatch (te : TE) (t : V → TS) : TS := fun D σ H => te σ H fun x H1 => t x D σ H1
theorem ps_match {e : Expr} {te : TE} {cases : List MatchCase} {t : V → TS} {pos : Pos} (he : PE X e te) (hc : PMs X cases t) : PS X (.Match e cases pos) (tMatch te t) := by
  refine ⟨fun pins s σ H D I h => ?_⟩
  exact wpAny_Match (thn (he.run pins s σ H _ I h) fun u s1 ⟨x, H1, I1, r1, q1⟩ => hc.run true pins s1 σ H1 D x u I1 r1 q1)
/-- case ['z', n, ..]: a tuple of as many items whose first is the text z; of another length: the next case -/
def tCaseSeq (K : PySem.W.Frag) (z : Str) (is : List Nat) (tb : TS) (tr : V → TS) : V → TS := fun x D σ H => ∃ t xs, x = .ref t ∧ SqT K H t xs ∧
  ((xs.length ≠ is.length + 1 ∧ tr x D σ H) ∨ ∃ vs, xs = .str z :: vs ∧ vs.length = is.length ∧ tb D (sets σ is vs) H)
theorem pm_seq {z : Str} {j : Nat} {q1 q2 q3 : Pos} {ns : List (Str × Pos)} {is : List Nat} {body : List Stmt} {rest : List MatchCase} {tb : TS} {tr : V → TS} (hc : X.calm = true) (hN : X.N.Nodup) (ok : CapOk X ns is) (hl : ns.length = is.length) (hw : ((Pattern.MatchValue (.Constant (.str z) j q1) q2 :: caps ns).all fun p => p.isWildcard || (p.isStar && p.names.isEmpty)) = false)
    (hst : (Pattern.MatchValue (.Constant (.str z) j q1) q2 :: caps ns).findIdx? (·.isStar) = none) (hb : PSs X body tb) (hr : PMs X rest tr) :
    PMs X (⟨.MatchSequence (.MatchValue (.Constant (.str z) j q1) q2 :: caps ns) q3, none, body⟩ :: rest) (tCaseSeq X.K z is tb tr) := by
  refine ⟨fun first pins s σ H D x u I rx h => ?_⟩
  obtain ⟨t, xs, rfl, hq, h⟩ := h
  cases (show u = Value.ref t from rx)
  obtain ⟨its, r, pl, hz⟩ := I.tuple hq
  have hlen : xs.length = its.length := r.length
  have hsz : (its.toArray.size : Int) < 2 ^ 63 := by
    have := line63
    rw [List.size_toArray]
    omega
  have hpl : (Pattern.MatchValue (.Constant (.str z) j q1) q2 :: caps ns).length = is.length + 1 := by rw [List.length_cons, caps_length, hl]
  refine wpAny_matchCases_cons ?_
  rcases h with ⟨hne, h⟩ | ⟨vs, rfl, hvl, h⟩
  · refine matchSeq_tuple_miss pl hsz (by rw [List.size_toArray, hpl, ← hlen]; exact hne) ?_ hst hw
    exact hr.run false pins _ σ H D (.ref t) (.ref t) (I.tok _) rfl h
  · have hcnt : its.toArray.size = (Pattern.MatchValue (.Constant (.str z) j q1) q2 :: caps ns).length := by rw [List.size_toArray, hpl, ← hlen, List.length_cons, hvl]
    refine matchSeq_tuple_hit pl hsz hcnt ?_ hst hw
    rw [← hcnt]
    refine unpackItems_tuple (s := { s with toks := s.toks + 1 + 1 }) (I.ok.hd hc) pl fun h' hx => ?_
    have I2 : Inv X pins σ H { s with heap := h', toks := s.toks + 1 + 1 } := I.kept fun b o e => hx b o (Nat.ne_of_lt (Heap.lt_size e)) e
    cases r with
    | cons r0 rs =>
      rename_i u0 us
      obtain ⟨tk, rfl⟩ := r0
      show wpAny _ _ (matchEach (Pattern.MatchValue (.Constant (.str z) j q1) q2 :: caps ns) X.env (Value.str z tk :: us)) _ _ _
      refine wpAny_matchEach_cons (wpAny_matchPattern_Value ?_)
      refine thn ((pe_str (X := X) (x := z) (j := j) (pos := q1)).run pins _ σ H (fun v H1 => v = .str z ∧ H1 = H) I2 ⟨rfl, rfl⟩) fun w s3 ⟨v, H3, I3, rw3, ev, eH⟩ => ?_
      subst ev
      rw [eH] at I3
      refine thn (op_eq pins s3 σ H (.str z) (.str z) _ _ (fun v H1 => v = .bl true ∧ H1 = H) I3 ⟨_, rfl⟩ rw3 ⟨rfl, ?_, rfl⟩) fun c s4 ⟨v4, H4, I4, r4, ev4, eH4⟩ => ?_
      · rw [decide_eq_true rfl]
      subst ev4
      rw [eH4] at I4
      cases (show c = Value.bool true from r4)
      refine wpAny_truthy_bool ?_
      rw [if_pos rfl]
      have hul : us.length = ns.length := by rw [← rs.length, hvl, hl]
      refine caps_ok hul ?_
      show wpAny _ _ (assignInOrder ((([] : List (Str × Value)) ++ (ns.map (fun q => q.1)).zip us).map fun (n, _) => bindName X.env n) ((([] : List (Str × Value)) ++ (ns.map (fun q => q.1)).zip us).map (·.2))) _ _ _
      rw [List.nil_append]
      exact binds_ok hN ok rs (by rw [hvl, hl]) I4 fun s5 I5 => hb.run pins s5 _ H D I5 h
/-- case _ -/
theorem pm_any {body : List Stmt} {tb : TS} {q : Pos} (hb : PSs X body tb) : PMs X [⟨.MatchAs none none q, none, body⟩] (fun _ => tb) := by
  refine ⟨fun first pins s σ H D x u I rx h => ?_⟩
  refine wpAny_matchCases_cons (wpAny_matchPattern_Capture ?_)
  exact wpAny_assignInOrder_none (hb.run pins s σ H D I h)
/-- cases that are not looked at -/
theorem pm_never {cases : List MatchCase} : PMs X cases (fun _ _ _ _ => False) := ⟨fun _ _ _ _ _ _ _ _ _ _ h => h.elim⟩
end
end Cp
end
section
set_option Elab.async false
set_option linter.all false
set_option maxRecDepth 100000
set_option maxHeartbeats 4000000
namespace Cp
open PySem PySem.Spec PyProof.Rows L2 Gz
/-- one action -/
inductive Act where
  | paint (x y : Int) (c : Nat)
  | move (x y : Int)
  | bad
def IsAct (H : Hp) (t : Addr) : Act → Prop
  | .paint x y c => ∃ u, H t = some (.tup [.str "paint", .ref u, .str (sg c)]) ∧ H u = some (pl x y) ∧ Ltr c
  | .move x y => ∃ u, H t = some (.tup [.str "move", .ref u]) ∧ H u = some (pl x y)
  | .bad => ∃ u x y, H t = some (.tup [.str "paint", .ref u, .str "ab"]) ∧ H u = some (pl x y)
theorem IsAct.imp {H H' : Hp} {t : Addr} : ∀ {a : Act}, IsAct H t a → (∀ b xs, H b = some (.tup xs) → H' b = some (.tup xs)) → IsAct H' t a
  | .paint x y c, ⟨u, h1, h2, h3⟩, s => ⟨u, s _ _ h1, s _ _ h2, h3⟩
  | .move x y, ⟨u, h1, h2⟩, s => ⟨u, s _ _ h1, s _ _ h2⟩
  | .bad, ⟨u, x, y, h1, h2⟩, s => ⟨u, x, y, s _ _ h1, s _ _ h2⟩
theorem But.tup {ca : Nat → Addr} {ch : List Addr} {H H' : Hp} (b : But ch H H') (st : Still ca H ch) : ∀ c xs, H c = some (.tup xs) → H' c = some (.tup xs) := fun c xs e => b _ _ e fun z => by
  rcases st _ z with ⟨ys, e2⟩ | ⟨d, fs, e2, l⟩ | e2 <;> rw [e] at e2 <;> cases e2
/-- the carpet behind an action -/
def doAct (N : Lm.Nt) (f : Lm.Fn) : Act → Option Lm.Fn
  | .paint x y c => some (Lm.col N (paintT N (Lm.textOf N f) x y c))
  | .move x y => some (Lm.moved f x y)
  | .bad => none
def sp_Loom_act (ca ea : Nat → Addr) : Sp := fun vs H Q E => ∃ (p n e l t ta : Addr) (N : Lm.Nt) (f : Lm.Fn) (es ls : List Lm.Fn) (lg : List Str) (a : Act), vs = [.ref p, .ref ta] ∧ LoomAt ca H p n e l t N f es ls lg ∧ es.length ≤ 900 ∧ IsAct H ta a ∧
  (∀ g, doAct N f a = some g → ∀ H' l', But [p, e] H H' → H l' = none → LoomAt ca H' p n e l' t N g (es ++ [f]) [] lg → Q (.bl true) H') ∧ (doAct N f a = none → ∀ d H', Same H H' → E (.ref (ea 0)) d H')
section
variable {P : Program} {w : World} {K : PySem.W.Frag} {mg : Str → Option Value} {base : Heap} {fa : Nat → Addr} {fd : Nat → FuncData} {ca pa ea qa : Nat → Addr}
theorem ok_Loom_act (U : Ty K mg fa fd ca pa ea qa) : FnOk P w K mg base (L2N.CX P w) 12 (fa 45) (fd 45) P_Loom_act (sp_Loom_act ca ea) := by
  have T := U.toTx
  refine okN T.f_Loom_act sc_Loom_act (fun vs H Q E h => ?_) (fun cdv A outer s H vs Q E hr h => ?_)
  · obtain ⟨p, n, e, l, t, ta, N, f, es, ls, lg, a, rfl, _⟩ := h
    rfl
  · obtain ⟨p, n, e, l, t, ta, N, f, es, ls, lg, a, rfl, hL, hlen, hA, k, kE⟩ := h
    refine ⟨_, pss_cons (ps_match (pv 1) (pm_seq (z := "paint") (ns := [("place", _), ("colour", _)]) (is := [2, 3]) rfl sc_Loom_act.nd ⟨rfl, rfl, rfl, rfl, trivial⟩ rfl rfl rfl
        (pss_one (ps_expr (pe_meth (pv 0) T.cl_Loom T.m_Loom_paint (ok_Loom_paint U) (hr.mono (by decide)) T.b_Loom_paint .nil (L2N.passes_call (L2N.takes_of rfl rfl rfl rfl) fun _ _ _ _ h => h) (pa_cons (pv 2) (pa_cons (pv 3) pa_nil)))))
        (pm_seq (z := "cover") (ns := [("top", _), ("clear", _)]) (is := [4, 5]) rfl sc_Loom_act.nd ⟨rfl, rfl, rfl, rfl, trivial⟩ rfl rfl rfl (pss_cons ps_never (pss_one ps_never))
        (pm_seq (z := "move") (ns := [("shift", _)]) (is := [6]) rfl sc_Loom_act.nd ⟨rfl, rfl, trivial⟩ rfl rfl rfl
          (pss_one (ps_expr (pe_meth (pv 0) T.cl_Loom T.m_Loom_move (ok_Loom_move T) (hr.mono (by decide)) T.b_Loom_move .nil pass0 (pa_cons (pv 6) pa_nil)))) pm_never))))
      (pss_one (ps_ret pe_bl)), ?_⟩
    obtain ⟨dx, c0, h1, h2⟩ := id hL.ins
    cases a with
    | paint x y c =>
      obtain ⟨u, hA1, hA2, hA3⟩ := hA
      refine ⟨_, rfl, ta, _, rfl, SqT.of hA1, .inr ⟨[.ref u, .str (sg c)], rfl, rfl, ?_⟩⟩
      refine ⟨_, rfl, p, dx, _, rfl, h1, rfl, _, rfl, _, rfl, ?_⟩
      exact ⟨p, n, e, l, t, u, N, f, es, ls, lg, x, y, hL, hA2, hlen, .inl ⟨c, rfl, hA3, fun H' l' b nl hL' => k _ rfl H' l' b nl hL'⟩⟩
    | move x y =>
      obtain ⟨u, hA1, hA2⟩ := hA
      refine ⟨_, rfl, ta, _, rfl, SqT.of hA1, .inl ⟨(fun z => Nat.noConfusion (Nat.succ.inj (Nat.succ.inj z))), ta, _, rfl, SqT.of hA1, .inl ⟨(fun z => Nat.noConfusion (Nat.succ.inj (Nat.succ.inj z))), ta, _, rfl, SqT.of hA1, .inr ⟨[.ref u], rfl, rfl, ?_⟩⟩⟩⟩
      refine ⟨_, rfl, p, dx, _, rfl, h1, rfl, _, rfl, ?_⟩
      exact ⟨p, n, e, l, t, u, N, f, es, ls, lg, x, y, rfl, hL, hA2, hlen, fun H' l' b nl hL' => k _ rfl H' l' b nl hL'⟩
    | bad =>
      obtain ⟨u, x, y, hA1, hA2⟩ := hA
      refine ⟨_, rfl, ta, _, rfl, SqT.of hA1, .inr ⟨[.ref u, .str "ab"], rfl, rfl, ?_⟩⟩
      refine ⟨_, rfl, p, dx, _, rfl, h1, rfl, _, rfl, _, rfl, ?_⟩
      exact ⟨p, n, e, l, t, u, N, f, es, ls, lg, x, y, hL, hA2, hlen, .inr ⟨rfl, fun d H' s => kE rfl d H' s⟩⟩
end
end Cp
end
section
set_option Elab.async false
set_option linter.all false
set_option maxRecDepth 100000
set_option maxHeartbeats 4000000
/-! Rules: `with` of an own class whose body may raise; `except (A, B) as e` whose suite raises; `raise X(..) from e`; two clauses, the last with a name. -/
namespace Rf
open PySem PySem.Spec PyProof.Rows L2

/-! ### a def that is called while an exception is handled, and raises nothing -/
structure FnM (P : Program) (w : World) (K : PySem.W.Frag) (mg : Str → Option Value) (base : Heap) (k : Nat) (f : Addr) (fd : FuncData) (ps : List Str) (sp : Sp) : Prop where
  len : ∀ vs H Q E, sp vs H Q E → vs.length = ps.length
  run : ∀ (A : Around) (outer : List Env) (s : Shared) (H : Hp) (args : Args) (us : List Value) (vs : List V) (Q : VK) (E : XK), L2H.RoomH k A → Env0 P w K mg base A outer s H → BindsTo s fd args (ps.zip us) → Vals vs us → sp vs H Q E →
    codeAny (model P w) A (.call (.ref f) args) (CR CX0 outer P w H s Q E) s
def cxM (P : Program) (w : World) (K : PySem.W.Frag) (mg : Str → Option Value) (base : Heap) (N : List Str) (qual : Str) (scope : Scope) (f : Addr) (cd : Value) (A : Around) (outer : List Env) (s : Shared) (H : Hp) (E : XK) : Cx :=
  { cxOf CX0 P w K mg base N qual scope f cd A outer s H E with calm := false }
theorem inv_startM {P : Program} {w : World} {K : PySem.W.Frag} {mg : Str → Option Value} {base : Heap} {N ps : List Str} {qual : Str} {scope : Scope} {f : Addr} {cd : Value} {A : Around} {outer : List Env} {s s1 : Shared} {H : Hp} {E : XK} {us : List Value} {vs : List V}
    (S : FnScope N ps scope) (e0 : Env0 P w K mg base A outer s H) (hl : vs.length = ps.length) (r : Vals vs us)
    (x : InCallC s s.heap.objs.size (bindL (envOfC qual scope s.heap.objs.size f cd).kindOf (ps.zip us) fun _ => none) (cellsFrom (s.heap.objs.size + 1) scope.names []) (bindC (envOfC qual scope s.heap.objs.size f cd).kindOf (ps.zip us) fun _ => none) s1) :
    Inv (cxM P w K mg base N qual scope f cd A outer s H E) [] (L2.start N vs) H s1 := by
  have hpl : ps.length ≤ N.length := by have := congrArg List.length S.pre; rw [List.length_take] at this; omega
  obtain ⟨h1, tk, rfl, hk⟩ := x.done
  have noA : ∀ b : Addr, b ∉ (cxM P w K mg base N qual scope f cd A outer s H E).ex := fun b z => absurd (show b ∈ ([] : List Addr) from z) (by simp)
  refine ⟨⟨e0.mod, S.kind, rfl, rfl, Nat.le_refl _, fun y z c h1 h2 => ?_, fun y hy => ?_, fun y c _ h => ?_, (fun z => Bool.noConfusion (show false = true from z)), Around.frames_deeper e0.frames, .inr ⟨rfl, rfl⟩, fun b z => absurd z (noA b), e0.bs, e0.bsz, fun b _ _ => noA b, fun b z => absurd z (noA b), e0.funs, e0.frf⟩,
    rfl, e0.bare, Un.kept hk, ⟨_, x.toInCall.ns, fun i y v h1 h2 h3 => ?_⟩, fun y c h => ⟨_, x.cell y c h⟩, e0.hok.fresh (Nat.le_refl _), fun y c h => ?_, fun q hq => absurd (show q ∈ ([] : List (Addr × Obj)) from hq) (by simp), e0.hok.kept hk, ?_⟩
  · exact name_of_addr x.apart (PySem.mem_of_lookup h1) (PySem.mem_of_lookup h2)
  · have hy : scope.names.lookup y = some .cell ∨ scope.names.lookup y = some .free := hy
    rcases hy with hy | hy
    · exact cell_has hy
    · exact absurd rfl (S.nofree _ (PySem.mem_of_lookup hy))
  · exact Nat.le_of_lt (x.above y c (PySem.mem_of_lookup h))
  · have hi : i < vs.length := by
      unfold L2.start at h2
      by_cases hi : i < vs.length
      · exact hi
      · rw [List.getElem?_append_right (by simpa using hi)] at h2
        rw [List.getElem?_replicate] at h2
        split at h2 <;> cases h2
    have ha : vs[i]? = some v := by
      unfold L2.start at h2
      rw [List.getElem?_append_left (by simpa using hi), List.getElem?_map] at h2
      cases e : vs[i]? with
      | none => rw [e] at h2; cases h2
      | some a => rw [e] at h2; cases h2; rfl
    obtain ⟨u, hu, rv⟩ := r.get ha
    have hp : ps[i]? = some y := by
      rw [← S.pre, List.getElem?_take_of_lt (by omega)]; exact h1
    have ndP : ps.Nodup := by rw [← S.pre]; exact S.nd.sublist (List.take_sublist _ _)
    refine ⟨u, rv, ?_⟩
    rcases S.par y (List.mem_of_getElem? hp) with k | k
    · exact .inl ⟨k, bindL_get ndP hp hu k⟩
    · obtain ⟨c, e⟩ := cell_has (n := s.heap.objs.size + 1) k
      refine .inr ⟨.inl k, c, e, ?_⟩
      have q := x.cell y c e
      rw [bindC_get ndP hp hu (by show scope.names.lookup y ≠ _; rw [k]; decide)] at q
      exact q
  · exact e0.hok.fresh (Nat.le_of_lt (x.above y c (PySem.mem_of_lookup h)))
  · unfold L2.start
    show _ = N.length
    rw [List.length_append, List.length_map, List.length_replicate]
    omega
theorem fn_ofM {P : Program} {w : World} {K : PySem.W.Frag} {mg : Str → Option Value} {base : Heap} {k : Nat} {f : Addr} {name qual : Str} {params : Arguments} {body : List Stmt} {scope : Scope} {dV kV doc pm cdv ct oc : Value} {an od : Option Addr}
    {osl : Array (Option Value)} {N ps : List Str} {sp : Sp} (lk : K.lookup f = some ⟨oc, od, .func (PySem.W.fnOf name qual params body scope dV kV doc pm an cdv ct), osl⟩) (hcd : PySem.W.codeIn K cdv qual = true) (S : FnScope N ps scope)
    (len : ∀ vs H Q E, sp vs H Q E → vs.length = ps.length)
    (hbody : ∀ (A : Around) (outer : List Env) (s : Shared) (H : Hp) (vs : List V) (Q : VK) (E : XK), L2H.RoomH k (A.deeper (envOfC qual scope s.heap.objs.size f cdv)) → sp vs H Q E →
      ∃ t, PSs (cxM P w K mg base N qual scope f cdv A outer s H E) body t ∧ t { nx := fun _ H' => Q .non H', rt := Q } (L2.start N vs) H) :
    FnM P w K mg base (k + 1) f (PySem.W.fnOf name qual params body scope dV kV doc pm an cdv ct) ps sp := by
  refine ⟨len, fun A outer s H args us vs Q E hr e0 hb r hsp => ?_⟩
  have hl := len _ _ _ _ hsp
  have KX : K.In s.heap := e0.mod.kin.keeps fun b o e => (e0.bs b o e).1
  have lim : s.heap.NoLimit := e0.mod.nolimit.keeps fun b o e => (e0.bs b o e).1
  have hkind : ∀ y ∈ ps.zip us, scope.names.lookup y.1 = some .local ∨ (scope.names.lookup y.1 = some .cell ∧ ((cellsFrom (s.heap.objs.size + 1) scope.names []).lookup y.1).isSome = true) := fun ⟨n, v⟩ hy => by
    rcases S.par n (List.of_mem_zip hy).1 with q | q
    · exact .inl q
    · exact .inr ⟨q, PySem.W.cellsFrom_some _ _ _ (.inl q)⟩
  refine codeAny_call_function hr.depth (KX _ _ lk) rfl S.co S.gen rfl (PySem.W.codeRec_of KX hcd) (hb _ _ _ _ ?_)
  refine wpAny_newFunctionEnv_cells S.kind hkind fun env he s1 x => ?_
  subst he
  refine ⟨lim.keeps x.toInCall.keep, codeAny_func ?_⟩
  obtain ⟨t, ht, hq⟩ := hbody A outer s H vs Q E (hr.deeper _) hsp
  have I : Inv (cxM P w K mg base N qual scope f cdv A outer s H E) [] (L2.start N vs) H s1 := inv_startM S e0 hl r x
  refine wpAny_mono (ht.run [] s1 (L2.start N vs) H _ I hq) (fun fl s' hs => ?_) fun e s' hs => hs
  have fin : ∀ {σ' : L2.St} {H' : Hp} {v : V} {u : Value}, Inv (cxM P w K mg base N qual scope f cdv A outer s H E) [] σ' H' s' → RelV v u → Q v H' → CE outer P w H s Q u s' :=
    fun {σ' H' v u} J rv q => ⟨v, H', J.os, J.bare, J.base, J.hok, rv, q⟩
  cases fl with
  | ret u =>
    obtain ⟨v, σ', H', J, rv, q⟩ := hs
    exact fin J rv q
  | next =>
    obtain ⟨σ', H', J, q⟩ := hs
    exact fin (v := V.non) (u := Value.none) J rfl q
  | brk =>
    obtain ⟨_, _, _, q⟩ := hs
    exact False.elim q
  | cont =>
    obtain ⟨_, _, _, q⟩ := hs
    exact False.elim q
theorem okM {P : Program} {w : World} {K : PySem.W.Frag} {mg : Str → Option Value} {base : Heap} {x qual : Str} {st : Stmt} {f : Addr} {fd : FuncData} {N ps : List Str} {k : Nat} {sp : Sp} (F : Fun K x qual st f fd) (S : FnScope N ps (defScope st)) (len : ∀ vs H Q E, sp vs H Q E → vs.length = ps.length)
    (hbody : ∀ (cdv : Value) (A : Around) (outer : List Env) (s : Shared) (H : Hp) (vs : List V) (Q : VK) (E : XK), L2H.RoomH k (A.deeper (envOfC qual (defScope st) s.heap.objs.size f cdv)) → sp vs H Q E →
      ∃ t, PSs (cxM P w K mg base N qual (defScope st) f cdv A outer s H E) (defBody st) t ∧ t { nx := fun _ H' => Q .non H', rt := Q } (start N vs) H) : FnM P w K mg base (k + 1) f fd ps sp := by
  obtain ⟨oc, od, kV, doc, pm, an, cdv, ct, osl, rfl, lk, hcd⟩ := F.ex
  exact fn_ofM lk hcd S len fun A outer s H vs Q E hr hsp => hbody cdv A outer s H vs Q E hr hsp

/-! ### an exception goes on from this frame's hand -/
section
variable {X : Cx} {A : Around} {W : WX} {pins : List (Addr × Obj)} {σ : L2.St} {H : Hp} {s : Shared} {a T : Addr} {oe oT : Obj} {vs ts : Array Value} {cls fl : Value} {d : Option Addr} {E : Value → Shared → Prop} {α : Type} {Q : α → Shared → Prop} {what : String}
theorem pass_on (hs : X.stack = X.env :: X.outer) (hf : X.env.frame = some X.env.locals) (tk : L2.Takes X W) (J : Inv X pins σ H s) (ga : s.heap.get? a = some oe) (hz : Zc cls d oe) (hd : oe.data = .fields vs) (hv1 : vs[1]? = some (.ref T)) (hTe : T ≠ a)
    (gT : s.heap.get? T = some oT) (hdT : oT.data = .fields ts) (ht3 : ts[3]? = some fl) (na : H a = none) (nT : H T = none) (far0 : ∀ b o, X.s_0.heap.get? b = some o → b ≠ a ∧ b ≠ T) (farP : ∀ p ∈ X.pn ++ pins, p.1 ≠ a ∧ p.1 ≠ T)
    (w : W cls d σ H) (k : ∀ s', X.xe (.ref a) s' → E (.ref a) s') : wpAny (model X.prog X.w) A (PySem.passOn what (.ref a) X.env) Q E s := by
  obtain ⟨G, g1, g2⟩ := restrict s.heap fun b => !(decide (b = a) || decide (b = T))
  have gIn : ∀ b o, G.get? b = some o → s.heap.get? b = some o ∧ b ≠ a ∧ b ≠ T := fun b o e => by
    cases q : (!(decide (b = a) || decide (b = T))) with
    | false =>
      rw [g2 b q] at e
      cases e
    | true =>
      rw [g1 b q] at e
      simp only [Bool.not_eq_true', Bool.or_eq_false_iff, decide_eq_false_iff_not] at q
      exact ⟨e, q.1, q.2⟩
  have gOf : ∀ b o, b ≠ a → b ≠ T → s.heap.get? b = some o → G.get? b = some o := fun b o h1 h2 e => by
    rw [g1 b (by simp [h1, h2])]
    exact e
  have I6 : Inv X pins σ H { s with heap := G } := J.less (fun b o e => (gIn b o e).1) gOf ⟨oe, vs, ga, hd⟩ ⟨oT, ts, gT, hdT⟩ na nT far0 farP
  have B6in : ∀ b o, (PySem.W.hideAll G (frs X.stack)).get? b = some o → s.heap.get? b = some o := fun b o e => (gIn b o (PySem.W.of_hideAll _ e)).1
  have Bno : ∀ b, (b = a ∨ b = T) → (PySem.W.hideAll G (frs X.stack)).get? b = none := fun b hb => by
    cases q : (PySem.W.hideAll G (frs X.stack)).get? b with
    | none => rfl
    | some o =>
      obtain ⟨_, n1, n2⟩ := gIn b o (PySem.W.of_hideAll _ q)
      rcases hb with z | z
      · exact absurd z n1
      · exact absurd z n2
  have ff : s.heap.FunFrames (PySem.W.hideAll G (frs X.stack)) (X.env :: X.outer) := by
    have ff := funFrames_none (B := PySem.W.hideAll G (frs X.stack)) J.stack fun b hb => PySem.W.hideAll_none _ hb
    rw [← hs]
    exact ff
  unfold PySem.passOn
  refine wpAny_bind (wpAny_field ga hd hv1 ?_)
  rw [if_neg (show ¬ ((Value.ref T == Value.none) = true) from by simp)]
  have goOn : wpAny (model X.prog X.w) A (setFlight (.ref a) X.env.frame) (fun _ s7 => wpAny (model X.prog X.w) A (throw (.ref a) : Sem α) Q E s7) E s := by
    rw [hf]
    refine HandSPX.setFlight_anyZ (base := PySem.W.hideAll G (frs X.stack)) (l := X.env :: X.outer) (Z := Zc cls d) B6in ff ⟨oe, vs, T, oT, ts, ga, hz, hd, hv1, Bno T (.inr rfl), hTe, gT, hdT, ht3⟩ fun h7 k1 k2 k3 up7 => wpAny_throw (k _ (tk _ _ ?_))
    refine ⟨a, PySem.W.hideAll G (frs X.stack), { s with heap := G }, pins, σ, H, cls, d, rfl, I6, fun b o e hb => PySem.W.hideAll_get _ e hb, ?_, .inr (.inr ?_), na, rfl, J.bare, w⟩
    · exact Heap.UpToSlots.trans (Heap.UpToSlots.of_keeps fun b o e => (gIn b o e).1) up7
    · have hh7 : HandSPX.HeldZ (PySem.W.hideAll G (frs X.stack)) (X.env :: X.outer) a (Zc cls d) X.env.locals h7 := ⟨k1, Bno a (.inl rfl), k2, k3⟩
      rw [← hs] at hh7
      exact hh7
  first
    | exact wpAny_bind (wpAny_pure (wpAny_bind goOn))
    | exact wpAny_bind goOn
/-- what the air tells of the exception's own records -/
theorem air_far {B : Heap} {sI : Shared} {h3 : Heap} {Z : Obj → Prop} {fl : Value} (hs : X.stack = X.env :: X.outer) (hex : X.ex = []) (J : Inv X pins σ H sI) (nb : ∀ b o, sI.heap.get? b = some o → b ∉ frs X.stack → B.get? b = some o) (hBa : B.get? a = none) (ff : h3.FunFrames B (X.env :: X.outer))
    (tz : HandSPX.TracedZ h3 B a Z fl) :
    ∃ oe vs T oT ts, h3.get? a = some oe ∧ Z oe ∧ oe.data = .fields vs ∧ vs[1]? = some (.ref T) ∧ T ≠ a ∧ h3.get? T = some oT ∧ oT.data = .fields ts ∧ ts[3]? = some fl ∧ H T = none ∧ (∀ b o, sI.heap.get? b = some o → b ≠ a ∧ b ≠ T) ∧ a ∉ frs (X.env :: X.outer) ∧ T ∉ frs (X.env :: X.outer) := by
  obtain ⟨oe, vs, T, oT, ts, he, hz, hd, h1, hnT, hTe, hT, hdT, h3'⟩ := tz
  have notFr : ∀ (b : Addr) (o : Obj) (fv : Array Value), h3.get? b = some o → o.data = .fields fv → b ∉ frs (X.env :: X.outer) := fun b o fv e dd hm => by
    obtain ⟨_, o', e', hnf⟩ := ff.mem hm
    have eo : o = o' := Option.some.inj (e.symm.trans e')
    rw [← eo] at hnf
    exact hnf _ dd
  have fa := notFr a oe vs he hd
  have fT := notFr T oT ts hT hdT
  refine ⟨oe, vs, T, oT, ts, he, hz, hd, h1, hTe, hT, hdT, h3', (J.inGround nb).gone hnT, fun b o e => ?_, fa, fT⟩
  by_cases hb : b ∈ frs X.stack
  · rw [hs] at hb
    exact ⟨fun z => fa (by rw [← z]; exact hb), fun z => fT (by rw [← z]; exact hb)⟩
  · have q := nb b o e hb
    refine ⟨fun z => ?_, fun z => ?_⟩
    · rw [z, hBa] at q
      cases q
    · rw [z, hnT] at q
      cases q
end
/-- an exception in this frame's air, its own records aside; held: noted by this frame -/
def AirW (X : Cx) (pins : List (Addr × Obj)) (W : WX) (u : Value) (s' : Shared) : Prop :=
  ∃ (a : Addr) (B : Heap) (sI : Shared) (σ : L2.St) (H : Hp) (cls : Value) (d : Option Addr), u = .ref a ∧ Inv X pins σ H sI ∧ (∀ b o, sI.heap.get? b = some o → b ∉ frs X.stack → B.get? b = some o) ∧ sI.heap.UpToSlots s'.heap ∧
    Sky B (X.env :: X.outer) a (Zc cls d) X.env.locals s'.heap ∧ H a = none ∧ s'.os = sI.os ∧ AllBare s'.gens ∧ W cls d σ H
def HeldW (X : Cx) (pins : List (Addr × Obj)) (W : WX) (u : Value) (s' : Shared) : Prop :=
  ∃ (a : Addr) (B : Heap) (sI : Shared) (σ : L2.St) (H : Hp) (cls : Value) (d : Option Addr), u = .ref a ∧ Inv X pins σ H sI ∧ (∀ b o, sI.heap.get? b = some o → b ∉ frs X.stack → B.get? b = some o) ∧ sI.heap.UpToSlots s'.heap ∧
    HandSPX.HeldZ B (X.env :: X.outer) a (Zc cls d) X.env.locals s'.heap ∧ H a = none ∧ s'.os = sI.os ∧ AllBare s'.gens ∧ W cls d σ H
section
variable {X : Cx} {A : Around} {W : WX} {pins : List (Addr × Obj)} {s : Shared} {u : Value} {E : Value → Shared → Prop} {xe : Value → Shared → Prop}
theorem air_tr (hs : X.stack = X.env :: X.outer) (ok : X.Ok) (x : L2.XE (X.tr (X.pn ++ pins) xe) W u s) : AirW X pins W u s := by
  obtain ⟨a, B, sI, pins', σ, H, cls, d, e, J, nb, up, sky, na, os, ag, w⟩ := x
  exact ⟨a, B, sI, σ, H, cls, d, e, J.ofTry ok, nb, up, by rw [← hs]; exact sky, na, os, ag, w⟩
theorem air_held (hfr : A.frames = some (X.env :: X.outer)) (hf : X.env.frame = some X.env.locals) (x : AirW X pins W u s) : wpAny (model X.prog X.w) A (noteFrame u X.env) (fun _ s2 => HeldW X pins W u s2) E s := by
  obtain ⟨a, B, sI, σ, H, cls, d, rfl, J, nb, up, sky, na, os, ag, w⟩ := x
  have fin : ∀ h1, HandSPX.HeldZ B (X.env :: X.outer) a (Zc cls d) X.env.locals h1 → s.heap.UpToSlots h1 → HeldW X pins W (.ref a) { s with heap := h1 } := fun h1 hh1 up1 => ⟨a, B, sI, σ, H, cls, d, rfl, J, nb, up.trans up1, hh1, na, os, ag, w⟩
  rcases sky with ⟨hB, hn, hl, oe, vs, he0, hz, hd, hv1⟩ | fl | hh
  · exact HandSPX.look_newZ Zc.steady hfr hl hf he0 hB hn hd hv1 hz fin
  · exact HandSPX.looks_onZ Zc.steady hfr hf fl fin
  · exact HandSPX.againZ hf hh.2.2.2 (fin s.heap hh (Heap.UpToSlots.refl _))
end

/-! ### with -/
def wWith (x : Addr) (spX : Sp) (Wout : WX) : WX := fun cls d σ H => ∃ C', cls = .ref C' ∧ ∀ a t, H a = none → spX [.ref x, .ref C', .ref a, t] H (fun v H' => v = .non ∧ Wout cls d σ H') E0
def tWith (C : Addr) (tm : TE) (spE spX : Sp) (tb : WX → TS) (Wout : WX) : TS := fun D σ H => tm σ H fun x H1 => ∃ a dx fs, x = .ref a ∧ H1 a = some (.ins C dx fs) ∧
  spE [.ref a] H1 (fun _ H2 => tb (wWith a spX Wout) { nx := fun σ3 H3 => spX [.ref a, .non, .non, .non] H3 (fun _ H4 => D.nx σ3 H4) E0, rt := fun _ _ => False, bk := fun _ _ => False, ct := fun _ _ => False } σ H2) E0
section
variable {X : Cx} {pins : List (Addr × Obj)} {σ : L2.St} {H : Hp} {s : Shared} {k : Nat} {f : Addr} {fd : FuncData} {ps : List Str} {sp : Sp}
theorem run_M {us : List Value} {vs : List V} {Q : VK} (F : FnM X.prog X.w X.K X.mg X.base k f fd ps sp) (hr : L2H.RoomH k X.A) (hb : Binds X.K fd ps []) (I : Inv X pins σ H s) (r : Vals vs us) (h : sp vs H Q E0) :
    codeAny (model X.prog X.w) X.A (.call (.ref f) ⟨us, []⟩) (fun r s' => ∃ u, r = .ok (.ret u) ∧ EP X pins σ Q u s') s := by
  have hl : us.length = ps.length := by rw [← r.length]; exact F.len _ _ _ _ h
  have b := hb s us I.kIn (by rw [List.append_nil]; exact hl)
  rw [List.append_nil] at b
  refine codeAny_mono (F.run X.A X.stack s H ⟨us, []⟩ us vs Q E0 hr I.env0 b r h) fun r s' hq => ?_
  cases r with
  | error e => exact False.elim hq
  | ok fl =>
    cases fl with
    | ret u => exact ⟨u, rfl, I.after hq⟩
    | next => exact False.elim hq
    | brk => exact False.elim hq
    | cont => exact False.elim hq
end
section
variable {X : Cx} {C fe fx : Addr} {k : Nat} {fdE fdX : FuncData} {psE psX : List Str} {spE spX : Sp} {ctx : Expr} {body : List Stmt} {pos : Pos} {tm : TE} {tb : WX → TS} {Wout : WX}
theorem ps_withX (hs : X.stack = X.env :: X.outer) (hf : X.env.frame = some X.env.locals) (hex : X.ex = []) (tk : L2.Takes X Wout) (hm : PE X ctx tm) (he : PySem.W.findIn X.K (.ref C) "__enter__" = some (some (.ref fe))) (hfe : PySem.W.isFn X.K (.ref fe) = true)
    (hx : PySem.W.findIn X.K (.ref C) "__exit__" = some (some (.ref fx))) (hfx : PySem.W.isFn X.K (.ref fx) = true) (FE : FnOk X.prog X.w X.K X.mg X.base CX0 k fe fdE psE spE) (FX : FnM X.prog X.w X.K X.mg X.base k fx fdX psX spX) (hr : Room k X.A) (bE : Binds X.K fdE psE []) (bX : Binds X.K fdX psX [])
    (hb : ∀ (W : WX) (pn : List (Addr × Obj)) (xe : Value → Shared → Prop), L2.Takes (X.tr pn xe) W → PassesOwn (model X.prog X.w) X.A X.env xe → (∀ hd : Option Value, PassesOwnAt (model X.prog X.w) (X.A.mark hd) X.A X.env xe) → PSs (X.tr pn xe) body (tb W)) :
    PS X (.With [⟨ctx, none⟩] body pos) (tWith C tm spE spX tb Wout) := by
  refine ⟨fun pins s σ H D I h => ?_⟩
  have ok := I.ok
  have hfr : X.A.frames = some (X.env :: X.outer) := by rw [ok.frames, hs]
  have hrH : L2H.RoomH k X.A := L2H.roomH_of hr
  refine PySem.W.kw_exec0 (wpAny_mono (hm.run pins s σ H _ I h) (fun u s1 z => ?_) fun _ _ z => z)
  obtain ⟨v, H1, I1, r1, x, dx, fs, rfl, ea, q1⟩ := z
  cases (show u = Value.ref x from r1)
  unfold PySem.W.KwIn
  obtain ⟨mA, J, _⟩ := ins_get I1.hok ea
  obtain ⟨od, J, _⟩ := J.look
  obtain ⟨cd, hcd, ae⟩ := PySem.W.kw_along he
  obtain ⟨cd', hcd', ax⟩ := PySem.W.kw_along hx
  cases hcd.symm.trans hcd'
  have KX := I1.kIn
  obtain ⟨hh, g, d0, tt, os0⟩ := s1
  have L1 : PySem.W.Looks (model X.prog X.w) hh (specialOnItsLine (.ref x) "__enter__") (some (.ref fe), cd.mro) := PySem.W.kw_special KX J hcd ae
  have L2 : PySem.W.Looks (model X.prog X.w) hh (specialOnItsLine (.ref x) "__exit__") (some (.ref fx), cd.mro) := PySem.W.kw_special KX J hcd ax
  have L3 : PySem.W.Looks (model X.prog X.w) hh (bindSpecial (.ref fe) (.ref x)) (.ref fe, [.ref x]) := PySem.W.bind_fn KX _ (beq_iff_eq.mp hfe)
  have L4 : PySem.W.Looks (model X.prog X.w) hh (bindSpecial (.ref fx) (.ref x)) (.ref fx, [.ref x]) := PySem.W.bind_fn KX _ (beq_iff_eq.mp hfx)
  have L5 : PySem.W.Looks (model X.prog X.w) hh (aMethodOfAnotherBuiltinTypeStops (.ref fe) cd.mro) () := PySem.W.Looks.of_pure rfl
  have L6 : PySem.W.Looks (model X.prog X.w) hh (aMethodOfAnotherBuiltinTypeStops (.ref fx) cd.mro) () := PySem.W.Looks.of_pure rfl
  unfold withItem
  refine wpAny_bind (wpAny_pure ?_)
  refine wpAny_bind (wpAny_standAt ?_)
  simp only [Bool.false_eq_true, if_false]
  kw_lk
  refine wpAny_mono (run_fn (us := [.ref x]) (vs := [.ref x]) FE hr bE .nil pass0 I1 (.cons rfl .nil) q1) (fun v s₂ h₂ => ?_) fun _ _ z => z
  obtain ⟨v2, H2, I2, r2, q2⟩ := h₂
  kw_lk
  refine wpAny_attempt (PySem.W.kw_held ?_)
  show wpAny _ _ (execs body X.env) _ _ _
  refine wpAny_mono ((hb (wWith x spX Wout) (X.pn ++ pins) (fun e s₁ => wpAny (model X.prog X.w) X.A (noteFrame e X.env) (fun _ s₂ => HeldW X pins (wWith x spX Wout) e s₂) X.xe s₁) (fun u s' xx => air_held hfr hf (air_tr hs ok xx)) PassesOwn.looking (fun hd => PassesOwnAt.looking)).run [] s₂ σ H2
    { nx := fun σ3 H3 => spX [.ref x, .non, .non, .non] H3 (fun _ H4 => D.nx σ3 H4) E0, rt := fun _ _ => False, bk := fun _ _ => False, ct := fun _ _ => False } (I2.toTry _) q2) (fun f s3 hsp => ?_) (fun e s3 he3 => ?_)
  · cases f with
    | next =>
      obtain ⟨σ3, H3, J3', q3⟩ := hsp
      have J3 := J3'.ofTry ok
      kw_lk
      refine wpAny_call (codeAny_mono (run_M (us := [.ref x, .none, .none, .none]) (vs := [.ref x, .non, .non, .non]) FX hrH bX J3 (.cons rfl (.cons rfl (.cons rfl (.cons rfl .nil)))) q3) fun r s4 hq => ?_)
      obtain ⟨u4, rfl, v4, H4, I4, r4, q4⟩ := hq
      exact wpAny_pure ⟨σ3, H4, I4, q4⟩
    | ret u =>
      obtain ⟨_, _, _, _, _, q⟩ := hsp
      exact False.elim q
    | brk =>
      obtain ⟨_, _, _, q⟩ := hsp
      exact False.elim q
    | cont =>
      obtain ⟨_, _, _, q⟩ := hsp
      exact False.elim q
  · refine wpAny_bind (wpAny_mono he3 (fun _ s4 h4 => ?_) fun _ _ z => z)
    obtain ⟨a, B, sI, σ', H', cls, d, rfl, J, nb, up, hh, na, os, ag, C', rfl, hw⟩ := h4
    refine wpAny_bind (HandSPX.landsZ hh fun h5 fl5 up5 => ?_)
    have J5 : Inv X pins σ' H' { s4 with heap := h5 } := J.landed nb fl5.1 (up.trans up5) os ag
    obtain ⟨oe, vs, T, oT, ts, gae, hz, hd, hv1, hTe, gT, hdT, ht3, nT, far, fa, fT⟩ := air_far hs hex J nb fl5.2.1 fl5.2.2.1 fl5.2.2.2
    have locF : X.env.locals ∈ frs (X.env :: X.outer) := List.mem_filterMap.mpr ⟨X.env, List.mem_cons_self, hf⟩
    have fsF : ∀ b, b ∈ X.fs → b ∈ frs (X.env :: X.outer) := fun b hm => by
      obtain ⟨e, he, q⟩ := List.mem_filterMap.mp hm
      exact List.mem_filterMap.mpr ⟨e, List.mem_cons_of_mem _ he, q⟩
    have S5 : Inv (X.suite a ((a, oe) :: (T, oT) :: (X.pn ++ pins))) [] σ' H' { s4 with heap := h5 } :=
      ⟨J5.ok.suite _ _, J5.os, J5.bare, J5.base, J5.loc, J5.cell, J5.free, J5.freeC, fun p hp => by
        rw [List.append_nil] at hp
        rcases List.mem_cons.mp hp with z | hp
        · rw [z]
          exact ⟨gae, na, fun z2 => fa (by rw [show a = X.env.locals from z2]; exact locF), fun z2 => fa (fsF _ z2), fun v z2 => by
            have z3 : oe.data = .cell v := z2
            rw [hd] at z3
            cases z3⟩
        · rcases List.mem_cons.mp hp with z | hp
          · rw [z]
            exact ⟨gT, nT, fun z2 => fT (by rw [show T = X.env.locals from z2]; exact locF), fun z2 => fT (fsF _ z2), fun v z2 => by
              have z3 : oT.data = .cell v := z2
              rw [hdT] at z3
              cases z3⟩
          · exact J5.pin p hp, J5.hok, J5.len⟩
    have far0 : ∀ b o, X.s_0.heap.get? b = some o → b ≠ a ∧ b ≠ T := fun b o e => by
      obtain ⟨o', q⟩ := J.base.there b o e (by rw [hex]; simp)
      exact far b o' q
    have farP : ∀ p ∈ X.pn ++ pins, p.1 ≠ a ∧ p.1 ≠ T := fun p hp => far p.1 p.2 (J.pin p hp).1
    -- what stands behind the exit
    have behind : ∀ (t : V) (tv : Value), RelV t tv → wpAny (model X.prog X.w) X.A (withItem.marked (.ref a) (.call (.ref fx) ⟨[.ref x] ++ [.ref C', .ref a, tv], []⟩)) (fun r s6 => r = .none ∧ wpAny (model X.prog X.w) X.A (PySem.passOn "with" (.ref a) X.env) (SP X pins D) X.xe s6) X.xe { s4 with heap := h5 } := fun t tv rt => by
      unfold withItem.marked
      have runs := run_M (X := X.suite a ((a, oe) :: (T, oT) :: (X.pn ++ pins))) (us := [.ref x, .ref C', .ref a, tv]) (vs := [.ref x, .ref C', .ref a, t]) FX ⟨hrH.dp, hrH.un⟩ bX S5 (.cons rfl (.cons rfl (.cons rfl (.cons rt .nil)))) (hw a t na)
      refine wpAny_bind (wpAny_run (codeAny_mono runs fun r s6 hq => ?_))
      obtain ⟨u6, rfl, v6, H6, S6, r6, rfl, q6⟩ := hq
      cases (show u6 = Value.none from r6)
      refine wpAny_pure ⟨rfl, ?_⟩
      have J6 : Inv X pins σ' H6 s6 := ⟨ok, S6.os, S6.bare, S6.base, S6.loc, S6.cell, S6.free, S6.freeC, fun p hp => S6.pin p (List.mem_append_left _ (List.mem_cons_of_mem _ (List.mem_cons_of_mem _ hp))), S6.hok, S6.len⟩
      have pa := S6.pin (a, oe) (List.mem_append_left _ List.mem_cons_self)
      have pT := S6.pin (T, oT) (List.mem_append_left _ (List.mem_cons_of_mem _ List.mem_cons_self))
      exact pass_on hs hf tk J6 pa.1 hz hd hv1 hTe pT.1 hdT ht3 pa.2.1 pT.2.1 far0 farP q6 fun _ z => z
    refine wpAny_bind (wpAny_standAt ?_)
    refine wpAny_holding (wpAny_bind (wpAny_typeOf_ref gae ?_))
    rw [hz.1]
    have tbk : wpAny (model X.prog X.w) X.A (tracebackOf (.ref a)) (fun tv s6 => s6 = { s4 with heap := h5 } ∧ ∃ t, RelV t tv) X.xe { s4 with heap := h5 } := by
      have sz : 3 < ts.size := (Array.getElem?_eq_some_iff.mp ht3).1
      have h1 : ts[1]? = some ts[1] := Array.getElem?_eq_getElem (by omega)
      unfold tracebackOf
      refine wpAny_bind (wpAny_field gae hd hv1 ?_)
      dsimp only
      refine wpAny_bind (wpAny_field gT hdT h1 ?_)
      split
      · exact wpAny_pure ⟨rfl, .non, rfl⟩
      · exact wpAny_pure ⟨rfl, .ref T, rfl⟩
    refine wpAny_bind (wpAny_mono tbk (fun tv s6 z => ?_) fun _ _ z => z)
    obtain ⟨rfl, t, rt⟩ := z
    refine wpAny_bind (wpAny_mono (behind t tv rt) (fun r s7 z => ?_) fun _ _ z => z)
    obtain ⟨rfl, z⟩ := z
    refine wpAny_bind (wpAny_pure ?_)
    dsimp only
    refine wpAny_bind (wpAny_pure ?_)
    simp only [Bool.false_eq_true, if_false]
    exact z
end

/-! ### except (A, B) as n: a suite that raises -/
abbrev suiteY (X : Cx) (a : Addr) (pn : List (Addr × Obj)) (xe : Value → Shared → Prop) : Cx := { X with A := X.A.mark (some (.ref a)), calm := false, pn := pn, xe := xe }
def wOff (i : Nat) (W : WX) : WX := fun cls d σ H => W cls d (σ.set i none) H
def wTup (K : PySem.W.Frag) (c1 c2 : Value) (gd : Value → Prop) (i : Nat) (ts : Addr → Value → Option Addr → TS) : WX := fun cls d σ H => gd cls ∧ PySem.W.exmAny K cls [c1, c2] = some true ∧ ∀ a, H a = none → ts a cls d { nx := fun _ _ => False, rt := fun _ _ => False, bk := fun _ _ => False, ct := fun _ _ => False } (σ.set i (some (.ref a))) H
theorem fly_push {B h : Heap} {l : List Env} {a : Addr} {Z : Obj → Prop} (x : HandSPX.FlyingZ B l a Z h) (o : Obj) : HandSPX.FlyingZ B l a Z (h.push o) := by
  obtain ⟨k1, k2, k3, oe, vs, T, oT, ts, he, hz, hd, h1, hnT, hTe, hT, hdT, h3⟩ := x
  exact ⟨fun b o e => Heap.get?_push_of_some _ (k1 b o e), k2, k3.of_keeps fun b o e _ => ⟨o, Heap.get?_push_of_some _ e, rfl⟩, oe, vs, T, oT, ts, Heap.get?_push_of_some _ he, hz, hd, h1, hnT, hTe, Heap.get?_push_of_some _ hT, hdT, h3⟩
section
variable {X : Cx} {Wout : WX} {pins : List (Addr × Obj)} {u : Value} {s : Shared} {i : Nat} {n : Str} {pos : Pos} {hd : Option Value} {E0' : Value → Shared → Prop} {R : Value → Shared → Prop}
theorem suite_out (hs : X.stack = X.env :: X.outer) (hf : X.env.frame = some X.env.locals) (hex : X.ex = []) (hN : X.N.Nodup) (hi : X.N[i]? = some n) (hln : X.env.kindOf n = some .local) (hpa : ∀ hd : Option Value, PassesOwnAt (model X.prog X.w) (X.A.mark hd) X.A X.env X.xe) (tk : L2.Takes X Wout)
    (x : AirW X pins (wOff i Wout) u s) : wpAny (model X.prog X.w) (X.A.mark hd) (noteFrame u X.env) (fun _ s₃' => wpAny (model X.prog X.w) (X.A.mark hd) (do bindName X.env n .none; unbindBehindTheSuite X.env n pos)
      (fun _ s₄ => wpAny (model X.prog X.w) (X.A.mark hd) (passOn "try.except-as" u X.env : Sem Flow) (fun _ _ => False) (notedBy (model X.prog X.w) (X.A.mark hd) X.env (cameBackBy (model X.prog X.w) X.A X.env X.xe)) s₄) R s₃') E0' s := by
  have ok : X.Ok := by
    obtain ⟨_, _, _, _, _, _, _, _, J, _⟩ := x
    exact J.ok
  have hfr : (X.A.mark hd).frames = some (X.env :: X.outer) := by
    show X.A.frames = _
    rw [ok.frames, hs]
  refine wpAny_mono (air_held hfr hf x) (fun _ s3 h3 => ?_) fun _ _ z => z
  obtain ⟨a, B, sI, σ, H, cls, d, rfl, J, nb, up, hh, na, os, ag, w⟩ := h3
  have J3 : Inv X pins σ H s3 := J.landed nb hh.1 up os ag
  obtain ⟨oe, vs, T, oT, ts, gae, hz, hdd, hv1, hTe, gT, hdT, ht3, nT, far, fa, fT⟩ := air_far hs hex J nb hh.2.1 hh.2.2.1 hh.2.2.2
  have locF : X.env.locals ∈ frs (X.env :: X.outer) := List.mem_filterMap.mpr ⟨X.env, List.mem_cons_self, hf⟩
  have fsF : ∀ b, b ∈ X.fs → b ∈ frs (X.env :: X.outer) := fun b hm => by
    obtain ⟨e, he, q⟩ := List.mem_filterMap.mp hm
    exact List.mem_filterMap.mpr ⟨e, List.mem_cons_of_mem _ he, q⟩
  have P3 : Inv X ((a, oe) :: (T, oT) :: pins) σ H s3 := ⟨J3.ok, J3.os, J3.bare, J3.base, J3.loc, J3.cell, J3.free, J3.freeC, fun p hp => by
    rcases List.mem_append.mp hp with hp | hp
    · exact J3.pin p (List.mem_append_left _ hp)
    · rcases List.mem_cons.mp hp with z | hp
      · rw [z]
        exact ⟨gae, na, fun z2 => fa (by rw [show a = X.env.locals from z2]; exact locF), fun z2 => fa (fsF _ z2), fun v z2 => by
          have z3 : oe.data = .cell v := z2
          rw [hdd] at z3
          cases z3⟩
      · rcases List.mem_cons.mp hp with z | hp
        · rw [z]
          exact ⟨gT, nT, fun z2 => fT (by rw [show T = X.env.locals from z2]; exact locF), fun z2 => fT (fsF _ z2), fun v z2 => by
            have z3 : oT.data = .cell v := z2
            rw [hdT] at z3
            cases z3⟩
        · exact J3.pin p (List.mem_append_right _ hp), J3.hok, J3.len⟩
  have far0 : ∀ b o, X.s_0.heap.get? b = some o → b ≠ a ∧ b ≠ T := fun b o e => by
    obtain ⟨o', q⟩ := J.base.there b o e (by rw [hex]; simp)
    exact far b o' q
  have farP : ∀ p ∈ X.pn ++ pins, p.1 ≠ a ∧ p.1 ≠ T := fun p hp => far p.1 p.2 (J.pin p hp).1
  refine gone_ok P3 hN hi hln fun s4 P4 => ?_
  have pa := P4.pin (a, oe) (List.mem_append_right _ List.mem_cons_self)
  have pT := P4.pin (T, oT) (List.mem_append_right _ (List.mem_cons_of_mem _ List.mem_cons_self))
  have J4 : Inv X pins (σ.set i none) H s4 := ⟨P4.ok, P4.os, P4.bare, P4.base, P4.loc, P4.cell, P4.free, P4.freeC, fun p hp => by
    rcases List.mem_append.mp hp with hp | hp
    · exact P4.pin p (List.mem_append_left _ hp)
    · exact P4.pin p (List.mem_append_right _ (List.mem_cons_of_mem _ (List.mem_cons_of_mem _ hp))), P4.hok, P4.len⟩
  exact pass_on hs hf tk J4 pa.1 hz hdd hv1 hTe pT.1 hdT ht3 pa.2.1 pT.2.1 far0 farP w fun s' z => hpa hd _ s' z
end
section
variable {X : Cx} {x1 x2 n : Str} {c1 c2 : Value} {i kk : Nat} {body suite : List Stmt} {b₀ : Stmt} {p1 p2 tp pos pos' : Pos} {tb : WX → TS} {ts : Addr → Value → Option Addr → TS} {Wout : WX} {gd : Value → Prop}
theorem ps_try_tupX (hs : X.stack = X.env :: X.outer) (hf : X.env.frame = some X.env.locals) (hex : X.ex = []) (hN : X.N.Nodup) (hi : X.N[i]? = some n) (hln : X.env.kindOf n = some .local) (hc1 : Names X x1 c1) (hc2 : Names X x2 c2)
    (hpa : ∀ hd : Option Value, PassesOwnAt (model X.prog X.w) (X.A.mark hd) X.A X.env X.xe) (tk : L2.Takes X Wout)
    (hb : ∀ (W : WX) (pn : List (Addr × Obj)) (xe : Value → Shared → Prop), L2N.Takes (X.tr pn xe) W → PassesOwn (model X.prog X.w) X.A X.env xe → PSs (X.tr pn xe) body (tb W))
    (hsu : ∀ (a : Addr) (oe : Obj) (cls : Value) (d : Option Addr) (pn : List (Addr × Obj)) (xe : Value → Shared → Prop), gd cls → L2N.Zn cls d oe → (∃ vs, oe.data = .fields vs) → L2.Takes (suiteY X a ((a, oe) :: pn) xe) (wOff i Wout) → L2H.HotC (suiteY X a ((a, oe) :: pn) xe) →
      PSs (suiteY X a ((a, oe) :: pn) xe) (b₀ :: suite) (ts a cls d)) :
    PS X (.Try body [.ExceptHandler (some (.Tuple [.Name x1 p1, .Name x2 p2] kk tp)) (some n) (b₀ :: suite) pos'] [] [] pos) (fun D σ H => tb (wTup X.K c1 c2 gd i ts) D σ H) := by
  refine ⟨fun pins s σ H D I h => ?_⟩
  have ok := I.ok
  have hfr : X.A.frames = some (X.env :: X.outer) := by rw [ok.frames, hs]
  have hloc : Loc X.env.scope n := .inl hln
  refine wpAny_Try_except ?_
  refine wpAny_mono ((hb (wTup X.K c1 c2 gd i ts) (X.pn ++ pins) (fun e s₁ => wpAny (model X.prog X.w) X.A (noteFrame e X.env) (fun _ s₂ => wpAny (model X.prog X.w) X.A (setFlight e none) (fun _ s₃ =>
    wpAny (model X.prog X.w) X.A (handleBy e X.env [.ExceptHandler (some (.Tuple [.Name x1 p1, .Name x2 p2] kk tp)) (some n) (b₀ :: suite) pos']) (SP X pins D) X.xe s₃) X.xe s₂) X.xe s₁) (fun u s' xx => ?_) PassesOwn.looking).run [] s σ H D (I.toTry _) h) (fun f s1 hsp => ?_) (fun e s1 he => he)
  · obtain ⟨a, B, sI, pins', σ', H', cls, d, rfl, J', nb, up, sky, na, os, ag, hgd, hb1, hyes⟩ := xx
    have J : Inv X pins σ' H' sI := J'.ofTry ok
    have sky' : Sky B (X.env :: X.outer) a (L2N.Zn cls d) X.env.locals s'.heap := by rw [← hs]; exact sky
    show wpAny (model X.prog X.w) X.A (noteFrame (.ref a) X.env) _ _ _
    refine L2N.Sky.land L2N.Zn.steady hfr hf sky' fun h3 fl3 up3 => ?_
    have J3 : Inv X pins σ' H' { s' with heap := h3 } := J.landed nb fl3.1 (up.trans up3) os ag
    obtain ⟨oe3, vs3, he3, hz3, hd3⟩ := fl3.there
    have notFr : ∀ {h : Heap} {o : Obj} {vs : Array Value}, h.FunFrames B (X.env :: X.outer) → h.get? a = some o → o.data = .fields vs → a ∉ frs (X.env :: X.outer) := fun {h o vs} ff e dd hm => by
      obtain ⟨_, o', e', hnf⟩ := ff.mem hm
      rw [e] at e'; cases e'
      exact hnf _ dd
    have nfr := notFr fl3.2.2.1 he3 hd3
    have nL : a ≠ X.env.locals := fun z => nfr (List.mem_filterMap.mpr ⟨X.env, List.mem_cons_self, by rw [hf, z]⟩)
    have nF : a ∉ X.fs := fun hm => by
      obtain ⟨e, he, q⟩ := List.mem_filterMap.mp hm
      exact nfr (List.mem_filterMap.mpr ⟨e, List.mem_cons_of_mem _ he, q⟩)
    have S3 := J3.suite he3 hd3 na nL nF
    refine wpAny_handleBy_cons (codeAny_handlers_test ?_) (by intro q; cases q)
    have test : ∀ {x : Str} {c : Value} {p : Pos} {Q : Value → Shared → Prop} {E : Value → Shared → Prop}, Names X x c → Q c { s' with heap := h3 } → wpAny (model X.prog X.w) (X.A.mark (some (.ref a))) (eval (.Name x p) X.env) Q E { s' with heap := h3 } := fun {x c p Q E} hc q => by
      obtain ⟨hg, hdbg, hm | ⟨hm, hv, hnn⟩⟩ := hc
      · exact ld_glob (X := X.suite a ((a, oe3) :: (X.pn ++ pins))) S3 hg hm q hdbg
      · exact ld_blt (X := X.suite a ((a, oe3) :: (X.pn ++ pins))) S3 hg hm hv q hnn hdbg
    refine Tuple_ (spliced_more (test hc1 (spliced_more (test hc2 (spliced_none ?_)))))
    refine wpAny_newObj_type ?_
    have fl4 := fly_push fl3 { cls := .type "tuple", dict := none, data := .seq [c1, c2].toArray }
    have up4 : sI.heap.UpToSlots (h3.push { cls := .type "tuple", dict := none, data := .seq [c1, c2].toArray }) := (up.trans up3).trans (Heap.UpToSlots.of_keeps fun b o e => Heap.get?_push_of_some _ e)
    have J4 : Inv X pins σ' H' { s' with heap := h3.push { cls := .type "tuple", dict := none, data := .seq [c1, c2].toArray } } := J.landed nb fl4.1 up4 os ag
    have LT : PySem.W.Looks (model X.prog X.w) (h3.push { cls := .type "tuple", dict := none, data := .seq [c1, c2].toArray }) (typeOf (.ref a)) cls := fun A Q E s k q => wpAny_typeOf_ref (k _ _ (Heap.get?_push_of_some _ he3)) (by rw [hz3.1]; exact q)
    have LM := PySem.W.exm_tup2 (M := model X.prog X.w) (tp := h3.objs.size) J4.kIn LT (Heap.get?_push_size _ rfl) hb1
    refine LM.here ?_
    refine codeAny_handlers_suite_as ?_
    refine HandSPX.lands_againZ fl4 fun h5 fl5 up5 => ?_
    have J5 : Inv X pins σ' H' { s' with heap := h5 } := J.landed nb fl5.1 (up4.trans up5) os ag
    obtain ⟨oe5, vs5, he5, hz5, hd5⟩ := fl5.there
    have S5 := J5.suite he5 hd5 na nL nF
    refine store_ok (X := X.suite a ((a, oe5) :: (X.pn ++ pins))) (v := .ref a) S5 hN hi hloc rfl (fun s6 S6 => ?_) (.inr hln)
    have hot : ∀ xe, L2H.HotC (suiteY X a ((a, oe5) :: (X.pn ++ pins)) xe) := fun xe => ⟨(a, oe5), ⟨rfl, vs5, hd5, hz5.2.2 vs5 hd5⟩, List.mem_cons_self⟩
    have runs := fun (xe : Value → Shared → Prop) (tkS : L2.Takes (suiteY X a ((a, oe5) :: (X.pn ++ pins)) xe) (wOff i Wout)) => (hsu a oe5 cls d (X.pn ++ pins) xe hgd hz5 ⟨_, hd5⟩ tkS (hot xe)).run [] s6 _ H' _ (Inv.unwish (X := suiteY X a ((a, oe5) :: (X.pn ++ pins)) xe) (E := fun _ _ => False) S6) (hyes a na)
    refine wpAny_mono (runs _ fun u s7 x7 => suite_out (pins := pins) (hd := some (.ref a)) (pos := pos') (R := fun y s₄ => wpAny (model X.prog X.w) (X.A.mark (some (.ref a))) (setFlight u none) (fun _ s₅ => (notedBy (model X.prog X.w) (X.A.mark (some (.ref a))) X.env (cameBackBy (model X.prog X.w) X.A X.env X.xe)) y s₅) (notedBy (model X.prog X.w) (X.A.mark (some (.ref a))) X.env (cameBackBy (model X.prog X.w) X.A X.env X.xe)) s₄)
      (E0' := notedBy (model X.prog X.w) (X.A.mark (some (.ref a))) X.env (cameBackBy (model X.prog X.w) X.A X.env X.xe)) hs hf hex hN hi hln hpa tk ?_) (fun f s7 hsp => ?_) fun e s7 z => z
    · obtain ⟨a2, B2, sI2, pn2, σ2, H2, cls2, d2, e2, I2, nb2, up2, sky2, na2, os2, ag2, w2⟩ := x7
      exact ⟨a2, B2, sI2, σ2, H2, cls2, d2, e2, L2H.unsuiteX (Inv.unwish (X := L2H.suiteX X a ((a, oe5) :: (X.pn ++ pins))) I2) ok, nb2, up2, by rw [← hs]; exact sky2, na2, os2, ag2, w2⟩
    · cases f with
      | next =>
        obtain ⟨_, _, _, q⟩ := hsp
        exact False.elim q
      | brk =>
        obtain ⟨_, _, _, q⟩ := hsp
        exact False.elim q
      | cont =>
        obtain ⟨_, _, _, q⟩ := hsp
        exact False.elim q
      | ret u =>
        obtain ⟨_, _, _, _, _, q⟩ := hsp
        exact False.elim q
  · cases f with
    | next =>
      obtain ⟨σ', H', J', q⟩ := hsp
      exact wpAny_execs_nil ⟨σ', H', J'.ofTry ok, q⟩
    | brk =>
      obtain ⟨σ', H', J', q⟩ := hsp
      exact ⟨σ', H', J'.ofTry ok, q⟩
    | cont =>
      obtain ⟨σ', H', J', q⟩ := hsp
      exact ⟨σ', H', J'.ofTry ok, q⟩
    | ret u =>
      obtain ⟨v, σ', H', J', r, q⟩ := hsp
      exact ⟨v, σ', H', J'.ofTry ok, r, q⟩
end
end Rf
end
section
set_option Elab.async false
set_option linter.all false
set_option maxRecDepth 100000
set_option maxHeartbeats 4000000
/-! Rules: `raise X(..) from e`; two clauses, the last with a name. -/
namespace Rf
open PySem PySem.Spec PyProof.Rows L2 HotX
/-- the heap behind «from e» -/
def fromOf (h : Heap) (a x1 : Addr) : Heap := (h.update a (Obj.mapFields (·.setIfInBounds 3 (.ref x1)))).update a (Obj.mapFields (·.setIfInBounds 4 (.bool true)))
theorem fromOf_at {h : Heap} {a x1 : Addr} {oe : Obj} {vs : Array Value} (ha : h.get? a = some oe) (hd : oe.data = .fields vs) :
    (fromOf h a x1).get? a = some ((oe.mapFields (·.setIfInBounds 3 (.ref x1))).mapFields (·.setIfInBounds 4 (.bool true))) ∧ ((oe.mapFields (·.setIfInBounds 3 (.ref x1))).mapFields (·.setIfInBounds 4 (.bool true))).data = .fields ((vs.setIfInBounds 3 (.ref x1)).setIfInBounds 4 (.bool true)) := by
  have hd3 := Obj.data_mapFields hd (·.setIfInBounds 3 (.ref x1))
  have ha3 := Heap.get?_update_self (Obj.mapFields (·.setIfInBounds 3 (.ref x1))) ha (Obj.isFreed_of_fields hd3)
  have hd4 := Obj.data_mapFields hd3 (·.setIfInBounds 4 (.bool true))
  exact ⟨Heap.get?_update_self (Obj.mapFields (·.setIfInBounds 4 (.bool true))) ha3 (Obj.isFreed_of_fields hd4), hd4⟩
theorem fromOf_other {h : Heap} {a b x1 : Addr} (hne : a ≠ b) : (fromOf h a x1).get? b = h.get? b := by
  unfold fromOf
  rw [Heap.get?_update_other _ _ hne, Heap.get?_update_other _ _ hne]
theorem raise_made_hotF {prog : Program} {w : World} {A : Around} {E : Value → Shared → Prop} {env : Env} {s : Shared} {x c : Sem Value} {Q : Flow → Shared → Prop} {x1 : Addr}
    (h : wpAny (model prog w) A x (fun v s₁ => ∃ a oe vs cls o1 vs1 c1, v = .ref a ∧ (∀ (Q' : Value → Shared → Prop), Q' (.ref x1) s₁ → wpAny (model prog w) A c Q' E s₁) ∧ s₁.heap.get? a = some oe ∧ oe.cls = cls ∧ oe.data = .fields vs ∧ vs[1]? = some .none ∧ 4 < vs.size ∧ x1 ≠ a ∧ HotAt A x1 s₁.heap ∧
      s₁.heap.get? x1 = some o1 ∧ o1.cls = c1 ∧ o1.data = .fields vs1 ∧ PySem.W.Looks (model prog w) s₁.heap (isSubtype c1 (.type "BaseException")) true ∧
      PySem.W.Looks (model prog w) s₁.heap (isSubtype cls (.type "BaseException")) true ∧ PySem.W.Looks (model prog w) (fromOf s₁.heap a x1) (typeOf cls) (.type "type") ∧
      E (.ref a) { s₁ with heap := (fromOf s₁.heap a x1).update a (Obj.mapFields (·.setIfInBounds 2 (.ref x1))) }) E s) :
    wpAny (model prog w) A (raiseStmt env (some x) (some c)) Q E s := by
  unfold raiseStmt
  dsimp only
  refine wpAny_bind (wpAny_mono h (fun v s₁ h₁ => ?_) fun _ _ x => x)
  obtain ⟨a, oe, vs, cls, o1, vs1, c1, rfl, hcs, ha, hcls, hd, h1, hi, hne, hot, g1, k1, d1, LB, L1, L3, hE⟩ := h₁
  have LT : PySem.W.Looks (model prog w) s₁.heap (typeOf (.ref a)) cls := fun A Q E s k q => wpAny_typeOf_ref (k _ _ ha) (by rw [hcls]; exact q)
  have LI : PySem.W.Looks (model prog w) s₁.heap (isInstance (.ref a) (.type "BaseException")) true := LT.andThen L1
  have LT1 : PySem.W.Looks (model prog w) s₁.heap (typeOf (.ref x1)) c1 := fun A Q E s k q => wpAny_typeOf_ref (k _ _ g1) (by rw [k1]; exact q)
  have LI1 : PySem.W.Looks (model prog w) s₁.heap (isInstance (.ref x1) (.type "BaseException")) true := LT1.andThen LB
  have hnt : ∀ {Q' : Bool → Shared → Prop}, Q' false s₁ → wpAny (model prog w) A (isType (.ref a)) Q' E s₁ := by
    intro Q' hq
    simp only [isType, loadHead]
    refine wpAny_bind (wpAny_loadPart ha ?_)
    rw [hd]; exact wpAny_pure hq
  have hnt1 : ∀ {Q' : Bool → Shared → Prop}, Q' false s₁ → wpAny (model prog w) A (isType (.ref x1)) Q' E s₁ := by
    intro Q' hq
    simp only [isType, loadHead]
    refine wpAny_bind (wpAny_loadPart g1 ?_)
    rw [d1]; exact wpAny_pure hq
  have hd3 := Obj.data_mapFields hd (·.setIfInBounds 3 (.ref x1))
  have ha3 := Heap.get?_update_self (Obj.mapFields (·.setIfInBounds 3 (.ref x1))) ha (Obj.isFreed_of_fields hd3)
  obtain ⟨ha4, hd4⟩ := fromOf_at (x1 := x1) ha hd
  have s3 : 3 < vs.size := by omega
  have s4 : 4 < (vs.setIfInBounds 3 (Value.ref x1)).size := by rw [set_size]; exact hi
  have s2 : 2 < ((vs.setIfInBounds 3 (Value.ref x1)).setIfInBounds 4 (Value.bool true)).size := by rw [set_size, set_size]; omega
  have h14 : ((vs.setIfInBounds 3 (Value.ref x1)).setIfInBounds 4 (Value.bool true))[1]? = some Value.none := set_other (by decide) (set_other (by decide) h1)
  have hcls4 : ((oe.mapFields (·.setIfInBounds 3 (.ref x1))).mapFields (·.setIfInBounds 4 (.bool true))).cls = cls := by rw [Obj.cls_mapFields, Obj.cls_mapFields]; exact hcls
  have LT4 : PySem.W.Looks (model prog w) (fromOf s₁.heap a x1) (typeOf (.ref a)) cls := fun A Q E s k q => wpAny_typeOf_ref (k _ _ ha4) (by rw [hcls4]; exact q)
  have hnt4 : ∀ {Q' : Bool → Shared → Prop}, Q' false { s₁ with heap := fromOf s₁.heap a x1 } → wpAny (model prog w) A (isType (.ref a)) Q' E { s₁ with heap := fromOf s₁.heap a x1 } := by
    intro Q' hq
    simp only [isType, loadHead]
    refine wpAny_bind (wpAny_loadPart ha4 ?_)
    rw [hd4]; exact wpAny_pure hq
  have hot4 : HotAt A x1 (fromOf s₁.heap a x1) := by
    obtain ⟨q1, o, vs', q2, q3, q4⟩ := hot
    exact ⟨q1, o, vs', by rw [fromOf_other (Ne.symm hne)]; exact q2, q3, q4⟩
  have rest : wpAny (model prog w) A (do
      let b ← isType (.ref a)
      if b = true then do
        let e ← holding [.ref a] (raisedFor (.ref a) (.ref a))
        setFlight e none
        raiseNew e
      else do
        let e ← raisedInstance (.ref a)
        setFlight e none
        raiseNew e : Sem Flow) Q E { s₁ with heap := fromOf s₁.heap a x1 } := by
    refine wpAny_bind (hnt4 ?_)
    simp only [Bool.false_eq_true, if_false]
    unfold raisedInstance
    refine wpAny_bind (wpAny_bind (LT4.here (wpAny_bind (L3.here ?_))))
    rw [if_pos (beq_self_eq_true _)]
    refine wpAny_pure ?_
    unfold setFlight
    refine wpAny_bind (wpAny_bind (wpAny_field ha4 hd4 h14 ?_))
    rw [if_neg (by decide)]
    refine wpAny_pure ?_
    exact raiseNew_hot hot4 hne ha4 hd4 s2 hE
  refine wpAny_bind (wpAny_holding (hcs _ (wpAny_bind (wpAny_pure ?_))))
  dsimp only
  refine wpAny_bind (wpAny_holding ?_)
  unfold excFromValue isExcClass
  refine wpAny_bind (wpAny_bind (hnt ?_))
  simp only [Bool.false_eq_true, if_false]
  refine wpAny_pure ?_
  simp only [Bool.false_eq_true, if_false]
  refine wpAny_bind (LI.here ?_)
  simp only [if_true]
  refine wpAny_pure ?_
  rw [if_neg (show ¬ ((Value.ref x1 == Value.none) = true) from by simp)]
  refine wpAny_bind (wpAny_holding (wpAny_bind (wpAny_bind (hnt1 ?_))))
  simp only [Bool.false_eq_true, if_false]
  refine wpAny_pure ?_
  simp only [Bool.false_eq_true, if_false]
  refine wpAny_bind (LI1.here ?_)
  simp only [if_true]
  refine wpAny_pure ?_
  refine wpAny_bind (wpAny_setField ha hd s3 (wpAny_bind (wpAny_setField ha3 hd3 s4 ?_)))
  exact rest
/-- raise X(..) from the handled exception -/
theorem ps_raiseF {X : Cx} {W : WX} {e : Expr} {t : L2.St → Hp → XK → Prop} {i : Nat} {n : Str} {c1 : Value} {p : Addr × Obj} {npos pos : Pos} (hh : X.A.handled = some (.ref p.1)) (hp : p ∈ X.pn) (h1c : p.2.cls = c1) (hB : PySem.W.subIn X.K c1 (.type "BaseException") = some true)
    (hd1 : ∃ vs1 : Array Value, p.2.data = .fields vs1 ∧ vs1[2]? = some .none) (tk : L2.Takes X W) (he : L2H.PMk5 X e t) (hN : X.N[i]? = some n) (hv : Vis X.env.scope n) (hdb : (n == ("__debug__" : Str)) = false := by decide) (hcd : (n == ("__classdict__" : Str)) = false := by decide) :
    PS X (.Raise (some e) (some (.Name n npos)) pos) (fun _ σ H => σ[i]? = some (some (.ref p.1)) ∧ t σ H fun cls d H' => W cls d σ H') := by
  refine ⟨fun pins s σ H D I h => ?_⟩
  obtain ⟨hσ, h⟩ := h
  obtain ⟨v1, e1, k1⟩ := hd1
  show wpAny _ _ (do standAt pos; raiseStmt X.env (some (do let v ← eval e X.env; standAt pos; pure v)) (some (do let v ← eval (.Name n npos) X.env; standAt pos; pure v))) _ _ _
  refine wpAny_bind (wpAny_standAt (raise_made_hotF (x1 := p.1) (wpAny_bind (wpAny_mono (he pins s σ H _ I h) (fun u s1 hu => wpAny_bind (wpAny_standAt (wpAny_pure ?_))) fun _ _ x => x))))
  obtain ⟨⟨a, oe, vs, sI, H', cls, d, rfl, J, k, hne, ha, hz, hd, h1, na, os, ag, r, q⟩, h5⟩ := hu
  have hi : 4 < vs.size := h5 a oe vs rfl ha hd
  have k4 : ∀ b u, sI.heap.get? b = some u → (fromOf s1.heap a p.1).get? b = some u := fun b u z => by
    have nab : a ≠ b := fun y => by
      rw [← y, hne] at z
      cases z
    rw [fromOf_other nab]
    exact k b u z
  obtain ⟨r1, _⟩ := r (model X.prog X.w) s1.heap (J.kIn.keeps k)
  obtain ⟨_, r2⟩ := r (model X.prog X.w) (fromOf s1.heap a p.1) (J.kIn.keeps k4)
  have P1 := (J.pin p (List.mem_append_left _ hp)).1
  have nap : p.1 ≠ a := fun z => by
    rw [z, hne] at P1
    cases P1
  have J1 : Inv X pins σ H' s1 := J.landed (B := sI.heap) (fun b o e _ => e) (fun b o e => k b o e) (Heap.UpToSlots.of_keeps k) os ag
  obtain ⟨ha4, hd4⟩ := fromOf_at (x1 := p.1) ha hd
  have h12 : (((vs.setIfInBounds 3 (Value.ref p.1)).setIfInBounds 4 (Value.bool true)).setIfInBounds 2 (Value.ref p.1))[1]? = some Value.none := set_other (by decide) (set_other (by decide) (set_other (by decide) h1))
  refine ⟨a, oe, vs, cls, p.2, v1, c1, rfl, fun Q' q' => ?_, ha, hz.1, hd, h1, hi, nap, ⟨hh, p.2, v1, k _ _ P1, e1, k1⟩, k _ _ P1, h1c, e1, PySem.W.looks_subIn (J.kIn.keeps k) hB, r1, r2, tk _ _ (L2.XE.new J (fun b u z => ?_) hne (Heap.get?_update_self _ ha4 (Obj.isFreed_of_fields (Obj.data_mapFields hd4 _)))
    ⟨by rw [Obj.cls_mapFields, Obj.cls_mapFields, Obj.cls_mapFields]; exact hz.1, by rw [HandSPX.dict_mapFields, HandSPX.dict_mapFields, HandSPX.dict_mapFields]; exact hz.2.1⟩ (Obj.data_mapFields hd4 _) h12 na os ag q)⟩
  · obtain ⟨m, hn, hl⟩ := J1.loc
    obtain ⟨u, r, l⟩ := hl i n _ hN hσ hv
    cases (show u = Value.ref p.1 from r)
    have fin : wpAny (model X.prog X.w) X.A (do standAt pos; pure (Value.ref p.1)) Q' X.xe s1 := wpAny_bind (wpAny_standAt (wpAny_pure q'))
    rcases l with ⟨hk, hm⟩ | ⟨hk, c, hc, hcell⟩
    · exact wpAny_bind (wpAny_Name (wpAny_loadName_local J1.ok.kind hk hn hm fin) hdb)
    · rcases hk with hk | hk
      · exact wpAny_bind (wpAny_Name (wpAny_loadName_cell J1.ok.kind hk hc hcell fin) hdb)
      · exact wpAny_bind (wpAny_Name (wpAny_loadName_free J1.ok.kind hk hc hcell fin hcd) hdb)
  · have nab : a ≠ b := fun y => by
      rw [← y, hne] at z
      cases z
    show ((fromOf s1.heap a p.1).update a (Obj.mapFields (·.setIfInBounds 2 (.ref p.1)))).get? b = some u
    rw [Heap.get?_update_other _ _ nab]
    exact k4 b u z
/-! ### except A: .. except B as n: .. -/
def endsOff (i : Nat) (D : Ends) : Ends := { nx := fun σ' H' => D.nx (σ'.set i none) H', rt := D.rt, bk := fun σ' H' => D.bk (σ'.set i none) H', ct := fun σ' H' => D.ct (σ'.set i none) H' }
/-- the first clause hits, or the second, which has a name at slot i -/
def wTwo (K : PySem.W.Frag) (c1 c2 : Value) (i : Nat) (t1 t2 : Addr → Value → Option Addr → TS) (D : Ends) : WX := fun cls d σ H =>
  (PySem.W.exmOne K cls c1 = some true ∧ ∀ a, H a = none → t1 a cls d D σ H) ∨ (PySem.W.exmOne K cls c1 = some false ∧ PySem.W.exmOne K cls c2 = some true ∧ ∀ a, H a = none → i < σ.length → t2 a cls d (endsOff i D) (σ.set i (some (.ref a))) H)
section
variable {X : Cx} {x1 x2 n : Str} {c1 c2 : Value} {i : Nat} {body s1 s2 : List Stmt} {b1 b2 : Stmt} {p1 p2 q1 q2 pos : Pos} {tb : WX → TS} {t1 t2 : Addr → Value → Option Addr → TS}
theorem ps_try_two (hs : X.stack = X.env :: X.outer) (hf : X.env.frame = some X.env.locals) (hN : X.N.Nodup) (hi : X.N[i]? = some n) (hln : X.env.kindOf n = some .local) (hc1 : Names X x1 c1) (hc2 : Names X x2 c2)
    (hb : ∀ (W : WX) (pn : List (Addr × Obj)) (xe : Value → Shared → Prop), L2.Takes (X.tr pn xe) W → PassesOwn (model X.prog X.w) X.A X.env xe → PSs (X.tr pn xe) body (tb W))
    (h1 : ∀ (a : Addr) (oe : Obj) (cls : Value) (d : Option Addr) (pn : List (Addr × Obj)), Zc cls d oe → (∃ vs, oe.data = .fields vs) → PSs (X.suite a ((a, oe) :: pn)) (b1 :: s1) (t1 a cls d))
    (h2 : ∀ (a : Addr) (oe : Obj) (cls : Value) (d : Option Addr) (pn : List (Addr × Obj)), Zc cls d oe → (∃ vs, oe.data = .fields vs) → PSs (X.suite a ((a, oe) :: pn)) (b2 :: s2) (t2 a cls d)) :
    PS X (.Try body [.ExceptHandler (some (.Name x1 p1)) none (b1 :: s1) q1, .ExceptHandler (some (.Name x2 p2)) (some n) (b2 :: s2) q2] [] [] pos) (fun D σ H => tb (wTwo X.K c1 c2 i t1 t2 D) D σ H) := by
  refine ⟨fun pins s σ H D I h => ?_⟩
  have ok := I.ok
  have hfr : X.A.frames = some (X.env :: X.outer) := by rw [ok.frames, hs]
  have hloc : Loc X.env.scope n := .inl hln
  refine wpAny_Try_except ?_
  refine wpAny_mono ((hb (wTwo X.K c1 c2 i t1 t2 D) (X.pn ++ pins) (fun e s₁ => wpAny (model X.prog X.w) X.A (noteFrame e X.env) (fun _ s₂ => wpAny (model X.prog X.w) X.A (setFlight e none) (fun _ s₃ =>
    wpAny (model X.prog X.w) X.A (handleBy e X.env [.ExceptHandler (some (.Name x1 p1)) none (b1 :: s1) q1, .ExceptHandler (some (.Name x2 p2)) (some n) (b2 :: s2) q2]) (SP X pins D) X.xe s₃) X.xe s₂) X.xe s₁) (fun u s' xx => ?_) PassesOwn.looking).run [] s σ H D (I.toTry _) h) (fun f s1 hsp => ?_) (fun e s1 he => he)
  · obtain ⟨a, B, sI, pins', σ', H', cls, d, rfl, J', nb, up, sky, na, os, ag, w⟩ := xx
    have J : Inv X pins σ' H' sI := J'.ofTry ok
    have sky' : Sky B (X.env :: X.outer) a (Zc cls d) X.env.locals s'.heap := by rw [← hs]; exact sky
    show wpAny (model X.prog X.w) X.A (noteFrame (.ref a) X.env) _ _ _
    refine Sky.land Zc.steady hfr hf sky' fun h3 fl3 up3 => ?_
    have J3 : Inv X pins σ' H' { s' with heap := h3 } := J.landed nb fl3.1 (up.trans up3) os ag
    obtain ⟨oe3, vs3, he3, hz3, hd3⟩ := fl3.there
    have notFr : ∀ {h : Heap} {o : Obj} {vs : Array Value}, h.FunFrames B (X.env :: X.outer) → h.get? a = some o → o.data = .fields vs → a ∉ frs (X.env :: X.outer) := fun {h o vs} ff e dd hm => by
      obtain ⟨_, o', e', hnf⟩ := ff.mem hm
      rw [e] at e'; cases e'
      exact hnf _ dd
    have nfr := notFr fl3.2.2.1 he3 hd3
    have nL : a ≠ X.env.locals := fun z => nfr (List.mem_filterMap.mpr ⟨X.env, List.mem_cons_self, by rw [hf, z]⟩)
    have nF : a ∉ X.fs := fun hm => by
      obtain ⟨e, he, q⟩ := List.mem_filterMap.mp hm
      exact nfr (List.mem_filterMap.mpr ⟨e, List.mem_cons_of_mem _ he, q⟩)
    have S3 := J3.suite he3 hd3 na nL nF
    have LT : PySem.W.Looks (model X.prog X.w) h3 (typeOf (.ref a)) cls := fun A Q E s k q => wpAny_typeOf_ref (k _ _ he3) (by rw [hz3.1]; exact q)
    have test : ∀ {x : Str} {c : Value} {p : Pos} {Q : Value → Shared → Prop} {E : Value → Shared → Prop}, Names X x c → Q c { s' with heap := h3 } → wpAny (model X.prog X.w) (X.A.mark (some (.ref a))) (eval (.Name x p) X.env) Q E { s' with heap := h3 } := fun {x c p Q E} hc q => by
      obtain ⟨hg, hdbg, hm | ⟨hm, hv, hnn⟩⟩ := hc
      · exact ld_glob (X := X.suite a ((a, oe3) :: (X.pn ++ pins))) S3 hg hm q hdbg
      · exact ld_blt (X := X.suite a ((a, oe3) :: (X.pn ++ pins))) S3 hg hm hv q hnn hdbg
    refine wpAny_handleBy_cons (codeAny_handlers_test ?_) (by intro q; cases q)
    rcases w with ⟨hb1, hyes⟩ | ⟨hb1, hb2, hyes⟩
    · refine test hc1 ((PySem.W.exm_one (M := model X.prog X.w) (J3.kIn) LT hb1).here ?_)
      refine codeAny_handlers_suite ?_
      refine HandSPX.lands_againZ fl3 fun h4 fl4 up4 => ?_
      have J4 : Inv X pins σ' H' { s' with heap := h4 } := J.landed nb fl4.1 ((up.trans up3).trans up4) os ag
      obtain ⟨oe4, vs4, he4, hz4, hd4⟩ := fl4.there
      have S4 := J4.suite he4 hd4 na nL nF
      refine wpAny_mono ((h1 a oe4 cls d (X.pn ++ pins) hz4 ⟨_, hd4⟩).run [] _ _ H' _ S4 (hyes a na)) (fun f s6 hsp => ?_) (fun _ _ z => False.elim z)
      cases f with
      | next =>
        obtain ⟨σ6, H6, S6, q6⟩ := hsp
        exact ⟨_, _, S6.unsuite ok, q6⟩
      | brk =>
        obtain ⟨σ6, H6, S6, q6⟩ := hsp
        exact ⟨_, _, S6.unsuite ok, q6⟩
      | cont =>
        obtain ⟨σ6, H6, S6, q6⟩ := hsp
        exact ⟨_, _, S6.unsuite ok, q6⟩
      | ret u =>
        obtain ⟨v6, σ6, H6, S6, r6, q6⟩ := hsp
        exact ⟨_, _, _, S6.unsuite ok, r6, q6⟩
    · refine test hc1 ((PySem.W.exm_one (M := model X.prog X.w) (J3.kIn) LT hb1).here ?_)
      show wpAny _ X.A (handleBy (.ref a) X.env [.ExceptHandler (some (.Name x2 p2)) (some n) (b2 :: s2) q2]) _ _ _
      refine wpAny_handleBy_cons (codeAny_handlers_test ?_) (by intro q; cases q)
      refine test hc2 ((PySem.W.exm_one (M := model X.prog X.w) (J3.kIn) LT hb2).here ?_)
      refine codeAny_handlers_suite_as ?_
      refine HandSPX.lands_againZ fl3 fun h4 fl4 up4 => ?_
      have J4 : Inv X pins σ' H' { s' with heap := h4 } := J.landed nb fl4.1 ((up.trans up3).trans up4) os ag
      obtain ⟨oe4, vs4, he4, hz4, hd4⟩ := fl4.there
      have S4 := J4.suite he4 hd4 na nL nF
      refine store_ok (X := X.suite a ((a, oe4) :: (X.pn ++ pins))) (v := .ref a) S4 hN hi hloc rfl (fun s5 S5 => ?_) (.inr hln)
      refine wpAny_mono ((h2 a oe4 cls d (X.pn ++ pins) hz4 ⟨_, hd4⟩).run [] s5 _ H' _ S5 (hyes a na (by rw [J4.len]; exact (List.getElem?_eq_some_iff.mp hi).1))) (fun f s6 hsp => ?_) (fun _ _ z => False.elim z)
      have end_ : ∀ {σ6 : L2.St} {H6 : Hp} {Q : Shared → Prop}, Inv (X.suite a ((a, oe4) :: (X.pn ++ pins))) [] σ6 H6 s6 → (∀ s7, Inv X pins (σ6.set i none) H6 s7 → Q s7) →
          wpAny (model X.prog X.w) X.A (do bindName X.env n .none; unbindBehindTheSuite X.env n q2) (fun _ s7 => Q s7) X.xe s6 := fun {σ6 H6 Q} S6 hq => gone_ok (S6.unsuite ok) hN hi hln hq
      cases f with
      | next =>
        obtain ⟨σ6, H6, S6, q6⟩ := hsp
        exact end_ S6 fun s7 J7 => ⟨_, _, J7, q6⟩
      | brk =>
        obtain ⟨σ6, H6, S6, q6⟩ := hsp
        exact end_ S6 fun s7 J7 => ⟨_, _, J7, q6⟩
      | cont =>
        obtain ⟨σ6, H6, S6, q6⟩ := hsp
        exact end_ S6 fun s7 J7 => ⟨_, _, J7, q6⟩
      | ret u =>
        obtain ⟨v6, σ6, H6, S6, r6, q6⟩ := hsp
        exact end_ S6 fun s7 J7 => ⟨_, _, _, J7, r6, q6⟩
  · cases f with
    | next =>
      obtain ⟨σ', H', J', q⟩ := hsp
      exact wpAny_execs_nil ⟨σ', H', J'.ofTry ok, q⟩
    | brk =>
      obtain ⟨σ', H', J', q⟩ := hsp
      exact ⟨σ', H', J'.ofTry ok, q⟩
    | cont =>
      obtain ⟨σ', H', J', q⟩ := hsp
      exact ⟨σ', H', J'.ofTry ok, q⟩
    | ret u =>
      obtain ⟨v, σ', H', J', r, q⟩ := hsp
      exact ⟨v, σ', H', J'.ofTry ok, r, q⟩
end
end Rf
end
section
set_option Elab.async false
set_option linter.all false
set_option maxRecDepth 100000
set_option maxHeartbeats 4000000
namespace Cp
open PySem PySem.Spec PyProof.Rows L2
theorem put_att {t : Addr} : putF "entries" (.ref t) [] = [(("entries" : Str), V.ref t)] := by kernel_rfl
abbrev attF (t : Addr) : List (Str × V) := [(("entries" : Str), V.ref t)]
def sp_Attempt_init (ca : Nat → Addr) : Sp := fun vs H Q _ => ∃ (p dx t : Addr), vs = [.ref p, .ref t] ∧ H p = some (.ins (ca 3) dx []) ∧ Q .non (upd H p (.ins (ca 3) dx (attF t)))
def sp_Attempt_enter (ca : Nat → Addr) : Sp := fun vs H Q _ => ∃ (p dx t : Addr) (lg : List Str), vs = [.ref p] ∧ H p = some (.ins (ca 3) dx (attF t)) ∧ H t = some (.lst (lg.map .str)) ∧ lg.length ≤ 900 ∧ Q (.ref p) (upd H t (.lst ((lg ++ [("begin" : Str)]).map .str)))
def sp_Attempt_exit (ca : Nat → Addr) : Sp := fun vs H Q _ => ∃ (p dx t : Addr) (lg : List Str) (a b c : V), vs = [.ref p, a, b, c] ∧ H p = some (.ins (ca 3) dx (attF t)) ∧ H t = some (.lst (lg.map .str)) ∧ lg.length ≤ 900 ∧ Q .non (upd H t (.lst ((lg ++ [("end" : Str)]).map .str)))
section
variable {P : Program} {w : World} {K : PySem.W.Frag} {mg : Str → Option Value} {base : Heap} {fa : Nat → Addr} {fd : Nat → FuncData} {ca pa ea qa : Nat → Addr}
theorem ok_Attempt___init__ (T : Tx K mg fa fd ca pa) : FnOk P w K mg base CX0 1 (fa 32) (fd 32) P_Attempt___init__ (sp_Attempt_init ca) := by
  refine T.f_Attempt___init__.ok sc_Attempt___init__ (fun vs H Q E h => ?_) (fun cdv A outer s H vs Q E hr h => ?_)
  · obtain ⟨p, dx, t, rfl, hp, k⟩ := h; rfl
  · obtain ⟨p, dx, t, rfl, hp, k⟩ := h
    refine ⟨_, (pss_one (ps_fld (pv 0) (pv 1) rfl)), ?_⟩
    refine ⟨_, rfl, _, rfl, p, _, dx, _, rfl, hp, T.cl_Attempt, T.n3_entries, by show 0 < 1000; decide, ?_⟩
    rw [put_att]
    exact k
theorem ok_Attempt___enter__ (T : Tx K mg fa fd ca pa) : FnOk P w K mg base CX0 1 (fa 33) (fd 33) P_Attempt___enter__ (sp_Attempt_enter ca) := by
  refine T.f_Attempt___enter__.ok sc_Attempt___enter__ (fun vs H Q E h => ?_) (fun cdv A outer s H vs Q E hr h => ?_)
  · obtain ⟨p, dx, t, lg, rfl, hp, ht, hl, k⟩ := h; rfl
  · obtain ⟨p, dx, t, lg, rfl, hp, ht, hl, k⟩ := h
    refine ⟨_, (pss_cons (ps_expr (pe_bm PySem.F.plainAttrs_list PySem.F.slot_list_append PySem.F.type_list_append mt_append (pe_fld (pv 0) rfl) (pa_cons pe_str pa_nil)))
      (pss_one (ps_ret (pv 0)))), ?_⟩
    refine ⟨_, rfl, p, _, dx, _, _, rfl, hp, T.cl_Attempt, T.n3_entries, rfl, .inl ⟨rfl, _, SqL.of ht⟩, t, _, _, rfl, rfl, ht, ?_, ?_⟩
    · rw [List.length_map]; exact small1000 (by omega)
    · refine ⟨_, rfl, ?_⟩
      rw [List.map_append] at k
      exact k
theorem ok_Attempt___exit__ (T : Tx K mg fa fd ca pa) : Rf.FnM P w K mg base 1 (fa 34) (fd 34) P_Attempt___exit__ (sp_Attempt_exit ca) := by
  refine Rf.okM T.f_Attempt___exit__ sc_Attempt___exit__ (fun vs H Q E h => ?_) (fun cdv A outer s H vs Q E hr h => ?_)
  · obtain ⟨p, dx, t, lg, a, b, c, rfl, _⟩ := h; rfl
  · obtain ⟨p, dx, t, lg, a, b, c, rfl, hp, ht, hl, k⟩ := h
    refine ⟨_, (pss_one (ps_expr (pe_bm PySem.F.plainAttrs_list PySem.F.slot_list_append PySem.F.type_list_append mt_append (pe_fld (pv 0) rfl) (pa_cons pe_str pa_nil)))), ?_⟩
    refine ⟨_, rfl, p, _, dx, _, _, rfl, hp, T.cl_Attempt, T.n3_entries, rfl, .inl ⟨rfl, _, SqL.of ht⟩, t, _, _, rfl, rfl, ht, ?_, ?_⟩
    · rw [List.length_map]; exact small1000 (by omega)
    · rw [List.map_append] at k
      exact k
end
end Cp
end
section
set_option Elab.async false
set_option linter.all false
set_option maxRecDepth 100000
set_option maxHeartbeats 4000000
namespace Cp
open PySem PySem.Spec PyProof.Rows L2
/-! ### run -/
theorem for_enum {K : PySem.W.Frag} {a : Addr} {xs : List V} {g : TG} {tb : TS} {D : Ends} {σ : L2.St} {H : Hp} (Pv : Nat → L2.St → Hp → Prop) (h0 : Pv 0 σ H) (hl : ∀ i σ H, i ≤ xs.length → Pv i σ H → SqL K H a xs)
    (hs : ∀ i x σ H T, xs[i]? = some x → Pv i σ H → H T = none → g (.ref T) σ (upd H T (.tup [.int (i : Nat), x])) fun σ2 H2 => tb { D with nx := Pv (i + 1), ct := Pv (i + 1), bk := D.nx } σ2 H2) (hd : ∀ σ H, Pv xs.length σ H → D.nx σ H) :
    ∃ W : Nat → Nat → L2.St → Hp → Prop, (∃ m, W 0 m σ H) ∧ ∀ i m σ H, W i m σ H →
      ((Ite K a).stop i H ∧ D.nx σ H) ∨ ((Ite K a).go i H ∧ ∃ N : L2.St → Hp → Prop, (∀ σ' H', N σ' H' → ∃ m', m' < m ∧ W (i + 1) m' σ' H') ∧ ∀ x H', (Ite K a).yld i H x H' → g x σ H' fun σ2 H2 => tb { D with nx := N, ct := N, bk := D.nx } σ2 H2) := by
  refine ⟨fun i m σ H => m = xs.length - i ∧ i ≤ xs.length ∧ Pv i σ H, ⟨xs.length, by simp, Nat.zero_le _, h0⟩, ?_⟩
  rintro i m σ H ⟨rfl, hi, p⟩
  have q := hl i σ H hi p
  by_cases hlt : i < xs.length
  · refine .inr ⟨⟨xs, xs[i], q, by simp [hlt]⟩, Pv (i + 1), fun σ' H' p' => ⟨xs.length - (i + 1), by omega, rfl, hlt, p'⟩, fun x H' y => ?_⟩
    obtain ⟨T, x1, rfl, hT, rfl, y⟩ := y
    exact hs i x1 σ _ T (y xs q) p hT
  · have e : i = xs.length := by omega
    subst e
    exact .inl ⟨⟨xs, q, Nat.le_refl _⟩, hd σ H p⟩
section
variable {X : Cx} {CX : CXT} {k : Nat} {f C : Addr} {fd : FuncData} {ps : List Str} {sp : Sp} {E : L2.St → XK} {m : Str} {pos apos : Pos} {e o : Expr} {es : List Expr} {ta : TE} {t : TA}
/-- a method call, what it lets out wished with the slots -/
theorem pe_methS {pl : Sem Bool} (he : PE X o ta) (c : Cls X.K C) (hm : Meth X.K C m f) (F : FnOk X.prog X.w X.K X.mg X.base CX k f fd ps sp) (hr : Room k X.A) (hb : Binds X.K fd ps []) (hx : ∀ σ, PassesAt CX X σ (E σ)) (ha : PA X (e :: es) t)
    (hst : starEach (e :: es) X.env = (false, eval e X.env) :: starEach es X.env := by rfl) (hpl : (backTo pos (starEach es X.env)).any (·.1) = false := by rfl)
    (ht : eval (.Call (.Attribute o m apos) (e :: es) [] pos) X.env = (do
      let ov ← eval o X.env
      standAt apos.atName
      let (f, first) ← holding [ov] (getMethod ov m pl)
      callWith pos f first (backTo pos (starEach (e :: es) X.env)) (backToKw pos (keywordEach [] X.env))) := by rfl) :
    PE X (.Call (.Attribute o m apos) (e :: es) [] pos) (L2H.tMethH C m sp E ta t) := by
  refine ⟨fun pins s σ H Q I h => ?_⟩
  refine PySem.W.methodCall_KW (pl := pl) (thn (he.run pins s σ H _ I h) fun u s1 ⟨x, H1, I1, rx, a, dx, fs, ex, ea, l, q⟩ => ?_) ht
  subst ex
  obtain rfl : u = Value.ref a := rx
  refine getmeth_ok I1 ea c hm l ?_
  refine PySem.W.callWith_K (first := [.ref a]) (h₀ := X.base) I.ok.mod.kin hm.kp (thn (ha.run pos pins s1 σ H1 _ I1 q) fun us s2 ⟨vs, H2, I2, r, q2⟩ => ⟨I2.kIn, ?_⟩) hst hpl
  exact run_fnS (us := .ref a :: us) (vs := .ref a :: vs) F hr hb (hx σ) I2 (.cons rfl r) q2
end
theorem LoomAt.logged {ca : Nat → Addr} {H : Hp} {p n e l t : Addr} {N : Lm.Nt} {f : Lm.Fn} {es ls : List Lm.Fn} {lg lg' : List Str} (h : LoomAt ca H p n e l t N f es ls lg) : LoomAt ca (upd H t (.lst (lg'.map .str))) p n e l t N f es ls lg' := by
  have b : But [t] H (upd H t (.lst (lg'.map .str))) := But.refl.put (.inl (by simp))
  have st : Still ca H [t] := fun b hb => .inl ⟨lg.map .str, by rw [List.mem_singleton.mp hb]; exact h.lg⟩
  obtain ⟨dx, c, h1, h2⟩ := h.ins
  obtain ⟨cs, h3, h4⟩ := h.es
  obtain ⟨ds, h5, h6⟩ := h.ls
  have npt : p ≠ t := ne_of h1 h.lg (by intro z; cases z)
  exact ⟨⟨dx, c, by rw [upd_ne npt]; exact h1, h2.but b st⟩, h.net.but b st, h.sm, ⟨cs, by rw [upd_ne h.et]; exact h3, h4.but b st⟩, ⟨ds, by rw [upd_ne h.lt]; exact h5, h6.but b st⟩, upd_same, h.el, h.et, h.lt⟩
theorem room_d {k : Nat} {A B : Around} (r : Room k A) (e : B.depth = A.depth) : B.depth + 1 < recursionLimit := by
  have := r.dp
  rw [e]
  omega
theorem Paired.at {α β : Type} {R : α → β → Prop} : ∀ {xs : List α} {ys : List β} {i : Nat} {x : α}, Paired R xs ys → xs[i]? = some x → ∃ y, ys[i]? = some y ∧ R x y
  | _, _, 0, x, .cons r h, e => by
    cases e
    exact ⟨_, rfl, r⟩
  | _, _, i + 1, x, .cons r h, e => Paired.at (i := i) h e
/-- the carpet behind the first i actions -/
def stepA (N : Lm.Nt) (f : Lm.Fn) (a : Act) : Lm.Fn := (doAct N f a).getD f
def sp_Loom_run (ca ea : Nat → Addr) : Sp := fun vs H Q E => ∃ (p n e l t ta : Addr) (N : Lm.Nt) (f : Lm.Fn) (es ls : List Lm.Fn) (lg : List Str) (us : List Addr) (as : List Act), vs = [.ref p, .ref ta] ∧ LoomAt ca H p n e l t N f es ls lg ∧
  es.length + as.length ≤ 900 ∧ lg.length ≤ 800 ∧ ta ≠ t ∧ H ta = some (.lst (us.map .ref)) ∧ Paired (fun u a => IsAct H u a) us as ∧
  ((∀ a ∈ as, a ≠ .bad) → ∀ H' l', But [p, e, t] H H' → H l' = none → LoomAt ca H' p n e l' t N (as.foldl (stepA N) f) (es ++ [f]) [] (lg ++ [("begin" : Str), ("end" : Str)]) → Q .non H') ∧
  ∀ i, as[i]? = some .bad → (∀ j, j < i → as[j]? ≠ some .bad) → ∀ d H', But [t] H H' → LoomAt ca H' p n e l t N f es ls (lg ++ [("begin" : Str), ("end" : Str)]) → H' d = some (.xd [(("index" : Str), .int (i : Nat))]) → E (.ref (ea 2)) (some d) H'
abbrev gdE (K : PySem.W.Frag) : Value → Prop := fun c => PySem.W.subIn K c (.type "BaseException") = some true
def tsE (ea : Nat → Addr) (W : WX) : Addr → Value → Option Addr → TS := fun a _ _ => fun _ σ H => σ[6]? = some (some (.ref a)) ∧ tMkX (ea 2) "index" (tCons (tVar 3) tNil) σ H fun cls d H' => Rf.wOff 6 W cls d σ H'
def wE (K : PySem.W.Frag) (ea : Nat → Addr) (W : WX) : WX := Rf.wTup K (.ref (ea 5)) (.ref (ea 6)) (gdE K) 6 (tsE ea W)
def tTry (K : PySem.W.Frag) (ca ea : Nat → Addr) (W2 : WX) : TS := tAsg (tAndV (tCB (rIsi K) (tCons (tVar 4) (tCons (tC (.ty "tuple")) tNil))) (L2H.tMethH (ca 4) "act" (sp_Loom_act ca ea) (fun σ cls d H => W2 cls d σ H) (tVar 2) (tCons (tVar 4) tNil))) (gName 5)
def tRunBody (K : PySem.W.Frag) (ca ea : Nat → Addr) (W : WX) : TS := tSeq (tAsg (tMeth (ca 4) "copy" (sp_Loom_copy ca) [] E0 (tVar 0) tNil) (gName 2))
  (tSeq (tFor (iEnum K (tCons (tVar 1) tNil)) (gTup K 2 (gCons (gName 3) (gCons (gName 4) gNil))) (tSeq (fun D σ H => tTry K ca ea (wE K ea W) D σ H) (tIfS (tNot (tB (tVar 5))) (fun _ _ _ => False) tNext)))
    (tDrop (tMeth (ca 4) "change" (sp_Loom_change ca) [] E0 (tVar 0) (tCons (tFld K (tVar 2) "own_carpet") tNil))))
section
variable {P : Program} {w : World} {K : PySem.W.Frag} {mg : Str → Option Value} {base : Heap} {fa : Nat → Addr} {fd : Nat → FuncData} {ca pa ea qa : Nat → Addr}
theorem ok_Loom_run (U : Ty K mg fa fd ca pa ea qa) : FnOk P w K mg base (L2.CX P w) 13 (fa 46) (fd 46) P_Loom_run (sp_Loom_run ca ea) := by
  have T := U.toTx
  refine T.f_Loom_run.okX sc_Loom_run (fun vs H Q E h => ?_) (fun cdv A outer s H vs Q E hr h => ?_)
  · obtain ⟨p, n, e, l, t, ta, N, f, es, ls, lg, us, as, rfl, _⟩ := h
    rfl
  · obtain ⟨p, n, e, l, t, ta, N, f, es, ls, lg, us, as, rfl, hL, hlen, hlg, nta, hta, hus, k, kE⟩ := h
    refine ⟨_, pss_one (Rf.ps_withX (Wout := fun cls d _ H' => E cls d H') (tb := tRunBody K ca ea) rfl rfl rfl (L2.takes_of rfl rfl rfl rfl)
      (pe_make T.mk3 (ok_Attempt___init__ T) (hr.mono (by decide)) (by rfl) T.g_Attempt T.b_Attempt___init__ .nil pass0 (pa_cons (pe_fld (pv 0) rfl) pa_nil))
      T.m_Attempt___enter__.at_ T.m_Attempt___enter__.fn T.m_Attempt___exit__.at_ T.m_Attempt___exit__.fn (ok_Attempt___enter__ T) (ok_Attempt___exit__ T) (hr.mono (by decide)) T.b_Attempt___enter__ T.b_Attempt___exit__
      (fun W pn xe tk po pa => pss_cons (ps_set (i := 2) sc_Loom_run.nd rfl (Or.inl rfl) (pe_meth0 (pv 0) T.cl_Loom T.m_Loom_copy (ok_Loom_copy U) (hr.mono (by decide)) T.b_Loom_copy .nil pass0))
        (pss_cons (ps_for po rfl (pi_enum (by rfl) T.z_enumerate (pa_cons (pv 1) pa_nil)) (pg_tup (by rfl) (pgs_cons (pg_name (i := 3) sc_Loom_run.nd rfl (Or.inl rfl)) (pgs_cons (pg_name (i := 4) sc_Loom_run.nd rfl (Or.inl rfl)) pgs_nil)))
          (pss_cons (Rf.ps_try_tupX (i := 6) (gd := gdE K) (tb := tTry K ca ea) (ts := tsE ea W) rfl rfl rfl sc_Loom_run.nd rfl rfl ⟨by rfl, by decide, .inl U.gE⟩ ⟨by rfl, by decide, .inl U.gL⟩ pa tk
            (fun W2 pn2 xe2 tk2 po2 => pss_one (ps_set (i := 5) sc_Loom_run.nd rfl (Or.inl rfl) (pe_and (pe_callB call_isi (by rfl) T.z_isinstance (by decide +kernel) (pa_cons (pv 4) (pa_cons (pe_bltn (v := .ty "tuple") (u := .type "tuple") (by rfl) T.z_tuple (by decide +kernel) rfl) pa_nil)))
              (pe_one (pe_methS (pv 2) T.cl_Loom T.m_Loom_act (ok_Loom_act U) (hr.mono (by decide)) T.b_Loom_act (fun σ => L2N.passAt tk2 σ) (pa_cons (pv 4) pa_nil))))))
            (fun a oe cls d pn2 xe2 hg hz hd tk2 hot => pss_one (Rf.ps_raiseF (i := 6) (p := (a, oe)) rfl List.mem_cons_self hz.1 hg ⟨_, hd.choose_spec, hz.2.2 _ hd.choose_spec⟩ tk2 (pmk_x U.run (room_d hr rfl) (pa_cons (pv 3) pa_nil) (by rfl)) rfl (Or.inl rfl))))
          (pss_one (ps_if (pt_not (pt_val (pv 5))) (pss_one ps_never) pss_nil))))
        (pss_one (ps_expr (pe_meth (pv 0) T.cl_Loom T.m_Loom_change (ok_Loom_change T) (hr.mono (by decide)) T.b_Loom_change .nil pass0 (pa_cons (pe_fld (pv 2) rfl) pa_nil))))))), ?_⟩
    obtain ⟨dx, c, h1, h2⟩ := id hL.ins
    refine ⟨_, rfl, p, _, dx, _, _, rfl, h1, T.cl_Loom, T.n4_entries, rfl, fun x dy nx ndy nxy => ⟨x, dy, t, rfl, upd_same, rfl, ?_⟩⟩
    generalize hH1 : upd (upd (upd H dy _) x _) x _ = H1
    have s1 : Same H H1 := fun b o eb => by rw [← hH1, upd_ne (ne_of_none eb nx), upd_ne (ne_of_none eb nx), upd_ne (ne_of_none eb ndy)]; exact eb
    have hx1 : H1 x = some (.ins (ca 3) dy (attF t)) := by rw [← hH1]; exact upd_same
    have ht1 := s1 _ _ hL.lg
    refine ⟨x, dy, attF t, rfl, hx1, x, dy, t, lg, rfl, hx1, ht1, by omega, ?_⟩
    have nxt : x ≠ t := ne_of hx1 ht1 (by intro z; cases z)
    have hL2 := (hL.same s1).logged (lg' := lg ++ [("begin" : Str)])
    generalize hH2 : upd H1 t _ = H2 at hL2 ⊢
    have b2 : But [t] H H2 := by rw [← hH2]; exact (But.of s1).put (.inl (by simp))
    have hta2 := b2 _ _ hta (by simp [nta])
    have hx2 : H2 x = some (.ins (ca 3) dy (attF t)) := by rw [← hH2, upd_ne nxt]; exact hx1
    obtain ⟨dx2, c2, g1, g2⟩ := id hL2.ins
    refine ⟨_, rfl, p, dx2, _, rfl, g1, rfl, p, n, e, l, t, N, f, es, ls, _, rfl, hL2, fun H3 p' e' l' t' s3 np ne nl nt hL3 => ?_⟩
    have np2 : H2 p' = none := np
    have lu : us.length = as.length := Paired.length hus
    have hp2 := g1
    refine ⟨_, rfl, ta, us.map .ref, rfl, SqL.of (s3 _ _ hta2), for_enum (K := K) (a := ta) (xs := us.map .ref)
      (fun i σ H' => (∃ a3 a4 a5, σ = [some (.ref p), some (.ref ta), some (.ref p'), a3, a4, a5, none]) ∧ Same H2 H' ∧ (∃ l'' esx lsx, esx.length ≤ es.length + i ∧ LoomAt ca H' p' n e' l'' t' N ((as.take i).foldl (stepA N) f) esx lsx []) ∧ ∀ j, j < i → as[j]? ≠ some .bad)
      ⟨⟨_, _, _, rfl⟩, s3, ⟨l', es, ls, by omega, hL3⟩, fun j hj => absurd hj (by omega)⟩ (fun i σ H' _ q => SqL.of (q.2.1 _ _ hta2)) ?_ ?_⟩
    · rintro i x σ H' TT hx ⟨⟨a3, a4, a5, rfl⟩, sm, ⟨l'', esx, lsx, hle, hLx⟩, hb⟩ hT
      obtain ⟨u, hu, rfl⟩ : ∃ u, us[i]? = some u ∧ x = .ref u := by
        rw [List.getElem?_map] at hx
        cases hq : us[i]? with
        | none => rw [hq] at hx; cases hx
        | some u => rw [hq] at hx; cases hx; exact ⟨u, rfl, rfl⟩
      obtain ⟨a, ha, hA⟩ := Paired.at hus hu
      refine ⟨TT, _, rfl, SqT.of upd_same, rfl, _, _, rfl, _, _, rfl, rfl, ?_⟩
      have s4 : Same H' (upd H' TT (.tup [.int (i : Nat), .ref u])) := same_new hT
      generalize hH4 : upd H' TT _ = H4 at s4 ⊢
      have hL4 := hLx.same s4
      have hA4 : IsAct H4 u a := hA.imp fun b xs e => s4 _ _ (sm _ _ (b2 _ _ e fun z => by rw [List.mem_singleton.mp z, hL.lg] at e; cases e))
      obtain ⟨ut, hut⟩ : ∃ xs, H4 u = some (.tup xs) := by
        cases a with
        | paint => obtain ⟨_, q, _⟩ := hA4; exact ⟨_, q⟩
        | move => obtain ⟨_, q, _⟩ := hA4; exact ⟨_, q⟩
        | bad => obtain ⟨_, _, _, q, _⟩ := hA4; exact ⟨_, q⟩
      obtain ⟨d4, c4, k1, k2⟩ := id hL4.ins
      refine ⟨_, rfl, _, _, _, _, true, rfl, .ty _, .base (.tup hut), kit_ty (by decide +kernel), _, rfl, iteT ?_⟩
      refine ⟨_, rfl, p', d4, _, rfl, k1, rfl, _, rfl, ?_⟩
      have hi : i < as.length := by
        have := (List.getElem?_eq_some_iff.mp ha).1
        exact this
      have tk1 : as.take (i + 1) = as.take i ++ [a] := by rw [List.take_succ, ha]; rfl
      refine ⟨p', n, e', l'', t', u, N, _, esx, lsx, [], a, rfl, hL4, by omega, hA4, fun g hg H5 l5 b5 nl5 hL5 => ?_, fun hbad d H5 s5 => ?_⟩
      · refine ⟨_, rfl, _, rfl, iteF ⟨⟨_, _, _, rfl⟩, fun b o eb => ?_, ⟨l5, esx ++ [(as.take i).foldl (stepA N) f], [], ?_, ?_⟩, fun j hj => ?_⟩⟩
        · refine b5 _ _ (s4 _ _ (sm _ _ eb)) fun z => ?_
          rcases List.mem_cons.mp z with z | z
          · rw [z, np2] at eb; cases eb
          · rw [List.mem_singleton.mp z, ne] at eb; cases eb
        · rw [List.length_append]; show esx.length + 1 ≤ _; omega
        · rw [tk1, List.foldl_append]
          have eg : stepA N ((as.take i).foldl (stepA N) f) a = g := by
            show (doAct N ((as.take i).foldl (stepA N) f) a).getD _ = g
            rw [hg]
            rfl
          show LoomAt ca H5 p' n e' l5 t' N (stepA N ((as.take i).foldl (stepA N) f) a) _ _ _
          rw [eg]
          exact hL5
        · rcases Nat.lt_succ_iff_lt_or_eq.mp hj with h | h
          · exact hb j h
          · rw [h, ha]
            intro z
            cases z
            cases hg
      · have hab : a = .bad := by
          cases a with
          | bad => rfl
          | paint => cases hbad
          | move => cases hbad
        subst hab
        refine ⟨U.col.exC, by unfold PySem.W.exmAny PySem.W.exmAny PySem.W.exmAny; rw [U.mCE, U.mCL]; rfl, fun a1 na1 => ⟨rfl, _, rfl, _, rfl, fun d1 nd1 => ⟨ea 2, rfl, fun a2 t2 na2 => ?_⟩⟩⟩
        have s6 : Same H2 (upd H5 d1 (.xd [(("index" : Str), .int (i : Nat))])) := ((sm.trans s4).trans s5).trans (same_new nd1)
        have hd6 : upd H5 d1 (.xd [(("index" : Str), .int (i : Nat))]) d1 = some (.xd [(("index" : Str), .int (i : Nat))]) := upd_same
        generalize upd H5 d1 (.xd [(("index" : Str), .int (i : Nat))]) = H6 at s6 hd6 na2 ⊢
        have hL6 := hL2.same s6
        refine ⟨x, dy, t, _, _, _, _, rfl, s6 _ _ hx2, hL6.lg, by rw [List.length_append]; show lg.length + 1 ≤ _; omega, rfl, ?_⟩
        have ndt : d1 ≠ t := ne_of hd6 hL6.lg (by intro z; cases z)
        have fin := hL6.logged (lg' := (lg ++ [("begin" : Str)]) ++ [("end" : Str)])
        rw [List.append_assoc] at fin ⊢
        exact kE i ha hb d1 _ ((b2.trans (But.of s6)).put (.inl (by simp))) fin (by rw [upd_ne ndt]; exact hd6)
    · rintro σ H' ⟨⟨a3, a4, a5, rfl⟩, sm, ⟨l'', esx, lsx, hle, hLx⟩, hb⟩
      have hL' := hL2.same sm
      obtain ⟨dp, cp, q1, q2⟩ := id hL'.ins
      obtain ⟨d4, c4, k1, k2⟩ := id hLx.ins
      refine ⟨_, rfl, p, dp, _, rfl, q1, rfl, _, rfl, p', _, d4, _, _, rfl, k1, T.cl_Loom, T.n4_own_carpet, rfl, ?_⟩
      refine ⟨p, n, e, l, t, c4, N, f, _, es, ls, _, rfl, hL', k2, by omega, fun H6 l6 b6 nl6 hL6 => ?_⟩
      have hxp : x ≠ p := (ne_of_none h1 nx).symm
      obtain ⟨ces, e3, _⟩ := hL.es
      have hxe : x ≠ e := (ne_of_none e3 nx).symm
      have hx6 := b6 _ _ (sm _ _ hx2) (by simp [hxp, hxe])
      refine ⟨x, dy, t, _, _, _, _, rfl, hx6, hL6.lg, by rw [List.length_append]; show lg.length + 1 ≤ _; omega, ?_⟩
      have fin := hL6.logged (lg' := (lg ++ [("begin" : Str)]) ++ [("end" : Str)])
      have hl0 : H l6 = none := by
        cases hq : H l6 with
        | none => rfl
        | some o =>
          by_cases z : l6 = t
          · rw [z, hL'.lg] at nl6
            cases nl6
          · rw [sm _ _ (b2 _ _ hq (by simp [z]))] at nl6
            cases nl6
      rw [List.take_of_length_le (by rw [List.length_map]; omega)] at fin
      rw [List.append_assoc] at fin ⊢
      refine k (fun a ha z => ?_) _ l6 (((b2.mono (by simp)).trans ((But.of sm).trans (b6.mono (by intro b hb; simp at hb ⊢; rcases hb with h | h <;> simp [h])))).put (.inl (by simp))) hl0 fin
      obtain ⟨j, hj, e⟩ := List.getElem_of_mem ha
      exact hb j (by rw [List.length_map, lu]; exact hj) (by rw [List.getElem?_eq_getElem hj, e, z])
end
end Cp
end
section
set_option Elab.async false
set_option linter.all false
set_option maxRecDepth 100000
set_option maxHeartbeats 4000000
namespace Cp
open PySem PySem.Spec PyProof.Rows L2
theorem foldl_rep1 (c : Nat) : ∀ (m : Nat) (acc : Array Nat), (List.replicate m #[c]).foldl (· ++ ·) acc = (acc.toList ++ List.replicate m c).toArray
  | 0, acc => by simp
  | m + 1, acc => by
    rw [List.replicate_succ, List.foldl_cons, foldl_rep1 c m]
    rw [List.replicate_succ]
    simp
def rRepS : R2 := fun x y H Q => ∃ (c : Nat) (k : Int), x = .str (sg c) ∧ y = .int k ∧ 1 ≤ k ∧ k ≤ 1000 ∧ Q (.str (st (List.replicate k.toNat c))) H
theorem op_rep_str {X : Cx} : OpR X (binaryOp .Mult) rRepS := by
  intro pins s σ H x y v u Q I rx ry h
  obtain ⟨c, k, rfl, rfl, h1, h2, q⟩ := h
  obtain ⟨t, rfl⟩ := rx
  obtain ⟨t', rfl⟩ := ry
  refine PySem.P.mul_str ?_ ?_ ?_ ?_
  · rw [decide_eq_false (by omega), decide_eq_false (by omega)]; rfl
  · intro _ _
    show ¬ (((1 : Nat) : Int) > (2 ^ 63 - 1) / k)
    have : 1 ≤ (2 ^ 63 - 1) / k := (Int.le_ediv_iff_mul_le (by omega)).mpr (by omega)
    omega
  · intro _ _
    show Builtin.Str.tooLong (1 * k.toNat) = false
    unfold Builtin.Str.tooLong
    have := small1000 (show k.toNat ≤ 1000 by omega)
    exact decide_eq_false (by omega)
  · rw [if_neg (by omega)]
    by_cases hk : k = 1
    · subst hk
      rw [if_pos (show ((1 : Int) == 1 || (sg c).length == 0) = true from rfl)]
      exact ⟨.str (sg c), H, I, ⟨_, rfl⟩, q⟩
    · have e1 : (k == 1 || (sg c).length == 0) = false := by
        have : (k == 1) = false := by simp [hk]
        rw [this]
        rfl
      rw [if_neg (by rw [e1]; exact Bool.false_ne_true)]
      have e2 : (⟨(List.replicate k.toNat (sg c).cps).foldl (· ++ ·) #[]⟩ : Str) = st (List.replicate k.toNat c) := by
        rw [show (sg c).cps = #[c] from rfl, foldl_rep1]
        rfl
      rw [e2]
      refine ⟨?_, .str (st (List.replicate k.toNat c)), H, I.tok _, ⟨_, rfl⟩, q⟩
      rw [st_len, List.length_replicate]
      exact Nat.le_of_lt (small1000 (by omega))
end Cp
end
section
set_option Elab.async false
set_option linter.all false
set_option maxRecDepth 100000
set_option maxHeartbeats 4000000
namespace Cp
open PySem PySem.Spec PyProof.Rows L2
/-! ### the law's tape -/
structure TapeAt (H : Hp) (tp sp : Addr) : Prop where
  ex : ∃ (xs : List Int) (i b g : Int), H tp = some (.lst [.ref sp, .int i, .int b, .int g]) ∧ H sp = some (.lst (xs.map .int)) ∧ 0 ≤ i ∧ 0 ≤ b ∧ 0 ≤ g ∧ g < 2147483647 ∧ xs.length ≤ 63
theorem TapeAt.ne {H : Hp} {tp sp : Addr} (h : TapeAt H tp sp) : sp ≠ tp := by
  obtain ⟨xs, i, b, g, h1, h2, _⟩ := h.ex
  refine ne_of h2 h1 fun z => ?_
  injection z with z
  cases xs with
  | nil => cases z
  | cons a l =>
    rw [List.map_cons] at z
    injection z with z _
    cases z
theorem TapeAt.but {H H' : Hp} {tp sp : Addr} {ch : List Addr} (h : TapeAt H tp sp) (b : But ch H H') (h1 : tp ∉ ch) (h2 : sp ∉ ch) : TapeAt H' tp sp := by
  obtain ⟨xs, i, d, g, q1, q2, q3⟩ := h.ex
  exact ⟨xs, i, d, g, b _ _ q1 h1, b _ _ q2 h2, q3⟩
theorem TapeAt.same {H H' : Hp} {tp sp : Addr} (h : TapeAt H tp sp) (s : Same H H') : TapeAt H' tp sp := h.but (ch := []) (But.of s) (by simp) (by simp)
def sp_law_tape (K : PySem.W.Frag) : Sp := fun vs H Q _ => ∃ (s0 : Addr) (xs : List Int), vs = [.ref s0] ∧ SqL K H s0 (xs.map .int) ∧ ∀ H' tp sp, Same H H' → H tp = none → H sp = none → TapeAt H' tp sp → Q (.ref tp) H'
def sp_law_draw : Sp := fun vs H Q _ => ∃ (tp sp : Addr) (m : Int), vs = [.ref tp, .int m] ∧ TapeAt H tp sp ∧ 1 ≤ m ∧ m < 1073741824 ∧ ∀ r H', 0 ≤ r → r < m → But [tp] H H' → TapeAt H' tp sp → Q (.int r) H'
theorem nz31 : (2147483647 : Int) ≠ 0 := by decide
theorem six63 (n : Nat) : HT.sIx n n (some 63) - HT.sIx n 0 none = min 63 n := by
  rw [HT.sIx_none]
  exact HT.sIx_nat n n 63
section
variable {P : Program} {w : World} {K : PySem.W.Frag} {mg : Str → Option Value} {base : Heap} {fa : Nat → Addr} {fd : Nat → FuncData} {ca pa ea qa : Nat → Addr}
theorem ok__law_tape (T : Tx K mg fa fd ca pa) : FnOk P w K mg base CX0 1 (fa 48) (fd 48) P__law_tape (sp_law_tape K) := by
  refine T.f__law_tape.ok sc__law_tape (fun vs H Q E h => ?_) (fun cdv A outer s H vs Q E hr h => ?_)
  · obtain ⟨s0, xs, rfl, hs, k⟩ := h; rfl
  · obtain ⟨s0, xs, rfl, hs, k⟩ := h
    refine ⟨_, (pss_one (ps_ret (pe_lst (pa_cons (pe_callTy call_list_of (by rfl) T.z_list (by decide +kernel) (pa_cons (pe_slice sl_list (pv 0) po_none (po_some pe_int)) pa_nil)) (pa_cons pe_int (pa_cons pe_int (pa_cons pe_int pa_nil))))))), ?_⟩
    refine ⟨_, rfl, _, rfl, s0, _, rfl, hs, fun p1 hp1 => ⟨p1, _, rfl, .inl (SqL.of upd_same), fun sp hsp => ⟨by show 4 ≤ sizeLine; decide, fun tp htp => ?_⟩⟩⟩
    have s1 := same_new (o := HO.lst (cutV (xs.map .int) none (some 63))) hp1
    have s2 := s1.trans (same_new (o := HO.lst (cutV (xs.map .int) none (some 63))) hsp)
    have s3 := s2.trans (same_new (o := HO.lst [.ref sp, .int 0, .int 0, .int 17]) htp)
    refine k _ tp sp s3 (s2.free htp) (s1.free hsp) ⟨xs.take 63, 0, 0, 17, upd_same, ?_, by omega, by omega, by omega, by omega, by rw [List.length_take]; omega⟩
    rw [upd_ne (ne_of_none upd_same htp), upd_same]
    congr 2
    unfold cutV
    show ((xs.map V.int).drop 0).take _ = _
    rw [List.drop_zero, List.map_take, six63, ← List.take_eq_take_min]
theorem ok__law_draw (T : Tx K mg fa fd ca pa) : FnOk P w K mg base CX0 1 (fa 49) (fd 49) P__law_draw (sp_law_draw) := by
  refine T.f__law_draw.ok sc__law_draw (fun vs H Q E h => ?_) (fun cdv A outer s H vs Q E hr h => ?_)
  · obtain ⟨tp, sp, m, rfl, hT, m1, m2, k⟩ := h; rfl
  · obtain ⟨tp, sp, m, rfl, hT, m1, m2, k⟩ := h
    refine ⟨_, (pss_cons (ps_if (pt_cmpR op_gt (pe_ix ix_list (pv 0) pe_int (fun _ _ => rfl)) pe_int (nomark _)) (pss_cons (ps_set (i := 2) sc__law_draw.nd rfl (Or.inl rfl) (pe_op op_modN (pe_ix ix_list (pv 0) pe_int (fun _ _ => rfl)) (pv 1)))
      (pss_cons (ps_asg (pe_op op_fdivN (pe_ix ix_list (pv 0) pe_int (fun _ _ => rfl)) (pv 1)) (pg_sub (pv 0) pe_int set_list))
      (pss_one (ps_ret (pv 2))))) pss_nil)
      (pss_cons (ps_set (i := 3) sc__law_draw.nd rfl (Or.inl rfl) pe_int)
      (pss_cons (ps_if (pt_cmpR op_lt (pe_ix ix_list (pv 0) pe_int (fun _ _ => rfl)) (pe_callB call_len_seq (by rfl) T.z_len PySem.boot_len (pa_cons (pe_ix ix_list (pv 0) pe_int (fun _ _ => rfl)) pa_nil)) (nomark _)) (pss_one (ps_set (i := 3) sc__law_draw.nd rfl (Or.inl rfl) (pe_ix ix_list (pe_ix ix_list (pv 0) pe_int (fun _ _ => rfl)) (pe_ix ix_list (pv 0) pe_int (fun _ _ => rfl)) (fun _ _ => rfl)))) pss_nil)
      (pss_cons (ps_asg (pe_op op_add (pe_ix ix_list (pv 0) pe_int (fun _ _ => rfl)) pe_int) (pg_sub (pv 0) pe_int set_list))
      (pss_cons (ps_if (pt_cmpR op_ge (pv 3) (pe_op op_pow pe_int pe_int) (nomark _)) (pss_cons (ps_asg (pe_op op_fdivN (pv 3) (pv 1)) (pg_sub (pv 0) pe_int set_list))
      (pss_one (ps_ret (pe_op op_modN (pv 3) (pv 1))))) pss_nil)
      (pss_cons (ps_set (i := 4) sc__law_draw.nd rfl (Or.inl rfl) (pe_op op_add (pe_op op_add (pe_op op_modN (pv 3) pe_int) (pe_op op_mul pe_int (pe_ix ix_list (pv 0) pe_int (fun _ _ => rfl)))) pe_int))
      (pss_cons (ps_asg (pe_op op_modN (pe_op op_add (pe_op op_mul (pe_ix ix_list (pv 0) pe_int (fun _ _ => rfl)) pe_int) (pv 4)) pe_int) (pg_sub (pv 0) pe_int set_list))
      (pss_one (ps_ret (pe_op op_modN (pe_op op_modN (pe_op op_pow (pe_ix ix_list (pv 0) pe_int (fun _ _ => rfl)) pe_int) pe_int) (pv 1))))))))))), ?_⟩
    obtain ⟨xs, i, b, g, h1, h2, i0, b0, g0, g1, xl⟩ := hT.ex
    have nst := hT.ne
    refine ⟨_, rfl, _, _, _, _, rfl, rfl, SqL.of h1, atI_nat (j := 2) rfl, _, _, rfl, rfl, ?_⟩
    by_cases hb : 0 < b
    · refine ⟨true, congrArg V.bl (decide_eq_true hb), iteT ?_⟩
      refine ⟨_, rfl, _, _, _, _, rfl, rfl, SqL.of h1, atI_nat (j := 2) rfl, _, rfl, _, _, rfl, rfl, by omega, ?_⟩
      refine ⟨_, rfl, _, _, _, _, rfl, rfl, SqL.of h1, atI_nat (j := 2) rfl, _, rfl, _, _, rfl, rfl, ⟨by omega, by omega⟩, ?_⟩
      refine ⟨_, rfl, _, _, _, 2, rfl, rfl, h1, rfl, ?_⟩
      refine ⟨_, rfl, ?_⟩
      refine k _ _ (Int.fmod_nonneg_of_pos _ (by omega)) (Int.fmod_lt_of_pos _ (by omega)) (But.refl.put (.inl (by simp))) ⟨xs, i, b.fdiv m, g, upd_same, by rw [upd_ne nst]; exact h2, i0, ?_, g0, g1, xl⟩
      rw [Int.fdiv_eq_ediv_of_nonneg _ (by omega)]
      exact Int.ediv_nonneg b0 (by omega)
    · refine ⟨false, congrArg V.bl (decide_eq_false hb), iteF ?_⟩
      refine ⟨_, rfl, _, _, _, _, rfl, rfl, SqL.of h1, atI_nat (j := 1) rfl, _, rfl, _, _, _, _, rfl, rfl, SqL.of h1, atI_nat (j := 0) rfl, sp, _, rfl, .inl (SqL.of h2), _, _, rfl, rfl, ?_⟩
      by_cases hi : i < ((xs.map V.int).length : Int)
      · refine ⟨true, congrArg V.bl (decide_eq_true hi), iteT ?_⟩
        have hi' : i.toNat < xs.length := by rw [List.length_map] at hi; omega
        obtain ⟨c, hat⟩ : ∃ c : Int, atI (xs.map V.int) i = some (.int c) := by
          obtain ⟨n, rfl⟩ : ∃ n : Nat, i = n := ⟨i.toNat, by omega⟩
          rw [Int.toNat_natCast] at hi'
          exact ⟨xs[n], atI_nat (by rw [List.getElem?_map, List.getElem?_eq_getElem hi']; rfl)⟩
        refine ⟨_, rfl, _, _, _, _, rfl, rfl, SqL.of h1, atI_nat (j := 0) rfl, _, rfl, _, _, _, _, rfl, rfl, SqL.of h1, atI_nat (j := 1) rfl, sp, _, i, _, rfl, rfl, SqL.of h2, hat, ?_⟩
        refine ⟨_, rfl, _, _, _, _, rfl, rfl, SqL.of h1, atI_nat (j := 1) rfl, _, _, rfl, rfl, _, rfl, _, _, _, 1, rfl, rfl, h1, rfl, ?_⟩
        have h1' : (upd H tp (.lst [.ref sp, .int (i + 1), .int b, .int g])) tp = some (.lst [.ref sp, .int (i + 1), .int b, .int g]) := upd_same
        have h2' : (upd H tp (.lst [.ref sp, .int (i + 1), .int b, .int g])) sp = some (.lst (xs.map .int)) := by rw [upd_ne nst]; exact h2
        have bt : But [tp] H (upd H tp (.lst [.ref sp, .int (i + 1), .int b, .int g])) := But.refl.put (.inl (by simp))
        refine ⟨_, rfl, _, _, rfl, rfl, ⟨by decide, by decide, by decide⟩, _, _, rfl, rfl, ?_⟩
        by_cases hc : ((10 : Int) ^ (18 : Int).toNat) ≤ c
        · refine ⟨true, congrArg V.bl (decide_eq_true hc), iteT ?_⟩
          have hc' : (0 : Int) ≤ c := Int.le_trans (by decide) hc
          refine ⟨_, rfl, _, rfl, _, _, rfl, rfl, ⟨by omega, by omega⟩, _, rfl, _, _, _, 2, rfl, rfl, h1', rfl, ?_⟩
          refine ⟨_, rfl, _, rfl, _, _, rfl, rfl, by omega, ?_⟩
          refine k _ _ (Int.fmod_nonneg_of_pos _ (by omega)) (Int.fmod_lt_of_pos _ (by omega)) (bt.put (.inl (by simp))) ⟨xs, i + 1, Int.fdiv (c) m, g, upd_same, by rw [upd_ne nst]; exact h2', by omega, ?_, g0, g1, xl⟩
          rw [Int.fdiv_eq_ediv_of_nonneg _ (by omega)]
          exact Int.ediv_nonneg hc' (by omega)
        · refine ⟨false, congrArg V.bl (decide_eq_false hc), iteF ?_⟩
          refine ⟨_, rfl, _, _, rfl, rfl, nz31, _, rfl, _, _, _, _, rfl, rfl, SqL.of h1', atI_nat (j := 1) rfl, _, _, rfl, rfl, .inl ⟨by decide, by decide⟩, _, _, rfl, rfl, _, _, rfl, rfl, ?_⟩
          refine ⟨_, rfl, _, _, _, _, rfl, rfl, SqL.of h1', atI_nat (j := 3) rfl, _, _, rfl, rfl, .inr ⟨by decide, by decide⟩, _, rfl, _, _, rfl, rfl, _, _, rfl, rfl, nz31, _, rfl, _, _, _, 3, rfl, rfl, h1', rfl, ?_⟩
          refine ⟨_, rfl, _, _, _, _, rfl, rfl, SqL.of upd_same, atI_nat (j := 3) rfl, _, _, rfl, rfl, ⟨by decide, by decide, ?_⟩, _, _, rfl, rfl, nz31, _, rfl, _, _, rfl, rfl, by omega, ?_⟩
          · have q1 := Int.fmod_nonneg_of_pos (b := 2147483647) (g * 48271 + (Int.fmod (c) 2147483647 + 7919 * (i + 1) + 11)) (by decide)
            have q2 := Int.fmod_lt_of_pos (b := 2147483647) (g * 48271 + (Int.fmod (c) 2147483647 + 7919 * (i + 1) + 11)) (by decide)
            omega
          · refine k _ _ (Int.fmod_nonneg_of_pos _ (by omega)) (Int.fmod_lt_of_pos _ (by omega)) (bt.put (.inl (by simp))) ⟨xs, i + 1, b, _, upd_same, by rw [upd_ne nst]; exact h2', by omega, b0, Int.fmod_nonneg_of_pos _ (by decide), Int.fmod_lt_of_pos _ (by decide), xl⟩
      · refine ⟨false, congrArg V.bl (decide_eq_false hi), iteF ?_⟩
        refine ⟨_, rfl, _, _, _, _, rfl, rfl, SqL.of h1, atI_nat (j := 1) rfl, _, _, rfl, rfl, _, rfl, _, _, _, 1, rfl, rfl, h1, rfl, ?_⟩
        have h1' : (upd H tp (.lst [.ref sp, .int (i + 1), .int b, .int g])) tp = some (.lst [.ref sp, .int (i + 1), .int b, .int g]) := upd_same
        have h2' : (upd H tp (.lst [.ref sp, .int (i + 1), .int b, .int g])) sp = some (.lst (xs.map .int)) := by rw [upd_ne nst]; exact h2
        have bt : But [tp] H (upd H tp (.lst [.ref sp, .int (i + 1), .int b, .int g])) := But.refl.put (.inl (by simp))
        refine ⟨_, rfl, _, _, rfl, rfl, ⟨by decide, by decide, by decide⟩, _, _, rfl, rfl, ?_⟩
        by_cases hc : ((10 : Int) ^ (18 : Int).toNat) ≤ 0
        · refine ⟨true, congrArg V.bl (decide_eq_true hc), iteT ?_⟩
          have hc' : (0 : Int) ≤ 0 := Int.le_trans (by decide) hc
          refine ⟨_, rfl, _, rfl, _, _, rfl, rfl, ⟨by omega, by omega⟩, _, rfl, _, _, _, 2, rfl, rfl, h1', rfl, ?_⟩
          refine ⟨_, rfl, _, rfl, _, _, rfl, rfl, by omega, ?_⟩
          refine k _ _ (Int.fmod_nonneg_of_pos _ (by omega)) (Int.fmod_lt_of_pos _ (by omega)) (bt.put (.inl (by simp))) ⟨xs, i + 1, Int.fdiv (0) m, g, upd_same, by rw [upd_ne nst]; exact h2', by omega, ?_, g0, g1, xl⟩
          rw [Int.fdiv_eq_ediv_of_nonneg _ (by omega)]
          exact Int.ediv_nonneg hc' (by omega)
        · refine ⟨false, congrArg V.bl (decide_eq_false hc), iteF ?_⟩
          refine ⟨_, rfl, _, _, rfl, rfl, nz31, _, rfl, _, _, _, _, rfl, rfl, SqL.of h1', atI_nat (j := 1) rfl, _, _, rfl, rfl, .inl ⟨by decide, by decide⟩, _, _, rfl, rfl, _, _, rfl, rfl, ?_⟩
          refine ⟨_, rfl, _, _, _, _, rfl, rfl, SqL.of h1', atI_nat (j := 3) rfl, _, _, rfl, rfl, .inr ⟨by decide, by decide⟩, _, rfl, _, _, rfl, rfl, _, _, rfl, rfl, nz31, _, rfl, _, _, _, 3, rfl, rfl, h1', rfl, ?_⟩
          refine ⟨_, rfl, _, _, _, _, rfl, rfl, SqL.of upd_same, atI_nat (j := 3) rfl, _, _, rfl, rfl, ⟨by decide, by decide, ?_⟩, _, _, rfl, rfl, nz31, _, rfl, _, _, rfl, rfl, by omega, ?_⟩
          · have q1 := Int.fmod_nonneg_of_pos (b := 2147483647) (g * 48271 + (Int.fmod (0) 2147483647 + 7919 * (i + 1) + 11)) (by decide)
            have q2 := Int.fmod_lt_of_pos (b := 2147483647) (g * 48271 + (Int.fmod (0) 2147483647 + 7919 * (i + 1) + 11)) (by decide)
            omega
          · refine k _ _ (Int.fmod_nonneg_of_pos _ (by omega)) (Int.fmod_lt_of_pos _ (by omega)) (bt.put (.inl (by simp))) ⟨xs, i + 1, b, _, upd_same, by rw [upd_ne nst]; exact h2', by omega, b0, Int.fmod_nonneg_of_pos _ (by decide), Int.fmod_lt_of_pos _ (by decide), xl⟩
end
end Cp
end
section
set_option Elab.async false
set_option linter.all false
set_option maxRecDepth 100000
set_option maxHeartbeats 4000000
namespace Cp
open PySem PySem.Spec PyProof.Rows L2
theorem ixTK {X : Cx} {K : PySem.W.Frag} (h : X.K = K) : IxR X (rIxT K) := by
  subst h
  exact ix_tup
theorem ixLK {X : Cx} {K : PySem.W.Frag} (h : X.K = K) : IxR X (rIxL K) := by
  subst h
  exact ix_list
theorem cp109 : CPow 10 9 := ⟨by decide, by decide, by decide⟩
theorem cp1018 : CPow 10 18 := ⟨by decide, by decide, by decide⟩
theorem cp1026 : CPow 10 26 := ⟨by decide, by decide, by decide⟩
theorem cp1020 : CPow 10 20 := ⟨by decide, by decide, by decide⟩
theorem at3 {a b c : Int} {r : Int} (h0 : 0 ≤ r) (h1 : r < 3) : ∃ z : Int, atI [V.int a, .int b, .int c] r = some (.int z) := by
  obtain ⟨n, rfl⟩ : ∃ n : Nat, r = n := ⟨r.toNat, by omega⟩
  match n, h1 with
  | 0, _ => exact ⟨_, atI_nat rfl⟩
  | 1, _ => exact ⟨_, atI_nat rfl⟩
  | 2, _ => exact ⟨_, atI_nat rfl⟩
  | n + 3, h => omega
theorem at2 {a b : V} {r : Int} (h0 : 0 ≤ r) (h1 : r < 2) : ∃ z, (z = a ∨ z = b) ∧ atI [a, b] r = some z := by
  obtain ⟨n, rfl⟩ : ∃ n : Nat, r = n := ⟨r.toNat, by omega⟩
  match n, h1 with
  | 0, _ => exact ⟨_, .inl rfl, atI_nat rfl⟩
  | 1, _ => exact ⟨_, .inr rfl, atI_nat rfl⟩
  | n + 2, h => omega
/-- the tape moves on, all else stays -/
def sp_law_great : Sp := fun vs H Q _ => ∃ (tp sp : Addr) (n : Int), vs = [.ref tp, .int n] ∧ TapeAt H tp sp ∧ n ≠ 0 ∧ ∀ r H', But [tp] H H' → TapeAt H' tp sp → Q (.int r) H'
def sp_law_place : Sp := fun vs H Q _ => ∃ (tp sp : Addr), vs = [.ref tp] ∧ TapeAt H tp sp ∧ ∀ x y H' u, But [tp] H H' → TapeAt H' tp sp → H u = none → H' u = some (pl x y) → Q (.ref u) H'
theorem But.new {ch : List Addr} {H : Hp} {p : Addr} {o : HO} (h : H p = none) : But ch H (upd H p o) := But.of (same_new h)
theorem But.free {ch : List Addr} {H H' : Hp} {p : Addr} (b : But ch H H') (h : H' p = none) (n : p ∉ ch) : H p = none := by
  cases q : H p with
  | none => rfl
  | some o => rw [b _ _ q n] at h; cases h
section
variable {P : Program} {w : World} {K : PySem.W.Frag} {mg : Str → Option Value} {base : Heap} {fa : Nat → Addr} {fd : Nat → FuncData} {ca pa ea qa : Nat → Addr}
theorem ok__law_great (T : Tx K mg fa fd ca pa) : FnOk P w K mg base CX0 2 (fa 50) (fd 50) P__law_great (sp_law_great) := by
  refine T.f__law_great.ok sc__law_great (fun vs H Q E h => ?_) (fun cdv A outer s H vs Q E hr h => ?_)
  · obtain ⟨tp, sp, n, rfl, hT, n0, k⟩ := h; rfl
  · obtain ⟨tp, sp, n, rfl, hT, n0, k⟩ := h
    refine ⟨_, (pss_cons (ps_set (i := 2) sc__law_great.nd rfl (Or.inl rfl) (pe_op op_add (pe_op op_mul (pe_call (ok__law_draw T) (hr.mono (by decide)) (by rfl) T.g__law_draw T.f__law_draw.kp T.b__law_draw .nil pass0 (pa_cons (pv 0) (pa_cons (pe_op op_pow pe_int pe_int) pa_nil))) (pe_op op_pow pe_int pe_int)) (pe_op op_mul (pe_call (ok__law_draw T) (hr.mono (by decide)) (by rfl) T.g__law_draw T.f__law_draw.kp T.b__law_draw .nil pass0 (pa_cons (pv 0) (pa_cons (pe_op op_pow pe_int pe_int) pa_nil))) (pe_op op_pow pe_int pe_int))))
      (pss_cons (ps_set (i := 3) sc__law_great.nd rfl (Or.inl rfl) (pe_ix ix_list (pe_lst (pa_cons (pe_call (ok__law_draw T) (hr.mono (by decide)) (by rfl) T.g__law_draw T.f__law_draw.kp T.b__law_draw .nil pass0 (pa_cons (pv 0) (pa_cons pe_int pa_nil))) (pa_cons (pe_call (ok__law_draw T) (hr.mono (by decide)) (by rfl) T.g__law_draw T.f__law_draw.kp T.b__law_draw .nil pass0 (pa_cons (pv 0) (pa_cons pe_int pa_nil))) (pa_cons (pe_op op_modN (pe_op op_add (pv 2) (pe_call (ok__law_draw T) (hr.mono (by decide)) (by rfl) T.g__law_draw T.f__law_draw.kp T.b__law_draw .nil pass0 (pa_cons (pv 0) (pa_cons (pe_op op_pow pe_int pe_int) pa_nil)))) (pv 1)) pa_nil)))) (pe_call (ok__law_draw T) (hr.mono (by decide)) (by rfl) T.g__law_draw T.f__law_draw.kp T.b__law_draw .nil pass0 (pa_cons (pv 0) (pa_cons pe_int pa_nil))) (fun _ _ => rfl)))
      (pss_one (ps_ret (pe_op op_mul (pv 3) (pe_ix ix_list (pe_lst (pa_cons pe_int (pa_cons (pe_un un_neg pe_int) pa_nil))) (pe_call (ok__law_draw T) (hr.mono (by decide)) (by rfl) T.g__law_draw T.f__law_draw.kp T.b__law_draw .nil pass0 (pa_cons (pv 0) (pa_cons pe_int pa_nil))) (fun _ _ => rfl))))))), ?_⟩
    refine ⟨_, rfl, _, _, rfl, rfl, cp109, tp, sp, _, rfl, hT, by decide, by decide, fun r1 H1 l1 u1 b1 T1 => ?_⟩
    refine ⟨_, _, rfl, rfl, cp1018, _, _, rfl, rfl, .inl ⟨by omega, Int.lt_trans u1 (by decide)⟩, ?_⟩
    refine ⟨_, rfl, _, _, rfl, rfl, cp109, tp, sp, _, rfl, T1, by decide, by decide, fun r2 H2 l2 u2 b2 T2 => ?_⟩
    refine ⟨_, _, rfl, rfl, cp109, _, _, rfl, rfl, .inl ⟨by omega, Int.lt_trans u2 (by decide)⟩, _, _, rfl, rfl, ?_⟩
    refine ⟨_, rfl, tp, sp, 9, rfl, T2, by decide, by decide, fun r3 H3 l3 u3 b3 T3 => ?_⟩
    refine ⟨_, rfl, tp, sp, 60, rfl, T3, by decide, by decide, fun r4 H4 l4 u4 b4 T4 => ?_⟩
    refine ⟨_, rfl, _, rfl, _, _, rfl, rfl, cp109, tp, sp, _, rfl, T4, by decide, by decide, fun r5 H5 l5 u5 b5 T5 => ?_⟩
    refine ⟨_, _, rfl, rfl, _, rfl, _, _, rfl, rfl, n0, by show 3 ≤ sizeLine; decide, fun L hL => ?_⟩
    have b05 := (((b1.trans b2).trans b3).trans b4).trans b5
    have T5' := T5.same (same_new (o := HO.lst [V.int r3, .int r4, .int (((r1 * 10 ^ (18 : Int).toNat + r2 * 10 ^ (9 : Int).toNat) + r5).fmod n)]) hL)
    have ntL : L ≠ tp := fun z => by
      obtain ⟨_, _, _, _, q, _⟩ := T5.ex
      rw [z, q] at hL
      cases hL
    refine ⟨_, rfl, tp, sp, 3, rfl, T5', by decide, by decide, fun r6 H6 l6 u6 b6 T6 => ?_⟩
    obtain ⟨z, hz⟩ := at3 (a := r3) (b := r4) (c := ((r1 * 10 ^ (18 : Int).toNat + r2 * 10 ^ (9 : Int).toNat) + r5).fmod n) l6 u6
    refine ⟨L, _, r6, _, rfl, rfl, SqL.of (b6 _ _ upd_same (by simp [ntL])), hz, ?_⟩
    refine ⟨_, rfl, _, rfl, by show 2 ≤ sizeLine; decide, fun M hM => ?_⟩
    have T6' := T6.same (same_new (o := HO.lst [V.int 1, .int (-1)]) hM)
    have ntM : M ≠ tp := fun z => by
      obtain ⟨_, _, _, _, q, _⟩ := T6.ex
      rw [z, q] at hM
      cases hM
    refine ⟨_, rfl, tp, sp, 2, rfl, T6', by decide, by decide, fun r7 H7 l7 u7 b7 T7 => ?_⟩
    obtain ⟨y, hy, hat⟩ := at2 (a := V.int 1) (b := V.int (-1)) l7 u7
    obtain ⟨q, rfl, hq⟩ : ∃ q : Int, y = .int q ∧ -(2 ^ 64) < q ∧ q < 2 ^ 64 := by
      rcases hy with rfl | rfl
      · exact ⟨_, rfl, by decide, by decide⟩
      · exact ⟨_, rfl, by decide, by decide⟩
    refine ⟨M, _, r7, _, rfl, rfl, SqL.of (b7 _ _ upd_same (by simp [ntM])), hat, _, _, rfl, rfl, .inr hq, ?_⟩
    exact k _ _ ((((b05.trans (But.new hL)).trans b6).trans (But.new hM)).trans b7) T7
theorem ok__law_place (T : Tx K mg fa fd ca pa) : FnOk P w K mg base CX0 3 (fa 51) (fd 51) P__law_place (sp_law_place) := by
  refine T.f__law_place.ok sc__law_place (fun vs H Q E h => ?_) (fun cdv A outer s H vs Q E hr h => ?_)
  · obtain ⟨tp, sp, rfl, hT, k⟩ := h; rfl
  · obtain ⟨tp, sp, rfl, hT, k⟩ := h
    refine ⟨_, (pss_one (ps_ret (pe_tup (pa_cons (pe_call (ok__law_great T) (hr.mono (by decide)) (by rfl) T.g__law_great T.f__law_great.kp T.b__law_great .nil pass0 (pa_cons (pv 0) (pa_cons (pe_op op_pow pe_int pe_int) pa_nil))) (pa_cons (pe_call (ok__law_great T) (hr.mono (by decide)) (by rfl) T.g__law_great T.f__law_great.kp T.b__law_great .nil pass0 (pa_cons (pv 0) (pa_cons (pe_op op_pow pe_int pe_int) pa_nil))) pa_nil))))), ?_⟩
    refine ⟨_, rfl, _, _, rfl, rfl, cp1026, tp, sp, _, rfl, hT, by decide, fun r1 H1 b1 T1 => ?_⟩
    refine ⟨_, rfl, _, _, rfl, rfl, cp1026, tp, sp, _, rfl, T1, by decide, fun r2 H2 b2 T2 => ?_⟩
    refine ⟨by show 2 ≤ sizeLine; decide, fun u hu => ?_⟩
    have ntu : u ≠ tp := fun z => by
      obtain ⟨_, _, _, _, q, _⟩ := T2.ex
      rw [z, q] at hu
      cases hu
    exact k r1 r2 _ u ((b1.trans b2).trans (But.new hu)) (T2.same (same_new hu)) ((b1.trans b2).free hu (by simp [ntu])) upd_same
end
end Cp
end
section
set_option Elab.async false
set_option linter.all false
set_option maxRecDepth 100000
set_option maxHeartbeats 4000000
namespace Cp
open PySem PySem.Spec PyProof.Rows L2
def sp_law_low : Sp := fun vs H Q _ => ∃ (np t : Addr) (n : Lm.Nt) (x y : Int), vs = [.ref np, .ref t] ∧ H np = some (nums n) ∧ Sm n ∧ H t = some (pl x y) ∧ ∀ u, H u = none → Q (.ref u) (upd H u (pl (Lm.lowX n x y) (Lm.lowY n y)))
def sp_law_spots : Sp := fun vs H Q _ => ∃ (np : Addr) (n : Lm.Nt), vs = [.ref np] ∧ H np = some (nums n) ∧ Sm n ∧ ∀ H' D (ts : List Addr), Same H H' → H D = none → H' D = some (.lst (ts.map .ref)) → Pls H' ts (Lm.spots n) → Q (.ref D) H'
def sp_law_seen : Sp := fun vs H Q _ => ∃ (np t : Addr) (n : Lm.Nt) (z : List Nat) (x y : Int), vs = [.ref np, .str (st z), .ref t] ∧ H np = some (nums n) ∧ Sm n ∧ z.length = Lm.size n ∧ H t = some (pl x y) ∧ ∀ H', Same H H' → Q (.str (sg (Lm.col n z x y))) H'
def sp_law_net : Sp := fun vs H Q _ => ∃ (tp sp : Addr), vs = [.ref tp, .int 9] ∧ TapeAt H tp sp ∧ ∀ n u H', Sm n → But [tp] H H' → TapeAt H' tp sp → H u = none → H' u = some (nums n) → Q (.ref u) H'
def sp_law_turned : Sp := fun vs H Q _ => ∃ (t : Addr) (x y : Int), vs = [.str "none", .ref t] ∧ H t = some (pl x y) ∧ ∀ H' u, Same H H' → H u = none → H' u = some (pl x y) → Q (.ref u) H'
def sp_law_carried : Sp := fun vs H Q _ => ∃ (m t s : Addr) (x y u v : Int), vs = [.ref m, .ref t] ∧ H m = some (.tup [.str "none", .ref s]) ∧ H s = some (pl u v) ∧ H t = some (pl x y) ∧ ∀ H' q, Same H H' → H q = none → H' q = some (pl (x + u) (y + v)) → Q (.ref q) H'
section
variable {P : Program} {w : World} {K : PySem.W.Frag} {mg : Str → Option Value} {base : Heap} {fa : Nat → Addr} {fd : Nat → FuncData} {ca pa ea qa : Nat → Addr}
theorem ok__law_low (T : Tx K mg fa fd ca pa) : FnOk P w K mg base CX0 1 (fa 52) (fd 52) P__law_low (sp_law_low) := by
  refine T.f__law_low.ok sc__law_low (fun vs H Q E h => ?_) (fun cdv A outer s H vs Q E hr h => ?_)
  · obtain ⟨np, t, n, x, y, rfl, hn, sm, ht, k⟩ := h; rfl
  · obtain ⟨np, t, n, x, y, rfl, hn, sm, ht, k⟩ := h
    refine ⟨_, (pss_cons (ps_set (i := 2) sc__law_low.nd rfl (Or.inl rfl) (pe_op op_fdivN (pe_ix ix_tup (pv 1) pe_int (fun _ _ => rfl)) (pe_ix ix_tup (pv 0) pe_int (fun _ _ => rfl))))
      (pss_one (ps_ret (pe_tup (pa_cons (pe_op op_modN (pe_op op_sub (pe_ix ix_tup (pv 1) pe_int (fun _ _ => rfl)) (pe_op op_mul (pv 2) (pe_ix ix_tup (pv 0) pe_int (fun _ _ => rfl)))) (pe_ix ix_tup (pv 0) pe_int (fun _ _ => rfl))) (pa_cons (pe_op op_sub (pe_ix ix_tup (pv 1) pe_int (fun _ _ => rfl)) (pe_op op_mul (pv 2) (pe_ix ix_tup (pv 0) pe_int (fun _ _ => rfl)))) pa_nil)))))), ?_⟩
    have ok := sm.ok
    refine ⟨_, rfl, t, _, _, _, rfl, rfl, SqT.of ht, atI_nat (j := 1) rfl, _, rfl, np, _, _, _, rfl, rfl, SqT.of hn, atI_nat (j := 2) rfl, _, _, rfl, rfl, ⟨by have := ok.c1; omega, by have := ok.c1; have := sm.c9; omega⟩, ?_⟩
    refine ⟨_, rfl, t, _, _, _, rfl, rfl, SqT.of ht, atI_nat (j := 0) rfl, _, rfl, _, rfl, np, _, _, _, rfl, rfl, SqT.of hn, atI_nat (j := 1) rfl, _, _, rfl, rfl, .inr ⟨by have := ok.b0; omega, by have := ok.ba; have := sm.a9; omega⟩, _, _, rfl, rfl, _, rfl, np, _, _, _, rfl, rfl, SqT.of hn, atI_nat (j := 0) rfl, _, _, rfl, rfl, by have := ok.a1; omega, ?_⟩
    refine ⟨_, rfl, t, _, _, _, rfl, rfl, SqT.of ht, atI_nat (j := 1) rfl, _, rfl, _, rfl, np, _, _, _, rfl, rfl, SqT.of hn, atI_nat (j := 2) rfl, _, _, rfl, rfl, .inr ⟨by have := ok.c1; omega, by have := sm.c9; omega⟩, _, _, rfl, rfl, by show 2 ≤ sizeLine; decide, fun z hz => ?_⟩
    have e1 : y.fdiv n.c = y / n.c := Int.fdiv_eq_ediv_of_nonneg _ (by have := ok.c1; omega)
    have e2 : (x - y.fdiv n.c * n.b).fmod n.a = Lm.lowX n x y := by rw [e1, Int.fmod_eq_emod_of_nonneg _ (by have := ok.a1; omega)]; rfl
    have e3 : y - y.fdiv n.c * n.c = Lm.lowY n y := by rw [e1]; rfl
    have q := k z hz
    rw [← e2, ← e3] at q
    exact q
theorem ok__law_spots (T : Tx K mg fa fd ca pa) : FnOk P w K mg base CX0 1 (fa 53) (fd 53) P__law_spots (sp_law_spots) := by
  refine T.f__law_spots.ok sc__law_spots (fun vs H Q E h => ?_) (fun cdv A outer s H vs Q E hr h => ?_)
  · obtain ⟨np, n, rfl, hn, sm, k⟩ := h; rfl
  · obtain ⟨np, n, rfl, hn, sm, k⟩ := h
    refine ⟨_, (pss_one (ps_ret (pe_lc (own := [("_law_at", 1)]) (by rfl) sc__law_spots.nd (pi_range1 (by rfl) T.z_range (pa_cons (pe_op op_mul (pe_ix ix_tup (pv 0) pe_int (fun _ _ => rfl)) (pe_ix ix_tup (pv 0) pe_int (fun _ _ => rfl))) pa_nil)) (blkOk_by (own := [("_law_at", 1)]) (N := N__law_spots) (sc := defScope s__law_spots) (by decide +kernel)) (fun _ _ _ _ _ => (pg_name (i := 1) sc__law_spots.nd rfl (Or.inl rfl))) (fun _ _ _ _ _ => pts_nil) (fun _ _ _ _ _ => (pe_tup (pa_cons (pe_op op_modN (pv 1) (pe_ix (ixTK (K := K) rfl) (pv 0) pe_int (fun _ _ => rfl))) (pa_cons (pe_op op_fdivN (pv 1) (pe_ix (ixTK (K := K) rfl) (pv 0) pe_int (fun _ _ => rfl))) pa_nil))))))), ?_⟩
    have ok := sm.ok
    have a1 := ok.a1
    have sz := sm.size
    have sz1 := sm.size1
    have szc := Lm.size_cast ok
    refine ⟨_, rfl, np, _, _, _, rfl, rfl, SqT.of hn, atI_nat (j := 0) rfl, _, rfl, np, _, _, _, rfl, rfl, SqT.of hn, atI_nat (j := 2) rfl, _, _, rfl, rfl, .inl ⟨by omega, by have := sm.a9; omega⟩, n.a * n.c, rfl, by omega, by omega, fun D hD => lc_range (lo := 0) (n := (n.a * n.c).toNat) (fun i H' => Same H H' ∧ ∃ ts : List Addr, H' D = some (.lst (ts.map .ref)) ∧ Pls H' ts ((Lm.spots n).take i)) ⟨same_new hD, [], upd_same, .nil⟩ (fun i H' hi q => ?_) (fun H' q => ?_)⟩
    · obtain ⟨s3, ts, hD3, hP⟩ := q
      have hi' : i < Lm.size n := hi
      have hn3 := s3 _ _ hn
      refine ⟨rfl, _, rfl, _, rfl, np, _, _, _, rfl, rfl, SqT.of hn3, atI_nat (j := 0) rfl, _, _, rfl, rfl, by omega, ?_⟩
      refine ⟨_, rfl, _, rfl, np, _, _, _, rfl, rfl, SqT.of hn3, atI_nat (j := 0) rfl, _, _, rfl, rfl, ⟨by omega, by have := sm.a9; omega⟩, by show 2 ≤ sizeLine; decide, fun u hu => ?_⟩
      have nuD : D ≠ u := ne_of_none hD3 hu
      have s4 := same_new (o := pl ((0 + (i : Int)).fmod n.a) ((0 + (i : Int)).fdiv n.a)) hu
      have tl := hP.length
      rw [List.length_take, Lm.spots_length] at tl
      have hsz : Lm.size n ≤ 81 := sm.sizeN
      refine ⟨_, s4 _ _ hD3, ?_, ?_⟩
      · rw [List.length_map]
        exact small1000 (by omega)
      have et : (Lm.spots n).take (i + 1) = (Lm.spots n).take i ++ [((i : Int) % n.a, (i : Int) / n.a)] := by
        rw [List.take_add_one, Lm.spots_at ok hi']; rfl
      refine ⟨same_upd (s3.trans s4) hD, ts ++ [u], by rw [upd_same, List.map_append]; rfl, ?_⟩
      rw [et]
      refine Pls.snoc (hP.imp fun t xs e => ?_) ?_
      · have : t ≠ D := ne_of e hD3 (by intro z; cases z)
        rw [upd_ne this]
        exact s4 _ _ e
      · rw [upd_ne nuD.symm, upd_same]
        show some (pl ((0 + (i : Int)).fmod n.a) ((0 + (i : Int)).fdiv n.a)) = _
        rw [show (0 + (i : Int)) = i from by omega, Int.fmod_eq_emod_of_nonneg (i : Int) (show 0 ≤ n.a by omega), Int.fdiv_eq_ediv_of_nonneg (i : Int) (show 0 ≤ n.a by omega)]
    · obtain ⟨s3, ts, hD3, hP⟩ := q
      refine k H' D ts s3 hD hD3 ?_
      rw [List.take_of_length_le (by rw [Lm.spots_length]; exact Nat.le_refl _)] at hP
      exact hP
theorem ok__law_seen (T : Tx K mg fa fd ca pa) : FnOk P w K mg base CX0 2 (fa 54) (fd 54) P__law_seen (sp_law_seen) := by
  refine T.f__law_seen.ok sc__law_seen (fun vs H Q E h => ?_) (fun cdv A outer s H vs Q E hr h => ?_)
  · obtain ⟨np, t, n, z, x, y, rfl, hn, sm, hz, ht, k⟩ := h; rfl
  · obtain ⟨np, t, n, z, x, y, rfl, hn, sm, hz, ht, k⟩ := h
    refine ⟨_, (pss_cons (ps_asg (pe_call (ok__law_low T) (hr.mono (by decide)) (by rfl) T.g__law_low T.f__law_low.kp T.b__law_low .nil pass0 (pa_cons (pv 0) (pa_cons (pv 2) pa_nil))) (pg_tup (by rfl) (pgs_cons (pg_name (i := 3) sc__law_seen.nd rfl (Or.inl rfl)) (pgs_cons (pg_name (i := 4) sc__law_seen.nd rfl (Or.inl rfl)) pgs_nil))))
      (pss_one (ps_ret (pe_ix ix_str (pv 1) (pe_op op_add (pe_op op_mul (pv 4) (pe_ix ix_tup (pv 0) pe_int (fun _ _ => rfl))) (pv 3)) (fun _ _ => rfl))))), ?_⟩
    have ok := sm.ok
    refine ⟨_, rfl, _, rfl, np, t, n, x, y, rfl, hn, sm, ht, fun u hu => ?_⟩
    have s1 := same_new (o := pl (Lm.lowX n x y) (Lm.lowY n y)) hu
    refine ⟨u, _, rfl, SqT.of upd_same, rfl, _, _, rfl, _, _, rfl, rfl, ?_⟩
    have h1 := Lm.lowX_nonneg ok x y
    have h2 := Lm.lowX_lt ok x y
    have h3 := Lm.lowY_nonneg ok y
    have h4 := Lm.lowY_lt ok y
    have c9 := sm.c9
    refine ⟨_, rfl, _, rfl, _, rfl, np, _, _, _, rfl, rfl, SqT.of (s1 _ _ hn), atI_nat (j := 0) rfl, _, _, rfl, rfl, .inl ⟨by omega, by omega⟩, _, rfl, _, _, rfl, rfl, ?_⟩
    have hi : Lm.ix n (Lm.lowX n x y) (Lm.lowY n y) < z.length := by rw [hz]; exact Lm.ix_lt ok h1 h2 h3 h4
    have ei := Lm.ix_cast ok h1 h3 (n := n)
    refine ⟨st z, Lm.lowY n y * n.a + Lm.lowX n x y, z[Lm.ix n (Lm.lowX n x y) (Lm.lowY n y)], rfl, rfl, ?_, ?_, ?_⟩
    · rw [st_len, hz]; exact Nat.le_trans sm.sizeN (by decide)
    · rw [← ei]
      exact atI_nat (by simp [hi])
    · have q := k _ s1
      have e : Lm.col n z x y = z[Lm.ix n (Lm.lowX n x y) (Lm.lowY n y)] := by
        unfold Lm.col
        rw [List.getD_eq_getElem?_getD, List.getElem?_eq_getElem hi]
        rfl
      rw [e] at q
      exact q
theorem ok__law_net (T : Tx K mg fa fd ca pa) : FnOk P w K mg base CX0 2 (fa 55) (fd 55) P__law_net (sp_law_net) := by
  refine T.f__law_net.ok sc__law_net (fun vs H Q E h => ?_) (fun cdv A outer s H vs Q E hr h => ?_)
  · obtain ⟨tp, sp, rfl, hT, k⟩ := h; rfl
  · obtain ⟨tp, sp, rfl, hT, k⟩ := h
    refine ⟨_, (pss_cons (ps_set (i := 2) sc__law_net.nd rfl (Or.inl rfl) (pe_op op_add pe_int (pe_call (ok__law_draw T) (hr.mono (by decide)) (by rfl) T.g__law_draw T.f__law_draw.kp T.b__law_draw .nil pass0 (pa_cons (pv 0) (pa_cons (pv 1) pa_nil)))))
      (pss_one (ps_ret (pe_tup (pa_cons (pv 2) (pa_cons (pe_call (ok__law_draw T) (hr.mono (by decide)) (by rfl) T.g__law_draw T.f__law_draw.kp T.b__law_draw .nil pass0 (pa_cons (pv 0) (pa_cons (pv 2) pa_nil))) (pa_cons (pe_op op_add pe_int (pe_call (ok__law_draw T) (hr.mono (by decide)) (by rfl) T.g__law_draw T.f__law_draw.kp T.b__law_draw .nil pass0 (pa_cons (pv 0) (pa_cons (pe_op op_fdivN (pv 1) (pv 2)) pa_nil)))) pa_nil))))))), ?_⟩
    refine ⟨_, rfl, _, rfl, tp, sp, 9, rfl, hT, by decide, by decide, fun r1 H1 l1 u1 b1 T1 => ?_⟩
    refine ⟨_, _, rfl, rfl, ?_⟩
    refine ⟨_, rfl, _, rfl, _, rfl, tp, sp, _, rfl, T1, by omega, by omega, fun r2 H2 l2 u2 b2 T2 => ?_⟩
    have q1 : (9 : Int).fdiv (1 + r1) = 9 / (1 + r1) := Int.fdiv_eq_ediv_of_nonneg _ (by omega)
    have q2 : 1 ≤ 9 / (1 + r1) := (Int.le_ediv_iff_mul_le (by omega)).mpr (by omega)
    have q3 : 9 / (1 + r1) ≤ 9 := Int.ediv_le_self _ (by omega)
    refine ⟨_, rfl, _, rfl, _, rfl, _, _, rfl, rfl, ⟨by omega, by omega⟩, tp, sp, _, rfl, T2, by omega, by omega, fun r3 H3 l3 u3 b3 T3 => ?_⟩
    refine ⟨_, _, rfl, rfl, by show 3 ≤ sizeLine; decide, fun u hu => ?_⟩
    have ntu : u ≠ tp := fun z => by
      obtain ⟨_, _, _, _, q, _⟩ := T3.ex
      rw [z, q] at hu
      cases hu
    have b13 := (b1.trans b2).trans b3
    exact k ⟨1 + r1, r2, 1 + r3⟩ u _ ⟨⟨by show 1 ≤ 1 + r1; omega, l2, u2, by show 1 ≤ 1 + r3; omega⟩, by show 1 + r1 ≤ 9; omega, by show 1 + r3 ≤ 9; omega⟩ (b13.trans (But.new hu)) (T3.same (same_new hu)) (b13.free hu (by simp [ntu])) upd_same
theorem ok__law_turned (T : Tx K mg fa fd ca pa) : FnOk P w K mg base CX0 1 (fa 56) (fd 56) P__law_turned (sp_law_turned) := by
  refine T.f__law_turned.ok sc__law_turned (fun vs H Q E h => ?_) (fun cdv A outer s H vs Q E hr h => ?_)
  · obtain ⟨t, x, y, rfl, ht, k⟩ := h; rfl
  · obtain ⟨t, x, y, rfl, ht, k⟩ := h
    refine ⟨_, (pss_cons (ps_asg (pv 1) (pg_tup (by rfl) (pgs_cons (pg_name (i := 2) sc__law_turned.nd rfl (Or.inl rfl)) (pgs_cons (pg_name (i := 3) sc__law_turned.nd rfl (Or.inl rfl)) pgs_nil))))
      (pss_cons (ps_if (pt_cmpR op_in_seq (pv 0) (pe_lst (pa_cons pe_str (pa_cons pe_str pa_nil))) rfl) (pss_one (ps_ret (pe_ifExp (pt_cmpR op_eq (pv 0) pe_str (nomark _)) (pe_tup (pa_cons (pv 2) (pa_cons (pv 3) pa_nil))) (pe_tup (pa_cons (pv 2) (pa_cons (pe_op op_sub pe_int (pv 3)) pa_nil)))))) pss_nil)
      (pss_cons (ps_if (pt_cmpR op_in_seq (pv 0) (pe_lst (pa_cons pe_str (pa_cons pe_str pa_nil))) rfl) (pss_one (ps_ret (pe_ifExp (pt_cmpR op_eq (pv 0) pe_str (nomark _)) (pe_tup (pa_cons (pe_op op_sub pe_int (pv 3)) (pa_cons (pv 2) pa_nil))) (pe_tup (pa_cons (pv 3) (pa_cons (pe_op op_sub pe_int (pv 2)) pa_nil)))))) pss_nil)
      (pss_cons (ps_if (pt_cmpR op_in_seq (pv 0) (pe_lst (pa_cons pe_str (pa_cons pe_str pa_nil))) rfl) (pss_one (ps_ret (pe_ifExp (pt_cmpR op_eq (pv 0) pe_str (nomark _)) (pe_tup (pa_cons (pe_op op_sub pe_int (pv 2)) (pa_cons (pe_op op_sub pe_int (pv 3)) pa_nil))) (pe_tup (pa_cons (pe_op op_sub pe_int (pv 2)) (pa_cons (pv 3) pa_nil)))))) pss_nil)
      (pss_one (ps_ret (pe_ifExp (pt_cmpR op_eq (pv 0) pe_str (nomark _)) (pe_tup (pa_cons (pv 3) (pa_cons (pv 2) pa_nil))) (pe_tup (pa_cons (pe_op op_sub pe_int (pv 3)) (pa_cons (pe_op op_sub pe_int (pv 2)) pa_nil)))))))))), ?_⟩
    refine ⟨_, rfl, t, _, rfl, SqT.of ht, rfl, _, _, rfl, _, _, rfl, rfl, ?_⟩
    refine ⟨_, rfl, by show 2 ≤ sizeLine; decide, fun D hD => ?_⟩
    refine ⟨D, _, rfl, .inl (SqL.of upd_same), rfl, rfl, true, congrArg V.bl (by decide +kernel), iteT ?_⟩
    refine ⟨_, rfl, rfl, true, congrArg V.bl (decide_eq_true rfl), iteT ?_⟩
    refine ⟨_, rfl, _, rfl, by show 2 ≤ sizeLine; decide, fun u hu => ?_⟩
    have s1 := same_new (o := HO.lst [V.str "none", V.str "flip"]) hD
    exact k _ u (s1.trans (same_new hu)) (s1.free hu) upd_same
theorem ok__law_carried (T : Tx K mg fa fd ca pa) : FnOk P w K mg base CX0 2 (fa 57) (fd 57) P__law_carried (sp_law_carried) := by
  refine T.f__law_carried.ok sc__law_carried (fun vs H Q E h => ?_) (fun cdv A outer s H vs Q E hr h => ?_)
  · obtain ⟨m, t, s, x, y, u, v, rfl, hm, hs, ht, k⟩ := h; rfl
  · obtain ⟨m, t, s, x, y, u, v, rfl, hm, hs, ht, k⟩ := h
    refine ⟨_, (pss_cons (ps_asg (pe_call (ok__law_turned T) (hr.mono (by decide)) (by rfl) T.g__law_turned T.f__law_turned.kp T.b__law_turned .nil pass0 (pa_cons (pe_ix ix_tup (pv 0) pe_int (fun _ _ => rfl)) (pa_cons (pv 1) pa_nil))) (pg_tup (by rfl) (pgs_cons (pg_name (i := 2) sc__law_carried.nd rfl (Or.inl rfl)) (pgs_cons (pg_name (i := 3) sc__law_carried.nd rfl (Or.inl rfl)) pgs_nil))))
      (pss_one (ps_ret (pe_tup (pa_cons (pe_op op_add (pv 2) (pe_ix ix_tup (pe_ix ix_tup (pv 0) pe_int (fun _ _ => rfl)) pe_int (fun _ _ => rfl))) (pa_cons (pe_op op_add (pv 3) (pe_ix ix_tup (pe_ix ix_tup (pv 0) pe_int (fun _ _ => rfl)) pe_int (fun _ _ => rfl))) pa_nil)))))), ?_⟩
    refine ⟨_, rfl, m, _, _, _, rfl, rfl, SqT.of hm, atI_nat (j := 0) rfl, _, rfl, t, x, y, rfl, ht, fun H1 p s1 np hp => ?_⟩
    refine ⟨p, _, rfl, SqT.of hp, rfl, _, _, rfl, _, _, rfl, rfl, ?_⟩
    refine ⟨_, rfl, _, rfl, m, _, _, _, rfl, rfl, SqT.of (s1 _ _ hm), atI_nat (j := 1) rfl, s, _, _, _, rfl, rfl, SqT.of (s1 _ _ hs), atI_nat (j := 0) rfl, _, _, rfl, rfl, ?_⟩
    refine ⟨_, rfl, _, rfl, m, _, _, _, rfl, rfl, SqT.of (s1 _ _ hm), atI_nat (j := 1) rfl, s, _, _, _, rfl, rfl, SqT.of (s1 _ _ hs), atI_nat (j := 1) rfl, _, _, rfl, rfl, by show 2 ≤ sizeLine; decide, fun q hq => ?_⟩
    exact k _ q (s1.trans (same_new hq)) (s1.free hq) upd_same
end
end Cp
end
section
set_option Elab.async false
set_option linter.all false
set_option maxRecDepth 100000
set_option maxHeartbeats 4000000
namespace Cp
open PySem PySem.Spec PyProof.Rows L2
def sp_law_divisor : Sp := fun vs H Q _ => ∃ a x y : Int, vs = [.int x, .int y] ∧ 1 ≤ a ∧ ((x = 0 ∧ y = a) ∨ (x = a ∧ y = 0)) ∧ Q (.int a) H
def sp_law_net_of : Sp := fun vs H Q _ => ∃ (l t1 t2 : Addr) (n : Lm.Nt), vs = [.ref l] ∧ H l = some (.lst [.ref t1, .ref t2]) ∧ H t1 = some (pl n.a 0) ∧ H t2 = some (pl n.b n.c) ∧ Sm n ∧ ∀ H' u, Same H H' → H u = none → H' u = some (nums n) → Q (.ref u) H'
section
variable {P : Program} {w : World} {K : PySem.W.Frag} {mg : Str → Option Value} {base : Heap} {fa : Nat → Addr} {fd : Nat → FuncData} {ca pa ea qa : Nat → Addr}
theorem ok__law_divisor (T : Tx K mg fa fd ca pa) : FnOk P w K mg base CX0 1 (fa 58) (fd 58) P__law_divisor (sp_law_divisor) := by
  refine T.f__law_divisor.ok sc__law_divisor (fun vs H Q E h => ?_) (fun cdv A outer s H vs Q E hr h => ?_)
  · obtain ⟨a, x, y, rfl, a1, hv, k⟩ := h; rfl
  · obtain ⟨a, x, y, rfl, a1, hv, k⟩ := h
    refine ⟨_, (pss_cons (ps_while PassesOwn.never (pt_cmpR op_ne (pv 1) pe_int (nomark _)) (pss_one (ps_par (i := 0) (j := 1) (by rfl) sc__law_divisor.nd rfl rfl (by decide) rfl rfl (pa_cons (pv 1) (pa_cons (pe_op op_modN (pv 0) (pv 1)) pa_nil)) (by rfl))))
      (pss_one (ps_ret (pe_callB call_abs (by rfl) T.z_abs (by decide +kernel) (pa_cons (pv 0) pa_nil))))), ?_⟩
    refine ⟨fun m σ H' => H' = H ∧ ((m = 1 ∧ σ = [some (.int 0), some (.int a)]) ∨ (m = 0 ∧ σ = [some (.int a), some (.int 0)])), ?_, ?_⟩
    · rcases hv with ⟨rfl, rfl⟩ | ⟨rfl, rfl⟩
      · exact ⟨1, rfl, .inl ⟨rfl, rfl⟩⟩
      · exact ⟨0, rfl, .inr ⟨rfl, rfl⟩⟩
    · rintro m σ H' ⟨rfl, ⟨rfl, rfl⟩ | ⟨rfl, rfl⟩⟩
      · refine ⟨_, rfl, rfl, true, congrArg V.bl ?_, iteT ⟨fun σ H1 => H1 = H' ∧ σ = [some (.int a), some (.int 0)], fun σ' H1 q => ⟨0, by omega, q.1, .inr ⟨rfl, q.2⟩⟩, ?_⟩⟩
        · rw [dec_int]
          have : (a == 0) = false := by simp; omega
          rw [this]; rfl
        refine ⟨_, rfl, _, rfl, _, rfl, _, _, rfl, rfl, by omega, _, _, rfl, rfl, ?_⟩
        show [some (V.int a), some (V.int ((0 : Int).fmod a))] = _
        rw [Int.zero_fmod]
      · refine ⟨_, rfl, rfl, false, congrArg V.bl rfl, iteF ?_⟩
        refine ⟨_, rfl, _, rfl, ?_⟩
        rw [if_neg (by omega)]
        exact k
theorem ok__law_net_of (T : Tx K mg fa fd ca pa) : FnOk P w K mg base CX0 2 (fa 59) (fd 59) P__law_net_of (sp_law_net_of) := by
  refine T.f__law_net_of.ok sc__law_net_of (fun vs H Q E h => ?_) (fun cdv A outer s H vs Q E hr h => ?_)
  · obtain ⟨l, t1, t2, n, rfl, hl, h1, h2, sm, k⟩ := h; rfl
  · obtain ⟨l, t1, t2, n, rfl, hl, h1, h2, sm, k⟩ := h
    refine ⟨_, (pss_cons (ps_asg (pe_tup (pa_cons pe_int (pa_cons (pe_tup (pa_cons pe_int (pa_cons pe_int pa_nil))) pa_nil))) (pg_tup (by rfl) (pgs_cons (pg_name (i := 1) sc__law_net_of.nd rfl (Or.inl rfl)) (pgs_cons (pg_name (i := 2) sc__law_net_of.nd rfl (Or.inl rfl)) pgs_nil))))
      (pss_cons (ps_for PassesOwn.never rfl (pi_list (pv 0)) (pg_name (i := 3) sc__law_net_of.nd rfl (Or.inl rfl)) (pss_cons (ps_set (i := 4) sc__law_net_of.nd rfl (Or.inl rfl) (pv 3))
      (pss_cons (ps_while PassesOwn.never (pt_cmpR op_ne (pe_ix ix_tup (pv 4) pe_int (fun _ _ => rfl)) pe_int (nomark _)) (pss_cons (ps_set (i := 5) sc__law_net_of.nd rfl (Or.inl rfl) (pe_op op_fdivN (pe_ix ix_tup (pv 2) pe_int (fun _ _ => rfl)) (pe_ix ix_tup (pv 4) pe_int (fun _ _ => rfl))))
      (pss_one (ps_par (i := 2) (j := 4) (by rfl) sc__law_net_of.nd rfl rfl (by decide) rfl rfl (pa_cons (pv 4) (pa_cons (pe_tup (pa_cons (pe_op op_sub (pe_ix ix_tup (pv 2) pe_int (fun _ _ => rfl)) (pe_op op_mul (pv 5) (pe_ix ix_tup (pv 4) pe_int (fun _ _ => rfl)))) (pa_cons (pe_op op_sub (pe_ix ix_tup (pv 2) pe_int (fun _ _ => rfl)) (pe_op op_mul (pv 5) (pe_ix ix_tup (pv 4) pe_int (fun _ _ => rfl)))) pa_nil))) pa_nil)) (by rfl)))))
      (pss_one (ps_set (i := 1) sc__law_net_of.nd rfl (Or.inl rfl) (pe_call (ok__law_divisor T) (hr.mono (by decide)) (by rfl) T.g__law_divisor T.f__law_divisor.kp T.b__law_divisor .nil pass0 (pa_cons (pv 1) (pa_cons (pe_ix ix_tup (pv 4) pe_int (fun _ _ => rfl)) pa_nil))))))))
      (pss_cons (ps_if (PW.pt (pw_or (pt_cmpR op_eq (pv 1) pe_int (nomark _)) (pw_or1 (pt_cmpR op_eq (pe_ix ix_tup (pv 2) pe_int (fun _ _ => rfl)) pe_int (nomark _))))) (pss_one (ps_ret pe_non)) pss_nil)
      (pss_one (ps_ret (pe_tup (pa_cons (pv 1) (pa_cons (pe_op op_modN (pe_op op_mul (pe_ix ix_tup (pv 2) pe_int (fun _ _ => rfl)) (pe_ix ix_list (pe_lst (pa_cons pe_int (pa_cons (pe_un un_neg pe_int) pa_nil))) (pe_callTy call_int1 (by rfl) T.z_int (by decide +kernel) (pa_cons (pe_cmpR op_lt (pe_ix ix_tup (pv 2) pe_int (fun _ _ => rfl)) pe_int (nomark _)) pa_nil)) (fun _ _ => rfl))) (pv 1)) (pa_cons (pe_callB call_abs (by rfl) T.z_abs (by decide +kernel) (pa_cons (pe_ix ix_tup (pv 2) pe_int (fun _ _ => rfl)) pa_nil)) pa_nil))))))))), ?_⟩
    have ok := sm.ok
    have a1 := ok.a1
    have c1 := ok.c1
    refine ⟨by show 2 ≤ sizeLine; decide, fun z hz => ⟨by show 2 ≤ sizeLine; decide, fun z2 hz2 => ⟨z2, _, rfl, SqT.of upd_same, rfl, _, _, rfl, _, _, rfl, rfl, ?_⟩⟩⟩
    have s1 := (same_new (o := pl 0 0) hz).trans (same_new (o := HO.tup [.int 0, .ref z]) hz2)
    have hz1 : (upd (upd H z (pl 0 0)) z2 (HO.tup [.int 0, .ref z])) z = some (pl 0 0) := by rw [upd_ne (ne_of_none upd_same hz2), upd_same]
    generalize (upd (upd H z (pl 0 0)) z2 (HO.tup [.int 0, .ref z])) = H1 at s1 hz1 ⊢
    refine ⟨_, rfl, l, rfl, ⟨_, SqL.of (s1 _ _ hl)⟩, for_list (K := K) (a := l) (xs := [.ref t1, .ref t2]) (fun i σ H' => Same H1 H' ∧ ((i = 0 ∧ ∃ c d e, σ = [some (.ref l), some (.int 0), some (.ref z), c, d, e]) ∨ (i = 1 ∧ ∃ c d e, σ = [some (.ref l), some (.int n.a), some (.ref z), c, d, e]) ∨ (i = 2 ∧ ∃ c d e, σ = [some (.ref l), some (.int n.a), some (.ref t2), c, d, e])))
      ⟨Same.refl _, .inl ⟨rfl, _, _, _, rfl⟩⟩ (fun i σ H' _ q => SqL.of (q.1 _ _ (s1 _ _ hl))) ?_ ?_⟩
    · rintro i x σ H' hx ⟨s2, ⟨rfl, c, d, e, rfl⟩ | ⟨rfl, c, d, e, rfl⟩ | ⟨rfl, c, d, e, rfl⟩⟩
      · cases hx
        have g1 := s2 _ _ (s1 _ _ h1)
        refine ⟨_, rfl, ?_⟩
        refine ⟨fun m σ H'' => m = 0 ∧ H'' = H' ∧ σ = [some (.ref l), some (.int 0), some (.ref z), some (.ref t1), some (.ref t1), e], ⟨0, rfl, rfl, rfl⟩, ?_⟩
        rintro m σ H'' ⟨rfl, rfl, rfl⟩
        refine ⟨_, rfl, t1, _, _, _, rfl, rfl, SqT.of g1, atI_nat (j := 1) rfl, rfl, false, congrArg V.bl rfl, iteF ?_⟩
        refine ⟨_, rfl, _, rfl, t1, _, _, _, rfl, rfl, SqT.of g1, atI_nat (j := 0) rfl, n.a, 0, n.a, rfl, a1, .inl ⟨rfl, rfl⟩, ?_⟩
        exact ⟨s2, .inr (.inl ⟨rfl, _, _, _, rfl⟩)⟩
      · cases hx
        have g2 := s2 _ _ (s1 _ _ h2)
        have gz := s2 _ _ hz1
        refine ⟨_, rfl, ?_⟩
        refine ⟨fun m σ H'' => Same H' H'' ∧ ((m = 1 ∧ σ = [some (.ref l), some (.int n.a), some (.ref z), some (.ref t2), some (.ref t2), e]) ∨ (m = 0 ∧ ∃ r f, H'' r = some (pl 0 0) ∧ σ = [some (.ref l), some (.int n.a), some (.ref t2), some (.ref t2), some (.ref r), f])), ⟨1, Same.refl _, .inl ⟨rfl, rfl⟩⟩, ?_⟩
        rintro m σ H'' ⟨s3, ⟨rfl, rfl⟩ | ⟨rfl, r, f, hr, rfl⟩⟩
        · have g3 := s3 _ _ g2
          have gz3 := s3 _ _ gz
          refine ⟨_, rfl, t2, _, _, _, rfl, rfl, SqT.of g3, atI_nat (j := 1) rfl, rfl, true, congrArg V.bl ?_, iteT ⟨fun σ' H4 => Same H'' H4 ∧ ∃ r f, H4 r = some (pl 0 0) ∧ σ' = [some (.ref l), some (.int n.a), some (.ref t2), some (.ref t2), some (.ref r), f], fun σ' H4 q => ⟨0, by omega, s3.trans q.1, .inr ⟨rfl, q.2⟩⟩, ?_⟩⟩
          · rw [dec_int]
            have : (n.c == 0) = false := by simp; omega
            rw [this]; rfl
          refine ⟨_, rfl, z, _, _, _, rfl, rfl, SqT.of gz3, atI_nat (j := 1) rfl, _, rfl, t2, _, _, _, rfl, rfl, SqT.of g3, atI_nat (j := 1) rfl, _, _, rfl, rfl, ⟨by omega, by have := sm.c9; omega⟩, ?_⟩
          refine ⟨_, rfl, _, rfl, z, _, _, _, rfl, rfl, SqT.of gz3, atI_nat (j := 0) rfl, _, rfl, _, rfl, t2, _, _, _, rfl, rfl, SqT.of g3, atI_nat (j := 0) rfl, _, _, rfl, rfl, .inr ⟨by have := ok.b0; omega, by have := ok.ba; have := sm.a9; omega⟩, _, _, rfl, rfl, ?_⟩
          refine ⟨_, rfl, z, _, _, _, rfl, rfl, SqT.of gz3, atI_nat (j := 1) rfl, _, rfl, _, rfl, t2, _, _, _, rfl, rfl, SqT.of g3, atI_nat (j := 1) rfl, _, _, rfl, rfl, .inr ⟨by omega, by have := sm.c9; omega⟩, _, _, rfl, rfl, by show 2 ≤ sizeLine; decide, fun r hr => ⟨_, _, rfl, ?_⟩⟩
          refine ⟨same_new hr, r, _, ?_, rfl⟩
          rw [upd_same]
          show some (pl (0 - (0 : Int).fdiv n.c * n.b) (0 - (0 : Int).fdiv n.c * n.c)) = _
          rw [Int.zero_fdiv]
          simp
        · have g3 := s3 _ _ g2
          refine ⟨_, rfl, r, _, _, _, rfl, rfl, SqT.of hr, atI_nat (j := 1) rfl, rfl, false, congrArg V.bl rfl, iteF ?_⟩
          refine ⟨_, rfl, _, rfl, r, _, _, _, rfl, rfl, SqT.of hr, atI_nat (j := 0) rfl, n.a, n.a, 0, rfl, a1, .inr ⟨rfl, rfl⟩, ?_⟩
          exact ⟨s2.trans s3, .inr (.inr ⟨rfl, _, _, _, rfl⟩)⟩
      · simp at hx
    · rintro σ H' ⟨s2, ⟨h, c, d, e, rfl⟩ | ⟨h, c, d, e, rfl⟩ | ⟨h, c, d, e, rfl⟩⟩
      · cases h
      · cases h
      · have s12 := s1.trans s2
        have g2 := s12 _ _ h2
        have da : (n.a == 0) = false := by simp; omega
        have dc : (n.c == 0) = false := by simp; omega
        refine ⟨_, rfl, rfl, false, congrArg V.bl (by rw [dec_int, da]), ?_⟩
        refine iteF ?_
        refine ⟨_, rfl, t2, _, _, _, rfl, rfl, SqT.of g2, atI_nat (j := 1) rfl, rfl, false, congrArg V.bl (by rw [dec_int, dc]), iteF ?_⟩
        refine ⟨_, rfl, _, rfl, t2, _, _, _, rfl, rfl, SqT.of g2, atI_nat (j := 0) rfl, _, rfl, by show 2 ≤ sizeLine; decide, fun M hM => ?_⟩
        have s3 := same_new (o := HO.lst [V.int 1, .int (-1)]) hM
        have g3 := s3 _ _ g2
        refine ⟨_, rfl, t2, _, _, _, rfl, rfl, SqT.of g3, atI_nat (j := 1) rfl, _, _, rfl, rfl, .inr ⟨false, congrArg (fun b => [V.bl b]) (decide_eq_false (by omega)), ?_⟩⟩
        refine ⟨M, _, _, _, rfl, rfl, SqL.of upd_same, atI_nat (j := 0) rfl, _, _, rfl, rfl, .inr ⟨by decide, by decide⟩, _, rfl, _, _, rfl, rfl, by omega, ?_⟩
        refine ⟨_, rfl, t2, _, _, _, rfl, rfl, SqT.of g3, atI_nat (j := 1) rfl, _, rfl, by show 3 ≤ sizeLine; decide, fun u hu => ?_⟩
        refine k _ u ((s12.trans s3).trans (same_new hu)) ((s12.trans s3).free hu) ?_
        rw [upd_same]
        show some (HO.tup [.int n.a, .int (Int.fmod (n.b * 1) n.a), .int (if n.c < 0 then -n.c else n.c)]) = some (nums n)
        rw [if_neg (by omega), Int.mul_one, Int.fmod_eq_emod_of_nonneg _ (by omega), Int.emod_eq_of_lt ok.b0 ok.ba]
end
end Cp
end
section
set_option Elab.async false
set_option linter.all false
set_option maxRecDepth 100000
set_option maxHeartbeats 4000000
namespace Cp
open PySem PySem.Spec PyProof.Rows L2
theorem st_app (a b : List Nat) : st a ++ st b = st (a ++ b) := by
  refine str_ext ?_
  show ((st a).cps ++ (st b).cps).toList = _
  simp
theorem cut_take (z : List Nat) (k : Nat) (h : k ≤ z.length) : cutS (st z) none (some (k : Int)) = st (z.take k) := by
  unfold cutS
  rw [HT.sIx_none, HT.sIx_nat]
  refine str_ext ?_
  show (((st z).cps.toList.drop 0).take (min k (st z).length - 0)) = z.take k
  rw [st_len, Nat.min_eq_left h]
  rfl
theorem cut_drop (z : List Nat) (k : Nat) (h : k ≤ z.length) : cutS (st z) (some (k : Int)) none = st (z.drop k) := by
  unfold cutS
  rw [HT.sIx_none, HT.sIx_nat]
  refine str_ext ?_
  show (((st z).cps.toList.drop (min k (st z).length)).take ((st z).length - min k (st z).length)) = z.drop k
  rw [st_len, Nat.min_eq_left h]
  show ((z.drop k).take _) = _
  rw [List.take_of_length_le (by rw [List.length_drop]; exact Nat.le_refl _)]
theorem low_per {n : Lm.Nt} (ok : n.Ok) (z : List Nat) (u v x y : Int) : Lm.moved (Lm.col n z) u v (Lm.lowX n x y) (Lm.lowY n y) = Lm.moved (Lm.col n z) u v x y := by
  obtain ⟨i, j, hx, hy⟩ := Lm.low_split n x y
  have k := Lm.moved_kept (u := u) (v := v) (Lm.col_kept ok z i j) (Lm.lowX n x y) (Lm.lowY n y)
  rw [← hx, ← hy] at k
  exact k.symm
theorem low_move {n : Lm.Nt} (ok : n.Ok) (u v : Int) {a b : Int} (h1 : 0 ≤ a) (h2 : a < n.a) (h3 : 0 ≤ b) (h4 : b < n.c) :
    Lm.lowX n (Lm.lowX n (a - u) (b - v) + u) (Lm.lowY n (b - v) + v) = a ∧ Lm.lowY n (Lm.lowY n (b - v) + v) = b := by
  obtain ⟨i, j, hx, hy⟩ := Lm.low_split n (a - u) (b - v)
  have e1 : Lm.lowX n (a - u) (b - v) + u = a + ((-i) * n.a + (-j) * n.b) := by rw [Int.neg_mul, Int.neg_mul]; omega
  have e2 : Lm.lowY n (b - v) + v = b + (-j) * n.c := by rw [Int.neg_mul]; omega
  obtain ⟨q1, q2⟩ := Lm.low_shift ok a b (-i) (-j)
  obtain ⟨q3, q4⟩ := Lm.low_in ok h1 h2 h3 h4
  rw [e1, e2, q1, q2]
  exact ⟨q3, q4⟩
theorem putK_len (kvs : List (List Key × V)) (k : List Key) (v : V) : (putK kvs k v).length ≤ kvs.length + 1 := by
  unfold putK
  split
  · rw [List.length_map]; omega
  · rw [List.length_append]; exact Nat.le_refl _
abbrev ky (a b : Int) : List Key := [.inl a, .inl b]
def sp_law_painted : Sp := fun vs H Q _ => ∃ (np t u : Addr) (n : Lm.Nt) (z : List Nat) (x y : Int) (c : Nat), vs = [.ref np, .str (st z), .ref t] ∧ H np = some (nums n) ∧ Sm n ∧ z.length = Lm.size n ∧ H t = some (.tup [.str "paint", .ref u, .str (sg c)]) ∧ H u = some (pl x y) ∧
  ∀ H', Same H H' → Q (.str (st (paintT n z x y c))) H'
def sp_law_image : Sp := fun vs H Q _ => ∃ (np m s : Addr) (n : Lm.Nt) (z : List Nat) (u v : Int), vs = [.ref np, .str (st z), .ref m] ∧ H np = some (nums n) ∧ Sm n ∧ z.length = Lm.size n ∧ H m = some (.tup [.str "none", .ref s]) ∧ H s = some (pl u v) ∧
  ∀ H' r q, Same H H' → H' r = some (.tup [.ref q, .str (st (Lm.textOf n (Lm.moved (Lm.col n z) u v)))]) → Q (.ref r) H'
section
variable {P : Program} {w : World} {K : PySem.W.Frag} {mg : Str → Option Value} {base : Heap} {fa : Nat → Addr} {fd : Nat → FuncData} {ca pa ea qa : Nat → Addr}
theorem ok__law_painted (T : Tx K mg fa fd ca pa) : FnOk P w K mg base CX0 2 (fa 61) (fd 61) P__law_painted (sp_law_painted) := by
  refine T.f__law_painted.ok sc__law_painted (fun vs H Q E h => ?_) (fun cdv A outer s H vs Q E hr h => ?_)
  · obtain ⟨np, t, u, n, z, x, y, c, rfl, hn, sm, hz, ht, hu, k⟩ := h; rfl
  · obtain ⟨np, t, u, n, z, x, y, c, rfl, hn, sm, hz, ht, hu, k⟩ := h
    refine ⟨_, (pss_cons (ps_set (i := 3) sc__law_painted.nd rfl (Or.inl rfl) (pe_call (ok__law_low T) (hr.mono (by decide)) (by rfl) T.g__law_low T.f__law_low.kp T.b__law_low .nil pass0 (pa_cons (pv 0) (pa_cons (pe_ix ix_tup (pv 2) pe_int (fun _ _ => rfl)) pa_nil))))
      (pss_cons (ps_set (i := 4) sc__law_painted.nd rfl (Or.inl rfl) (pe_op op_add (pe_op op_mul (pe_ix ix_tup (pv 3) pe_int (fun _ _ => rfl)) (pe_ix ix_tup (pv 0) pe_int (fun _ _ => rfl))) (pe_ix ix_tup (pv 3) pe_int (fun _ _ => rfl))))
      (pss_one (ps_ret (pe_op op_add_str (pe_op op_add_str (pe_slice sl_str (pv 1) po_none (po_some (pv 4))) (pe_ix ix_tup (pv 2) pe_int (fun _ _ => rfl))) (pe_slice sl_str (pv 1) (po_some (pe_op op_add (pv 4) pe_int)) po_none)))))), ?_⟩
    have ok := sm.ok
    refine ⟨_, rfl, _, rfl, t, _, _, _, rfl, rfl, SqT.of ht, atI_nat (j := 1) rfl, np, u, n, x, y, rfl, hn, sm, hu, fun v hv => ?_⟩
    have s1 := same_new (o := pl (Lm.lowX n x y) (Lm.lowY n y)) hv
    have hv1 : upd H v (pl (Lm.lowX n x y) (Lm.lowY n y)) v = some (pl (Lm.lowX n x y) (Lm.lowY n y)) := upd_same
    generalize upd H v (pl (Lm.lowX n x y) (Lm.lowY n y)) = H1 at s1 hv1 ⊢
    have h1 := Lm.lowX_nonneg ok x y
    have h2 := Lm.lowX_lt ok x y
    have h3 := Lm.lowY_nonneg ok y
    have h4 := Lm.lowY_lt ok y
    have c9 := sm.c9
    have hi : Lm.ix n (Lm.lowX n x y) (Lm.lowY n y) < z.length := by rw [hz]; exact Lm.ix_lt ok h1 h2 h3 h4
    have ei := Lm.ix_cast ok h1 h3 (n := n)
    have szN := sm.sizeN
    refine ⟨_, rfl, v, _, _, _, rfl, rfl, SqT.of hv1, atI_nat (j := 1) rfl, _, rfl, np, _, _, _, rfl, rfl, SqT.of (s1 _ _ hn), atI_nat (j := 0) rfl, _, _, rfl, rfl, .inl ⟨by omega, by omega⟩, _, rfl, v, _, _, _, rfl, rfl, SqT.of hv1, atI_nat (j := 0) rfl, _, _, rfl, rfl, ?_⟩
    have hzl : (st z).length ≤ sizeLine := by rw [st_len, hz]; exact Nat.le_trans szN (by decide)
    refine ⟨_, rfl, _, rfl, _, rfl, st z, rfl, hzl, ?_⟩
    rw [← ei, cut_take z _ (Nat.le_of_lt hi)]
    refine ⟨_, rfl, t, _, _, _, rfl, rfl, SqT.of (s1 _ _ ht), atI_nat (j := 2) rfl, _, _, rfl, rfl, ?_, ?_⟩
    · rw [st_len, List.length_take]
      show _ + 1 ≤ sizeLine
      exact Nat.le_of_lt (small1000 (by omega))
    rw [show (sg c) = st [c] from rfl, st_app]
    refine ⟨_, rfl, _, rfl, _, _, rfl, rfl, _, rfl, st z, rfl, hzl, ?_⟩
    rw [show Lm.lowY n y * n.a + Lm.lowX n x y + 1 = ((Lm.ix n (Lm.lowX n x y) (Lm.lowY n y) + 1 : Nat) : Int) from by omega, cut_drop z _ hi]
    refine ⟨_, _, rfl, rfl, ?_, ?_⟩
    · rw [st_len, st_len, List.length_append, List.length_take, List.length_drop]
      show _ + 1 + _ ≤ sizeLine
      exact Nat.le_of_lt (small1000 (by omega))
    rw [st_app, Lm.set_cut z _ c hi]
    exact k _ s1
theorem ok__law_image (T : Tx K mg fa fd ca pa) : FnOk P w K mg base CX0 3 (fa 60) (fd 60) P__law_image (sp_law_image) := by
  refine T.f__law_image.ok sc__law_image (fun vs H Q E h => ?_) (fun cdv A outer s H vs Q E hr h => ?_)
  · obtain ⟨np, m, s, n, z, u, v, rfl, hn, sm, hz, hm, hs, k⟩ := h; rfl
  · obtain ⟨np, m, s, n, z, u, v, rfl, hn, sm, hz, hm, hs, k⟩ := h
    refine ⟨_, (pss_cons (ps_set (i := 3) sc__law_image.nd rfl (Or.inl rfl) (pe_call (ok__law_net_of T) (hr.mono (by decide)) (by rfl) T.g__law_net_of T.f__law_net_of.kp T.b__law_net_of .nil pass0 (pa_cons (pe_lst (pa_cons (pe_call (ok__law_turned T) (hr.mono (by decide)) (by rfl) T.g__law_turned T.f__law_turned.kp T.b__law_turned .nil pass0 (pa_cons (pe_ix ix_tup (pv 2) pe_int (fun _ _ => rfl)) (pa_cons (pe_tup (pa_cons (pe_ix ix_tup (pv 0) pe_int (fun _ _ => rfl)) (pa_cons pe_int pa_nil))) pa_nil))) (pa_cons (pe_call (ok__law_turned T) (hr.mono (by decide)) (by rfl) T.g__law_turned T.f__law_turned.kp T.b__law_turned .nil pass0 (pa_cons (pe_ix ix_tup (pv 2) pe_int (fun _ _ => rfl)) (pa_cons (pe_tup (pa_cons (pe_ix ix_tup (pv 0) pe_int (fun _ _ => rfl)) (pa_cons (pe_ix ix_tup (pv 0) pe_int (fun _ _ => rfl)) pa_nil))) pa_nil))) pa_nil))) pa_nil)))
      (pss_cons (ps_set (i := 4) sc__law_image.nd rfl (Or.inr rfl) pe_dnewT)
      (pss_cons (ps_for PassesOwn.never rfl (pi_list (pe_call (ok__law_spots T) (hr.mono (by decide)) (by rfl) T.g__law_spots T.f__law_spots.kp T.b__law_spots .nil pass0 (pa_cons (pv 0) pa_nil))) (pg_name (i := 5) sc__law_image.nd rfl (Or.inl rfl)) (pss_one (ps_asg (pe_call (ok__law_seen T) (hr.mono (by decide)) (by rfl) T.g__law_seen T.f__law_seen.kp T.b__law_seen .nil pass0 (pa_cons (pv 0) (pa_cons (pv 1) (pa_cons (pv 5) pa_nil)))) (pg_sub (pv 4) (pe_call (ok__law_low T) (hr.mono (by decide)) (by rfl) T.g__law_low T.f__law_low.kp T.b__law_low .nil pass0 (pa_cons (pv 3) (pa_cons (pe_call (ok__law_carried T) (hr.mono (by decide)) (by rfl) T.g__law_carried T.f__law_carried.kp T.b__law_carried .nil pass0 (pa_cons (pv 2) (pa_cons (pv 5) pa_nil))) pa_nil))) (set_dict (hu_of hr))))))
      (pss_one (ps_ret (pe_tup (pa_cons (pv 3) (pa_cons (pe_join pe_str (pe_lc (own := [("_law_spot", 5)]) (by rfl) sc__law_image.nd (pi_list (pe_call (ok__law_spots T) (hr.mono (by decide)) (by rfl) T.g__law_spots T.f__law_spots.kp T.b__law_spots .nil pass0 (pa_cons (pv 3) pa_nil))) (blkOk_by (own := [("_law_spot", 5)]) (N := N__law_image) (sc := defScope s__law_image) (by decide +kernel)) (fun _ _ _ _ _ => (pg_name (i := 5) sc__law_image.nd rfl (Or.inl rfl))) (fun _ _ _ _ _ => pts_nil) (fun _ _ _ _ _ => (pe_dget (hu_of hr) (pv 4) (pv 5) (fun _ _ => rfl))))) pa_nil)))))))), ?_⟩
    have ok := sm.ok
    have szN := sm.sizeN
    refine ⟨_, rfl, m, _, _, _, rfl, rfl, SqT.of hm, atI_nat (j := 0) rfl, _, rfl, np, _, _, _, rfl, rfl, SqT.of hn, atI_nat (j := 0) rfl, by show 2 ≤ sizeLine; decide, fun t1 ht1 => ⟨t1, n.a, 0, rfl, upd_same, fun H1 q1 s1' nq1 hq1 => ?_⟩⟩
    have s1 := (same_new (o := pl n.a 0) ht1).trans s1'
    refine ⟨_, rfl, m, _, _, _, rfl, rfl, SqT.of (s1 _ _ hm), atI_nat (j := 0) rfl, _, rfl, np, _, _, _, rfl, rfl, SqT.of (s1 _ _ hn), atI_nat (j := 1) rfl, _, rfl, np, _, _, _, rfl, rfl, SqT.of (s1 _ _ hn), atI_nat (j := 2) rfl, by show 2 ≤ sizeLine; decide, fun t2 ht2 => ⟨t2, n.b, n.c, rfl, upd_same, fun H2 q2 s2' nq2 hq2 => ?_⟩⟩
    have s2 := (same_new (o := pl n.b n.c) ht2).trans s2'
    refine ⟨by show 2 ≤ sizeLine; decide, fun l hl => ⟨l, q1, q2, n, rfl, upd_same, ?_, ?_, sm, fun H3 g s3' ng hg => ?_⟩⟩
    · rw [upd_ne (ne_of_none (s2 _ _ hq1) hl)]; exact s2 _ _ hq1
    · rw [upd_ne (ne_of_none hq2 hl)]; exact hq2
    have s3 := (s1.trans s2).trans ((same_new (o := HO.lst [.ref q1, .ref q2]) hl).trans s3')
    intro D hD
    have s4 := s3.trans (same_new (o := HO.dT []) hD)
    have hg4 := (same_new (o := HO.dT []) hD) _ _ hg
    have hD4 : upd H3 D (HO.dT []) D = some (HO.dT []) := upd_same
    generalize upd H3 D (HO.dT []) = H4 at s4 hg4 hD4 ⊢
    refine ⟨_, rfl, np, n, rfl, s4 _ _ hn, sm, fun H5 L ts s5 hL0 hL hP => ?_⟩
    have hn5 := s5 _ _ (s4 _ _ hn)
    have hm5 := s5 _ _ (s4 _ _ hm)
    have hs5 := s5 _ _ (s4 _ _ hs)
    have hg5 := s5 _ _ hg4
    have hD5 := s5 _ _ hD4
    have LD : L ≠ D := ne_of hL hD5 (by intro z; cases z)
    have bb : ∀ {H' : Hp} {b : Addr} {xs : List V}, But [D] H5 H' → H5 b = some (.tup xs) → H' b = some (.tup xs) := fun {H' b xs} k e => k _ _ e fun z => by rw [List.mem_singleton.mp z, hD5] at e; cases e
    refine ⟨L, rfl, ⟨_, SqL.of hL⟩, for_list (K := K) (a := L) (xs := ts.map .ref) (fun i σ H' => (∃ c, σ = [some (.ref np), some (.str (st z)), some (.ref m), some (.ref g), some (.ref D), c]) ∧ But [D] H5 H' ∧ ∃ kvs, H' D = some (.dT kvs) ∧ kvs.length ≤ i ∧
        (∀ a b w, valV kvs (ky a b) = some w → w = .str (sg (Lm.moved (Lm.col n z) u v a b))) ∧ ∀ j q, j < i → (Lm.spots n)[j]? = some q → (valV kvs (ky (Lm.lowX n (q.1 + u) (q.2 + v)) (Lm.lowY n (q.2 + v)))).isSome = true)
      ⟨⟨_, rfl⟩, But.refl, [], hD5, Nat.le_refl _, (fun a b w h => by have h' : (none : Option V) = some w := h; cases h'), fun j q hj => absurd hj (by omega)⟩ (fun i σ H' _ q => SqL.of (q.2.1 _ _ hL (by simp [LD]))) ?_ ?_⟩
    · rintro i x σ H' hx ⟨⟨c, rfl⟩, b5, kvs, hDk, hlen, hval, hdom⟩
      obtain ⟨t0, ht0, rfl⟩ : ∃ t0, ts[i]? = some t0 ∧ x = V.ref t0 := by
        rw [List.getElem?_map] at hx
        cases e : ts[i]? with
        | none => rw [e] at hx; cases hx
        | some z => rw [e] at hx; exact ⟨z, rfl, (Option.some.inj hx).symm⟩
      obtain ⟨q0, hq0, hpl⟩ := hP.get ht0
      have hi : i < Lm.size n := by
        have := (List.getElem?_eq_some_iff.mp hq0).1
        rw [Lm.spots_length] at this
        exact this
      refine ⟨_, rfl, _, rfl, _, rfl, np, t0, n, z, q0.1, q0.2, rfl, bb b5 hn5, sm, hz, bb b5 hpl, fun H6 s6 => ?_⟩
      refine ⟨_, rfl, _, rfl, _, rfl, _, rfl, m, t0, s, q0.1, q0.2, u, v, rfl, s6 _ _ (bb b5 hm5), s6 _ _ (bb b5 hs5), s6 _ _ (bb b5 hpl), fun H7 q s7 nq hq => ?_⟩
      refine ⟨g, q, n, _, _, rfl, s7 _ _ (s6 _ _ (bb b5 hg5)), sm, hq, fun r hr => ?_⟩
      have s67 := s6.trans s7
      have s8 := same_new (o := pl (Lm.lowX n (q0.1 + u) (q0.2 + v)) (Lm.lowY n (q0.2 + v))) hr
      have hD8 := s8 _ _ (s67 _ _ hDk)
      refine ⟨D, _, rfl, DPut.t (k := ky (Lm.lowX n (q0.1 + u) (q0.2 + v)) (Lm.lowY n (q0.2 + v))) hD8 upd_same (small1000 (by omega)), ?_⟩
      have hval0 : Lm.moved (Lm.col n z) u v (Lm.lowX n (q0.1 + u) (q0.2 + v)) (Lm.lowY n (q0.2 + v)) = Lm.col n z q0.1 q0.2 := by
        rw [low_per ok]
        show Lm.col n z (q0.1 + u - u) (q0.2 + v - v) = _
        rw [Int.add_sub_cancel, Int.add_sub_cancel]
      refine ⟨⟨_, rfl⟩, ((b5.trans (But.of (s67.trans s8))).put (.inl (by simp))), _, upd_same, ?_, fun a b w h => ?_, fun j q1 hj hq1 => ?_⟩
      · exact Nat.le_trans (putK_len _ _ _) (by omega)
      · rw [valV_put] at h
        by_cases e : ky a b = ky (Lm.lowX n (q0.1 + u) (q0.2 + v)) (Lm.lowY n (q0.2 + v))
        · rw [if_pos e] at h
          injection e with e1 e2
          injection e1 with e1
          injection e2 with e2 _
          injection e2 with e2
          rw [e1, e2, hval0]
          exact (Option.some.inj h).symm
        · rw [if_neg e] at h
          exact hval a b w h
      · rw [valV_put]
        by_cases e : ky (Lm.lowX n (q1.1 + u) (q1.2 + v)) (Lm.lowY n (q1.2 + v)) = ky (Lm.lowX n (q0.1 + u) (q0.2 + v)) (Lm.lowY n (q0.2 + v))
        · rw [if_pos e]; rfl
        · rw [if_neg e]
          rcases Nat.lt_succ_iff_lt_or_eq.mp hj with h | h
          · exact hdom j q1 h hq1
          · subst h
            rw [hq0] at hq1
            cases hq1
            exact absurd rfl e
    · rintro σ H' ⟨⟨c, rfl⟩, b5, kvs, hDk, hlen, hval, hdom⟩
      refine ⟨_, rfl, ⟨_, rfl⟩, _, rfl, g, n, rfl, bb b5 hg5, sm, fun H8 L2 ts2 s8 hL20 hL2 hP2 => ?_⟩
      have sz : (Lm.textOf n (Lm.moved (Lm.col n z) u v)).length = Lm.size n := Lm.textOf_length _ _
      refine ⟨L2, rfl, ⟨_, SqL.of hL2⟩, fun E hE => lc_list (K := K) (a := L2) (xs := ts2.map .ref) (fun i H' => Same H8 H' ∧ H' E = some (.lst ((((Lm.textOf n (Lm.moved (Lm.col n z) u v)).take i).map sg).map V.str))) ⟨same_new hE, upd_same⟩ (fun i H' _ q => SqL.of (q.1 _ _ hL2)) (fun i v0 H9 hi qq => ?_) (fun H9 qq => ?_)⟩
      · obtain ⟨t0, ht0, rfl⟩ : ∃ t0, ts2[i]? = some t0 ∧ v0 = V.ref t0 := by
          rw [List.getElem?_map] at hi
          cases e : ts2[i]? with
          | none => rw [e] at hi; cases hi
          | some z => rw [e] at hi; exact ⟨z, rfl, (Option.some.inj hi).symm⟩
        obtain ⟨q0, hq0, hpl⟩ := hP2.get ht0
        obtain ⟨s9, hLE⟩ := qq
        have hi8 : i < Lm.size n := by
          have := (List.getElem?_eq_some_iff.mp hq0).1
          rw [Lm.spots_length] at this
          exact this
        have hq0' := hq0
        rw [Lm.spots_at ok hi8] at hq0'
        have eq0 := Option.some.inj hq0'
        obtain ⟨i1, i2, i3, i4⟩ := Lm.spot_in ok hi8
        have e1 : q0.1 = (i : Int) % n.a := by rw [← eq0]
        have e2 : q0.2 = (i : Int) / n.a := by rw [← eq0]
        rw [← e1] at i1 i2
        rw [← e2] at i3 i4
        obtain ⟨m1, m2⟩ := low_move ok u v i1 i2 i3 i4
        have x1 := Lm.lowX_nonneg ok (q0.1 - u) (q0.2 - v)
        have x2 := Lm.lowX_lt ok (q0.1 - u) (q0.2 - v)
        have x3 := Lm.lowY_nonneg ok (q0.2 - v)
        have x4 := Lm.lowY_lt ok (q0.2 - v)
        have jlt := Lm.ix_lt ok x1 x2 x3 x4
        have jat := Lm.spots_at ok jlt
        obtain ⟨j1, j2⟩ := Lm.spot_ix ok x1 x2 x3
        rw [j1, j2] at jat
        have hs0 := hdom _ _ (by rw [List.length_map, hP.length, Lm.spots_length]; exact jlt) jat
        have m1' : Lm.lowX n (Lm.lowX n (q0.1 - u) (q0.2 - v) + u) (Lm.lowY n (q0.2 - v) + v) = q0.1 := m1
        have m2' : Lm.lowY n (Lm.lowY n (q0.2 - v) + v) = q0.2 := m2
        dsimp only at hs0
        rw [m1', m2'] at hs0
        obtain ⟨w0, hw0⟩ := Option.isSome_iff_exists.mp hs0
        have hw1 := hval _ _ _ hw0
        subst hw1
        have hD9 := s9 _ _ (s8 _ _ hDk)
        have hp9 := s9 _ _ hpl
        have dg := DGet.t (k := ky q0.1 q0.2) hD9 hp9
        rw [hw0] at dg
        have et : (Lm.textOf n (Lm.moved (Lm.col n z) u v)).take (i + 1) = (Lm.textOf n (Lm.moved (Lm.col n z) u v)).take i ++ [Lm.moved (Lm.col n z) u v q0.1 q0.2] := by
          rw [List.take_add_one]
          unfold Lm.textOf
          rw [List.getElem?_map, hq0]
          rfl
        refine ⟨rfl, _, rfl, _, rfl, D, _, rfl, dg, _, hLE, ?_, same_upd s9 hE, ?_⟩
        · rw [List.length_map, List.length_map, List.length_take, sz]
          exact small1000 (by omega)
        · rw [upd_same, et, List.map_append, List.map_append]
          rfl
      · obtain ⟨s9, hLE⟩ := qq
        rw [List.length_map, hP2.length, Lm.spots_length, ← sz, List.take_length] at hLE
        refine ⟨_, E, _, rfl, rfl, .inl (SqL.of hLE), ?_, ?_⟩
        · rw [join_sum, sz, List.length_map, sz]
          have e0 : (Str.ofString "").length = 0 := by decide +kernel
          rw [e0]
          omega
        · rw [TL.join_eq, join_sg]
          refine ⟨by show 2 ≤ sizeLine; decide, fun r hr => ?_⟩
          have sall : Same H H9 := fun b o eb => s9 _ _ (s8 _ _ (b5 _ _ (s5 _ _ (s4 _ _ eb)) fun z => by
            rw [List.mem_singleton.mp z, s3.free hD] at eb
            cases eb))
          exact k _ r g (same_upd sall (sall.free hr)) upd_same
end
end Cp
end
section
set_option Elab.async false
set_option linter.all false
set_option maxRecDepth 100000
set_option maxHeartbeats 4000000
namespace Cp
open PySem PySem.Spec PyProof.Rows L2
def sp_law_behind : Sp := fun vs H Q _ => ∃ (np l : Addr) (n : Lm.Nt) (z : List Nat) (us : List Addr) (as : List Act), vs = [.ref np, .str (st z), .ref l] ∧ H np = some (nums n) ∧ Sm n ∧ z.length = Lm.size n ∧ (∀ c ∈ z, Ltr c) ∧ H l = some (.lst (us.map .ref)) ∧ Paired (fun u a => IsAct H u a) us as ∧ (∀ a ∈ as, a ≠ .bad) ∧
  ∀ H' z', Same H H' → z'.length = Lm.size n → (∀ c ∈ z', Ltr c) → Lm.col n z' = as.foldl (stepA n) (Lm.col n z) → Q (.str (st z')) H'
def sp_law_some : Sp := fun vs H Q _ => ∃ (tp sp : Addr), vs = [.ref tp] ∧ TapeAt H tp sp ∧ ∀ a H' t, But [tp] H H' → TapeAt H' tp sp → H t = none → IsAct H' t a → a ≠ .bad → Q (.ref t) H'
theorem col_mem {n : Lm.Nt} (ok : n.Ok) {z : List Nat} (h : z.length = Lm.size n) (x y : Int) : Lm.col n z x y ∈ z := by
  have hi : Lm.ix n (Lm.lowX n x y) (Lm.lowY n y) < z.length := by rw [h]; exact Lm.ix_lt ok (Lm.lowX_nonneg ok x y) (Lm.lowX_lt ok x y) (Lm.lowY_nonneg ok y) (Lm.lowY_lt ok y)
  unfold Lm.col
  rw [List.getD_eq_getElem?_getD, List.getElem?_eq_getElem hi]
  exact List.getElem_mem hi
theorem image_ltr {n : Lm.Nt} (ok : n.Ok) {z : List Nat} (h : z.length = Lm.size n) (hl : ∀ c ∈ z, Ltr c) (u v : Int) : ∀ c ∈ Lm.textOf n (Lm.moved (Lm.col n z) u v), Ltr c := by
  intro c hc
  unfold Lm.textOf at hc
  obtain ⟨p, _, rfl⟩ := List.mem_map.mp hc
  exact hl _ (col_mem ok h _ _)
theorem paint_ltr {n : Lm.Nt} {z : List Nat} {x y : Int} {c : Nat} (hl : ∀ c ∈ z, Ltr c) (hc : Ltr c) : ∀ d ∈ paintT n z x y c, Ltr d := by
  intro d hd
  unfold paintT at hd
  rcases List.mem_or_eq_of_mem_set hd with h | h
  · exact hl d h
  · rw [h]; exact hc
theorem TapeAt.ne_new {H : Hp} {tp sp u : Addr} (h : TapeAt H tp sp) (hu : H u = none) : u ≠ tp := fun z => by
  obtain ⟨_, _, _, _, q, _⟩ := h.ex
  rw [z, q] at hu
  cases hu
theorem TapeAt.ne_tup {H : Hp} {tp sp u : Addr} {xs : List V} (h : TapeAt H tp sp) (hu : H u = some (.tup xs)) : u ≠ tp := fun z => by
  obtain ⟨_, _, _, _, q, _⟩ := h.ex
  rw [z, q] at hu
  cases hu
theorem abz_at {r : Int} (h0 : 0 ≤ r) (h1 : r < 3) : ∃ c, Ltr c ∧ atI (Str.ofString "abz").cps.toList r = some c := by
  obtain ⟨n, rfl⟩ : ∃ n : Nat, r = n := ⟨r.toNat, by omega⟩
  match n, h1 with
  | 0, _ => exact ⟨97, by unfold Ltr; decide +kernel, by decide +kernel⟩
  | 1, _ => exact ⟨98, by unfold Ltr; decide +kernel, by decide +kernel⟩
  | 2, _ => exact ⟨122, by unfold Ltr; decide +kernel, by decide +kernel⟩
  | n + 3, h => omega
section
variable {P : Program} {w : World} {K : PySem.W.Frag} {mg : Str → Option Value} {base : Heap} {fa : Nat → Addr} {fd : Nat → FuncData} {ca pa ea qa : Nat → Addr}
theorem ok__law_behind (T : Tx K mg fa fd ca pa) : FnOk P w K mg base CX0 4 (fa 62) (fd 62) P__law_behind (sp_law_behind) := by
  refine T.f__law_behind.ok sc__law_behind (fun vs H Q E h => ?_) (fun cdv A outer s H vs Q E hr h => ?_)
  · obtain ⟨np, l, n, z, us, as, rfl, hn, sm, hz, hltr, hl, hus, hgood, k⟩ := h; rfl
  · obtain ⟨np, l, n, z, us, as, rfl, hn, sm, hz, hltr, hl, hus, hgood, k⟩ := h
    refine ⟨_, (pss_cons (ps_for PassesOwn.never rfl (pi_list (pv 2)) (pg_name (i := 3) sc__law_behind.nd rfl (Or.inl rfl)) (pss_one (ps_if (pt_cmpR op_eq (pe_ix ix_tup (pv 3) pe_int (fun _ _ => rfl)) pe_str (nomark _)) (pss_one (ps_set (i := 1) sc__law_behind.nd rfl (Or.inl rfl) (pe_call (ok__law_painted T) (hr.mono (by decide)) (by rfl) T.g__law_painted T.f__law_painted.kp T.b__law_painted .nil pass0 (pa_cons (pv 0) (pa_cons (pv 1) (pa_cons (pv 3) pa_nil)))))) (pss_one (ps_set (i := 1) sc__law_behind.nd rfl (Or.inl rfl) (pe_ix ix_tup (pe_call (ok__law_image T) (hr.mono (by decide)) (by rfl) T.g__law_image T.f__law_image.kp T.b__law_image .nil pass0 (pa_cons (pv 0) (pa_cons (pv 1) (pa_cons (pe_tup (pa_cons pe_str (pa_cons (pe_ix ix_tup (pv 3) pe_int (fun _ _ => rfl)) pa_nil))) pa_nil)))) pe_int (fun _ _ => rfl)))))))
      (pss_one (ps_ret (pv 1)))), ?_⟩
    have ok := sm.ok
    refine ⟨_, rfl, l, rfl, ⟨_, SqL.of hl⟩, for_list (K := K) (a := l) (xs := us.map .ref) (fun i σ H' => Same H H' ∧ ∃ z' c, σ = [some (.ref np), some (.str (st z')), some (.ref l), c] ∧ z'.length = Lm.size n ∧ (∀ c ∈ z', Ltr c) ∧ Lm.col n z' = (as.take i).foldl (stepA n) (Lm.col n z))
      ⟨Same.refl _, z, _, rfl, hz, hltr, rfl⟩ (fun i σ H' _ q => SqL.of (q.1 _ _ hl)) ?_ ?_⟩
    · rintro i x σ H' hx ⟨s1, z', c, rfl, hz', hltr', hcol⟩
      obtain ⟨u, hu, rfl⟩ : ∃ u, us[i]? = some u ∧ x = .ref u := by
        rw [List.getElem?_map] at hx
        cases hq : us[i]? with
        | none => rw [hq] at hx; cases hx
        | some u => rw [hq] at hx; cases hx; exact ⟨u, rfl, rfl⟩
      obtain ⟨a, ha, hA⟩ := Paired.at hus hu
      have hgo := hgood a (List.mem_of_getElem? ha)
      have tk1 : as.take (i + 1) = as.take i ++ [a] := by rw [List.take_succ, ha]; rfl
      have hA1 : IsAct H' u a := hA.imp fun b xs e => s1 _ _ e
      cases a with
      | bad => exact absurd rfl hgo
      | paint x y c =>
        obtain ⟨v, h1, h2, h3⟩ := hA1
        refine ⟨_, rfl, u, _, _, _, rfl, rfl, SqT.of h1, atI_nat (j := 0) rfl, rfl, true, congrArg V.bl (decide_eq_true rfl), iteT ?_⟩
        refine ⟨_, rfl, _, rfl, _, rfl, np, u, v, n, z', x, y, c, rfl, s1 _ _ hn, sm, hz', h1, h2, fun H2 s2 => ?_⟩
        refine ⟨s1.trans s2, _, _, rfl, by unfold paintT; rw [List.length_set]; exact hz', paint_ltr hltr' h3, ?_⟩
        rw [tk1, List.foldl_append, ← hcol]
        show Lm.col n (paintT n z' x y c) = Lm.col n (paintT n (Lm.textOf n (Lm.col n z')) x y c)
        rw [Lm.textOf_col ok hz']
      | move x y =>
        obtain ⟨v, h1, h2⟩ := hA1
        refine ⟨_, rfl, u, _, _, _, rfl, rfl, SqT.of h1, atI_nat (j := 0) rfl, rfl, false, congrArg V.bl (by decide +kernel), iteF ?_⟩
        refine ⟨_, rfl, _, rfl, _, rfl, u, _, _, _, rfl, rfl, SqT.of h1, atI_nat (j := 1) rfl, by show 2 ≤ sizeLine; decide, fun m hm => ?_⟩
        have s2 := same_new (o := HO.tup [.str "none", .ref v]) hm
        refine ⟨np, m, v, n, z', x, y, rfl, s2 _ _ (s1 _ _ hn), sm, hz', upd_same, s2 _ _ h2, fun H3 r q s3 hr => ?_⟩
        refine ⟨r, _, _, _, rfl, rfl, SqT.of hr, atI_nat (j := 1) rfl, ?_⟩
        refine ⟨(s1.trans s2).trans s3, _, _, rfl, Lm.textOf_length _ _, image_ltr ok hz' hltr' x y, ?_⟩
        rw [tk1, List.foldl_append, ← hcol]
        show _ = Lm.moved (Lm.col n z') x y
        exact Lm.col_moved ok (Lm.col_base ok z').1 (Lm.col_base ok z').2 x y
    · rintro σ H' ⟨s1, z', c, rfl, hz', hltr', hcol⟩
      rw [List.take_of_length_le (by rw [List.length_map, Paired.length hus]; exact Nat.le_refl _)] at hcol
      exact ⟨_, rfl, k H' z' s1 hz' hltr' hcol⟩
theorem ok__law_some (T : Tx K mg fa fd ca pa) : FnOk P w K mg base CX0 4 (fa 63) (fd 63) P__law_some (sp_law_some) := by
  refine T.f__law_some.ok sc__law_some (fun vs H Q E h => ?_) (fun cdv A outer s H vs Q E hr h => ?_)
  · obtain ⟨tp, sp, rfl, hT, k⟩ := h; rfl
  · obtain ⟨tp, sp, rfl, hT, k⟩ := h
    refine ⟨_, (pss_cons (ps_if (pt_cmpR op_eq (pe_call (ok__law_draw T) (hr.mono (by decide)) (by rfl) T.g__law_draw T.f__law_draw.kp T.b__law_draw .nil pass0 (pa_cons (pv 0) (pa_cons pe_int pa_nil))) pe_int (nomark _)) (pss_one (ps_ret (pe_tup (pa_cons pe_str (pa_cons (pe_tup (pa_cons (pe_op op_sub (pe_call (ok__law_draw T) (hr.mono (by decide)) (by rfl) T.g__law_draw T.f__law_draw.kp T.b__law_draw .nil pass0 (pa_cons (pv 0) (pa_cons pe_int pa_nil))) pe_int) (pa_cons (pe_call (ok__law_great T) (hr.mono (by decide)) (by rfl) T.g__law_great T.f__law_great.kp T.b__law_great .nil pass0 (pa_cons (pv 0) (pa_cons (pe_op op_pow pe_int pe_int) pa_nil))) pa_nil))) pa_nil))))) pss_nil)
      (pss_cons (ps_set (i := 1) sc__law_some.nd rfl (Or.inl rfl) (pe_ix ix_list (pe_lst (pa_cons (pe_tup (pa_cons (pe_op op_sub (pe_call (ok__law_draw T) (hr.mono (by decide)) (by rfl) T.g__law_draw T.f__law_draw.kp T.b__law_draw .nil pass0 (pa_cons (pv 0) (pa_cons pe_int pa_nil))) pe_int) (pa_cons (pe_op op_sub (pe_call (ok__law_draw T) (hr.mono (by decide)) (by rfl) T.g__law_draw T.f__law_draw.kp T.b__law_draw .nil pass0 (pa_cons (pv 0) (pa_cons pe_int pa_nil))) pe_int) pa_nil))) (pa_cons (pe_call (ok__law_place T) (hr.mono (by decide)) (by rfl) T.g__law_place T.f__law_place.kp T.b__law_place .nil pass0 (pa_cons (pv 0) pa_nil)) pa_nil))) (pe_call (ok__law_draw T) (hr.mono (by decide)) (by rfl) T.g__law_draw T.f__law_draw.kp T.b__law_draw .nil pass0 (pa_cons (pv 0) (pa_cons pe_int pa_nil))) (fun _ _ => rfl)))
      (pss_one (ps_ret (pe_tup (pa_cons pe_str (pa_cons (pv 1) (pa_cons (pe_ix ix_str pe_str (pe_call (ok__law_draw T) (hr.mono (by decide)) (by rfl) T.g__law_draw T.f__law_draw.kp T.b__law_draw .nil pass0 (pa_cons (pv 0) (pa_cons pe_int pa_nil))) (fun _ _ => rfl)) pa_nil)))))))), ?_⟩
    refine ⟨_, rfl, tp, sp, 4, rfl, hT, by decide, by decide, fun r1 H1 l1 u1 b1 T1 => ?_⟩
    refine ⟨rfl, ?_⟩
    by_cases h0 : r1 = 0
    · refine ⟨true, congrArg V.bl (by rw [dec_int, h0]; rfl), iteT ?_⟩
      refine ⟨_, rfl, tp, sp, 9, rfl, T1, by decide, by decide, fun r2 H2 l2 u2 b2 T2 => ?_⟩
      refine ⟨_, _, rfl, rfl, _, rfl, _, _, rfl, rfl, cp1020, tp, sp, _, rfl, T2, by decide, fun r3 H3 b3 T3 => ?_⟩
      refine ⟨by show 2 ≤ sizeLine; decide, fun u hu => ⟨by show 2 ≤ sizeLine; decide, fun t ht => ?_⟩⟩
      have b13 := (b1.trans b2).trans b3
      have T4 := T3.same (same_new (o := pl (r2 - 4) r3) hu)
      have nu := T3.ne_new hu
      have nt := T4.ne_new ht
      have b4 := (b13.trans (But.new hu)).trans (But.new (o := HO.tup [.str "move", .ref u]) ht)
      have t0 : H t = none := (b13.trans (But.new (o := pl (r2 - 4) r3) hu)).free ht (by simp [nt])
      exact k (.move (r2 - 4) r3) _ t b4 (T4.same (same_new ht)) t0 ⟨u, upd_same, by rw [upd_ne (ne_of_none upd_same ht), upd_same]⟩ (fun z => by cases z)
    · refine ⟨false, congrArg V.bl (by rw [dec_int]; simp [h0]), iteF ?_⟩
      refine ⟨_, rfl, tp, sp, 9, rfl, T1, by decide, by decide, fun r2 H2 l2 u2 b2 T2 => ⟨_, _, rfl, rfl, _, rfl, tp, sp, 9, rfl, T2, by decide, by decide, fun r3 H3 l3 u3 b3 T3 => ⟨_, _, rfl, rfl, by show 2 ≤ sizeLine; decide, fun q hq => ?_⟩⟩⟩
      have b13 := (b1.trans b2).trans b3
      have T4 := T3.same (same_new (o := pl (r2 - 4) (r3 - 4)) hq)
      have b4 := b13.trans (But.new (o := pl (r2 - 4) (r3 - 4)) hq)
      have hq4 : upd H3 q (pl (r2 - 4) (r3 - 4)) q = some (pl (r2 - 4) (r3 - 4)) := upd_same
      generalize hH4 : upd H3 q _ = H4 at T4 b4 hq4 ⊢
      have hqe : H4 q = some (pl (r2 - 4) (r3 - 4)) := hq4
      refine ⟨_, rfl, tp, sp, rfl, T4, fun x y H5 v b5 T5 nv hv => ⟨by show 2 ≤ sizeLine; decide, fun L hL => ?_⟩⟩
      have T6 := T5.same (same_new (o := HO.lst [V.ref q, .ref v]) hL)
      have b6 := (b4.trans b5).trans (But.new (o := HO.lst [V.ref q, .ref v]) hL)
      have nL := T5.ne_new hL
      have hq6 := (same_new (o := HO.lst [V.ref q, .ref v]) hL) _ _ (b5 _ _ hqe (by simp [T4.ne_tup hqe]))
      have hv6 := (same_new (o := HO.lst [V.ref q, .ref v]) hL) _ _ hv
      have hL6 : upd H5 L (HO.lst [V.ref q, .ref v]) L = some (HO.lst [V.ref q, .ref v]) := upd_same
      generalize upd H5 L (HO.lst [V.ref q, .ref v]) = H6 at T6 b6 hq6 hv6 hL6 ⊢
      refine ⟨_, rfl, tp, sp, 2, rfl, T6, by decide, by decide, fun r5 H7 l5 u5 b7 T7 => ?_⟩
      obtain ⟨z, hz, hat⟩ := at2 (a := V.ref q) (b := V.ref v) l5 u5
      obtain ⟨w0, X, Y, rfl, hw⟩ : ∃ w0 X Y, z = .ref w0 ∧ H6 w0 = some (pl X Y) := by
        rcases hz with rfl | rfl
        · exact ⟨q, _, _, rfl, hq6⟩
        · exact ⟨v, _, _, rfl, hv6⟩
      refine ⟨L, _, r5, _, rfl, rfl, SqL.of (b7 _ _ hL6 (by simp [nL])), hat, ?_⟩
      refine ⟨_, rfl, _, rfl, tp, sp, 3, rfl, T7, by decide, by decide, fun r6 H8 l6 u6 b8 T8 => ?_⟩
      obtain ⟨c, hc, hca⟩ := abz_at l6 u6
      refine ⟨_, r6, c, rfl, rfl, by decide +kernel, hca, by show 3 ≤ sizeLine; decide, fun t ht => ?_⟩
      have hw7 := b7 _ _ hw (by simp [T6.ne_tup hw])
      have hw8 := b8 _ _ hw7 (by simp [T7.ne_tup hw7])
      have b08 := (b6.trans b7).trans b8
      have nt := T8.ne_new ht
      exact k (.paint X Y c) _ t (b08.trans (But.new ht)) (T8.same (same_new ht)) (b08.free ht (by simp [nt])) ⟨w0, upd_same, by rw [upd_ne (ne_of_none hw8 ht)]; exact hw8, hc⟩ (fun z => by cases z)
end
end Cp
end
section
set_option Elab.async false
set_option linter.all false
set_option maxRecDepth 100000
set_option maxHeartbeats 4000000
namespace Cp
open PySem PySem.Spec PyProof.Rows L2
/-- what a call through _law_did leaves: E told, Q answered -/
def TTdid (ea : Nat → Addr) : (XK → Hp → VK → Prop) → Hp → VK → Prop := fun tl H Q =>
  tl (fun cls d H' => (cls = .ref (ea 4) ∧ Q (.str "nothing") H') ∨ (cls = .ref (ea 2) ∧ ∃ d' i, d = some d' ∧ H' d' = some (.xd [(("index" : Str), .int i)]) ∧ Q (.int i) H')) H (fun _ H' => Q (.str "done") H')
section
variable {P : Program} {w : World} {K : PySem.W.Frag} {mg : Str → Option Value} {base : Heap} {fa : Nat → Addr} {fd : Nat → FuncData} {ca pa ea qa : Nat → Addr}
theorem xfRun (U : TxE K mg ea) : XfC K (ea 2) := ⟨U.run.ga, U.run.gg, U.run.exC, U.run.hdC⟩
theorem did_gives {X : Cx} {g : Addr} {cdg : Value} {q : Str} (hm : X.mg = mg) (hK : X.K = K) (U : TxE K mg ea) :
    LamX.GivesTo X N__law_did "_law_did" (defScope s__law_did) g cdg (defBody s__law_did) "_law_call" q (TTdid ea) := by
  subst hm hK
  intro f c' s H Q tl act hc h
  refine ⟨_, pss_cons (Rf.ps_try_two (X := (cxOf C8.CX0 X.prog X.w X.K X.mg X.base N__law_did "_law_did" (defScope s__law_did) g cdg X.A X.stack s H C8.E0).nox) (i := 1) (c1 := .ref (ea 4)) (c2 := .ref (ea 2))
      (tb := fun W D σ H => ∃ Ech : XK, (∀ cls d σ' H', Ech cls d H' → W cls d σ' H') ∧ σ[0]? = some (some (.ref f)) ∧ H c' = some (LamX.CodeO c' q) ∧ tl Ech H (fun _ H' => D.nx σ H'))
      (t1 := fun a cls d => tRet (tC (.str "nothing"))) (t2 := fun a cls d => tRet (tXf a cls d (ea 2) "index" (tVar 1)))
      rfl rfl sc__law_did.nd rfl rfl ⟨by rfl, by decide, .inl U.gU⟩ ⟨by rfl, by decide, .inl U.run.gC⟩ (fun W pn xe tk _ => ?_) (fun a oe cls d pn hz hf => pss_one (ps_ret pe_str)) (fun a oe cls d pn hz hf => pss_one (ps_ret (pe_xf (xfRun U) U.run.noN hz hf (pv 1)))))
      (pss_one (ps_ret pe_str)), ?_⟩
  · refine ⟨fun pins s' σ H' D I h' => ?_⟩
    obtain ⟨Ech, hW, h1, h2, h3⟩ := h'
    exact (pss_one (ps_expr (act W pn xe Ech _ _ tk hW))).run pins s' σ H' D I ⟨h1, h2, h3⟩
  · refine ⟨fun cls d H' => (cls = .ref (ea 4) ∧ Q (.str "nothing") H') ∨ (cls = .ref (ea 2) ∧ ∃ d' i, d = some d' ∧ H' d' = some (.xd [(("index" : Str), .int i)]) ∧ Q (.int i) H'), fun cls d σ' H' hE => ?_, rfl, hc, h⟩
    rcases hE with ⟨rfl, hQ⟩ | ⟨rfl, d', i, rfl, hd, hQ⟩
    · exact .inl ⟨U.mUU, fun a _ => hQ⟩
    · refine .inr ⟨U.mRU, U.mRR, fun a _ hl => ?_⟩
      exact ⟨_, List.getElem?_set_self hl, rfl, rfl, d', _, _, rfl, hd, rfl, hQ⟩
end
end Cp
end
section
set_option Elab.async false
set_option linter.all false
set_option maxRecDepth 100000
set_option maxHeartbeats 4000000
namespace Cp
open PySem PySem.Spec PyProof.Rows L2
/-! ### the law's state -/
theorem IsNet.ext {ca : Nat → Addr} {H H' : Hp} {p : Addr} {n : Lm.Nt} (x : LamX.ExtN H H') (h : IsNet ca H p n) : IsNet ca H' p n := by
  obtain ⟨dx, t, h1, h2⟩ := h
  exact ⟨dx, t, x _ _ h1 (fun _ z => by cases z), x _ _ h2 (fun _ z => by cases z)⟩
theorem IsCar.ext {ca : Nat → Addr} {H H' : Hp} {p : Addr} {f : Lm.Fn} (x : LamX.ExtN H H') (h : IsCar ca H p f) : IsCar ca H' p f := by
  obtain ⟨dx, q, k, h1, h2, h3⟩ := h
  exact ⟨dx, q, k, x _ _ h1 (fun _ z => by cases z), h2.ext x, h3⟩
theorem LoomAt.ext {ca : Nat → Addr} {H H' : Hp} {p n e l t : Addr} {N : Lm.Nt} {f : Lm.Fn} {es ls : List Lm.Fn} {lg : List Str} (x : LamX.ExtN H H') (h : LoomAt ca H p n e l t N f es ls lg) : LoomAt ca H' p n e l t N f es ls lg := by
  obtain ⟨dx, c, h1, h2⟩ := h.ins
  obtain ⟨cs, h3, h4⟩ := h.es
  obtain ⟨ds, h5, h6⟩ := h.ls
  exact ⟨⟨dx, c, x _ _ h1 (fun _ z => by cases z), h2.ext x⟩, h.net.ext x, h.sm, ⟨cs, x _ _ h3 (fun _ z => by cases z), Paired.mapP h4 fun _ _ z => z.ext x⟩, ⟨ds, x _ _ h5 (fun _ z => by cases z), Paired.mapP h6 fun _ _ z => z.ext x⟩, x _ _ h.lg (fun _ z => by cases z), h.el, h.et, h.lt⟩
theorem TapeAt.ext {H H' : Hp} {tp sp : Addr} (x : LamX.ExtN H H') (h : TapeAt H tp sp) : TapeAt H' tp sp := by
  obtain ⟨xs, i, d, g, q1, q2, q3⟩ := h.ex
  exact ⟨xs, i, d, g, x _ _ q1 (fun _ z => by cases z), x _ _ q2 (fun _ z => by cases z), q3⟩
/-- the texts as values -/
abbrev txs (zs : List (List Nat)) : List V := zs.map fun w => V.str (st w)
/-- the log behind k runs -/
def lgk (k : Nat) : List Str := (List.replicate k [("begin" : Str), ("end" : Str)]).flatten
theorem lgk_succ (k : Nat) : lgk (k + 1) = lgk k ++ [("begin" : Str), ("end" : Str)] := by
  unfold lgk
  rw [List.replicate_succ', List.flatten_append]
  rfl
theorem lgk_len (k : Nat) : (lgk k).length = 2 * k := by
  induction k with
  | zero => rfl
  | succ k ih =>
    rw [lgk_succ, List.length_append, ih]
    show 2 * k + 2 = _
    omega
abbrev qS : Str := (envOfC "_law_stepped" (defScope s__law_stepped) 0 0 .none).qual ++ "<lambda>"
abbrev qA : Str := (envOfC "_law_acted" (defScope s__law_acted) 0 0 .none).qual ++ "<lambda>"
abbrev tbs (P1 P2 : Addr) : List (Addr × Str) := [(P1, qS), (P2, qA)]
structure LSt (ca : Nat → Addr) (tb : List (Addr × Str)) (H : Hp) (tp sp np hl h0 h1 p n e l t : Addr) (N : Lm.Nt) (ys : List (List Nat)) (z : List Nat) (zs : List (List Nat)) (k m : Nat) : Prop where
  tape : TapeAt H tp sp
  net : H np = some (nums N)
  hist : H hl = some (.lst [.ref h0, .ref h1])
  past : H h0 = some (.lst (txs (ys ++ [z])))
  ahead : H h1 = some (.lst (txs zs))
  loom : LoomAt ca H p n e l t N (Lm.col N z) (ys.map (Lm.col N)) (zs.map (Lm.col N)) (lgk k)
  ok : ∀ w ∈ (ys ++ [z]) ++ zs, w.length = Lm.size N ∧ ∀ c ∈ w, Ltr c
  nd : [tp, sp, hl, h0, h1, e, l, t].Nodup
  len : ys.length + zs.length ≤ m
  len2 : k ≤ m
  first : (ys ++ [z]).head? = some (List.replicate (Lm.size N) 97)
  tabs : LamX.Tabs tb H
theorem tabs_but {tb : List (Addr × Str)} {H H' : Hp} {ch : List Addr} (T : LamX.Tabs tb H) (b : But ch H H') (st : ∀ c ∈ ch, (∃ xs, H c = some (.lst xs)) ∨ (∃ C dx fs, H c = some (.ins C dx fs)) ∨ H c = none) : LamX.Tabs tb H' := fun p hp => by
  obtain ⟨ps, h1, h2, h3⟩ := T p hp
  refine ⟨ps, b _ _ h1 fun z => ?_, h2, fun pos cv hc => ?_⟩
  · rcases st _ z with ⟨xs, e⟩ | ⟨C, dx, fs, e⟩ | e <;> rw [h1] at e <;> cases e
  · obtain ⟨c, e1, e2⟩ := h3 pos cv hc
    refine ⟨c, e1, b _ _ e2 fun z => ?_⟩
    rcases st _ z with ⟨xs, e⟩ | ⟨C, dx, fs, e⟩ | e
    · rw [e2] at e
      have e := Option.some.inj e
      unfold LamX.CodeO at e
      cases e
    · rw [e2] at e
      have e := Option.some.inj e
      unfold LamX.CodeO at e
      cases e
    · rw [e2] at e; cases e
theorem LSt.re {ca : Nat → Addr} {tb : List (Addr × Str)} {H H' : Hp} {tp sp np hl h0 h1 p n e l t : Addr} {N : Lm.Nt} {ys zs ys' zs' : List (List Nat)} {z z' : List Nat} {k m k' m' : Nat} (h : LSt ca tb H tp sp np hl h0 h1 p n e l t N ys z zs k m)
    (x : ∀ b o, H b = some o → b ∉ [h0, h1, e, l, t, p] → (∀ ps, o ≠ .tbl ps) → H' b = some o) (past : H' h0 = some (.lst (txs (ys' ++ [z'])))) (ahead : H' h1 = some (.lst (txs zs'))) (loom : LoomAt ca H' p n e l t N (Lm.col N z') (ys'.map (Lm.col N)) (zs'.map (Lm.col N)) (lgk k'))
    (ok : ∀ w ∈ (ys' ++ [z']) ++ zs', w.length = Lm.size N ∧ ∀ c ∈ w, Ltr c) (len : ys'.length + zs'.length ≤ m') (len2 : k' ≤ m') (first : (ys' ++ [z']).head? = some (List.replicate (Lm.size N) 97)) (tabs : LamX.Tabs tb H') : LSt ca tb H' tp sp np hl h0 h1 p n e l t N ys' z' zs' k' m' := by
  have nd := h.nd
  simp only [List.nodup_cons, List.mem_cons, List.not_mem_nil, or_false, not_or, List.nodup_nil, and_true] at nd
  obtain ⟨dx, c, hp, _⟩ := h.loom.ins
  obtain ⟨cs, he, _⟩ := h.loom.es
  obtain ⟨ds, hll, _⟩ := h.loom.ls
  obtain ⟨xs, i, b, g, q1, q2, q3⟩ := h.tape.ex
  have nl : ∀ {a : Addr} {xs : List V}, H a = some (.lst xs) → a ≠ p := fun {a xs} e => ne_of e hp (by intro z; cases z)
  have nt : ∀ {a b : Addr} {xs ys : List V}, H a = some (.tup xs) → H b = some (.lst ys) → a ≠ b := fun {a b xs ys} e e' => ne_of e e' (by intro z; cases z)
  have ntp : ∀ {a : Addr} {xs : List V}, H a = some (.tup xs) → a ≠ p := fun {a xs} e => ne_of e hp (by intro z; cases z)
  refine ⟨⟨xs, i, b, g, x _ _ q1 ?_ (fun _ z => by cases z), x _ _ q2 ?_ (fun _ z => by cases z), q3⟩, x _ _ h.net ?_ (fun _ z => by cases z), x _ _ h.hist ?_ (fun _ z => by cases z), past, ahead, loom, ok, h.nd, len, len2, first, tabs⟩
  · simp [nd, nl q1]
  · simp [nd, nl q2]
  · simp [nt h.net h.past, nt h.net h.ahead, nt h.net he, nt h.net hll, nt h.net h.loom.lg, ntp h.net]
  · simp [nd, nl h.hist]
structure FunC (K : PySem.W.Frag) (x qual : Str) (st : Stmt) (f : Addr) (fd : FuncData) (c : Addr) : Prop where
  ex : ∃ (oc : Value) (od : Option Addr) (kV doc pm : Value) (an : Option Addr) (ct : Value) (osl : Array (Option Value)),
    fd = PySem.W.fnOf x qual (defArgs st) (defBody st) (defScope st) .none kV doc pm an (.ref c) ct ∧ K.lookup f = some ⟨oc, od, .func fd, osl⟩ ∧ PySem.W.codeIn K (.ref c) qual = true
theorem FunC.ok {P : Program} {w : World} {K : PySem.W.Frag} {mg : Str → Option Value} {base : Heap} {x qual : Str} {st : Stmt} {f : Addr} {fd : FuncData} {c : Addr} {N ps : List Str} {k : Nat} {sp : Sp} (F : FunC K x qual st f fd c) (S : FnScope N ps (defScope st)) (len : ∀ vs H Q E, sp vs H Q E → vs.length = ps.length)
    (hbody : ∀ (A : Around) (outer : List Env) (s : Shared) (H : Hp) (vs : List V) (Q : VK) (E : XK), Room k (A.deeper (envOfC qual (defScope st) s.heap.objs.size f (.ref c))) → sp vs H Q E →
      ∃ t, PSs (cxOf CX0 P w K mg base N qual (defScope st) f (.ref c) A outer s H E).nox (defBody st) t ∧ t { nx := fun _ H' => Q .non H', rt := Q } (start N vs) H) : FnOk P w K mg base CX0 (k + 1) f fd ps sp := by
  obtain ⟨oc, od, kV, doc, pm, an, ct, osl, rfl, lk, hcd⟩ := F.ex
  exact fn_of lk hcd S len fun A outer s H vs Q E hr hsp => by
    obtain ⟨t, h1, h2⟩ := hbody A outer s H vs Q E hr hsp
    exact ⟨t, h1.nox, h2⟩
/-- what the making of the law's lambdas asks -/
structure TxL (K : PySem.W.Frag) (mg : Str → Option Value) (base : Heap) (fa : Nat → Addr) (fd : Nat → FuncData) (c1 c2 P1 P2 : Addr) : Prop where
  stp : FunC K "_law_stepped" "_law_stepped" s__law_stepped (fa 65) (fd 65) c1
  act : FunC K "_law_acted" "_law_acted" s__law_acted (fa 66) (fd 66) c2
  tb1 : LamX.TabB base mg c1 P1
  tb2 : LamX.TabB base mg c2 P2
  ne : P1 ≠ P2
def sp_law_stepped (ca : Nat → Addr) (tb : List (Addr × Str)) : Sp := fun vs H Q _ => ∃ (tp sp np hl h0 h1 p n e l t : Addr) (N : Lm.Nt) (ys : List (List Nat)) (z : List Nat) (zs : List (List Nat)) (k m : Nat) (w : Int), vs = [.ref p, .ref hl, .int w] ∧ (w = 0 ∨ w = 1) ∧ m ≤ 60 ∧ LSt ca tb H tp sp np hl h0 h1 p n e l t N ys z zs k m ∧
  ∀ H' ys' z' zs', LSt ca tb H' tp sp np hl h0 h1 p n e l t N ys' z' zs' k m → Q (.bl true) H'
section
variable {P : Program} {w : World} {K : PySem.W.Frag} {mg : Str → Option Value} {base : Heap} {fa : Nat → Addr} {fd : Nat → FuncData} {ca pa ea qa : Nat → Addr} {c1 c2 P1 P2 : Addr}
theorem tbs_1 (h : P1 ≠ P2) : ∀ p ∈ tbs P1 P2, p.1 = P1 → p.2 = qS := fun p hp e => by
  rcases List.mem_cons.mp hp with rfl | hp
  · rfl
  · rw [List.mem_singleton.mp hp] at e
    exact absurd e.symm h
theorem tbs_2 (h : P1 ≠ P2) : ∀ p ∈ tbs P1 P2, p.1 = P2 → p.2 = qA := fun p hp e => by
  rcases List.mem_cons.mp hp with rfl | hp
  · exact absurd e h
  · rw [List.mem_singleton.mp hp]
theorem ok__law_stepped (U : Ty K mg fa fd ca pa ea qa) (VL : TxL K mg base fa fd c1 c2 P1 P2) : FnOk P w K mg base CX0 12 (fa 65) (fd 65) P__law_stepped (sp_law_stepped ca (tbs P1 P2)) := by
  have T := U.toTx
  obtain ⟨oc, od, kV, doc, pm, an, cdv, ct, osl, hfd, lk, hcd⟩ := T.f__law_did.ex
  have hbd := T.b__law_did
  rw [hfd] at lk hbd
  refine VL.stp.ok sc__law_stepped (fun vs H Q E h => ?_) (fun A outer s H vs Q E hr h => ?_)
  · obtain ⟨tp, sp, np, hl, h0, h1, p, n, e, l, t, N, ys, z, zs, k, m, w0, rfl, _⟩ := h
    rfl
  · obtain ⟨tp, sp, np, hl, h0, h1, p, n, e, l, t, N, ys, z, zs, k, m, w0, rfl, hw, hm, hS, kk⟩ := h
    refine ⟨_, (pss_cons (ps_if (pt_cmpR op_eq (pv 2) pe_int (nomark _)) (pss_cons (ps_set (i := 3) sc__law_stepped.nd rfl (Or.inl rfl) (pe_ifExp (pt_cmpR op_eq (pe_callB call_len_seq (by rfl) T.z_len PySem.boot_len (pa_cons (pe_ix ix_list (pv 1) pe_int (fun _ _ => rfl)) pa_nil)) pe_int (nomark _)) pe_str pe_str))
      (pss_cons (ps_set (i := 4) sc__law_stepped.nd rfl (Or.inl rfl) (LamX.pe_lamcall (T := tbs P1 P2) (P := P1) (c := c1) (k := 8) (t := fun E => tMeth (ca 4) "undo" (sp_Loom_undo ca ea) [] E (tVar 0) tNil) (by rfl) T.g__law_did T.f__law_did.kp lk hcd hbd sc__law_did rfl (Or.inl rfl) (did_gives rfl rfl U.toTxE) VL.tb1 rfl List.mem_cons_self (tbs_1 VL.ne) (hr.mono (by decide)) (LamX.lamS_by (sc := defScope s__law_stepped) (by decide +kernel)) rfl (by intros; rfl) (fun A outer s H E f c' hr2 => pe_meth0 (pv 0) T.cl_Loom T.m_Loom_undo (ok_Loom_undo U) (hr2.mono (by decide)) T.b_Loom_undo .nil (L2.passes_call (L2.takes_of rfl rfl rfl rfl) fun _ _ _ _ h => h))))
      (pss_one (ps_if (pt_cmpR op_eq (pv 3) pe_str (nomark _)) (pss_one (ps_expr (pe_bm PySem.F.plainAttrs_list PySem.F.slot_list_append PySem.F.type_list_append mt_append (pe_ix ix_list (pv 1) pe_int (fun _ _ => rfl)) (pa_cons (pe_bm0 PySem.F.plainAttrs_list PySem.F.slot_list_pop PySem.F.type_list_pop mt_pop (pe_ix ix_list (pv 1) pe_int (fun _ _ => rfl))) pa_nil)))) pss_nil)))) (pss_cons (ps_set (i := 3) sc__law_stepped.nd rfl (Or.inl rfl) (pe_ifExp (pt_cmpR (op_eqNil hr.units0) (pe_ix ix_list (pv 1) pe_int (fun _ _ => rfl)) (pe_lst pa_nil) (nomark _)) pe_str pe_str))
      (pss_cons (ps_set (i := 4) sc__law_stepped.nd rfl (Or.inl rfl) (LamX.pe_lamcall (T := tbs P1 P2) (P := P1) (c := c1) (k := 8) (t := fun E => tMeth (ca 4) "redo" (sp_Loom_redo ca ea) [] E (tVar 0) tNil) (by rfl) T.g__law_did T.f__law_did.kp lk hcd hbd sc__law_did rfl (Or.inl rfl) (did_gives rfl rfl U.toTxE) VL.tb1 rfl List.mem_cons_self (tbs_1 VL.ne) (hr.mono (by decide)) (LamX.lamS_by (sc := defScope s__law_stepped) (by decide +kernel)) rfl (by intros; rfl) (fun A outer s H E f c' hr2 => pe_meth0 (pv 0) T.cl_Loom T.m_Loom_redo (ok_Loom_redo U) (hr2.mono (by decide)) T.b_Loom_redo .nil (L2.passes_call (L2.takes_of rfl rfl rfl rfl) fun _ _ _ _ h => h))))
      (pss_one (ps_if (pt_cmpR op_eq (pv 3) pe_str (nomark _)) (pss_one (ps_expr (pe_bm PySem.F.plainAttrs_list PySem.F.slot_list_append PySem.F.type_list_append mt_append (pe_ix ix_list (pv 1) pe_int (fun _ _ => rfl)) (pa_cons (pe_bm0 PySem.F.plainAttrs_list PySem.F.slot_list_pop PySem.F.type_list_pop mt_pop (pe_ix ix_list (pv 1) pe_int (fun _ _ => rfl))) pa_nil)))) pss_nil)))))
      (pss_one (ps_ret (pe_cmpR op_eq (pv 4) (pv 3) (nomark _))))), ?_⟩
    have nd := hS.nd
    simp only [List.nodup_cons, List.mem_cons, List.not_mem_nil, or_false, not_or, List.nodup_nil, and_true] at nd
    rcases hw with rfl | rfl
    · refine ⟨_, rfl, rfl, true, congrArg V.bl rfl, iteT ?_⟩
      refine ⟨_, rfl, hl, _, _, _, rfl, rfl, SqL.of hS.hist, atI_nat (j := 0) rfl, h0, _, rfl, .inl (SqL.of hS.past), rfl, ?_⟩
      rcases ends_snoc ys with rfl | ⟨ys', y, rfl⟩
      · refine ⟨true, congrArg V.bl (by rw [dec_int]; rfl), iteT ?_⟩
        refine ⟨hS.tabs, fun H1 xN tabs1 => ?_⟩
        have hL1 := hS.loom.ext xN
        have p1 := xN _ _ hS.past (fun _ z => by cases z)
        have a1 := xN _ _ hS.ahead (fun _ z => by cases z)
        obtain ⟨dx, c0, g1, g2⟩ := id hL1.ins
        obtain ⟨cs0, e1, _⟩ := id hL1.es
        obtain ⟨ds0, l1, _⟩ := id hL1.ls
        have lenS := hS.len
        refine ⟨_, rfl, p, dx, _, rfl, g1, rfl, p, n, e, l, t, N, _, _, _, _, rfl, hL1, ?_, fun _ H2 s2 => .inl ⟨rfl, ?_⟩, fun es' g hes => absurd hes (by simp)⟩
        · rw [List.length_map]; omega
        · refine ⟨_, rfl, rfl, false, congrArg V.bl (by decide +kernel), iteF ?_⟩
          refine ⟨_, rfl, _, rfl, rfl, ?_⟩
          refine Eq.mpr (congrArg (fun b => Q (V.bl b) H2) (decide_eq_true rfl)) ?_
          exact kk H2 _ z _ (hS.re (fun b o e _ nt => s2 _ _ (xN _ _ e nt)) (s2 _ _ p1) (s2 _ _ a1) (hL1.same s2) hS.ok hS.len hS.len2 hS.first (tabs1.ext s2))
      · refine ⟨false, congrArg V.bl (by rw [dec_int]; simp [txs]; omega), iteF ?_⟩
        refine ⟨hS.tabs, fun H1 xN tabs1 => ?_⟩
        have hL1 := hS.loom.ext xN
        have p1 := xN _ _ hS.past (fun _ z => by cases z)
        have a1 := xN _ _ hS.ahead (fun _ z => by cases z)
        obtain ⟨dx, c0, g1, g2⟩ := id hL1.ins
        obtain ⟨cs0, e1, _⟩ := id hL1.es
        obtain ⟨ds0, l1, _⟩ := id hL1.ls
        have lenS := hS.len
        refine ⟨_, rfl, p, dx, _, rfl, g1, rfl, p, n, e, l, t, N, _, _, _, _, rfl, hL1, ?_, fun hes => absurd hes (by simp), fun es' g hes H2 b2 hL2 => ?_⟩
        · rw [List.length_map]; rw [List.length_append] at lenS; simp at lenS; omega
        · obtain ⟨rfl, rfl⟩ : es' = ys'.map (Lm.col N) ∧ g = Lm.col N y := by
            rw [List.map_append] at hes
            obtain ⟨q1, q2⟩ := List.append_inj' hes rfl
            exact ⟨q1.symm, by injection q2 with q2 _; exact q2.symm⟩
          have nlp : ∀ {a : Addr} {xs : List V}, H1 a = some (.lst xs) → a ≠ p := fun {a xs} e => ne_of e g1 (by intro z; cases z)
          have p2 := b2 _ _ p1 (by simp [nd, nlp p1])
          have a2 := b2 _ _ a1 (by simp [nd, nlp a1])
          have hh1 := xN _ _ hS.hist (fun _ z => by cases z)
          have hh2 := b2 _ _ hh1 (by simp [nd, nlp hh1])
          have n01 : h0 ≠ h1 := by simp [nd]
          refine ⟨_, rfl, rfl, true, congrArg V.bl (decide_eq_true rfl), iteT ?_⟩
          refine ⟨_, rfl, hl, _, _, _, rfl, rfl, SqL.of hh2, atI_nat (j := 1) rfl, .inl ⟨rfl, _, SqL.of a2⟩, _, rfl, hl, _, _, _, rfl, rfl, SqL.of hh2, atI_nat (j := 0) rfl, .inl ⟨rfl, _, SqL.of p2⟩, h0, _, V.str (st z), rfl, rfl, p2, by simp [txs], ?_⟩
          refine ⟨h1, _, _, rfl, rfl, by rw [upd_ne n01.symm]; exact a2, ?_, ?_⟩
          · simp [txs] at lenS ⊢
            exact small1000 (by omega)
          refine ⟨_, rfl, _, rfl, rfl, ?_⟩
          generalize hHF : upd (upd H2 h0 _) h1 _ = HF
          have bF : But [h0, h1] H2 HF := by rw [← hHF]; exact ((But.refl.put (.inl (by simp))).put (.inl (by simp)))
          have stF : Still ca H2 [h0, h1] := fun b hb => by
            rcases List.mem_cons.mp hb with rfl | hb
            · exact .inl ⟨_, p2⟩
            · rw [List.mem_singleton.mp hb]
              exact .inl ⟨_, a2⟩
          obtain ⟨dx2, cc2, gg2, _⟩ := id hL2.ins
          have np0 : p ≠ h0 := ne_of gg2 p2 (by intro z; cases z)
          have np1 : p ≠ h1 := ne_of gg2 a2 (by intro z; cases z)
          have hLF := hL2.but bF stF (by simp [np0, np1]) (by simp [Ne.symm nd.2.2.2.1.2.1, Ne.symm nd.2.2.2.2.1.1]) (by simp [Ne.symm nd.2.2.2.1.2.2.1, Ne.symm nd.2.2.2.2.1.2.1]) (by simp [Ne.symm nd.2.2.2.1.2.2.2, Ne.symm nd.2.2.2.2.1.2.2])
          have src1 : HF h0 = some (.lst (txs (ys' ++ [y]))) := by
            rw [← hHF, upd_ne n01, upd_same]
            simp [txs]
          have dst1 : HF h1 = some (.lst (txs (zs ++ [z]))) := by
            rw [← hHF, upd_same]
            simp [txs]
          refine Eq.mpr (congrArg (fun b => Q (V.bl b) HF) (decide_eq_true rfl)) ?_
          refine kk HF ys' y (zs ++ [z]) (hS.re (fun b o e nb nt => ?_) src1 dst1 ?_ (fun w hw => hS.ok w ?_) ?_ hS.len2 ?_ (tabs_but (tabs_but tabs1 b2 fun c hc => ?_) bF fun c hc => ?_))
          · simp only [List.mem_cons, List.not_mem_nil, or_false, not_or] at nb
            exact bF _ _ (b2 _ _ (xN _ _ e nt) (by simp [nb])) (by simp [nb])
          · rw [List.map_append] at *
            exact hLF
          · simp at hw ⊢
            rcases hw with h | h | h | h <;> simp [h]
          · simp at lenS ⊢
            omega
          · have := hS.first
            cases ys' <;> simpa using this
          · rcases List.mem_cons.mp hc with rfl | hc
            · exact .inr (.inl ⟨_, _, _, g1⟩)
            · rcases List.mem_cons.mp hc with rfl | hc
              · exact .inl ⟨_, e1⟩
              · rw [List.mem_singleton.mp hc]
                exact .inl ⟨_, l1⟩
          · rcases List.mem_cons.mp hc with rfl | hc
            · exact .inl ⟨_, p2⟩
            · rw [List.mem_singleton.mp hc]
              exact .inl ⟨_, a2⟩
    · refine ⟨_, rfl, rfl, false, congrArg V.bl (by rw [dec_int]; rfl), iteF ?_⟩
      refine ⟨_, rfl, hl, _, _, _, rfl, rfl, SqL.of hS.hist, atI_nat (j := 1) rfl, Nat.zero_le _, fun b hb => ?_⟩
      have sb := same_new (o := HO.lst []) hb
      refine ⟨h1, b, _, rfl, rfl, sb _ _ hS.ahead, upd_same, ?_⟩
      have hSb : LSt ca (tbs P1 P2) (upd H b (.lst [])) tp sp np hl h0 h1 p n e l t N ys z zs k m := hS.re (fun b o e _ _ => sb b o e) (sb _ _ hS.past) (sb _ _ hS.ahead) (hS.loom.same sb) hS.ok hS.len hS.len2 hS.first (hS.tabs.ext sb)
      clear hS
      generalize upd H b (.lst []) = Hb at hSb ⊢
      have hS := hSb
      rcases ends_snoc zs with rfl | ⟨zs', y, rfl⟩
      · refine ⟨true, congrArg V.bl rfl, iteT ?_⟩
        refine ⟨hS.tabs, fun H1 xN tabs1 => ?_⟩
        have hL1 := hS.loom.ext xN
        have p1 := xN _ _ hS.past (fun _ z => by cases z)
        have a1 := xN _ _ hS.ahead (fun _ z => by cases z)
        obtain ⟨dx, c0, g1, g2⟩ := id hL1.ins
        obtain ⟨cs0, e1, _⟩ := id hL1.es
        obtain ⟨ds0, l1, _⟩ := id hL1.ls
        have lenS := hS.len
        refine ⟨_, rfl, p, dx, _, rfl, g1, rfl, p, n, e, l, t, N, _, _, _, _, rfl, hL1, ?_, fun _ H2 s2 => .inl ⟨rfl, ?_⟩, fun es' g hes => absurd hes (by simp)⟩
        · rw [List.length_map]; omega
        · refine ⟨_, rfl, rfl, false, congrArg V.bl (by decide +kernel), iteF ?_⟩
          refine ⟨_, rfl, _, rfl, rfl, ?_⟩
          refine Eq.mpr (congrArg (fun b => Q (V.bl b) H2) (decide_eq_true rfl)) ?_
          exact kk H2 _ z _ (hS.re (fun b o e _ nt => s2 _ _ (xN _ _ e nt)) (s2 _ _ p1) (s2 _ _ a1) (hL1.same s2) hS.ok hS.len hS.len2 hS.first (tabs1.ext s2))
      · refine ⟨false, congrArg V.bl (by simp [txs]), iteF ?_⟩
        refine ⟨hS.tabs, fun H1 xN tabs1 => ?_⟩
        have hL1 := hS.loom.ext xN
        have p1 := xN _ _ hS.past (fun _ z => by cases z)
        have a1 := xN _ _ hS.ahead (fun _ z => by cases z)
        obtain ⟨dx, c0, g1, g2⟩ := id hL1.ins
        obtain ⟨cs0, e1, _⟩ := id hL1.es
        obtain ⟨ds0, l1, _⟩ := id hL1.ls
        have lenS := hS.len
        refine ⟨_, rfl, p, dx, _, rfl, g1, rfl, p, n, e, l, t, N, _, _, _, _, rfl, hL1, ?_, fun hes => absurd hes (by simp), fun es' g hes H2 b2 hL2 => ?_⟩
        · rw [List.length_map]; rw [List.length_append] at lenS; simp at lenS; omega
        · obtain ⟨rfl, rfl⟩ : es' = zs'.map (Lm.col N) ∧ g = Lm.col N y := by
            rw [List.map_append] at hes
            obtain ⟨q1, q2⟩ := List.append_inj' hes rfl
            exact ⟨q1.symm, by injection q2 with q2 _; exact q2.symm⟩
          have nlp : ∀ {a : Addr} {xs : List V}, H1 a = some (.lst xs) → a ≠ p := fun {a xs} e => ne_of e g1 (by intro z; cases z)
          have p2 := b2 _ _ p1 (by simp [nd, nlp p1])
          have a2 := b2 _ _ a1 (by simp [nd, nlp a1])
          have hh1 := xN _ _ hS.hist (fun _ z => by cases z)
          have hh2 := b2 _ _ hh1 (by simp [nd, nlp hh1])
          have n01 : h0 ≠ h1 := by simp [nd]
          refine ⟨_, rfl, rfl, true, congrArg V.bl (decide_eq_true rfl), iteT ?_⟩
          refine ⟨_, rfl, hl, _, _, _, rfl, rfl, SqL.of hh2, atI_nat (j := 0) rfl, .inl ⟨rfl, _, SqL.of p2⟩, _, rfl, hl, _, _, _, rfl, rfl, SqL.of hh2, atI_nat (j := 1) rfl, .inl ⟨rfl, _, SqL.of a2⟩, h1, _, V.str (st y), rfl, rfl, a2, by simp [txs], ?_⟩
          refine ⟨h0, _, _, rfl, rfl, by rw [upd_ne n01]; exact p2, ?_, ?_⟩
          · simp [txs] at lenS ⊢
            exact small1000 (by omega)
          refine ⟨_, rfl, _, rfl, rfl, ?_⟩
          generalize hHF : upd (upd H2 h1 _) h0 _ = HF
          have bF : But [h0, h1] H2 HF := by rw [← hHF]; exact ((But.refl.put (.inl (by simp))).put (.inl (by simp)))
          have stF : Still ca H2 [h0, h1] := fun b hb => by
            rcases List.mem_cons.mp hb with rfl | hb
            · exact .inl ⟨_, p2⟩
            · rw [List.mem_singleton.mp hb]
              exact .inl ⟨_, a2⟩
          obtain ⟨dx2, cc2, gg2, _⟩ := id hL2.ins
          have np0 : p ≠ h0 := ne_of gg2 p2 (by intro z; cases z)
          have np1 : p ≠ h1 := ne_of gg2 a2 (by intro z; cases z)
          have hLF := hL2.but bF stF (by simp [np0, np1]) (by simp [Ne.symm nd.2.2.2.1.2.1, Ne.symm nd.2.2.2.2.1.1]) (by simp [Ne.symm nd.2.2.2.1.2.2.1, Ne.symm nd.2.2.2.2.1.2.1]) (by simp [Ne.symm nd.2.2.2.1.2.2.2, Ne.symm nd.2.2.2.2.1.2.2])
          have src1 : HF h1 = some (.lst (txs zs')) := by
            rw [← hHF, upd_ne n01.symm, upd_same]
            simp [txs]
          have dst1 : HF h0 = some (.lst (txs ((ys ++ [z]) ++ [y]))) := by
            rw [← hHF, upd_same]
            simp [txs]
          refine Eq.mpr (congrArg (fun b => Q (V.bl b) HF) (decide_eq_true rfl)) ?_
          refine kk HF (ys ++ [z]) y zs' (hS.re (fun b o e nb nt => ?_) dst1 src1 ?_ (fun w hw => hS.ok w ?_) ?_ hS.len2 ?_ (tabs_but (tabs_but tabs1 b2 fun c hc => ?_) bF fun c hc => ?_))
          · simp only [List.mem_cons, List.not_mem_nil, or_false, not_or] at nb
            exact bF _ _ (b2 _ _ (xN _ _ e nt) (by simp [nb])) (by simp [nb])
          · rw [List.map_append] at *
            exact hLF
          · simp at hw ⊢
            rcases hw with h | h | h | h <;> simp [h]
          · simp at lenS ⊢
            omega
          · have := hS.first
            cases ys <;> simpa using this
          · rcases List.mem_cons.mp hc with rfl | hc
            · exact .inr (.inl ⟨_, _, _, g1⟩)
            · rcases List.mem_cons.mp hc with rfl | hc
              · exact .inl ⟨_, e1⟩
              · rw [List.mem_singleton.mp hc]
                exact .inl ⟨_, l1⟩
          · rcases List.mem_cons.mp hc with rfl | hc
            · exact .inl ⟨_, p2⟩
            · rw [List.mem_singleton.mp hc]
              exact .inl ⟨_, a2⟩
end
end Cp
end
section
set_option Elab.async false
set_option linter.all false
set_option maxRecDepth 100000
set_option maxHeartbeats 4000000
namespace Cp
open PySem PySem.Spec PyProof.Rows L2
theorem LSt.tp {ca : Nat → Addr} {tb : List (Addr × Str)} {H H' : Hp} {tp sp np hl h0 h1 p n e l t : Addr} {N : Lm.Nt} {ys zs : List (List Nat)} {z : List Nat} {k m : Nat} (h : LSt ca tb H tp sp np hl h0 h1 p n e l t N ys z zs k m) (b : But [tp] H H') (T : TapeAt H' tp sp) : LSt ca tb H' tp sp np hl h0 h1 p n e l t N ys z zs k m := by
  have nd := h.nd
  simp only [List.nodup_cons, List.mem_cons, List.not_mem_nil, or_false, not_or, List.nodup_nil, and_true] at nd
  obtain ⟨xs, i, d, g, q1, q2, q3⟩ := h.tape.ex
  obtain ⟨dx, c, hp, _⟩ := h.loom.ins
  have st : Still ca H [tp] := fun b hb => .inl ⟨[V.ref sp, .int i, .int d, .int g], by rw [List.mem_singleton.mp hb]; exact q1⟩
  have npt : p ≠ tp := ne_of hp q1 (by intro z; cases z)
  refine ⟨T, b _ _ h.net (by simp [h.tape.ne_tup h.net]), b _ _ h.hist (by simp [Ne.symm nd.1.2.1]), b _ _ h.past (by simp [Ne.symm nd.1.2.2.1]), b _ _ h.ahead (by simp [Ne.symm nd.1.2.2.2.1]), h.loom.but b st (by simp [npt]) (by simp [Ne.symm nd.1.2.2.2.2.1]) (by simp [Ne.symm nd.1.2.2.2.2.2.1]) (by simp [Ne.symm nd.1.2.2.2.2.2.2]), h.ok, h.nd, h.len, h.len2, h.first, tabs_but h.tabs b fun c hc => .inl ⟨[V.ref sp, .int i, .int d, .int g], by rw [List.mem_singleton.mp hc]; exact q1⟩⟩
theorem LSt.same {ca : Nat → Addr} {tb : List (Addr × Str)} {H H' : Hp} {tp sp np hl h0 h1 p n e l t : Addr} {N : Lm.Nt} {ys zs : List (List Nat)} {z : List Nat} {k m : Nat} (h : LSt ca tb H tp sp np hl h0 h1 p n e l t N ys z zs k m) (s : Same H H') : LSt ca tb H' tp sp np hl h0 h1 p n e l t N ys z zs k m :=
  h.tp (But.of s) (h.tape.same s)
theorem Paired.snoc {α β : Type} {R : α → β → Prop} : ∀ {xs : List α} {ys : List β} {x : α} {y : β}, Paired R xs ys → R x y → Paired R (xs ++ [x]) (ys ++ [y])
  | _, _, _, _, .nil, e => .cons e .nil
  | _, _, _, _, .cons r h, e => .cons r (Paired.snoc h e)
theorem Paired.app {α β : Type} {R : α → β → Prop} : ∀ {xs : List α} {ys : List β} {xs' : List α} {ys' : List β}, Paired R xs ys → Paired R xs' ys' → Paired R (xs ++ xs') (ys ++ ys')
  | _, _, _, _, .nil, e => e
  | _, _, _, _, .cons r h, e => .cons r (Paired.app h e)
theorem Paired.takeN {α β : Type} {R : α → β → Prop} : ∀ {xs : List α} {ys : List β} (k : Nat), Paired R xs ys → Paired R (xs.take k) (ys.take k)
  | _, _, 0, _ => by rw [List.take_zero, List.take_zero]; exact .nil
  | _, _, k + 1, .nil => .nil
  | _, _, k + 1, .cons r h => .cons r (Paired.takeN k h)
theorem Paired.dropN {α β : Type} {R : α → β → Prop} : ∀ {xs : List α} {ys : List β} (k : Nat), Paired R xs ys → Paired R (xs.drop k) (ys.drop k)
  | _, _, 0, h => h
  | _, _, k + 1, .nil => .nil
  | _, _, k + 1, .cons r h => Paired.dropN k h
theorem atI_last {α : Type} (xs : List α) (v : α) : atI (xs ++ [v]) (-1) = some v := by
  have e : ixN (xs ++ [v]).length (-1) = some xs.length := by
    unfold ixN
    rw [if_neg (by decide), List.length_append]
    show (if -((xs.length + 1 : Nat) : Int) ≤ -1 then some (-1 + ((xs.length + 1 : Nat) : Int)).toNat else none) = _
    rw [if_pos (by omega)]
    congr 1
    omega
  unfold atI
  rw [e]
  show (xs ++ [v])[xs.length]? = _
  simp
theorem cut_takeV (xs : List V) (k : Nat) (h : k ≤ xs.length) : cutV xs none (some (k : Int)) = xs.take k := by
  unfold cutV
  rw [HT.sIx_none, HT.sIx_nat, Nat.min_eq_left h]
  rfl
theorem cut_dropV (xs : List V) (k : Nat) (h : k ≤ xs.length) : cutV xs (some (k : Int)) none = xs.drop k := by
  unfold cutV
  rw [HT.sIx_none, HT.sIx_nat, Nat.min_eq_left h]
  rw [List.take_of_length_le (by rw [List.length_drop]; exact Nat.le_refl _)]
def sp_law_acted (ca : Nat → Addr) (tb : List (Addr × Str)) : Sp := fun vs H Q _ => ∃ (tp sp np hl h0 h1 p n e l t : Addr) (N : Lm.Nt) (ys : List (List Nat)) (z : List Nat) (zs : List (List Nat)) (k m : Nat), vs = [.ref tp, .ref p, .ref hl, .ref np] ∧ m ≤ 60 ∧ LSt ca tb H tp sp np hl h0 h1 p n e l t N ys z zs k m ∧
  ∀ H' h1' l' ys' z' zs' k', LSt ca tb H' tp sp np hl h0 h1' p n e l' t N ys' z' zs' k' (m + 1) → Q (.bl true) H'
section
variable {P : Program} {w : World} {K : PySem.W.Frag} {mg : Str → Option Value} {base : Heap} {fa : Nat → Addr} {fd : Nat → FuncData} {ca pa ea qa : Nat → Addr} {c1 c2 P1 P2 : Addr}
abbrev tBadList (K : PySem.W.Frag) : TA := tCons (tOp rCat (tOp rCat (tSl (rSlL K) (tVar 5) tNoPart (tPart (tVar 7))) (tLst (tCons (tTup (tCons (tC (.str "paint")) (tCons (tTup (tCons (tC (.int 0)) (tCons (tC (.int 0)) tNil))) (tCons (tC (.str "ab")) tNil)))) tNil))) (tSl (rSlL K) (tVar 5) (tPart (tVar 7)) tNoPart)) tNil
theorem ok__law_acted (U : Ty K mg fa fd ca pa ea qa) (VL : TxL K mg base fa fd c1 c2 P1 P2) : FnOk P w K mg base CX0 17 (fa 66) (fd 66) P__law_acted (sp_law_acted ca (tbs P1 P2)) := by
  have T := U.toTx
  obtain ⟨oc, od, kV, doc, pm, an, cdv, ct, osl, hfd, lk, hcd⟩ := T.f__law_did.ex
  have hbd := T.b__law_did
  rw [hfd] at lk hbd
  refine VL.act.ok sc__law_acted (fun vs H Q E h => ?_) (fun A outer s H vs Q E hr h => ?_)
  · obtain ⟨tp, sp, np, hl, h0, h1, p, n, e, l, t, N, ys, z, zs, k, m, rfl, _⟩ := h
    rfl
  · obtain ⟨tp, sp, np, hl, h0, h1, p, n, e, l, t, N, ys, z, zs, k, m, rfl, hm, hS, kk⟩ := h
    refine ⟨_, (pss_cons (ps_set (i := 4) sc__law_acted.nd rfl (Or.inl rfl) (pe_call (ok__law_draw T) (hr.mono (by decide)) (by rfl) T.g__law_draw T.f__law_draw.kp T.b__law_draw .nil pass0 (pa_cons (pv 0) (pa_cons pe_int pa_nil))))
      (pss_cons (ps_set (i := 5) sc__law_acted.nd rfl (Or.inr rfl) (pe_lc (own := [("_law_k", 6)]) (by rfl) sc__law_acted.nd (pi_range1 (by rfl) T.z_range (pa_cons (pe_op op_add pe_int (pe_call (ok__law_draw T) (hr.mono (by decide)) (by rfl) T.g__law_draw T.f__law_draw.kp T.b__law_draw .nil pass0 (pa_cons (pv 0) (pa_cons pe_int pa_nil)))) pa_nil)) (blkOk_by (own := [("_law_k", 6)]) (N := N__law_acted) (sc := defScope s__law_acted) (by decide +kernel)) (fun _ _ _ _ _ => (pg_name (i := 6) sc__law_acted.nd rfl (Or.inl rfl))) (fun _ _ _ _ _ => pts_nil) (fun _ _ _ _ _ => (pe_call (ok__law_some T) (hr.mono (by decide)) (by rfl) T.g__law_some T.f__law_some.kp T.b__law_some .nil pass0 (pa_cons (pv 0) pa_nil)))))
      (pss_cons (ps_if (pt_cmpR op_eq (pv 4) pe_int (nomark _)) (pss_cons (ps_set (i := 5) sc__law_acted.nd rfl (Or.inr rfl) (pe_slice sl_list (pv 5) po_none (po_some pe_int)))
      (pss_one (ps_if (pt_cmpR op_eq (pe_ix ix_tup (pe_ix ix_list (pv 5) pe_int (fun _ _ => rfl)) pe_int (fun _ _ => rfl)) pe_str (nomark _)) (pss_one (ps_expr (pe_meth (pv 1) T.cl_Loom T.m_Loom_paint (ok_Loom_paint U) (hr.mono (by decide)) T.b_Loom_paint .nil passLN (pa_cons (pe_ix ix_tup (pe_ix ix_list (pv 5) pe_int (fun _ _ => rfl)) pe_int (fun _ _ => rfl)) (pa_cons (pe_ix ix_tup (pe_ix ix_list (pv 5) pe_int (fun _ _ => rfl)) pe_int (fun _ _ => rfl)) pa_nil))))) (pss_one (ps_expr (pe_meth (pv 1) T.cl_Loom T.m_Loom_move (ok_Loom_move T) (hr.mono (by decide)) T.b_Loom_move .nil pass0 (pa_cons (pe_ix ix_tup (pe_ix ix_list (pv 5) pe_int (fun _ _ => rfl)) pe_int (fun _ _ => rfl)) pa_nil))))))) (pss_one (ps_if (pt_cmpR op_eq (pv 4) pe_int (nomark _)) (pss_cons (ps_set (i := 7) sc__law_acted.nd rfl (Or.inr rfl) (pe_call (ok__law_draw T) (hr.mono (by decide)) (by rfl) T.g__law_draw T.f__law_draw.kp T.b__law_draw .nil pass0 (pa_cons (pv 0) (pa_cons (pe_op op_add (pe_callB call_len_seq (by rfl) T.z_len PySem.boot_len (pa_cons (pv 5) pa_nil)) pe_int) pa_nil))))
      (pss_cons (ps_if (pt_cmpR op_ne (LamX.pe_lamcall (T := tbs P1 P2) (P := P2) (c := c2) (k := 13) (t := fun E => tMeth (ca 4) "run" (sp_Loom_run ca ea) [] E (tVar 1) (tBadList K)) (by rfl) T.g__law_did T.f__law_did.kp lk hcd hbd sc__law_did rfl (Or.inl rfl) (did_gives rfl rfl U.toTxE) VL.tb2 rfl (List.mem_cons_of_mem _ List.mem_cons_self) (tbs_2 VL.ne) (hr.mono (by decide)) (LamX.lamS_by (sc := defScope s__law_acted) (by decide +kernel)) rfl (by intros; rfl) (fun A outer s H E f c' hr2 => pe_meth (pv 1) T.cl_Loom T.m_Loom_run (ok_Loom_run U) (hr2.mono (by decide)) T.b_Loom_run .nil (L2.passes_call (L2.takes_of rfl rfl rfl rfl) fun _ _ _ _ h => h) (pa_cons (pe_op op_cat (pe_op op_cat (pe_slice sl_list (pv 5) po_none (po_some (pv 7))) (pe_lst (pa_cons (pe_tup (pa_cons pe_str (pa_cons (pe_tup (pa_cons pe_int (pa_cons pe_int pa_nil))) (pa_cons pe_str pa_nil)))) pa_nil))) (pe_slice sl_list (pv 5) (po_some (pv 7)) po_none)) pa_nil))) (pv 7) (nomark _)) (pss_one (ps_ret pe_bl)) pss_nil)
      (pss_one (ps_ret pe_bl)))) (pss_one (ps_if (pt_cmpR op_ne (LamX.pe_lamcall (T := tbs P1 P2) (P := P2) (c := c2) (k := 13) (t := fun E => tMeth (ca 4) "run" (sp_Loom_run ca ea) [] E (tVar 1) (tCons (tVar 5) tNil)) (by rfl) T.g__law_did T.f__law_did.kp lk hcd hbd sc__law_did rfl (Or.inl rfl) (did_gives rfl rfl U.toTxE) VL.tb2 rfl (List.mem_cons_of_mem _ List.mem_cons_self) (tbs_2 VL.ne) (hr.mono (by decide)) (LamX.lamS_by (sc := defScope s__law_acted) (by decide +kernel)) rfl (by intros; rfl) (fun A outer s H E f c' hr2 => pe_meth (pv 1) T.cl_Loom T.m_Loom_run (ok_Loom_run U) (hr2.mono (by decide)) T.b_Loom_run .nil (L2.passes_call (L2.takes_of rfl rfl rfl rfl) fun _ _ _ _ h => h) (pa_cons (pv 5) pa_nil))) pe_str (nomark _)) (pss_one (ps_ret pe_bl)) pss_nil)))))
      (pss_cons (ps_expr (pe_bm PySem.F.plainAttrs_list PySem.F.slot_list_append PySem.F.type_list_append mt_append (pe_ix ix_list (pv 2) pe_int (fun _ _ => rfl)) (pa_cons (pe_call (ok__law_behind T) (hr.mono (by decide)) (by rfl) T.g__law_behind T.f__law_behind.kp T.b__law_behind .nil pass0 (pa_cons (pv 3) (pa_cons (pe_ix ix_list (pe_ix ix_list (pv 2) pe_int (fun _ _ => rfl)) (pe_un un_neg pe_int) (fun _ _ => rfl)) (pa_cons (pv 5) pa_nil)))) pa_nil)))
      (pss_cons (ps_asg (pe_lst pa_nil) (pg_sub (pv 2) pe_int set_list))
      (pss_one (ps_ret pe_bl))))))), ?_⟩
    have nd := hS.nd
    simp only [List.nodup_cons, List.mem_cons, List.not_mem_nil, or_false, not_or, List.nodup_nil, and_true] at nd
    have sm := hS.loom.sm
    have lenS := hS.len
    refine ⟨_, rfl, tp, sp, 3, rfl, hS.tape, by decide, by decide, fun r1 H1 l1 u1 b1 T1 => ?_⟩
    have hS1 := hS.tp b1 T1
    refine ⟨_, rfl, tp, sp, 4, rfl, hS1.tape, by decide, by decide, fun r2 H2 l2 u2 b2 T2 => ⟨_, _, rfl, rfl, 1 + r2, rfl, by omega, by omega, fun D hD => ?_⟩⟩
    have hS2 := hS1.tp b2 T2
    have nDt : D ≠ tp := T2.ne_new hD
    have nDs : sp ≠ D := by
      obtain ⟨xs, _, _, _, _, q2, _⟩ := T2.ex
      exact ne_of_none q2 hD
    refine lc_range (lo := 0) (n := (1 + r2).toNat) (fun i H' => But [tp] H2 H' ∧ TapeAt H' tp sp ∧ ∃ (us : List Addr) (as : List Act), H' D = some (.lst (us.map .ref)) ∧ us.length = i ∧ Paired (fun u a => IsAct H' u a) us as ∧ ∀ a ∈ as, a ≠ .bad)
      ⟨But.new hD, T2.same (same_new hD), [], [], upd_same, rfl, .nil, fun a ha => by cases ha⟩ (fun i H' hi q => ?_) (fun H3 q => ?_)
    · obtain ⟨b3, T3, us, as, hD3, hlen, hP, hg⟩ := q
      refine ⟨rfl, _, rfl, tp, sp, rfl, T3, fun a H4 t4 b4 T4 nt4 hA hne => ?_⟩
      have hD4 := b4 _ _ hD3 (by simp [nDt])
      have bD : But [D] H4 (upd H4 D (.lst (us.map .ref ++ [.ref t4]))) := But.refl.put (.inl (by simp))
      have tups : ∀ b xs, H4 b = some (.tup xs) → upd H4 D (.lst (us.map .ref ++ [.ref t4])) b = some (.tup xs) := fun b xs e => bD _ _ e (by simp [ne_of e hD4 (by intro z; cases z)])
      refine ⟨_, hD4, ?_, (b3.trans b4).put (.inr hD), T4.but bD (by simp [nDt.symm]) (by simp [nDs]), us ++ [t4], as ++ [a], by rw [upd_same, List.map_append]; rfl, by rw [List.length_append, hlen]; rfl, Paired.snoc (Paired.mapP hP fun u a h => ?_) (hA.imp tups), fun a' ha' => ?_⟩
      · rw [List.length_map, hlen]
        exact small1000 (by omega)
      · exact (h.imp fun b xs e => b4 _ _ e (by simp [T3.ne_tup e])).imp tups
      · rcases List.mem_append.mp ha' with h | h
        · exact hg a' h
        · rw [List.mem_singleton.mp h]; exact hne
    · obtain ⟨b3, T3, us, as, hD3, hlen, hP, hg⟩ := q
      have hS3 := hS2.tp b3 T3
      obtain ⟨ce2, ke2, _⟩ := id hS2.loom.es
      have nDe : D ≠ e := (ne_of_none ke2 hD).symm
      have nDtt : D ≠ t := (ne_of_none hS2.loom.lg hD).symm
      have lua : us.length = as.length := Paired.length hP
      have le5 : us.length ≤ 5 := by omega
      refine ⟨_, rfl, rfl, ?_⟩
      by_cases hw0 : r1 = 0
      · refine ⟨true, congrArg V.bl (by rw [dec_int, hw0]; rfl), iteT ?_⟩
        obtain ⟨u, ur, rfl⟩ : ∃ u ur, us = u :: ur := by
          cases us with
          | nil => simp at hlen; omega
          | cons u ur => exact ⟨u, ur, rfl⟩
        obtain ⟨a, ar, rfl⟩ : ∃ a ar, as = a :: ar := by
          cases as with
          | nil => simp at lua
          | cons a ar => exact ⟨a, ar, rfl⟩
        have hA : IsAct H3 u a := by
          cases hP with
          | cons r _ => exact r
        have hga : a ≠ .bad := hg a (by simp)
        refine ⟨_, rfl, _, rfl, D, _, rfl, SqL.of hD3, fun L hL => ?_⟩
        have hcut : cutV ((u :: ur).map V.ref) none (some 1) = [V.ref u] := cut_takeV _ 1 (by simp)
        rw [hcut]
        obtain ⟨ce3, ke3, _⟩ := id hS3.loom.es
        have nLe : L ≠ e := (ne_of_none ke3 hL).symm
        have sL := same_new (o := HO.lst [V.ref u]) hL
        have hS4 := hS3.same sL
        have hL4 : upd H3 L (HO.lst [V.ref u]) L = some (HO.lst [V.ref u]) := upd_same
        have hA4 : IsAct (upd H3 L (HO.lst [V.ref u])) u a := hA.imp fun b xs e => sL _ _ e
        generalize upd H3 L (HO.lst [V.ref u]) = H4 at hS4 hL4 hA4 ⊢
        have loom4 := hS4.loom
        have tape4 := hS4.tape
        have net4 := hS4.net
        have hist4 := hS4.hist
        have past4 := hS4.past
        have tabs4 := hS4.tabs
        obtain ⟨dx, cc, g1, _⟩ := id loom4.ins
        cases a with
        | bad => exact absurd rfl hga
        | paint x y c =>
          obtain ⟨v, a1, a2, a3⟩ := id hA4
          refine ⟨_, rfl, L, _, _, _, rfl, rfl, SqL.of hL4, atI_nat (j := 0) rfl, u, _, _, _, rfl, rfl, SqT.of a1, atI_nat (j := 0) rfl, rfl, true, congrArg V.bl (decide_eq_true rfl), iteT ?_⟩
          refine ⟨_, rfl, p, dx, _, rfl, g1, rfl, _, rfl, L, _, _, _, rfl, rfl, SqL.of hL4, atI_nat (j := 0) rfl, u, _, _, _, rfl, rfl, SqT.of a1, atI_nat (j := 1) rfl, _, rfl, L, _, _, _, rfl, rfl, SqL.of hL4, atI_nat (j := 0) rfl, u, _, _, _, rfl, rfl, SqT.of a1, atI_nat (j := 2) rfl, p, n, e, l, t, v, N, _, _, _, _, x, y, loom4, a2, ?_, .inl ⟨c, rfl, a3, fun H5 l5 b5 nl5 loom5 => ?_⟩⟩
          · rw [List.length_map]; omega
          obtain ⟨dx4, c4, k4, _⟩ := id loom4.ins
          obtain ⟨ce4, ke4, _⟩ := id loom4.es
          obtain ⟨cl4, kl4, _⟩ := id loom4.ls
          have nlp : ∀ {a : Addr} {xs : List V}, H4 a = some (.lst xs) → a ≠ p := fun {a xs} e => ne_of e k4 (by intro z; cases z)
          have ntl : ∀ {a b : Addr} {xs ys : List V}, H4 a = some (.tup xs) → H4 b = some (.lst ys) → a ≠ b := fun {a b xs ys} e e' => ne_of e e' (by intro z; cases z)
          have ntp : ∀ {a : Addr} {xs : List V}, H4 a = some (.tup xs) → a ≠ p := fun {a xs} e => ne_of e k4 (by intro z; cases z)
          obtain ⟨xs4, i4, d4, g4, t41, t42, _⟩ := tape4.ex
          have T5 : TapeAt H5 tp sp := tape4.but b5 (by simp [nd, nlp t41]) (by simp [nd, nlp t42])
          have net5 := b5 _ _ net4 (by simp [ntp net4, ntl net4 ke4, ntl net4 loom4.lg])
          have hist5 := b5 _ _ hist4 (by simp [nd, nlp hist4])
          have past5 := b5 _ _ past4 (by simp [nd, nlp past4])
          have nd5 : (¬tp = sp ∧ ¬tp = hl ∧ ¬tp = h0 ∧ ¬tp = e ∧ ¬tp = l5 ∧ ¬tp = t) ∧ (¬sp = hl ∧ ¬sp = h0 ∧ ¬sp = e ∧ ¬sp = l5 ∧ ¬sp = t) ∧ (¬hl = e ∧ ¬hl = l5 ∧ ¬hl = t) ∧ (¬h0 = e ∧ ¬h0 = l5 ∧ ¬h0 = t) ∧ (¬e = l5 ∧ ¬e = t) ∧ ¬l5 = t ∧ ¬hl = h0 := by
            have w1 := ne_of_none t41 nl5
            have w2 := ne_of_none t42 nl5
            have w3 := ne_of_none hist4 nl5
            have w4 := ne_of_none past4 nl5
            have w5 := ne_of_none ke4 nl5
            have w6 := ne_of_none loom4.lg nl5
            simp [nd, w1, w2, w3, w4, w5, w6.symm]
          have tabs5 : LamX.Tabs (tbs P1 P2) H5 := tabs_but tabs4 b5 fun c hc => by
            simp at hc
            rcases hc with rfl | rfl
            · exact .inr (.inl ⟨_, _, _, k4⟩)
            · exact .inl ⟨_, ke4⟩
          have hL5 := b5 _ _ hL4 (by simp [nlp hL4, nLe])
          have hP5 : Paired (fun u a => IsAct H5 u a) [u] [Act.paint x y c] := .cons (hA4.imp fun b xs ee => b5 _ _ ee (by simp [ntp ee, ntl ee ke4])) .nil
          have good5 : ∀ a ∈ [Act.paint x y c], a ≠ .bad := fun a ha => by rw [List.mem_singleton.mp ha]; exact hga
          -- FIN
          refine ⟨_, rfl, hl, _, _, _, rfl, rfl, SqL.of hist5, atI_nat (j := 0) rfl, .inl ⟨rfl, _, SqL.of past5⟩, _, rfl, _, rfl, hl, _, _, _, rfl, rfl, SqL.of hist5, atI_nat (j := 0) rfl, _, rfl, h0, txs (ys ++ [z]), _, V.str (st z), rfl, rfl, SqL.of past5, ?_, _, rfl, np, L, N, z, [u], [Act.paint x y c], rfl, net5, sm, (hS.ok z (by simp)).1, (hS.ok z (by simp)).2, hL5, hP5, good5, fun H6 z' s6 zl' zltr' hcol => ?_⟩
          · have := atI_last (txs ys) (V.str (st z))
            rw [show txs ys ++ [V.str (st z)] = txs (ys ++ [z]) from by simp [txs]] at this
            exact this
          refine ⟨h0, _, _, rfl, rfl, s6 _ _ past5, ?_, ?_⟩
          · simp [txs]
            exact small1000 (by omega)
          refine ⟨Nat.zero_le _, fun h1' hh1' => ?_⟩
          have hist6 := s6 _ _ hist5
          have past6 := s6 _ _ past5
          have n10 : h1' ≠ h0 := fun z => by rw [z, upd_same] at hh1'; cases hh1'
          rw [upd_ne n10] at hh1'
          have nhl0 : hl ≠ h0 := by simp [nd5]
          have nhl1 : hl ≠ h1' := ne_of_none hist6 hh1'
          refine ⟨_, rfl, hl, _, _, 1, rfl, rfl, by rw [upd_ne nhl1, upd_ne nhl0]; exact hist6, rfl, ?_⟩
          generalize hHF : upd (upd (upd H6 h0 _) h1' _) hl _ = HF
          have bF : But [h0, hl] H6 HF := by rw [← hHF]; exact (((But.refl.put (.inl (by simp))).put (.inr hh1')).put (.inl (by simp)))
          have stF : Still ca H6 [h0, hl] := fun b hb => by
            rcases List.mem_cons.mp hb with rfl | hb
            · exact .inl ⟨txs (ys ++ [z]), past6⟩
            · exact .inl ⟨[.ref h0, .ref h1], by rw [List.mem_singleton.mp hb]; exact hist6⟩
          have hL6 := loom5.same s6
          obtain ⟨dx6, cc6, gg6, _⟩ := id hL6.ins
          obtain ⟨ces6, ge6, _⟩ := id hL6.es
          obtain ⟨cls6, gl6, _⟩ := id hL6.ls
          have np0 : p ≠ h0 := ne_of gg6 past6 (by intro z; cases z)
          have nph : p ≠ hl := ne_of gg6 hist6 (by intro z; cases z)
          have loomF := hL6.but bF stF (by simp [np0, nph]) (by simp [nd5, Ne.symm nd5.2.2.1.1, Ne.symm nd5.2.2.2.1.1]) (by simp [Ne.symm nd5.2.2.1.2.1, Ne.symm nd5.2.2.2.1.2.1]) (by simp [Ne.symm nd5.2.2.1.2.2, Ne.symm nd5.2.2.2.1.2.2])
          have T6 := T5.same s6
          obtain ⟨xsT, iT, bT, gT, qT1, qT2, _⟩ := T6.ex
          have net6 := s6 _ _ net5
          refine kk HF h1' l5 (ys ++ [z]) z' [] (k) ⟨T6.but bF (by simp [nd5]) (by simp [nd5]), bF _ _ net6 ?_, by rw [← hHF, upd_same]; rfl, ?_, ?_, ?_, ?_, ?_, ?_, ?_, ?_, ?_⟩
          · simp [ne_of net6 past6 (by intro z; cases z), ne_of net6 hist6 (by intro z; cases z)]
          · rw [← hHF, upd_ne nhl0.symm, upd_ne n10.symm, upd_same]
            simp [txs]
          · rw [← hHF, upd_ne nhl1.symm, upd_same]
            rfl
          · rw [hcol, List.map_append]
            exact loomF
          · intro w hw
            simp at hw
            rcases hw with h | h | h
            · exact hS.ok w (by simp [h])
            · exact hS.ok w (by simp [h])
            · rw [h]; exact ⟨zl', zltr'⟩
          · have f1 := ne_of_none qT1 hh1'
            have f2 := ne_of_none qT2 hh1'
            have f4 := ne_of_none ge6 hh1'
            have f5 := ne_of_none gl6 hh1'
            have f6 := ne_of_none hL6.lg hh1'
            simp only [List.nodup_cons, List.mem_cons, List.not_mem_nil, or_false, not_or, List.nodup_nil, and_true]
            simp [nd5, f1, f2, nhl1, n10.symm, f4.symm, f5.symm, f6.symm]
          · simp
            omega
          · have := hS.len2
            omega
          · have := hS.first
            cases ys <;> simpa using this
          · exact tabs_but (tabs5.ext s6) bF fun c hc => by
              rcases List.mem_cons.mp hc with rfl | hc
              · exact .inl ⟨txs (ys ++ [z]), past6⟩
              · exact .inl ⟨[.ref h0, .ref h1], by rw [List.mem_singleton.mp hc]; exact hist6⟩
        | move x y =>
          obtain ⟨v, a1, a2⟩ := id hA4
          refine ⟨_, rfl, L, _, _, _, rfl, rfl, SqL.of hL4, atI_nat (j := 0) rfl, u, _, _, _, rfl, rfl, SqT.of a1, atI_nat (j := 0) rfl, rfl, false, congrArg V.bl (by decide +kernel), iteF ?_⟩
          refine ⟨_, rfl, p, dx, _, rfl, g1, rfl, _, rfl, L, _, _, _, rfl, rfl, SqL.of hL4, atI_nat (j := 0) rfl, u, _, _, _, rfl, rfl, SqT.of a1, atI_nat (j := 1) rfl, p, n, e, l, t, v, N, _, _, _, _, x, y, rfl, loom4, a2, ?_, fun H5 l5 b5 nl5 loom5 => ?_⟩
          · rw [List.length_map]; omega
          obtain ⟨dx4, c4, k4, _⟩ := id loom4.ins
          obtain ⟨ce4, ke4, _⟩ := id loom4.es
          obtain ⟨cl4, kl4, _⟩ := id loom4.ls
          have nlp : ∀ {a : Addr} {xs : List V}, H4 a = some (.lst xs) → a ≠ p := fun {a xs} e => ne_of e k4 (by intro z; cases z)
          have ntl : ∀ {a b : Addr} {xs ys : List V}, H4 a = some (.tup xs) → H4 b = some (.lst ys) → a ≠ b := fun {a b xs ys} e e' => ne_of e e' (by intro z; cases z)
          have ntp : ∀ {a : Addr} {xs : List V}, H4 a = some (.tup xs) → a ≠ p := fun {a xs} e => ne_of e k4 (by intro z; cases z)
          obtain ⟨xs4, i4, d4, g4, t41, t42, _⟩ := tape4.ex
          have T5 : TapeAt H5 tp sp := tape4.but b5 (by simp [nd, nlp t41]) (by simp [nd, nlp t42])
          have net5 := b5 _ _ net4 (by simp [ntp net4, ntl net4 ke4, ntl net4 loom4.lg])
          have hist5 := b5 _ _ hist4 (by simp [nd, nlp hist4])
          have past5 := b5 _ _ past4 (by simp [nd, nlp past4])
          have nd5 : (¬tp = sp ∧ ¬tp = hl ∧ ¬tp = h0 ∧ ¬tp = e ∧ ¬tp = l5 ∧ ¬tp = t) ∧ (¬sp = hl ∧ ¬sp = h0 ∧ ¬sp = e ∧ ¬sp = l5 ∧ ¬sp = t) ∧ (¬hl = e ∧ ¬hl = l5 ∧ ¬hl = t) ∧ (¬h0 = e ∧ ¬h0 = l5 ∧ ¬h0 = t) ∧ (¬e = l5 ∧ ¬e = t) ∧ ¬l5 = t ∧ ¬hl = h0 := by
            have w1 := ne_of_none t41 nl5
            have w2 := ne_of_none t42 nl5
            have w3 := ne_of_none hist4 nl5
            have w4 := ne_of_none past4 nl5
            have w5 := ne_of_none ke4 nl5
            have w6 := ne_of_none loom4.lg nl5
            simp [nd, w1, w2, w3, w4, w5, w6.symm]
          have tabs5 : LamX.Tabs (tbs P1 P2) H5 := tabs_but tabs4 b5 fun c hc => by
            simp at hc
            rcases hc with rfl | rfl
            · exact .inr (.inl ⟨_, _, _, k4⟩)
            · exact .inl ⟨_, ke4⟩
          have hL5 := b5 _ _ hL4 (by simp [nlp hL4, nLe])
          have hP5 : Paired (fun u a => IsAct H5 u a) [u] [Act.move x y] := .cons (hA4.imp fun b xs ee => b5 _ _ ee (by simp [ntp ee, ntl ee ke4])) .nil
          have good5 : ∀ a ∈ [Act.move x y], a ≠ .bad := fun a ha => by rw [List.mem_singleton.mp ha]; exact hga
          -- FIN
          refine ⟨_, rfl, hl, _, _, _, rfl, rfl, SqL.of hist5, atI_nat (j := 0) rfl, .inl ⟨rfl, _, SqL.of past5⟩, _, rfl, _, rfl, hl, _, _, _, rfl, rfl, SqL.of hist5, atI_nat (j := 0) rfl, _, rfl, h0, txs (ys ++ [z]), _, V.str (st z), rfl, rfl, SqL.of past5, ?_, _, rfl, np, L, N, z, [u], [Act.move x y], rfl, net5, sm, (hS.ok z (by simp)).1, (hS.ok z (by simp)).2, hL5, hP5, good5, fun H6 z' s6 zl' zltr' hcol => ?_⟩
          · have := atI_last (txs ys) (V.str (st z))
            rw [show txs ys ++ [V.str (st z)] = txs (ys ++ [z]) from by simp [txs]] at this
            exact this
          refine ⟨h0, _, _, rfl, rfl, s6 _ _ past5, ?_, ?_⟩
          · simp [txs]
            exact small1000 (by omega)
          refine ⟨Nat.zero_le _, fun h1' hh1' => ?_⟩
          have hist6 := s6 _ _ hist5
          have past6 := s6 _ _ past5
          have n10 : h1' ≠ h0 := fun z => by rw [z, upd_same] at hh1'; cases hh1'
          rw [upd_ne n10] at hh1'
          have nhl0 : hl ≠ h0 := by simp [nd5]
          have nhl1 : hl ≠ h1' := ne_of_none hist6 hh1'
          refine ⟨_, rfl, hl, _, _, 1, rfl, rfl, by rw [upd_ne nhl1, upd_ne nhl0]; exact hist6, rfl, ?_⟩
          generalize hHF : upd (upd (upd H6 h0 _) h1' _) hl _ = HF
          have bF : But [h0, hl] H6 HF := by rw [← hHF]; exact (((But.refl.put (.inl (by simp))).put (.inr hh1')).put (.inl (by simp)))
          have stF : Still ca H6 [h0, hl] := fun b hb => by
            rcases List.mem_cons.mp hb with rfl | hb
            · exact .inl ⟨txs (ys ++ [z]), past6⟩
            · exact .inl ⟨[.ref h0, .ref h1], by rw [List.mem_singleton.mp hb]; exact hist6⟩
          have hL6 := loom5.same s6
          obtain ⟨dx6, cc6, gg6, _⟩ := id hL6.ins
          obtain ⟨ces6, ge6, _⟩ := id hL6.es
          obtain ⟨cls6, gl6, _⟩ := id hL6.ls
          have np0 : p ≠ h0 := ne_of gg6 past6 (by intro z; cases z)
          have nph : p ≠ hl := ne_of gg6 hist6 (by intro z; cases z)
          have loomF := hL6.but bF stF (by simp [np0, nph]) (by simp [nd5, Ne.symm nd5.2.2.1.1, Ne.symm nd5.2.2.2.1.1]) (by simp [Ne.symm nd5.2.2.1.2.1, Ne.symm nd5.2.2.2.1.2.1]) (by simp [Ne.symm nd5.2.2.1.2.2, Ne.symm nd5.2.2.2.1.2.2])
          have T6 := T5.same s6
          obtain ⟨xsT, iT, bT, gT, qT1, qT2, _⟩ := T6.ex
          have net6 := s6 _ _ net5
          refine kk HF h1' l5 (ys ++ [z]) z' [] (k) ⟨T6.but bF (by simp [nd5]) (by simp [nd5]), bF _ _ net6 ?_, by rw [← hHF, upd_same]; rfl, ?_, ?_, ?_, ?_, ?_, ?_, ?_, ?_, ?_⟩
          · simp [ne_of net6 past6 (by intro z; cases z), ne_of net6 hist6 (by intro z; cases z)]
          · rw [← hHF, upd_ne nhl0.symm, upd_ne n10.symm, upd_same]
            simp [txs]
          · rw [← hHF, upd_ne nhl1.symm, upd_same]
            rfl
          · rw [hcol, List.map_append]
            exact loomF
          · intro w hw
            simp at hw
            rcases hw with h | h | h
            · exact hS.ok w (by simp [h])
            · exact hS.ok w (by simp [h])
            · rw [h]; exact ⟨zl', zltr'⟩
          · have f1 := ne_of_none qT1 hh1'
            have f2 := ne_of_none qT2 hh1'
            have f4 := ne_of_none ge6 hh1'
            have f5 := ne_of_none gl6 hh1'
            have f6 := ne_of_none hL6.lg hh1'
            simp only [List.nodup_cons, List.mem_cons, List.not_mem_nil, or_false, not_or, List.nodup_nil, and_true]
            simp [nd5, f1, f2, nhl1, n10.symm, f4.symm, f5.symm, f6.symm]
          · simp
            omega
          · have := hS.len2
            omega
          · have := hS.first
            cases ys <;> simpa using this
          · exact tabs_but (tabs5.ext s6) bF fun c hc => by
              rcases List.mem_cons.mp hc with rfl | hc
              · exact .inl ⟨txs (ys ++ [z]), past6⟩
              · exact .inl ⟨[.ref h0, .ref h1], by rw [List.mem_singleton.mp hc]; exact hist6⟩
      · refine ⟨false, congrArg V.bl (by rw [dec_int]; simp [hw0]), iteF ?_⟩
        refine ⟨_, rfl, rfl, ?_⟩
        by_cases hw1 : r1 = 1
        · refine ⟨true, congrArg V.bl (by rw [dec_int, hw1]; rfl), iteT ?_⟩
          refine ⟨_, rfl, _, rfl, D, _, rfl, .inl (SqL.of hD3), _, _, rfl, rfl, tp, sp, _, rfl, hS3.tape, ?_, ?_, fun r4 H4 l4 u4 b4 T4 => ?_⟩
          · simp; omega
          · simp; omega
          have hS4 := hS3.tp b4 T4
          have hD4 := b4 _ _ hD3 (by simp [nDt])
          have hP4 : Paired (fun u a => IsAct H4 u a) us as := Paired.mapP hP fun u a h => h.imp fun b xs e => b4 _ _ e (by simp [hS3.tape.ne_tup e])
          obtain ⟨j, rfl⟩ : ∃ j : Nat, r4 = j := ⟨r4.toNat, by omega⟩
          have hj : j ≤ us.length := by simp at u4; omega
          have hjm : j ≤ (us.map V.ref).length := by simp; omega
          refine ⟨hS4.tabs, fun H5 xN tabs5 => ?_⟩
          have loom5 := hS4.loom.ext xN
          have hD5 := xN _ _ hD4 (fun _ z => by cases z)
          have hP5 : Paired (fun u a => IsAct H5 u a) us as := Paired.mapP hP4 fun u a h => h.imp fun b xs e => xN _ _ e (fun _ z => by cases z)
          obtain ⟨dx, cc, g1, _⟩ := id loom5.ins
          refine ⟨_, rfl, p, dx, _, rfl, g1, rfl, ?_⟩
          refine ⟨_, rfl, _, rfl, _, rfl, D, _, rfl, SqL.of hD5, fun L1 hL1 => ?_⟩
          rw [cut_takeV _ _ hjm]
          have s1 := same_new (o := HO.lst ((us.map V.ref).take j)) hL1
          have at1 : upd H5 L1 (HO.lst ((us.map V.ref).take j)) L1 = some (HO.lst ((us.map V.ref).take j)) := upd_same
          generalize upd H5 L1 (HO.lst ((us.map V.ref).take j)) = H6 at s1 at1 ⊢
          refine ⟨by show 2 ≤ sizeLine; decide, fun q hq => ⟨by show 3 ≤ sizeLine; decide, fun ub hub => ⟨by show 1 ≤ sizeLine; decide, fun L2 hL2 => ?_⟩⟩⟩
          have s2a := same_new (o := pl 0 0) hq
          have s2b := same_new (o := HO.tup [.str "paint", .ref q, .str "ab"]) hub
          have s2c := same_new (o := HO.lst [.ref ub]) hL2
          have s2 := (s2a.trans s2b).trans s2c
          have atq : upd (upd (upd H6 q (pl 0 0)) ub (HO.tup [.str "paint", .ref q, .str "ab"])) L2 (HO.lst [.ref ub]) q = some (pl 0 0) := s2c _ _ (s2b _ _ upd_same)
          have atub : upd (upd (upd H6 q (pl 0 0)) ub (HO.tup [.str "paint", .ref q, .str "ab"])) L2 (HO.lst [.ref ub]) ub = some (HO.tup [.str "paint", .ref q, .str "ab"]) := s2c _ _ upd_same
          have at2 : upd (upd (upd H6 q (pl 0 0)) ub (HO.tup [.str "paint", .ref q, .str "ab"])) L2 (HO.lst [.ref ub]) L2 = some (HO.lst [.ref ub]) := upd_same
          generalize upd (upd (upd H6 q (pl 0 0)) ub (HO.tup [.str "paint", .ref q, .str "ab"])) L2 (HO.lst [.ref ub]) = H7 at s2 atq atub at2 ⊢
          refine ⟨L1, L2, _, _, rfl, rfl, s2 _ _ at1, at2, by simp; exact Nat.le_of_lt (small1000 (by omega)), fun L3 hL3 => ?_⟩
          have s3 := same_new (o := HO.lst ((us.map V.ref).take j ++ [.ref ub])) hL3
          have at3 : upd H7 L3 (HO.lst ((us.map V.ref).take j ++ [.ref ub])) L3 = some (HO.lst ((us.map V.ref).take j ++ [.ref ub])) := upd_same
          generalize upd H7 L3 (HO.lst ((us.map V.ref).take j ++ [.ref ub])) = H8 at s3 at3 ⊢
          have s58 := (s1.trans s2).trans s3
          refine ⟨_, rfl, _, rfl, _, rfl, D, _, rfl, SqL.of (s58 _ _ hD5), fun L4 hL4 => ?_⟩
          rw [cut_dropV _ _ hjm]
          have s4 := same_new (o := HO.lst ((us.map V.ref).drop j)) hL4
          have at4 : upd H8 L4 (HO.lst ((us.map V.ref).drop j)) L4 = some (HO.lst ((us.map V.ref).drop j)) := upd_same
          generalize upd H8 L4 (HO.lst ((us.map V.ref).drop j)) = H9 at s4 at4 ⊢
          refine ⟨L3, L4, _, _, rfl, rfl, s4 _ _ at3, at4, by simp; exact Nat.le_of_lt (small1000 (by omega)), fun L5 hL5 => ?_⟩
          have s5 := same_new (o := HO.lst ((us.map V.ref).take j ++ [.ref ub] ++ (us.map V.ref).drop j)) hL5
          have at5 : upd H9 L5 (HO.lst ((us.map V.ref).take j ++ [.ref ub] ++ (us.map V.ref).drop j)) L5 = some (HO.lst (((us.take j ++ [ub]) ++ us.drop j).map .ref)) := by rw [upd_same]; simp
          have sAll := (s58.trans s4).trans s5
          have nLt : L5 ≠ t := (ne_of_none ((s58.trans s4) _ _ loom5.lg) hL5).symm
          have hub10 : upd H9 L5 (HO.lst ((us.map V.ref).take j ++ [.ref ub] ++ (us.map V.ref).drop j)) ub = some (HO.tup [.str "paint", .ref q, .str "ab"]) := s5 _ _ (s4 _ _ (s3 _ _ atub))
          have hq10 : upd H9 L5 (HO.lst ((us.map V.ref).take j ++ [.ref ub] ++ (us.map V.ref).drop j)) q = some (pl 0 0) := s5 _ _ (s4 _ _ (s3 _ _ atq))
          generalize upd H9 L5 (HO.lst ((us.map V.ref).take j ++ [.ref ub] ++ (us.map V.ref).drop j)) = H10 at at5 sAll hub10 hq10 ⊢
          have hP10 : Paired (fun u a => IsAct H10 u a) us as := Paired.mapP hP5 fun u a h => h.imp fun b xs e => sAll _ _ e
          have hPb : Paired (fun u a => IsAct H10 u a) ((us.take j ++ [ub]) ++ us.drop j) ((as.take j ++ [Act.bad]) ++ as.drop j) := Paired.app (Paired.snoc (Paired.takeN j hP10) ⟨q, 0, 0, hub10, hq10⟩) (Paired.dropN j hP10)
          have tl : (as.take j).length = j := by rw [List.length_take]; omega
          refine ⟨p, n, e, l, t, L5, N, _, _, _, _, _, _, rfl, loom5.same sAll, ?_, ?_, nLt, at5, hPb, fun hgood => absurd rfl (hgood .bad (by simp)), fun i hi hmin d H11 b11 loom11 hd => .inr ⟨rfl, d, _, rfl, hd, ?_⟩⟩
          · simp; omega
          · rw [lgk_len]; have := hS.len2; omega
          have hbadj : ((as.take j ++ [Act.bad]) ++ as.drop j)[j]? = some Act.bad := by
            rw [List.getElem?_append_left (by simp; omega), List.getElem?_append_right (by omega), tl]
            simp
          obtain rfl : i = j := by
            rcases Nat.lt_trichotomy i j with h | h | h
            · rw [List.getElem?_append_left (by simp; omega), List.getElem?_append_left (by omega)] at hi
              exact absurd rfl (hg .bad (List.mem_of_mem_take (List.mem_of_getElem? hi)))
            · exact h
            · exact absurd hbadj (hmin j h)
          refine ⟨_, rfl, rfl, false, congrArg V.bl (by simp), iteF ?_⟩
          rw [← lgk_succ] at loom11
          have lst11 : H10 t = some (.lst ((lgk k).map .str)) := (loom5.same sAll).lg
          refine kk H11 h1 l ys z zs (k + 1) ?_
          have len2 := hS.len2
          have all : ∀ b o, H4 b = some o → (∀ ps, o ≠ .tbl ps) → b ≠ t → H11 b = some o := fun b o e nt n => b11 _ _ (sAll _ _ (xN _ _ e nt)) (by simp [n])
          have nd' := hS4.nd
          simp only [List.nodup_cons, List.mem_cons, List.not_mem_nil, or_false, not_or, List.nodup_nil, and_true] at nd'
          refine hS4.re (fun b o e nb nt => all b o e nt fun z => nb (by simp [z])) (all _ _ hS4.past (fun _ z => by cases z) (by simp [nd'])) (all _ _ hS4.ahead (fun _ z => by cases z) (by simp [nd'])) loom11 hS4.ok (by have := hS4.len; omega) (by omega) hS4.first (tabs_but (tabs5.ext sAll) b11 fun c hc => .inl ⟨(lgk k).map .str, by rw [List.mem_singleton.mp hc]; exact lst11⟩)
        · refine ⟨false, congrArg V.bl (by rw [dec_int]; simp [hw1]), iteF ?_⟩
          refine ⟨hS3.tabs, fun H4 xN tabs4 => ?_⟩
          have loom4 := hS3.loom.ext xN
          have tape4 := hS3.tape.ext xN
          have net4 := xN _ _ hS3.net (fun _ z => by cases z)
          have hist4 := xN _ _ hS3.hist (fun _ z => by cases z)
          have past4 := xN _ _ hS3.past (fun _ z => by cases z)
          have hD4 := xN _ _ hD3 (fun _ z => by cases z)
          have hP4 : Paired (fun u a => IsAct H4 u a) us as := Paired.mapP hP fun u a h => h.imp fun b xs e => xN _ _ e (fun _ z => by cases z)
          obtain ⟨dx, cc, g1, _⟩ := id loom4.ins
          refine ⟨_, rfl, p, dx, _, rfl, g1, rfl, _, rfl, p, n, e, l, t, D, N, _, _, _, _, us, as, rfl, loom4, ?_, ?_, nDtt, hD4, hP4, fun _ H5 l5 b5 nl5 loom5 => ?_, fun i hi => absurd rfl (hg _ (List.mem_of_getElem? hi))⟩
          · rw [List.length_map]; omega
          · rw [lgk_len]; have := hS.len2; omega
          refine ⟨rfl, false, congrArg V.bl (by decide +kernel), iteF ?_⟩
          rw [← lgk_succ] at loom5
          obtain ⟨dx4, c4, k4, _⟩ := id loom4.ins
          obtain ⟨ce4, ke4, _⟩ := id loom4.es
          obtain ⟨cl4, kl4, _⟩ := id loom4.ls
          have nlp : ∀ {a : Addr} {xs : List V}, H4 a = some (.lst xs) → a ≠ p := fun {a xs} e => ne_of e k4 (by intro z; cases z)
          have ntl : ∀ {a b : Addr} {xs ys : List V}, H4 a = some (.tup xs) → H4 b = some (.lst ys) → a ≠ b := fun {a b xs ys} e e' => ne_of e e' (by intro z; cases z)
          have ntp : ∀ {a : Addr} {xs : List V}, H4 a = some (.tup xs) → a ≠ p := fun {a xs} e => ne_of e k4 (by intro z; cases z)
          obtain ⟨xs4, i4, d4, g4, t41, t42, _⟩ := tape4.ex
          have T5 : TapeAt H5 tp sp := tape4.but b5 (by simp [nd, nlp t41]) (by simp [nd, nlp t42])
          have net5 := b5 _ _ net4 (by simp [ntp net4, ntl net4 ke4, ntl net4 loom4.lg])
          have hist5 := b5 _ _ hist4 (by simp [nd, nlp hist4])
          have past5 := b5 _ _ past4 (by simp [nd, nlp past4])
          have nd5 : (¬tp = sp ∧ ¬tp = hl ∧ ¬tp = h0 ∧ ¬tp = e ∧ ¬tp = l5 ∧ ¬tp = t) ∧ (¬sp = hl ∧ ¬sp = h0 ∧ ¬sp = e ∧ ¬sp = l5 ∧ ¬sp = t) ∧ (¬hl = e ∧ ¬hl = l5 ∧ ¬hl = t) ∧ (¬h0 = e ∧ ¬h0 = l5 ∧ ¬h0 = t) ∧ (¬e = l5 ∧ ¬e = t) ∧ ¬l5 = t ∧ ¬hl = h0 := by
            have w1 := ne_of_none t41 nl5
            have w2 := ne_of_none t42 nl5
            have w3 := ne_of_none hist4 nl5
            have w4 := ne_of_none past4 nl5
            have w5 := ne_of_none ke4 nl5
            have w6 := ne_of_none loom4.lg nl5
            simp [nd, w1, w2, w3, w4, w5, w6.symm]
          have tabs5 : LamX.Tabs (tbs P1 P2) H5 := tabs_but tabs4 b5 fun c hc => by
            simp at hc
            rcases hc with rfl | rfl | rfl
            · exact .inr (.inl ⟨_, _, _, k4⟩)
            · exact .inl ⟨_, ke4⟩
            · exact .inl ⟨_, loom4.lg⟩
          have hL5 := b5 _ _ hD4 (by simp [nlp hD4, nDe, nDtt])
          have hP5 : Paired (fun u a => IsAct H5 u a) us as := Paired.mapP hP4 fun u a h => h.imp fun b xs ee => b5 _ _ ee (by simp [ntp ee, ntl ee ke4, ntl ee loom4.lg])
          have good5 := hg
          -- FIN
          refine ⟨_, rfl, hl, _, _, _, rfl, rfl, SqL.of hist5, atI_nat (j := 0) rfl, .inl ⟨rfl, _, SqL.of past5⟩, _, rfl, _, rfl, hl, _, _, _, rfl, rfl, SqL.of hist5, atI_nat (j := 0) rfl, _, rfl, h0, txs (ys ++ [z]), _, V.str (st z), rfl, rfl, SqL.of past5, ?_, _, rfl, np, D, N, z, us, as, rfl, net5, sm, (hS.ok z (by simp)).1, (hS.ok z (by simp)).2, hL5, hP5, good5, fun H6 z' s6 zl' zltr' hcol => ?_⟩
          · have := atI_last (txs ys) (V.str (st z))
            rw [show txs ys ++ [V.str (st z)] = txs (ys ++ [z]) from by simp [txs]] at this
            exact this
          refine ⟨h0, _, _, rfl, rfl, s6 _ _ past5, ?_, ?_⟩
          · simp [txs]
            exact small1000 (by omega)
          refine ⟨Nat.zero_le _, fun h1' hh1' => ?_⟩
          have hist6 := s6 _ _ hist5
          have past6 := s6 _ _ past5
          have n10 : h1' ≠ h0 := fun z => by rw [z, upd_same] at hh1'; cases hh1'
          rw [upd_ne n10] at hh1'
          have nhl0 : hl ≠ h0 := by simp [nd5]
          have nhl1 : hl ≠ h1' := ne_of_none hist6 hh1'
          refine ⟨_, rfl, hl, _, _, 1, rfl, rfl, by rw [upd_ne nhl1, upd_ne nhl0]; exact hist6, rfl, ?_⟩
          generalize hHF : upd (upd (upd H6 h0 _) h1' _) hl _ = HF
          have bF : But [h0, hl] H6 HF := by rw [← hHF]; exact (((But.refl.put (.inl (by simp))).put (.inr hh1')).put (.inl (by simp)))
          have stF : Still ca H6 [h0, hl] := fun b hb => by
            rcases List.mem_cons.mp hb with rfl | hb
            · exact .inl ⟨txs (ys ++ [z]), past6⟩
            · exact .inl ⟨[.ref h0, .ref h1], by rw [List.mem_singleton.mp hb]; exact hist6⟩
          have hL6 := loom5.same s6
          obtain ⟨dx6, cc6, gg6, _⟩ := id hL6.ins
          obtain ⟨ces6, ge6, _⟩ := id hL6.es
          obtain ⟨cls6, gl6, _⟩ := id hL6.ls
          have np0 : p ≠ h0 := ne_of gg6 past6 (by intro z; cases z)
          have nph : p ≠ hl := ne_of gg6 hist6 (by intro z; cases z)
          have loomF := hL6.but bF stF (by simp [np0, nph]) (by simp [nd5, Ne.symm nd5.2.2.1.1, Ne.symm nd5.2.2.2.1.1]) (by simp [Ne.symm nd5.2.2.1.2.1, Ne.symm nd5.2.2.2.1.2.1]) (by simp [Ne.symm nd5.2.2.1.2.2, Ne.symm nd5.2.2.2.1.2.2])
          have T6 := T5.same s6
          obtain ⟨xsT, iT, bT, gT, qT1, qT2, _⟩ := T6.ex
          have net6 := s6 _ _ net5
          refine kk HF h1' l5 (ys ++ [z]) z' [] (k + 1) ⟨T6.but bF (by simp [nd5]) (by simp [nd5]), bF _ _ net6 ?_, by rw [← hHF, upd_same]; rfl, ?_, ?_, ?_, ?_, ?_, ?_, ?_, ?_, ?_⟩
          · simp [ne_of net6 past6 (by intro z; cases z), ne_of net6 hist6 (by intro z; cases z)]
          · rw [← hHF, upd_ne nhl0.symm, upd_ne n10.symm, upd_same]
            simp [txs]
          · rw [← hHF, upd_ne nhl1.symm, upd_same]
            rfl
          · rw [hcol, List.map_append]
            exact loomF
          · intro w hw
            simp at hw
            rcases hw with h | h | h
            · exact hS.ok w (by simp [h])
            · exact hS.ok w (by simp [h])
            · rw [h]; exact ⟨zl', zltr'⟩
          · have f1 := ne_of_none qT1 hh1'
            have f2 := ne_of_none qT2 hh1'
            have f4 := ne_of_none ge6 hh1'
            have f5 := ne_of_none gl6 hh1'
            have f6 := ne_of_none hL6.lg hh1'
            simp only [List.nodup_cons, List.mem_cons, List.not_mem_nil, or_false, not_or, List.nodup_nil, and_true]
            simp [nd5, f1, f2, nhl1, n10.symm, f4.symm, f5.symm, f6.symm]
          · simp
            omega
          · have := hS.len2
            omega
          · have := hS.first
            cases ys <;> simpa using this
          · exact tabs_but (tabs5.ext s6) bF fun c hc => by
              rcases List.mem_cons.mp hc with rfl | hc
              · exact .inl ⟨txs (ys ++ [z]), past6⟩
              · exact .inl ⟨[.ref h0, .ref h1], by rw [List.mem_singleton.mp hc]; exact hist6⟩
end
end Cp
end
section
set_option Elab.async false
set_option linter.all false
set_option maxRecDepth 100000
set_option maxHeartbeats 4000000
namespace Cp
open PySem PySem.Spec PyProof.Rows L2
def dlog (lg : List Str) : PyData := .list (lg.map PyData.str)
theorem dpAll_log {K : PySem.W.Frag} {H : Hp} : ∀ lg : List Str, DpAll K H (lg.map V.str) (lg.map PyData.str)
  | [] => .nil
  | x :: r => .cons (.str x) (dpAll_log r)
theorem dp_log {K : PySem.W.Frag} {H : Hp} {a : Addr} {lg : List Str} (h : H a = some (.lst (lg.map .str))) : Dp K H (.ref a) (dlog lg) := .lst (SqL.of h) (dpAll_log lg)
theorem eqvAll_log : ∀ lg : List Str, PyData.eqvAll (lg.map PyData.str) (lg.map PyData.str) = true
  | [] => by simp [PyData.eqvAll]
  | x :: r => by
    have := eqvAll_log r
    simp [PyData.eqvAll, PyData.eqv, this]
theorem eqv_log (lg : List Str) : PyData.eqv (dlog lg) (dlog lg) = true := by
  unfold dlog
  rw [PyData.eqv]
  exact eqvAll_log lg
theorem lay_log : ∀ lg : List Str, (∀ x ∈ lg, PyData.strOk x = true) → PyData.canLayAll0 (lg.map PyData.str) = true
  | [], _ => by simp [PyData.canLayAll0]
  | x :: r, h => by
    have := lay_log r fun y hy => h y (List.mem_cons_of_mem _ hy)
    simp [PyData.canLayAll0, PyData.canLay0, this, h x List.mem_cons_self]
theorem depth_log : ∀ lg : List Str, PyData.depthAll (lg.map PyData.str) = 0
  | [] => by simp [PyData.depthAll]
  | x :: r => by simp [PyData.depthAll, PyData.depth, depth_log r]
theorem shaped_log (lg : List Str) (h : ∀ x ∈ lg, PyData.strOk x = true) : SeqAt.shaped (dlog lg) = true := by
  unfold SeqAt.shaped dlog
  rw [PyData.canLay0, PyData.depth, lay_log lg h, depth_log]
  rfl
theorem lgk_ok (k : Nat) : ∀ x ∈ lgk k, PyData.strOk x = true := by
  induction k with
  | zero => intro x hx; cases hx
  | succ k ih =>
    rw [lgk_succ]
    intro x hx
    rcases List.mem_append.mp hx with h | h
    · exact ih x h
    · rcases List.mem_cons.mp h with h | h
      · subst h; decide +kernel
      · rw [List.mem_singleton.mp h]; decide +kernel
theorem lgk_map (k : Nat) : (List.replicate k [V.str "begin", V.str "end"]).flatten = (lgk k).map V.str := by
  unfold lgk
  rw [List.map_flatten, List.map_replicate]
  rfl
end Cp
end
section
set_option Elab.async false
set_option linter.all false
set_option maxRecDepth 100000
set_option maxHeartbeats 4000000
namespace Cp
open PySem PySem.Spec PyProof.Rows L2
theorem SqL.same {K : PySem.W.Frag} {H H' : Hp} {a : Addr} {xs : List V} (h : SqL K H a xs) (s : Same H H') : SqL K H' a xs := by
  rcases h with (h | ⟨ob, h⟩) | h
  · exact .inl (.inl (s _ _ h))
  · exact .inl (.inr ⟨ob, s _ _ h⟩)
  · exact .inr h
theorem at_last_txs (ys : List (List Nat)) (z : List Nat) : atI (txs (ys ++ [z])) (-1) = some (V.str (st z)) := by
  have := atI_last (txs ys) (V.str (st z))
  rw [show txs ys ++ [V.str (st z)] = txs (ys ++ [z]) from by simp [txs]] at this
  exact this
theorem LSt.mono {ca : Nat → Addr} {tb : List (Addr × Str)} {H : Hp} {tp sp np hl h0 h1 p n e l t : Addr} {N : Lm.Nt} {ys zs : List (List Nat)} {z : List Nat} {k m m' : Nat} (h : LSt ca tb H tp sp np hl h0 h1 p n e l t N ys z zs k m) (q : m ≤ m') : LSt ca tb H tp sp np hl h0 h1 p n e l t N ys z zs k m' :=
  ⟨h.tape, h.net, h.hist, h.past, h.ahead, h.loom, h.ok, h.nd, Nat.le_trans h.len q, Nat.le_trans h.len2 q, h.first, h.tabs⟩
section
variable {P : Program} {w : World} {K : PySem.W.Frag} {mg : Str → Option Value} {base : Heap} {fa : Nat → Addr} {fd : Nat → FuncData} {ca pa ea qa : Nat → Addr} {c1 c2 P1 P2 : Addr}
theorem law_body (U : Ty K mg fa fd ca pa ea qa) (VL : TxL K mg base fa fd c1 c2 P1 P2) {f : Addr} {cdv : Value} {A : Around} {outer : List Env} {s : Shared} {H : Hp} {s0 : Addr} {xs : List Int} {Q : VK} {E : XK} (hr : Room 18 (A.deeper (envOfC "law" (defScope s_law) s.heap.objs.size f cdv)))
    (hs0 : SqL K H s0 (xs.map .int)) (tabs0 : LamX.Tabs (tbs P1 P2) H) (kQ : ∀ H', Q (.bl true) H') :
    ∃ t, PSs (cxOf CX0 P w K mg base N_law "law" (defScope s_law) f cdv A outer s H E).nox (defBody s_law) t ∧ t { nx := fun _ H' => Q .non H', rt := Q } (L2.start N_law [.ref s0]) H := by
  have T := U.toTx
  obtain ⟨dsL, hdL, hbL⟩ := loomB U
  refine ⟨_, (pss_cons (ps_set (i := 1) sc_law.nd rfl (Or.inl rfl) (pe_call (ok__law_tape T) (hr.mono (by decide)) (by rfl) T.g__law_tape T.f__law_tape.kp T.b__law_tape .nil pass0 (pa_cons (pv 0) pa_nil)))
      (pss_cons (ps_set (i := 2) sc_law.nd rfl (Or.inl rfl) (pe_call (ok__law_net T) (hr.mono (by decide)) (by rfl) T.g__law_net T.f__law_net.kp T.b__law_net .nil pass0 (pa_cons (pv 1) (pa_cons pe_int pa_nil))))
      (pss_cons (ps_set (i := 3) sc_law.nd rfl (Or.inl rfl) (pe_make T.mk0 (ok_Net___init__ T) (hr.mono (by decide)) (by rfl) T.g_Net T.b_Net___init__ .nil pass0 (pa_cons (pe_ix ix_tup (pv 2) pe_int (fun _ _ => rfl)) (pa_cons (pe_ix ix_tup (pv 2) pe_int (fun _ _ => rfl)) (pa_cons (pe_ix ix_tup (pv 2) pe_int (fun _ _ => rfl)) pa_nil)))))
      (pss_cons (ps_par (i := 4) (j := 5) (by rfl) sc_law.nd rfl rfl (by decide) rfl rfl (pa_cons (pe_make T.mk4 (ok_Loom___init__ U) (hr.mono (by decide)) (by rfl) T.g_Loom hbL hdL pass0 (pa_cons (pv 3) pa_nil)) (pa_cons (pe_lst (pa_cons (pe_lst (pa_cons (pe_op op_rep_str pe_str (pe_prop (pv 3) T.cl_Net T.p_Net_size (ok_Net_size T) (hr.mono (by decide)) T.b_Net_size .nil pass0 rfl)) pa_nil)) (pa_cons (pe_lst pa_nil) pa_nil))) pa_nil)) (by rfl))
      (pss_cons (ps_for PassesOwn.never rfl (pi_range1 (by rfl) T.z_range (pa_cons (pe_callB (call_max2 rfl) (by rfl) T.z_max (by decide +kernel) (pa_cons pe_int (pa_cons (pe_callB (call_min2 rfl) (by rfl) T.z_min (by decide +kernel) (pa_cons pe_int (pa_cons (pe_callB call_len_seq (by rfl) T.z_len PySem.boot_len (pa_cons (pv 0) pa_nil)) pa_nil))) pa_nil))) pa_nil)) (pg_name (i := 6) sc_law.nd rfl (Or.inl rfl)) (pss_cons (ps_set (i := 7) sc_law.nd rfl (Or.inl rfl) (pe_call (ok__law_draw T) (hr.mono (by decide)) (by rfl) T.g__law_draw T.f__law_draw.kp T.b__law_draw .nil pass0 (pa_cons (pv 1) (pa_cons pe_int pa_nil))))
      (pss_cons (ps_if (pt_cmpR op_lt (pv 7) pe_int (nomark _)) (pss_one (ps_set (i := 8) sc_law.nd rfl (Or.inl rfl) (pe_call (ok__law_stepped U VL) (hr.mono (by decide)) (by rfl) T.g__law_stepped T.f__law_stepped.kp T.b__law_stepped .nil pass0 (pa_cons (pv 4) (pa_cons (pv 5) (pa_cons (pv 7) pa_nil)))))) (pss_one (ps_if (pt_cmpR op_eq (pv 7) pe_int (nomark _)) (pss_cons (ps_set (i := 8) sc_law.nd rfl (Or.inl rfl) (pe_and (pe_cmpR (op_ownEq T.m_Loom___eq__ (ok_Loom___eq__ T) (hr.mono (by decide)) T.b_Loom___eq__ pass0) (pe_meth0 (pv 4) T.cl_Loom T.m_Loom_copy (ok_Loom_copy U) (hr.mono (by decide)) T.b_Loom_copy .nil pass0) (pv 4) (nomark _)) (pe_one (pe_cmpR (op_eqNil hr.units0) (pe_prop (pe_meth0 (pv 4) T.cl_Loom T.m_Loom_copy (ok_Loom_copy U) (hr.mono (by decide)) T.b_Loom_copy .nil pass0) T.cl_Loom T.p_Loom_log (ok_Loom_log T) (hr.mono (by decide)) T.b_Loom_log .nil pass0 rfl) (pe_lst pa_nil) (nomark _)))))
      (pss_one (ps_set (i := 4) sc_law.nd rfl (Or.inl rfl) (pe_meth0 (pv 4) T.cl_Loom T.m_Loom_copy (ok_Loom_copy U) (hr.mono (by decide)) T.b_Loom_copy .nil pass0)))) (pss_one (ps_set (i := 8) sc_law.nd rfl (Or.inl rfl) (pe_call (ok__law_acted U VL) (hr.mono (by decide)) (by rfl) T.g__law_acted T.f__law_acted.kp T.b__law_acted .nil pass0 (pa_cons (pv 1) (pa_cons (pv 4) (pa_cons (pv 5) (pa_cons (pv 2) pa_nil))))))))))
      (pss_cons (ps_set (i := 9) sc_law.nd rfl (Or.inl rfl) (pe_ix ix_list (pe_ix ix_list (pv 5) pe_int (fun _ _ => rfl)) (pe_un un_neg pe_int) (fun _ _ => rfl)))
      (pss_cons (ps_if (PW.pt (pw_or (pt_not (pt_val (pv 8))) (pw_or (pt_cmpR op_ne (pe_callB (call_ownLen T.m_Loom___len__ (ok_Loom___len__ T) (hr.mono (by decide)) T.b_Loom___len__ pass0) (by rfl) T.z_len PySem.boot_len (pa_cons (pv 4) pa_nil)) (pe_op op_sub (pe_callB call_len_seq (by rfl) T.z_len PySem.boot_len (pa_cons (pe_ix ix_list (pv 5) pe_int (fun _ _ => rfl)) pa_nil)) pe_int) (nomark _)) (pw_or1 (pt_cmpR (op_ownNe T.m_Carpet___eq__ T.ne_Woven (T.ity 2 (by decide)).2 (ok_Carpet___eq__ T) (hr.mono (by decide)) T.b_Carpet___eq__ pass0) (pe_prop (pv 4) T.cl_Loom T.p_Loom_carpet (ok_Loom_carpet T) (hr.mono (by decide)) T.b_Loom_carpet .nil pass0 rfl) (pe_sm (pe_glob (v := .ref (ca 1)) (by rfl) T.g_Carpet rfl) U.rC U.on (ok_Carpet_on U) (hr.mono (by decide)) T.b_Carpet_on pass0 (pa_cons (pv 3) (pa_cons (pv 9) pa_nil))) (nomark _)))))) (pss_one (ps_ret pe_bl)) pss_nil)
      (pss_cons (ps_set (i := 10) sc_law.nd rfl (Or.inl rfl) (pe_call (ok__law_place T) (hr.mono (by decide)) (by rfl) T.g__law_place T.f__law_place.kp T.b__law_place .nil pass0 (pa_cons (pv 1) pa_nil)))
      (pss_one (ps_if (PW.pt (pw_or (pt_cmpR op_ne (pe_ownItem T.m_Carpet___getitem__ T.fnin_getitem (ok_Carpet___getitem__ T) (hr.mono (by decide)) T.b_Carpet___getitem__ pass0 (pe_prop (pv 4) T.cl_Loom T.p_Loom_carpet (ok_Loom_carpet T) (hr.mono (by decide)) T.b_Loom_carpet .nil pass0 rfl) (pv 10)) (pe_call (ok__law_seen T) (hr.mono (by decide)) (by rfl) T.g__law_seen T.f__law_seen.kp T.b__law_seen .nil pass0 (pa_cons (pv 2) (pa_cons (pv 9) (pa_cons (pv 10) pa_nil)))) (nomark _)) (pw_or1 (pt_cmpR (op_neD hr.units) (pe_prop (pv 4) T.cl_Loom T.p_Loom_log (ok_Loom_log T) (hr.mono (by decide)) T.b_Loom_log .nil pass0 rfl) (pe_op op_rep (pe_lst (pa_cons pe_str (pa_cons pe_str pa_nil))) (pe_op op_fdivN (pe_callB call_len_seq (by rfl) T.z_len PySem.boot_len (pa_cons (pe_prop (pv 4) T.cl_Loom T.p_Loom_log (ok_Loom_log T) (hr.mono (by decide)) T.b_Loom_log .nil pass0 rfl) pa_nil)) pe_int)) (nomark _))))) (pss_one (ps_ret pe_bl)) pss_nil))))))))
      (pss_cons (ps_while PassesOwn.never (pt_cmpR op_gt (pe_callB (call_ownLen T.m_Loom___len__ (ok_Loom___len__ T) (hr.mono (by decide)) T.b_Loom___len__ pass0) (by rfl) T.z_len PySem.boot_len (pa_cons (pv 4) pa_nil)) pe_int (nomark _)) (pss_one (ps_expr (pe_meth0 (pv 4) T.cl_Loom T.m_Loom_undo (ok_Loom_undo U) (hr.mono (by decide)) T.b_Loom_undo .nil passL))))
      (pss_one (ps_ret (pe_cmpR (op_ownEq T.m_Loom___eq__ (ok_Loom___eq__ T) (hr.mono (by decide)) T.b_Loom___eq__ pass0) (pv 4) (pe_make T.mk4 (ok_Loom___init__ U) (hr.mono (by decide)) (by rfl) T.g_Loom hbL hdL pass0 (pa_cons (pv 3) pa_nil)) (nomark _)))))))))), ?_⟩
  refine ⟨_, rfl, s0, xs, rfl, hs0, fun H1 tp sp s1 ntp nsp T1 => ?_⟩
  refine ⟨_, rfl, tp, sp, rfl, T1, fun N np H2 sm b2 T2 nnp hnp => ?_⟩
  have s2 : Same H H2 := fun b o e => b2 _ _ (s1 _ _ e) fun z => by
    rw [List.mem_singleton.mp z, ntp] at e
    cases e
  have ok := sm.ok
  refine ⟨_, rfl, np, _, _, _, rfl, rfl, SqT.of hnp, atI_nat (j := 0) rfl, _, rfl, np, _, _, _, rfl, rfl, SqT.of hnp, atI_nat (j := 1) rfl, _, rfl, np, _, _, _, rfl, rfl, SqT.of hnp, atI_nat (j := 2) rfl, fun n dn nn ndn nndn => ⟨n, dn, N, rfl, upd_same, ok, fun H3 s3' hN3 => ⟨rfl, ?_⟩⟩⟩
  have s23 : Same H2 H3 := fun b o e => s3' b o (ne_of_none e nn) (by rw [upd_ne (ne_of_none e nn), upd_ne (ne_of_none e ndn)]; exact e)
  refine ⟨_, rfl, fun p dp np' ndp nedp => ?_⟩
  have sp0 : Same H3 (upd (upd H3 dp (.own p)) p (.ins (ca 4) dp [])) := fun b o e => by rw [upd_ne (ne_of_none e np'), upd_ne (ne_of_none e ndp)]; exact e
  refine ⟨p, dp, n, N, 97, rfl, upd_same, ?_, sm, by unfold Ltr; decide +kernel, fun H4 e l t b4 ne nl nt hL4 => ⟨rfl, ?_⟩⟩
  · have sp1 : Same H3 (upd (upd H3 dp (.own p)) p (.ins (ca 4) dp [])) := fun b o e => by rw [upd_ne (ne_of_none e np'), upd_ne (ne_of_none e ndp)]; exact e
    exact hN3.same sp1
  have s34 : Same H3 H4 := fun b o eb => b4 _ _ (by rw [upd_ne (ne_of_none eb np'), upd_ne (ne_of_none eb ndp)]; exact eb) (by simp [ne_of_none eb np'])
  have s24 := s23.trans s34
  obtain ⟨dxn, tn, gn1, gn2⟩ := id hL4.net
  have sz1 := sm.size1
  have sz := sm.size
  refine ⟨_, rfl, n, dxn, _, rfl, gn1, n, N, rfl, hL4.net, sm, 97, N.a * N.c, rfl, rfl, by omega, by omega, by show 1 ≤ sizeLine; decide, fun h0 hh0 => ⟨Nat.zero_le _, fun h1 hh1 => ⟨by show 2 ≤ sizeLine; decide, fun hl hhl => ⟨_, _, rfl, ?_⟩⟩⟩⟩
  obtain ⟨xsT, iT, bT, gT, qT1, qT2, _⟩ := T2.ex
  have w1 := ne_of_none (sp0 _ _ (s23 _ _ qT1)) ne
  have w2 := ne_of_none (sp0 _ _ (s23 _ _ qT1)) nl
  have w3 := ne_of_none (sp0 _ _ (s23 _ _ qT1)) nt
  have w4 := ne_of_none (sp0 _ _ (s23 _ _ qT2)) ne
  have w5 := ne_of_none (sp0 _ _ (s23 _ _ qT2)) nl
  have w6 := ne_of_none (sp0 _ _ (s23 _ _ qT2)) nt
  obtain ⟨ces, he4, _⟩ := id hL4.es
  obtain ⟨cls, hl4, _⟩ := id hL4.ls
  have t4 := s24 _ _ qT1
  have p4 := s24 _ _ qT2
  have fr : ∀ {x : Addr}, H4 x = none → tp ≠ x ∧ sp ≠ x ∧ e ≠ x ∧ l ≠ x ∧ t ≠ x := fun {x} hx => ⟨ne_of_none t4 hx, ne_of_none p4 hx, ne_of_none he4 hx, ne_of_none hl4 hx, ne_of_none hL4.lg hx⟩
  obtain ⟨a1, a2, a3, a4, a5⟩ := fr hh0
  have n10 : h1 ≠ h0 := fun z => by rw [z, upd_same] at hh1; cases hh1
  have hh1' := hh1
  rw [upd_ne n10] at hh1'
  obtain ⟨b1, b2', b3, b4', b5⟩ := fr hh1'
  have nl1 : hl ≠ h1 := fun z => by rw [z, upd_same] at hhl; cases hhl
  have hhl' := hhl
  rw [upd_ne nl1] at hhl'
  have nl0 : hl ≠ h0 := fun z => by rw [z, upd_same] at hhl'; cases hhl'
  rw [upd_ne nl0] at hhl'
  obtain ⟨d1, d2, d3, d4, d5⟩ := fr hhl'
  have s45 := ((same_new (o := HO.lst [V.str (st (List.replicate (N.a * N.c).toNat 97))]) hh0).trans (same_new (o := HO.lst []) hh1)).trans (same_new (o := HO.lst [.ref h0, .ref h1]) hhl)
  have at1 : upd (upd (upd H4 h0 (.lst [V.str (st (List.replicate (N.a * N.c).toNat 97))])) h1 (.lst [])) hl (.lst [.ref h0, .ref h1]) hl = some (.lst [.ref h0, .ref h1]) := upd_same
  have at2 : upd (upd (upd H4 h0 (.lst [V.str (st (List.replicate (N.a * N.c).toNat 97))])) h1 (.lst [])) hl (.lst [.ref h0, .ref h1]) h0 = some (.lst [V.str (st (List.replicate (N.a * N.c).toNat 97))]) := by rw [upd_ne nl0.symm, upd_ne n10.symm, upd_same]
  have at3 : upd (upd (upd H4 h0 (.lst [V.str (st (List.replicate (N.a * N.c).toNat 97))])) h1 (.lst [])) hl (.lst [.ref h0, .ref h1]) h1 = some (.lst []) := by rw [upd_ne nl1.symm, upd_same]
  generalize upd (upd (upd H4 h0 (.lst [V.str (st (List.replicate (N.a * N.c).toNat 97))])) h1 (.lst [])) hl (.lst [.ref h0, .ref h1]) = H5 at s45 at1 at2 at3 ⊢
  have loom5 := hL4.same s45
  rw [← Lm.col_const ok 97] at loom5
  have sAll := (s2.trans s24).trans s45
  have hS : LSt ca (tbs P1 P2) H5 tp sp np hl h0 h1 p n e l t N [] (List.replicate (Lm.size N) 97) [] 0 0 := by
    refine ⟨T2.same (s24.trans s45), s45 _ _ (s24 _ _ hnp), at1, at2, at3, loom5, fun w hw => ?_, ?_, Nat.le_refl _, Nat.le_refl _, rfl, tabs0.ext sAll⟩
    · have : w = List.replicate (Lm.size N) 97 := by simpa using hw
      rw [this]
      refine ⟨List.length_replicate, fun c hc => ?_⟩
      rw [(List.mem_replicate.mp hc).2]
      unfold Ltr
      decide +kernel
    · simp only [List.nodup_cons, List.mem_cons, List.not_mem_nil, or_false, not_or, List.nodup_nil, and_true]
      refine ⟨⟨T2.ne.symm, d1, a1, b1, w1, w2, w3⟩, ⟨d2, a2, b2', w4, w5, w6⟩, ⟨nl0, nl1, d3.symm, d4.symm, d5.symm⟩, ⟨n10.symm, a3.symm, a4.symm, a5.symm⟩, ⟨b3.symm, b4'.symm, b5.symm⟩, ⟨hL4.el, hL4.et⟩, hL4.lt, ?_⟩
      exact id
  have hs5 := SqL.same hs0 sAll
  have hM : ∀ ln : Int, 0 ≤ ln → 0 ≤ (if (if ln < 30 then ln else 30) > 8 then (if ln < 30 then ln else 30) else 8) ∧ (if (if ln < 30 then ln else 30) > 8 then (if ln < 30 then ln else 30) else 8) ≤ 30 := by
    intro ln h
    by_cases h1 : ln < 30
    · simp only [h1, if_true]
      split <;> omega
    · simp only [h1, if_false]
      omega
  refine ⟨_, rfl, s0, _, rfl, .inl hs5, _, _, rfl, _, _, rfl, _, rfl, ?_, ?_, for_range (lo := 0) (n := (_ : Int).toNat) (fun i σ H' => ∃ (hl h0 h1 p e l t : Addr) (ys : List (List Nat)) (z : List Nat) (zs : List (List Nat)) (k : Nat) (c6 c7 c8 c9 c10 : Option V), σ = [some (.ref s0), some (.ref tp), some (.ref np), some (.ref n), some (.ref p), some (.ref hl), c6, c7, c8, c9, c10] ∧ LSt ca (tbs P1 P2) H' tp sp np hl h0 h1 p n e l t N ys z zs k i)
    ⟨hl, h0, h1, p, e, l, t, _, _, _, _, _, _, _, _, _, rfl, hS⟩ ?_ ?_⟩
  · have := hM (xs.map V.int).length (by omega)
    omega
  · have := hM (xs.map V.int).length (by omega)
    omega
  · rintro i σ H' hi ⟨hl, h0, h1, p, e, l, t, ys, z, zs, k, c6, c7, c8, c9, c10, rfl, hS⟩
    have hi30 : i < 30 := by
      have := hM (xs.map V.int).length (by omega)
      omega
    have chk : ∀ (H2 : Hp) (hl h0 h1 p e l t : Addr) (ys : List (List Nat)) (z : List Nat) (zs : List (List Nat)) (k : Nat), LSt ca (tbs P1 P2) H2 tp sp np hl h0 h1 p n e l t N ys z zs k (i + 1) → True := fun _ _ _ _ _ _ _ _ _ _ _ _ _ => trivial
    refine ⟨_, rfl, tp, sp, 7, rfl, hS.tape, by decide, by decide, fun r1 H1 l1 u1 b1 T1 => ?_⟩
    have hS1 := hS.tp b1 T1
    obtain ⟨dx1, cc1, g1, g1c⟩ := id hS1.loom.ins
    refine ⟨_, rfl, _, _, rfl, rfl, ?_⟩
    by_cases hw : r1 < 2
    · refine ⟨true, congrArg V.bl (decide_eq_true hw), iteT ?_⟩
      refine ⟨_, rfl, _, rfl, _, rfl, tp, sp, np, hl, h0, h1, p, n, e, l, t, N, ys, z, zs, k, i, r1, rfl, by omega, by omega, hS1, fun H2 ys2 z2 zs2 hS2' => ?_⟩
      have hS2 := hS2'.mono (Nat.le_succ i)
      -- CHECK
      have hist2 := hS2.hist
      have past2 := hS2.past
      have loom2 := hS2.loom
      have smN := loom2.sm
      have ltN := hS2.len
      have lkN := hS2.len2
      obtain ⟨dxq, ccq, gq, _⟩ := id loom2.ins
      have zok := hS2.ok z2 (by simp)
      refine ⟨_, rfl, hl, _, _, _, rfl, rfl, SqL.of hist2, atI_nat (j := 0) rfl, _, rfl, h0, txs (ys2 ++ [z2]), _, V.str (st z2), rfl, rfl, SqL.of past2, at_last_txs _ _, ?_⟩
      refine ⟨_, rfl, _, rfl, iteF ?_⟩
      refine ⟨_, rfl, p, dxq, _, rfl, gq, p, n, e, l, t, N, _, _, _, _, rfl, loom2, _, rfl, by omega, by rw [List.length_map]; omega, _, rfl, hl, _, _, _, rfl, rfl, SqL.of hist2, atI_nat (j := 0) rfl, h0, _, rfl, .inl (SqL.of past2), _, _, rfl, rfl, rfl, false, congrArg V.bl (by rw [dec_int]; simp [txs]), iteF ?_⟩
      refine ⟨_, rfl, p, dxq, _, rfl, gq, p, n, e, l, t, N, _, _, _, _, rfl, loom2, fun c3 hc3 => ?_⟩
      refine ⟨rfl, _, rfl, _, rfl, n, N, z2, rfl, loom2.net, smN, zok.1, zok.2, fun H3 q3 s3 nq3 hq3 => ?_⟩
      have hc3' := hc3.same s3
      obtain ⟨dc3, _, _, ic3, _⟩ := id hc3'
      obtain ⟨dq3, _, _, iq3, _⟩ := id hq3
      refine ⟨c3, dc3, _, q3, dq3, _, rfl, rfl, ic3, iq3, c3, q3, Lm.col N z2, Lm.col N z2, rfl, hc3', hq3, fun b hb => ⟨b, rfl, ?_⟩⟩
      obtain rfl : b = true := hb.mpr rfl
      refine ⟨false, rfl, iteF ?_⟩
      have hS3 := hS2.same s3
      refine ⟨_, rfl, tp, sp, rfl, hS3.tape, fun fx fy H4 u4 b4 T4 nu4 hu4 => ?_⟩
      have hS4 := hS3.tp b4 T4
      have loom4 := hS4.loom
      obtain ⟨dx4, cc4, g4, _⟩ := id loom4.ins
      refine ⟨_, rfl, p, dx4, _, rfl, g4, p, n, e, l, t, N, _, _, _, _, rfl, loom4, fun c4 hc4 => ?_⟩
      obtain ⟨dc4, _, _, ic4, _⟩ := id hc4
      refine ⟨_, rfl, c4, dc4, _, rfl, ic4, c4, u4, _, fx, fy, rfl, hc4, hu4, fun H5 s5 => ?_⟩
      refine ⟨_, rfl, _, rfl, _, rfl, np, u4, N, z2, fx, fy, rfl, s5 _ _ hS4.net, smN, zok.1, s5 _ _ hu4, fun H6 s6 => ?_⟩
      refine ⟨rfl, false, congrArg V.bl (by simp), iteF ?_⟩
      have hS6 := hS4.same (s5.trans s6)
      have loom6 := hS6.loom
      obtain ⟨dx6, cc6, g6, _⟩ := id loom6.ins
      refine ⟨_, rfl, p, dx6, _, rfl, g6, p, n, e, l, t, N, _, _, _, _, rfl, loom6, fun D7 hD7 => ?_⟩
      have s7 := same_new (o := HO.lst ((lgk k).map V.str)) hD7
      have at7 : upd H6 D7 (HO.lst ((lgk k).map V.str)) D7 = some (HO.lst ((lgk k).map V.str)) := upd_same
      generalize upd H6 D7 (HO.lst ((lgk k).map V.str)) = H7 at s7 at7 ⊢
      refine ⟨by show 2 ≤ sizeLine; decide, fun L8 hL8 => ?_⟩
      have s8 := same_new (o := HO.lst [V.str "begin", V.str "end"]) hL8
      have at8 : upd H7 L8 (HO.lst [V.str "begin", V.str "end"]) L8 = some (HO.lst [V.str "begin", V.str "end"]) := upd_same
      generalize upd H7 L8 (HO.lst [V.str "begin", V.str "end"]) = H8 at s8 at8 ⊢
      have hS8 := hS6.same (s7.trans s8)
      have loom8 := hS8.loom
      obtain ⟨dx8, cc8, g8, _⟩ := id loom8.ins
      refine ⟨_, rfl, p, dx8, _, rfl, g8, p, n, e, l, t, N, _, _, _, _, rfl, loom8, fun D9 hD9 => ?_⟩
      have s9 := same_new (o := HO.lst ((lgk k).map V.str)) hD9
      have at9 : upd H8 D9 (HO.lst ((lgk k).map V.str)) D9 = some (HO.lst ((lgk k).map V.str)) := upd_same
      generalize upd H8 D9 (HO.lst ((lgk k).map V.str)) = H9 at s9 at9 ⊢
      refine ⟨D9, _, rfl, .inl (SqL.of at9), _, _, rfl, rfl, ⟨by decide, by decide⟩, ?_⟩
      have ek : Int.fdiv (((lgk k).map V.str).length : Int) 2 = (k : Nat) := by
        rw [List.length_map, lgk_len, Int.fdiv_eq_ediv_of_nonneg _ (by decide)]
        omega
      refine ⟨L8, ((k : Nat) : Int), _, rfl, congrArg V.int ek, s9 _ _ at8, by omega, by omega, ?_, fun M hM => ?_⟩
      · rw [Int.toNat_natCast]
        show 2 * k ≤ sizeLine
        exact Nat.le_of_lt (small1000 (by omega))
      rw [Int.toNat_natCast, lgk_map]
      have s10 := same_new (o := HO.lst ((lgk k).map V.str)) hM
      refine ⟨dlog (lgk k), dlog (lgk k), dp_log (s10 _ _ (s9 _ _ (s8 _ _ at7))), dp_log upd_same, shaped_log _ (lgk_ok _), shaped_log _ (lgk_ok _), false, congrArg V.bl (by rw [eqv_log]; rfl), iteF ?_⟩
      exact ⟨hl, h0, h1, p, e, l, t, ys2, z2, zs2, k, _, _, _, _, _, rfl, hS8.same (s9.trans s10)⟩
    · refine ⟨false, congrArg V.bl (decide_eq_false hw), iteF ?_⟩
      refine ⟨_, rfl, rfl, ?_⟩
      by_cases hw2 : r1 = 2
      · refine ⟨true, congrArg V.bl (by rw [dec_int, hw2]; rfl), iteT ?_⟩
        refine ⟨_, rfl, p, dx1, _, rfl, g1, rfl, p, n, e, l, t, N, _, _, _, _, rfl, hS1.loom, fun H2 p2 e2 l2 t2 s2 np2 ne2 nl2 nt2 hL2 => ?_⟩
        obtain ⟨dx2, cc2, g2, _⟩ := id hL2.ins
        refine ⟨_, rfl, p2, dx2, _, p, dx1, _, rfl, rfl, g2, s2 _ _ g1, p2, n, e2, l2, t2, N, _, _, _, _, p, n, e, l, t, N, _, _, _, _, rfl, hL2, hS1.loom.same s2, fun b hb => ?_⟩
        obtain rfl : b = true := hb.mpr ⟨rfl, rfl⟩
        refine ⟨_, rfl, iteT ?_⟩
        refine ⟨_, rfl, p, dx1, _, rfl, s2 _ _ g1, rfl, p, n, e, l, t, N, _, _, _, _, rfl, hS1.loom.same s2, fun H3 p3 e3 l3 t3 s3 np3 ne3 nl3 nt3 hL3 => ?_⟩
        obtain ⟨dx3, cc3, g3, _⟩ := id hL3.ins
        refine ⟨p3, dx3, _, rfl, g3, p3, n, e3, l3, t3, N, _, _, _, _, rfl, hL3, fun D4 hD4 => ?_⟩
        have s4 := same_new (o := HO.lst (([] : List Str).map V.str)) hD4
        have at4 : upd H3 D4 (HO.lst (([] : List Str).map V.str)) D4 = some (HO.lst []) := upd_same
        generalize upd H3 D4 (HO.lst (([] : List Str).map V.str)) = H4 at s4 at4 ⊢
        refine ⟨Nat.zero_le _, fun L5 hL5 => ?_⟩
        have s5 := same_new (o := HO.lst []) hL5
        have at5 : upd H4 L5 (HO.lst []) L5 = some (HO.lst []) := upd_same
        generalize upd H4 L5 (HO.lst []) = H5 at s5 at5 ⊢
        refine ⟨D4, L5, _, rfl, rfl, s5 _ _ at4, at5, ?_⟩
        have s15 := ((s2.trans s3).trans s4).trans s5
        have hS5 := hS1.same s15
        refine ⟨_, rfl, p, dx1, _, rfl, s15 _ _ g1, rfl, p, n, e, l, t, N, _, _, _, _, rfl, hS5.loom, fun H6 p6 e6 l6 t6 s6 np6 ne6 nl6 nt6 hL6 => ?_⟩
        have hS2 : LSt ca (tbs P1 P2) H6 tp sp np hl h0 h1 p6 n e6 l6 t6 N ys z zs 0 (i + 1) := by
          have hX := hS5.same s6
          have nd := hX.nd
          simp only [List.nodup_cons, List.mem_cons, List.not_mem_nil, or_false, not_or, List.nodup_nil, and_true] at nd
          obtain ⟨xs5, _, _, _, q1, q2, _⟩ := hS5.tape.ex
          have fr : ∀ {x : Addr}, H5 x = none → tp ≠ x ∧ sp ≠ x ∧ hl ≠ x ∧ h0 ≠ x ∧ h1 ≠ x := fun {x} hx => ⟨ne_of_none q1 hx, ne_of_none q2 hx, ne_of_none hS5.hist hx, ne_of_none hS5.past hx, ne_of_none hS5.ahead hx⟩
          have fe := fr ne6
          have fl := fr nl6
          have ft := fr nt6
          refine ⟨hX.tape, hX.net, hX.hist, hX.past, hX.ahead, hL6, hX.ok, ?_, Nat.le_trans hX.len (Nat.le_succ i), Nat.zero_le _, hX.first, hX.tabs⟩
          simp only [List.nodup_cons, List.mem_cons, List.not_mem_nil, or_false, not_or, List.nodup_nil, and_true]
          simp [nd, fe, fl, ft, hL6.el, hL6.et, hL6.lt]
        -- CHECK
        have hist2 := hS2.hist
        have past2 := hS2.past
        have loom2 := hS2.loom
        have smN := loom2.sm
        have ltN := hS2.len
        have lkN := hS2.len2
        obtain ⟨dxq, ccq, gq, _⟩ := id loom2.ins
        have zok := hS2.ok z (by simp)
        refine ⟨_, rfl, hl, _, _, _, rfl, rfl, SqL.of hist2, atI_nat (j := 0) rfl, _, rfl, h0, txs (ys ++ [z]), _, V.str (st z), rfl, rfl, SqL.of past2, at_last_txs _ _, ?_⟩
        refine ⟨_, rfl, _, rfl, iteF ?_⟩
        refine ⟨_, rfl, p6, dxq, _, rfl, gq, p6, n, e6, l6, t6, N, _, _, _, _, rfl, loom2, _, rfl, by omega, by rw [List.length_map]; omega, _, rfl, hl, _, _, _, rfl, rfl, SqL.of hist2, atI_nat (j := 0) rfl, h0, _, rfl, .inl (SqL.of past2), _, _, rfl, rfl, rfl, false, congrArg V.bl (by rw [dec_int]; simp [txs]), iteF ?_⟩
        refine ⟨_, rfl, p6, dxq, _, rfl, gq, p6, n, e6, l6, t6, N, _, _, _, _, rfl, loom2, fun c3 hc3 => ?_⟩
        refine ⟨rfl, _, rfl, _, rfl, n, N, z, rfl, loom2.net, smN, zok.1, zok.2, fun H3 q3 s3 nq3 hq3 => ?_⟩
        have hc3' := hc3.same s3
        obtain ⟨dc3, _, _, ic3, _⟩ := id hc3'
        obtain ⟨dq3, _, _, iq3, _⟩ := id hq3
        refine ⟨c3, dc3, _, q3, dq3, _, rfl, rfl, ic3, iq3, c3, q3, Lm.col N z, Lm.col N z, rfl, hc3', hq3, fun b hb => ⟨b, rfl, ?_⟩⟩
        obtain rfl : b = true := hb.mpr rfl
        refine ⟨false, rfl, iteF ?_⟩
        have hS3 := hS2.same s3
        refine ⟨_, rfl, tp, sp, rfl, hS3.tape, fun fx fy H4 u4 b4 T4 nu4 hu4 => ?_⟩
        have hS4 := hS3.tp b4 T4
        have loom4 := hS4.loom
        obtain ⟨dx4, cc4, g4, _⟩ := id loom4.ins
        refine ⟨_, rfl, p6, dx4, _, rfl, g4, p6, n, e6, l6, t6, N, _, _, _, _, rfl, loom4, fun c4 hc4 => ?_⟩
        obtain ⟨dc4, _, _, ic4, _⟩ := id hc4
        refine ⟨_, rfl, c4, dc4, _, rfl, ic4, c4, u4, _, fx, fy, rfl, hc4, hu4, fun H5 s5 => ?_⟩
        refine ⟨_, rfl, _, rfl, _, rfl, np, u4, N, z, fx, fy, rfl, s5 _ _ hS4.net, smN, zok.1, s5 _ _ hu4, fun H6 s6 => ?_⟩
        refine ⟨rfl, false, congrArg V.bl (by simp), iteF ?_⟩
        have hS6 := hS4.same (s5.trans s6)
        have loom6 := hS6.loom
        obtain ⟨dx6, cc6, g6, _⟩ := id loom6.ins
        refine ⟨_, rfl, p6, dx6, _, rfl, g6, p6, n, e6, l6, t6, N, _, _, _, _, rfl, loom6, fun D7 hD7 => ?_⟩
        have s7 := same_new (o := HO.lst ((lgk 0).map V.str)) hD7
        have at7 : upd H6 D7 (HO.lst ((lgk 0).map V.str)) D7 = some (HO.lst ((lgk 0).map V.str)) := upd_same
        generalize upd H6 D7 (HO.lst ((lgk 0).map V.str)) = H7 at s7 at7 ⊢
        refine ⟨by show 2 ≤ sizeLine; decide, fun L8 hL8 => ?_⟩
        have s8 := same_new (o := HO.lst [V.str "begin", V.str "end"]) hL8
        have at8 : upd H7 L8 (HO.lst [V.str "begin", V.str "end"]) L8 = some (HO.lst [V.str "begin", V.str "end"]) := upd_same
        generalize upd H7 L8 (HO.lst [V.str "begin", V.str "end"]) = H8 at s8 at8 ⊢
        have hS8 := hS6.same (s7.trans s8)
        have loom8 := hS8.loom
        obtain ⟨dx8, cc8, g8, _⟩ := id loom8.ins
        refine ⟨_, rfl, p6, dx8, _, rfl, g8, p6, n, e6, l6, t6, N, _, _, _, _, rfl, loom8, fun D9 hD9 => ?_⟩
        have s9 := same_new (o := HO.lst ((lgk 0).map V.str)) hD9
        have at9 : upd H8 D9 (HO.lst ((lgk 0).map V.str)) D9 = some (HO.lst ((lgk 0).map V.str)) := upd_same
        generalize upd H8 D9 (HO.lst ((lgk 0).map V.str)) = H9 at s9 at9 ⊢
        refine ⟨D9, _, rfl, .inl (SqL.of at9), _, _, rfl, rfl, ⟨by decide, by decide⟩, ?_⟩
        have ek : Int.fdiv (((lgk 0).map V.str).length : Int) 2 = (0 : Nat) := by
          rw [List.length_map, lgk_len, Int.fdiv_eq_ediv_of_nonneg _ (by decide)]
          omega
        refine ⟨L8, ((0 : Nat) : Int), _, rfl, congrArg V.int ek, s9 _ _ at8, by omega, by omega, ?_, fun M hM => ?_⟩
        · rw [Int.toNat_natCast]
          show 2 * 0 ≤ sizeLine
          exact Nat.le_of_lt (small1000 (by omega))
        rw [Int.toNat_natCast, lgk_map]
        have s10 := same_new (o := HO.lst ((lgk 0).map V.str)) hM
        refine ⟨dlog (lgk 0), dlog (lgk 0), dp_log (s10 _ _ (s9 _ _ (s8 _ _ at7))), dp_log upd_same, shaped_log _ (lgk_ok _), shaped_log _ (lgk_ok _), false, congrArg V.bl (by rw [eqv_log]; rfl), iteF ?_⟩
        exact ⟨hl, h0, h1, p6, e6, l6, t6, ys, z, zs, 0, _, _, _, _, _, rfl, hS8.same (s9.trans s10)⟩
      · refine ⟨false, congrArg V.bl (by rw [dec_int]; simp [hw2]), iteF ?_⟩
        refine ⟨_, rfl, _, rfl, _, rfl, _, rfl, tp, sp, np, hl, h0, h1, p, n, e, l, t, N, ys, z, zs, k, i, rfl, by omega, hS1, fun H2 h12 l2 ys2 z2 zs2 k2 hS2 => ?_⟩
        -- CHECK
        have hist2 := hS2.hist
        have past2 := hS2.past
        have loom2 := hS2.loom
        have smN := loom2.sm
        have ltN := hS2.len
        have lkN := hS2.len2
        obtain ⟨dxq, ccq, gq, _⟩ := id loom2.ins
        have zok := hS2.ok z2 (by simp)
        refine ⟨_, rfl, hl, _, _, _, rfl, rfl, SqL.of hist2, atI_nat (j := 0) rfl, _, rfl, h0, txs (ys2 ++ [z2]), _, V.str (st z2), rfl, rfl, SqL.of past2, at_last_txs _ _, ?_⟩
        refine ⟨_, rfl, _, rfl, iteF ?_⟩
        refine ⟨_, rfl, p, dxq, _, rfl, gq, p, n, e, l2, t, N, _, _, _, _, rfl, loom2, _, rfl, by omega, by rw [List.length_map]; omega, _, rfl, hl, _, _, _, rfl, rfl, SqL.of hist2, atI_nat (j := 0) rfl, h0, _, rfl, .inl (SqL.of past2), _, _, rfl, rfl, rfl, false, congrArg V.bl (by rw [dec_int]; simp [txs]), iteF ?_⟩
        refine ⟨_, rfl, p, dxq, _, rfl, gq, p, n, e, l2, t, N, _, _, _, _, rfl, loom2, fun c3 hc3 => ?_⟩
        refine ⟨rfl, _, rfl, _, rfl, n, N, z2, rfl, loom2.net, smN, zok.1, zok.2, fun H3 q3 s3 nq3 hq3 => ?_⟩
        have hc3' := hc3.same s3
        obtain ⟨dc3, _, _, ic3, _⟩ := id hc3'
        obtain ⟨dq3, _, _, iq3, _⟩ := id hq3
        refine ⟨c3, dc3, _, q3, dq3, _, rfl, rfl, ic3, iq3, c3, q3, Lm.col N z2, Lm.col N z2, rfl, hc3', hq3, fun b hb => ⟨b, rfl, ?_⟩⟩
        obtain rfl : b = true := hb.mpr rfl
        refine ⟨false, rfl, iteF ?_⟩
        have hS3 := hS2.same s3
        refine ⟨_, rfl, tp, sp, rfl, hS3.tape, fun fx fy H4 u4 b4 T4 nu4 hu4 => ?_⟩
        have hS4 := hS3.tp b4 T4
        have loom4 := hS4.loom
        obtain ⟨dx4, cc4, g4, _⟩ := id loom4.ins
        refine ⟨_, rfl, p, dx4, _, rfl, g4, p, n, e, l2, t, N, _, _, _, _, rfl, loom4, fun c4 hc4 => ?_⟩
        obtain ⟨dc4, _, _, ic4, _⟩ := id hc4
        refine ⟨_, rfl, c4, dc4, _, rfl, ic4, c4, u4, _, fx, fy, rfl, hc4, hu4, fun H5 s5 => ?_⟩
        refine ⟨_, rfl, _, rfl, _, rfl, np, u4, N, z2, fx, fy, rfl, s5 _ _ hS4.net, smN, zok.1, s5 _ _ hu4, fun H6 s6 => ?_⟩
        refine ⟨rfl, false, congrArg V.bl (by simp), iteF ?_⟩
        have hS6 := hS4.same (s5.trans s6)
        have loom6 := hS6.loom
        obtain ⟨dx6, cc6, g6, _⟩ := id loom6.ins
        refine ⟨_, rfl, p, dx6, _, rfl, g6, p, n, e, l2, t, N, _, _, _, _, rfl, loom6, fun D7 hD7 => ?_⟩
        have s7 := same_new (o := HO.lst ((lgk k2).map V.str)) hD7
        have at7 : upd H6 D7 (HO.lst ((lgk k2).map V.str)) D7 = some (HO.lst ((lgk k2).map V.str)) := upd_same
        generalize upd H6 D7 (HO.lst ((lgk k2).map V.str)) = H7 at s7 at7 ⊢
        refine ⟨by show 2 ≤ sizeLine; decide, fun L8 hL8 => ?_⟩
        have s8 := same_new (o := HO.lst [V.str "begin", V.str "end"]) hL8
        have at8 : upd H7 L8 (HO.lst [V.str "begin", V.str "end"]) L8 = some (HO.lst [V.str "begin", V.str "end"]) := upd_same
        generalize upd H7 L8 (HO.lst [V.str "begin", V.str "end"]) = H8 at s8 at8 ⊢
        have hS8 := hS6.same (s7.trans s8)
        have loom8 := hS8.loom
        obtain ⟨dx8, cc8, g8, _⟩ := id loom8.ins
        refine ⟨_, rfl, p, dx8, _, rfl, g8, p, n, e, l2, t, N, _, _, _, _, rfl, loom8, fun D9 hD9 => ?_⟩
        have s9 := same_new (o := HO.lst ((lgk k2).map V.str)) hD9
        have at9 : upd H8 D9 (HO.lst ((lgk k2).map V.str)) D9 = some (HO.lst ((lgk k2).map V.str)) := upd_same
        generalize upd H8 D9 (HO.lst ((lgk k2).map V.str)) = H9 at s9 at9 ⊢
        refine ⟨D9, _, rfl, .inl (SqL.of at9), _, _, rfl, rfl, ⟨by decide, by decide⟩, ?_⟩
        have ek : Int.fdiv (((lgk k2).map V.str).length : Int) 2 = (k2 : Nat) := by
          rw [List.length_map, lgk_len, Int.fdiv_eq_ediv_of_nonneg _ (by decide)]
          omega
        refine ⟨L8, ((k2 : Nat) : Int), _, rfl, congrArg V.int ek, s9 _ _ at8, by omega, by omega, ?_, fun M hM => ?_⟩
        · rw [Int.toNat_natCast]
          show 2 * k2 ≤ sizeLine
          exact Nat.le_of_lt (small1000 (by omega))
        rw [Int.toNat_natCast, lgk_map]
        have s10 := same_new (o := HO.lst ((lgk k2).map V.str)) hM
        refine ⟨dlog (lgk k2), dlog (lgk k2), dp_log (s10 _ _ (s9 _ _ (s8 _ _ at7))), dp_log upd_same, shaped_log _ (lgk_ok _), shaped_log _ (lgk_ok _), false, congrArg V.bl (by rw [eqv_log]; rfl), iteF ?_⟩
        exact ⟨hl, h0, h12, p, e, l2, t, ys2, z2, zs2, k2, _, _, _, _, _, rfl, hS8.same (s9.trans s10)⟩
  · rintro σ H' ⟨hl, h0, h1, p, e, l, t, ys, z, zs, k, c6, c7, c8, c9, c10, rfl, hS⟩
    have lenE := hS.len
    have lM := hM (xs.map V.int).length (by omega)
    have firstE : (ys.map (Lm.col N) ++ [Lm.col N z]).head? = some (fun _ _ => 97) := by
      have := congrArg (Option.map (Lm.col N)) hS.first
      rw [← List.head?_map, List.map_append] at this
      rw [← Lm.col_const ok 97]
      exact this
    refine ⟨fun m σ H2 => ∃ f es ls, LoomAt ca H2 p n e l t N f es ls (lgk k) ∧ m = es.length ∧ es.length + ls.length ≤ 60 ∧ (es ++ [f]).head? = some (fun _ _ => 97) ∧ σ = [some (.ref s0), some (.ref tp), some (.ref np), some (.ref n), some (.ref p), some (.ref hl), c6, c7, c8, c9, c10], ⟨_, _, _, _, hS.loom, rfl, by rw [List.length_map, List.length_map]; omega, firstE, rfl⟩, ?_⟩
    rintro m σ H2 ⟨f1, es, ls, hL, rfl, hlen, hfirst, rfl⟩
    obtain ⟨dx, cc, g1, _⟩ := id hL.ins
    refine ⟨_, rfl, p, dx, _, rfl, g1, p, n, e, l, t, N, _, _, _, _, rfl, hL, _, rfl, by omega, by omega, _, _, rfl, rfl, ?_⟩
    rcases ends_snoc es with rfl | ⟨es', g, rfl⟩
    · refine ⟨false, congrArg V.bl rfl, iteF ?_⟩
      have hf1 : f1 = fun _ _ => 97 := Option.some.inj hfirst
      refine ⟨_, rfl, _, rfl, fun p2 dp2 np2 ndp2 nedp2 => ?_⟩
      have sp2 : Same H2 (upd (upd H2 dp2 (.own p2)) p2 (.ins (ca 4) dp2 [])) := fun b o e => by rw [upd_ne (ne_of_none e np2), upd_ne (ne_of_none e ndp2)]; exact e
      refine ⟨p2, dp2, n, N, 97, rfl, upd_same, hL.net.same sp2, hL.sm, by unfold Ltr; decide +kernel, fun H4 e2 l2 t2 b4 ne2 nl2 nt2 hL4 => ⟨rfl, ?_⟩⟩
      have s24 : Same H2 H4 := fun b o eb => b4 _ _ (sp2 _ _ eb) (by simp [ne_of_none eb np2])
      have hL24 := hL.same s24
      obtain ⟨dx4, cc4, g4, _⟩ := id hL4.ins
      refine ⟨p, dx, _, p2, dx4, _, rfl, rfl, s24 _ _ g1, g4, p, n, e, l, t, N, _, _, _, _, p2, n, e2, l2, t2, N, _, _, _, _, rfl, hL24, hL4, fun b hb => ?_⟩
      obtain rfl : b = true := hb.mpr ⟨rfl, hf1⟩
      exact kQ H4
    · refine ⟨true, congrArg V.bl (decide_eq_true ?_), iteT ⟨fun σ' H3 => ∃ f es ls, LoomAt ca H3 p n e l t N f es ls (lgk k) ∧ es.length = es'.length ∧ es.length + ls.length ≤ 60 ∧ (es ++ [f]).head? = some (fun _ _ => 97) ∧ σ' = [some (.ref s0), some (.ref tp), some (.ref np), some (.ref n), some (.ref p), some (.ref hl), c6, c7, c8, c9, c10], fun σ' H3 q => ?_, ?_⟩⟩
      · rw [List.length_append]; show (0 : Int) < ((es'.length + 1 : Nat) : Int); omega
      · obtain ⟨f3, es3, ls3, q1, q2, q3, q4, q5⟩ := q
        exact ⟨es'.length, by rw [List.length_append]; exact Nat.lt_succ_self _, f3, es3, ls3, q1, q2.symm, q3, q4, q5⟩
      · refine ⟨_, rfl, p, dx, _, rfl, g1, rfl, p, n, e, l, t, N, _, _, _, _, rfl, hL, by omega, fun hes => absurd hes (by simp), fun es2 g2 hes H3 b3 hL3 => ?_⟩
        obtain ⟨rfl, q2⟩ := List.append_inj' hes rfl
        injection q2 with q2 _
        subst q2
        refine ⟨_, _, _, hL3, rfl, ?_, ?_, rfl⟩
        · simp at hlen ⊢
          omega
        · cases es' <;> simpa using hfirst
end
end Cp
end
section
set_option Elab.async false
set_option linter.all false
set_option maxRecDepth 100000
set_option maxHeartbeats 4000000
namespace Cp
open PySem PySem.Spec PyProof.Rows L2
def sp_law (K : PySem.W.Frag) (P1 P2 : Addr) : Sp := fun vs H Q _ => ∃ (s0 : Addr) (xs : List Int), vs = [.ref s0] ∧ SqL K H s0 (xs.map .int) ∧ LamX.Tabs (tbs P1 P2) H ∧ ∀ H', Q (.bl true) H'
theorem law_at {l : PySem.W.OpenLaw} {w : World} {K : PySem.W.Frag} {mg : Str → Option Value} {fa : Nat → Addr} {fd : Nat → FuncData} {ca pa ea qa : Nat → Addr} {c1 c2 P1 P2 : Addr} {h : Heap} (U : Ty K mg fa fd ca pa ea qa)
    (F1 : FunC K "_law_stepped" "_law_stepped" s__law_stepped (fa 65) (fd 65) c1) (F2 : FunC K "_law_acted" "_law_acted" s__law_acted (fa 66) (fd 66) c2) (ne : P1 ≠ P2)
    (e1 : h.get? P1 = some { cls := .none, data := .fields #[] }) (e2 : h.get? P2 = some { cls := .none, data := .fields #[] }) (n1 : K.lookup P1 = none) (n2 : K.lookup P2 = none) (h1 : PySem.W.CodeHd h c1 P1) (h2 : PySem.W.CodeHd h c2 P2) :
    LamX.LawAtS l w K CX0 19 63 "_law_script" mg (fa 67) h := by
  have T := U.toTx
  have two : ∀ {p : Addr × Addr}, p ∈ [(c1, P1), (c2, P2)] → p = (c1, P1) ∨ p = (c2, P2) := fun {p} hp => by
    rcases List.mem_cons.mp hp with e | e
    · exact .inl e
    · exact .inr (List.mem_singleton.mp e)
  refine ⟨fd 67, [(c1, P1), (c2, P2)], sp_law K P1 P2, fun p hp => ?_, fun p hp => ?_, fun p hp => ?_, fun s u => ?_, fun H a ns _ _ hc hS => ?_, fun base _ _ hT => ?_⟩
  · rcases two hp with rfl | rfl
    · exact e1
    · exact e2
  · rcases two hp with rfl | rfl
    · exact n1
    · exact n2
  · rcases two hp with rfl | rfl
    · exact h1
    · exact h2
  · obtain ⟨oc, od, kV, doc, pm, an, cdv, ct, osl, hfd, lk, hcd⟩ := T.f_law.ex
    rw [hfd]
    exact .of_eq rfl
  · refine ⟨a, ns, rfl, hS, fun p hp => ?_, fun _ => rfl⟩
    rcases List.mem_cons.mp hp with rfl | hp
    · exact LamX.TabS.nil (hc (c1, P1) (by simp))
    · rw [List.mem_singleton.mp hp]
      exact LamX.TabS.nil (hc (c2, P2) (by simp))
  · have VL : TxL K mg base fa fd c1 c2 P1 P2 := ⟨F1, F2, hT (c1, P1) (by simp), hT (c2, P2) (by simp), ne⟩
    refine T.f_law.ok sc_law (fun vs H Q E h => ?_) (fun cdv A outer s H vs Q E hr h => ?_)
    · obtain ⟨s0, xs, rfl, _⟩ := h
      rfl
    · obtain ⟨s0, xs, rfl, hs0, tabs0, kQ⟩ := h
      exact law_body U VL hr hs0 tabs0 kQ
end Cp
end
section
set_option Elab.async false
set_option linter.all false
set_option maxRecDepth 100000
set_option maxHeartbeats 4000000
/-! The head's own Hook: addresses by names, the facts as Bools of the written part K. -/
namespace Cp
open PySem PySem.Spec PyProof.Rows L2 He
/-! ### where the defs stand -/
/-! ### functions -/
theorem fnAt_ok {K : PySem.W.Frag} {a : Addr} {e : Str × Str × Stmt} (h : fnAt K a = fnVal e) (c : codeB K a e.2.1 = true) :
    ∃ oc od osl kV doc pm an cdv ct, fdAt K a = PySem.W.fnOf e.1 e.2.1 (defArgs e.2.2) (defBody e.2.2) (defScope e.2.2) .none kV doc pm an cdv ct ∧ K.lookup a = some ⟨oc, od, .func (PySem.W.fnOf e.1 e.2.1 (defArgs e.2.2) (defBody e.2.2) (defScope e.2.2) .none kV doc pm an cdv ct), osl⟩ ∧ PySem.W.codeIn K cdv e.2.1 = true := by
  unfold fnAt at h
  unfold codeB at c
  unfold fdAt
  cases q : K.lookup a with
  | none =>
    rw [q] at c
    cases c
  | some o =>
    obtain ⟨oc, od, dt, osl⟩ := o
    rw [q] at c h
    cases dt with
    | func fd =>
      obtain ⟨n1, n2, n3, n4, n5, n6, n7, n8, n9, n10, n11, n12, n13, n14, n15⟩ := fd
      have e2 : (some (n1, n2, n3, n4, n5, n6, n7, n8, n15) : FnV) = some (e.1, e.2.1, defArgs e.2.2, .stmts (defBody e.2.2), defScope e.2.2, mainGlobals, [], .none, builtinsNs) := h
      simp only [Option.some.injEq, Prod.mk.injEq] at e2
      obtain ⟨h1, h2, h3, h4, h5, h6, h7, h8, h9⟩ := e2
      subst h1 h2 h3 h4 h5 h6 h7 h8 h9
      exact ⟨oc, od, osl, n9, n10, n11, n12, n13, n14, rfl, rfl, c⟩
    | _ => cases c
end Cp
end
section
set_option Elab.async false
set_option linter.all false
set_option maxRecDepth 100000
set_option maxHeartbeats 4000000
namespace Cp
open PySem PySem.Spec PyProof.Rows L2 He
theorem recB_ok {K : PySem.W.Frag} {p g : Addr} {T : String} (h : recB K p T g = true) : ∃ rest, PySem.W.recIn K p T = some (.ref g :: rest) := by
  unfold recB at h
  split at h
  · rename_i a r e
    rw [of_decide_eq_true h] at e
    exact ⟨r, e⟩
  · cases h
theorem tx_of {K : PySem.W.Frag} {h : Heap} {mg : Str → Option Value} (X : K.In h) (G : h.Ns mainGlobals mg) (b : txB K = true) (bf : fnB K = true) (bl : fnL K = defTab.map fnVal) : Tx K mg (faK K) (fdK K) (caK K) (paK K) := by
  have len : defTab.length = 68 := by decide +kernel
  unfold txB at b
  simp only [Bool.and_eq_true, List.all_eq_true] at b
  obtain ⟨⟨⟨⟨⟨⟨⟨⟨⟨⟨⟨⟨⟨⟨⟨b1, b2⟩, b3⟩, b4⟩, b5⟩, b6⟩, b7⟩, b8⟩, b9⟩, b10⟩, b11⟩, b12⟩, b13⟩, b14⟩, b15⟩, b16⟩ := b
  refine ⟨fun i e hi => ?_, fun j e hj => ?_, fun j e hj => ?_, fun j hj => ?_, fun j e hj => ?_, fun j e hj => ?_, fun j e hj => ?_, fun j e hj => ?_, fun j e hj => ?_, fun j hj => ?_, ?_, fun j e hj => ?_, ?_, b13, b14, ?_, fun j e hj => ?_⟩
  · have hi' : i < 68 := by
      rw [← len]
      exact (List.getElem?_eq_some_iff.mp hi).1
    have e1 : (fnL K)[i]? = some (fnAt K (faK K i)) := by
      unfold fnL
      rw [List.getElem?_map, List.getElem?_range hi']
      rfl
    rw [bl, List.getElem?_map, hi] at e1
    have e2 : fnAt K (faK K i) = fnVal e := (Option.some.inj e1).symm
    unfold fnB at bf
    have bi := List.all_eq_true.mp bf i (List.mem_range.mpr hi')
    obtain ⟨k1, k2⟩ := ba bi
    rw [List.getD_eq_getElem?_getD, hi] at k1
    obtain ⟨oc, od, osl, kV, doc, pm, an, cdv, ct, q1, q2, q3⟩ := fnAt_ok e2 k1
    exact ⟨⟨oc, od, kV, doc, pm, an, cdv, ct, osl, q1, by rw [show fdK K i = fdAt K (faK K i) from rfl, q1]; exact q2, q3⟩, k2⟩
  · exact PySem.W.mg_of X G (eqO_ok (b1 e (List.mem_of_getElem? hj)))
  · have hj' : j < 5 := (List.getElem?_eq_some_iff.mp hj).1
    have q := PySem.W.mg_of X G (eqO_ok (b2 j (List.mem_range.mpr hj')))
    rw [List.getD_eq_getElem?_getD, hj] at q
    exact q
  · have q := b3 j (List.mem_range.mpr hj)
    obtain ⟨q1, q⟩ := ba q
    obtain ⟨q2, q⟩ := ba q
    obtain ⟨q3, q4⟩ := ba q
    exact ⟨q1, q2, q3, eqO_ok q4⟩
  · obtain ⟨q1, q⟩ := ba (b4 e (List.mem_of_getElem? hj))
    obtain ⟨q2, q3⟩ := ba q
    exact ⟨eqO_ok q1, q2, q3⟩
  · obtain ⟨q1, q⟩ := ba (b5 e (List.mem_of_getElem? hj))
    obtain ⟨q2, q⟩ := ba q
    obtain ⟨q3, q4⟩ := ba q
    exact ⟨eqO_ok q1, eqO_ok q2, of_decide_eq_true q3, recB_ok q4⟩
  · exact eqO_ok (b6 e (List.mem_of_getElem? hj))
  · obtain ⟨q1, q⟩ := ba (b7 e (List.mem_of_getElem? hj))
    obtain ⟨q2, q⟩ := ba q
    obtain ⟨q3, q4⟩ := ba q
    exact ⟨q1, eqO_ok q2, q3, q4⟩
  · exact PySem.W.mg_none_of X G (eqO_ok (b8 e (List.mem_of_getElem? hj)))
  · obtain ⟨q1, q2⟩ := ba (b9 j (List.mem_range.mpr hj))
    exact ⟨eqO_ok q1, of_decide_eq_true q2⟩
  · exact ⟨eqO_ok b10.1, of_decide_eq_true b10.2⟩
  · exact of_decide_eq_true (b11 e (List.mem_of_getElem? hj))
  · exact eqO_ok b12
  · exact str_ok X G b15
  · exact int_ok X G (b16 e (List.mem_of_getElem? hj))
end Cp
end
section
set_option Elab.async false
set_option linter.all false
set_option maxRecDepth 100000
set_option maxHeartbeats 4000000
namespace Cp
open PySem PySem.Spec PyProof.Rows L2 He
theorem clsPB_ok {K : PySem.W.Frag} {C : Addr} {newId : String} {bt : List Value} (q : clsPB K C newId bt = true) :
    ∃ nm qn N bs bm sn sub ab col dd k0 k1 k2 k3 k5, K.lookup C = some (excClassObj nm qn C N bs bm true sn sub ab col dd k0 k1 k2 k3 k5 newId) ∧ Xc.refsT bt bm = true := by
  unfold clsPB at q
  split at q
  · rename_i dd cd sl ho
    split at q
    · rename_i C' bm k0 k1 k2 k3 n k5 hm hs
      simp only [Bool.and_eq_true, beq_iff_eq, Bool.not_eq_true'] at q
      obtain ⟨⟨⟨⟨rfl, rfl⟩, hdel⟩, hdi⟩, ht⟩ := q
      obtain ⟨nm, bs, mro, ns, qn, hd, sn, sub, ab, col, del⟩ := cd
      dsimp only at hm hdel hdi
      subst hm hdel hdi
      have hsl : sl = #[k0, k1, k2, k3, some (.builtin n), k5] := by
        obtain ⟨l⟩ := sl
        simp only at hs
        rw [hs]
      subst hsl
      exact ⟨nm, qn, ns, bs, bm, sn, sub, ab, col, dd, k0, k1, k2, k3, k5, ho, ht⟩
    · cases q
  · cases q
theorem txe_of {K : PySem.W.Frag} {h : Heap} {mg : Str → Option Value} (X : K.In h) (G : h.Ns mainGlobals mg) (b : txeB K = true) (bl : exL K = [fnVal colE, fnVal runE]) : TxE K mg (eaK K) := by
  unfold txeB at b
  simp only [Bool.and_eq_true] at b
  obtain ⟨⟨⟨⟨⟨⟨⟨⟨⟨⟨⟨⟨⟨⟨⟨⟨⟨b1, b2⟩, b3⟩, b4⟩, b5⟩, b6⟩, b7⟩, b8⟩, b9⟩, b10⟩, b11⟩, b12⟩, b13⟩, b14⟩, b15⟩, b16⟩, b17⟩, b18⟩ := b
  have l1 : fnAt K (eaK K 1) = fnVal colE := by injection bl
  have l2 : fnAt K (eaK K 3) = fnVal runE := by
    injection bl with _ bl
    injection bl
  refine ⟨?_, ?_, PySem.W.mg_of X G (eqO_ok b7), b8, b9, of_decide_eq_true b10, of_decide_eq_true b11, PySem.W.mg_of X G (eqO_ok b12), PySem.W.mg_of X G (eqO_ok b13), of_decide_eq_true b14, of_decide_eq_true b15, of_decide_eq_true b16, of_decide_eq_true b17, of_decide_eq_true b18⟩
  · unfold ownFB at b2
    simp only [Bool.and_eq_true] at b2
    obtain ⟨⟨⟨⟨⟨⟨⟨⟨⟨⟨a1, a2⟩, a3⟩, a4⟩, a5⟩, a6⟩, a7⟩, a8⟩, a9⟩, a10⟩, a11⟩ := b2
    obtain ⟨oc, od, osl, kV, doc, pm, an, cdv, ct, q1, q2, q3⟩ := fnAt_ok l1 b3
    exact ⟨PySem.F.excBase_ValueError, PySem.F.store_ValueError, by decide +kernel, Xc.fld_value, PySem.W.mg_of X G (eqO_ok b1), clsPB_ok a1, eqO_ok a2, eqO_ok a3, eqO_ok a4, eqO_ok a5, eqO_ok a6, of_decide_eq_true a7, a8, of_decide_eq_true a9, of_decide_eq_true a10, a11,
      ⟨_, oc, od, doc, pm, an, cdv, ct, kV, osl, _, _, _, _, _, _, q2, q3⟩⟩
  · unfold ownFB at b5
    simp only [Bool.and_eq_true] at b5
    obtain ⟨⟨⟨⟨⟨⟨⟨⟨⟨⟨a1, a2⟩, a3⟩, a4⟩, a5⟩, a6⟩, a7⟩, a8⟩, a9⟩, a10⟩, a11⟩ := b5
    obtain ⟨oc, od, osl, kV, doc, pm, an, cdv, ct, q1, q2, q3⟩ := fnAt_ok l2 b6
    exact ⟨PySem.F.excBase_ArithmeticError, PySem.F.store_ArithmeticError, by decide +kernel, Xc.fld_index, PySem.W.mg_of X G (eqO_ok b4), clsPB_ok a1, eqO_ok a2, eqO_ok a3, eqO_ok a4, eqO_ok a5, eqO_ok a6, of_decide_eq_true a7, a8, of_decide_eq_true a9, of_decide_eq_true a10, a11,
      ⟨_, oc, od, doc, pm, an, cdv, ct, kV, osl, _, _, _, _, _, _, q2, q3⟩⟩
end Cp
end
section
set_option Elab.async false
set_option linter.all false
set_option maxRecDepth 100000
set_option maxHeartbeats 4000000
namespace Cp
open PySem PySem.Spec PyProof.Rows L2 He
theorem cgB_ok {K : PySem.W.Frag} {C p : Addr} {m : Str} {id : String} (h : cgB K C m id p = true) : PySem.W.findCls K (.ref C) (.type "type") m = some (.get (.builtin id) (.ref p) .none (.ref C)) := by
  unfold cgB at h
  split at h
  · rename_i b q c e
    obtain ⟨h1, h⟩ := ba h
    obtain ⟨h2, h3⟩ := ba h
    rw [of_decide_eq_true h1, of_decide_eq_true h2, of_decide_eq_true h3] at e
    exact e
  · cases h
theorem txc_of {K : PySem.W.Frag} (b : txcB K = true) (bl : fnW K dLoom.at_ = dLoom.val) : TxC K (faK K) (fdK K) (caK K) (qaK K) := by
  unfold txcB at b
  simp only [Bool.and_eq_true] at b
  obtain ⟨⟨⟨⟨⟨⟨⟨⟨⟨⟨⟨b1, b2⟩, b3⟩, b4⟩, b5⟩, b6⟩, b7⟩, b8⟩, b9⟩, b10⟩, b11⟩, b12⟩ := b
  obtain ⟨r1, r2⟩ := ba b1
  obtain ⟨r3, r4⟩ := ba b2
  obtain ⟨fd, F⟩ := DefD.funD bl b12
  have e : fd = fdK K 35 := by
    obtain ⟨oc, od, dV, kV, doc, pm, an, cdv, ct, osl, h1, h2, h3, h4, h5⟩ := F.ex
    show fd = fdAt K (faK K 35)
    unfold fdAt
    rw [show faK K 35 = fAd K dLoom.at_ from rfl, h2]
  rw [e] at F
  exact ⟨⟨r1, eqO_ok r2⟩, ⟨r3, eqO_ok r4⟩, ⟨cgB_ok b3, recB_ok b4, b5⟩, ⟨cgB_ok b6, recB_ok b7, b8⟩, ⟨cgB_ok b9, recB_ok b10, b11⟩, F⟩
/-! ### the code objects of the two makers of lambdas -/
theorem func_of {K : PySem.W.Frag} {i : Nat} {p : Defn} {x q : Str} {st : Stmt} (F : Fun K x q st (faK K i) (fdK K i)) (e : fAd K p = faK K i) : FunC K x q st (faK K i) (fdK K i) (codeOf K p) := by
  obtain ⟨oc, od, kV, doc, pm, an, cdv, ct, osl, h1, h2, h3⟩ := F.ex
  obtain ⟨c, rfl⟩ := codeIn_ref h3
  have hc : codeOf K p = c := codeOf_eq (by rw [e]; exact h2) (by rw [h1])
  rw [hc]
  exact ⟨oc, od, kV, doc, pm, an, ct, osl, h1, h2, h3⟩
end Cp
end
section
set_option Elab.async false
set_option linter.all false
set_option maxRecDepth 100000
set_option maxHeartbeats 4000000
namespace Cp
open PySem PySem.Spec PyProof.Rows L2 He
structure SaysY (h : Heap) (K : PySem.W.Frag) : Prop where
  t : txB K = true
  f : fnB K = true
  e : txeB K = true
  c : txcB K = true
  ne : neB K = true
  fl : fnL K = defTab.map fnVal
  el : exL K = [fnVal colE, fnVal runE]
  dl : fnW K dLoom.at_ = dLoom.val
  hd : ∀ p ∈ tf, PySem.W.codeHdIn K (cT K p).1 (cT K p).2 = true
  out : ∀ p ∈ tf, K.lookup (cT K p).2 = none
  empty : ∀ p ∈ tf, h.get? (cT K p).2 = some { cls := .none, data := .fields #[] }
theorem saysY_of {h : Heap} (q : obsY h.get? = valY) : SaysY h (frT h.get? (lvs h.get?)) := by
  generalize hK : frT h.get? (lvs h.get?) = K
  have q : obsK h.get? K = valY := by rw [← hK]; exact q
  have q1 : (factsB K && tabsB h.get? tf K) = true := congrArg (fun z : AlY => z.1.1) q
  obtain ⟨a, b⟩ := ba q1
  obtain ⟨a1, a⟩ := ba a
  obtain ⟨a2, a⟩ := ba a
  obtain ⟨a3, a⟩ := ba a
  obtain ⟨a4, a5⟩ := ba a
  have key : ∀ p ∈ tf, PySem.W.codeHdIn K (cT K p).1 (cT K p).2 = true ∧ ∃ o, h.get? (cT K p).2 = some o ∧ emptyTab o = true := fun p hp => by
    obtain ⟨h3, h4⟩ := ba (List.all_eq_true.mp b p hp)
    refine ⟨h3, ?_⟩
    cases q : h.get? (cT K p).2 with
    | none =>
      rw [q] at h4
      cases h4
    | some o =>
      rw [q] at h4
      exact ⟨o, rfl, h4⟩
  exact ⟨a1, a2, a3, a4, a5, congrArg (fun z : AlY => z.1.2) q, congrArg (fun z : AlY => z.2.1) q, congrArg (fun z : AlY => z.2.2) q, fun p hp => (key p hp).1, fun p hp => by
    obtain ⟨_, o, q, z⟩ := key p hp
    rw [← hK] at q ⊢
    exact frT_none q z, fun p hp => by
    obtain ⟨_, o, q, z⟩ := key p hp
    rw [q, emptyTab_eq z]⟩
def hookY : PySem.W.Hook where
  α := AlY
  obs := fun s => obsY s.heap.get?
  val := fun _ => valY
  says := fun _ h => ∃ K : PySem.W.Frag, K.In h ∧ SaysY h K
  of := fun _ _ e => ⟨_, frT_in, saysY_of e⟩
  keeps := fun _ _ _ ⟨K, hK, c⟩ k => ⟨K, PySem.W.Frag.In.keeps hK k, ⟨c.t, c.f, c.e, c.c, c.ne, c.fl, c.el, c.dl, c.hd, c.out, fun p hp => k _ _ (c.empty p hp)⟩⟩
theorem obsY_eq {g : Addr → Option Obj} {s : Shared} (h : ∀ a, g a = s.heap.get? a) : obsY g = hookY.obs s := by
  have e : g = s.heap.get? := funext h
  rw [e] <;> rfl
/-- what the walk takes from the head -/
theorem law_of {l : PySem.W.OpenLaw} {w : World} {K : PySem.W.Frag} {h : Heap} {mg : Str → Option Value} {f : Addr} (X : K.In h) (G : h.Ns mainGlobals mg) (hf : mg ("law" : Str) = some (.ref f)) (c : SaysY h K) : LamX.LawAtS l w K CX0 19 63 "_law_script" mg f h := by
  have T := tx_of X G c.t c.f c.fl
  have U : Ty K mg (faK K) (fdK K) (caK K) (paK K) (eaK K) (qaK K) := ⟨T, txe_of X G c.e c.el, txc_of c.c c.dl⟩
  have e : f = faK K 67 := by
    have q := T.g_law
    rw [q] at hf
    injection hf with hf
    injection hf with hf
    exact hf.symm
  rw [e]
  have m1 : ((("_law_stepped" : Str), (none : Option Str)) : Defn) ∈ tf := List.mem_cons_self
  have m2 : ((("_law_acted" : Str), (none : Option Str)) : Defn) ∈ tf := List.mem_cons_of_mem _ List.mem_cons_self
  exact law_at (P1 := (cT K ("_law_stepped", none)).2) (P2 := (cT K ("_law_acted", none)).2) U (func_of T.f__law_stepped rfl) (func_of T.f__law_acted rfl) (of_decide_eq_true c.ne) (c.empty _ m1) (c.empty _ m2) (c.out _ m1) (c.out _ m2)
    (PySem.W.codeHd_of_K X (c.hd _ m1)) (PySem.W.codeHd_of_K X (c.hd _ m2))
end Cp
end
section
set_option Elab.async false
set_option linter.all false
set_option maxRecDepth 100000
set_option maxHeartbeats 0
namespace Cp
open PySem PySem.W PySem.Calls PyProof.Rows HandSHeadRun
theorem ob_eq (s : PySem.W.SharedT) : ob s = hookY.obs s.abs := obsY_eq (HandSHeadRun.getT_eq s)
theorem run_t (w : World) : HandSHeadRun.RunEq R (PySem.W.view R.prog [83]) hookY ob 20000 loose (gw true w) := fun os => join3 (v := valY) (t1 w os) (t2 w os) (t3 w os)
theorem run_f (w : World) : HandSHeadRun.RunEq R (PySem.W.view R.prog [83]) hookY ob 20000 loose (gw false w) := fun os => join3 (v := valY) (f1 w os) (f2 w os) (f3 w os)
theorem run (w : World) : HandSHeadRun.RunEq R (PySem.W.view R.prog [83]) hookY ob 20000 loose w :=
  byRow2 "special-get-raises" (P := fun w => HandSHeadRun.RunEq R (PySem.W.view R.prog [83]) hookY ob 20000 loose w) run_f run_t w
end Cp
open PySem PySem.W PySem.Calls PyProof.Rows
theorem PySem.Challenge.cw_carpets_k83_whole_looms_of_many_actions_holds : PySem.Challenge.rw_carpets_k83_whole_looms_of_many_actions.Holds := by
  w_on; o_law
  refine HandSHeadRun.head_any (r := OpenLaw.row PySem.Challenge.rw_carpets_k83_whole_looms_of_many_actions) (q := view (OpenLaw.row PySem.Challenge.rw_carpets_k83_whole_looms_of_many_actions).prog [83]) (H := Cp.hookY) (ob := Cp.ob) (M := 20000) (loose := Cp.loose) (d := HandSHeadRun.topDef (OpenLaw.row PySem.Challenge.rw_carpets_k83_whole_looms_of_many_actions).prog 83) (kwd := []) Cp.ob_eq
    (by kernel_rfl) (fun s => by kernel_rfl) Cp.run (by kernel_rfl) (by kernel_rfl) (by kernel_rfl) (by rfl) (by first | assumption | decide +kernel) (by decide +kernel) ⟨rfl, rfl, rfl, rfl, rfl, by decide +kernel⟩ ?hw ?hc
  case hw => w_witness2
  case hc =>
    refine LamX.walk_ofTsE (l := PySem.Challenge.rw_carpets_k83_whole_looms_of_many_actions) (n := 63) (k := 19) (x := "_law_script") (CX := fun _ => L2.CX0) rfl (by decide) (by kernel_rfl) ⟨rfl, by decide, by decide⟩ ?F (fun _ _ _ _ _ z => z)
    intro w mg fa h Y G hmg0
    obtain ⟨K, KX, c⟩ := Y
    have hmg : mg ("law" : PySem.Str) = some (.ref fa) := by
      have e : (HandSHeadRun.topDef (OpenLaw.row PySem.Challenge.rw_carpets_k83_whole_looms_of_many_actions).prog 83).name = ("law" : PySem.Str) := by kernel_rfl
      rw [← e]
      exact hmg0
    exact ⟨K, KX, Cp.law_of KX G hmg c⟩
end

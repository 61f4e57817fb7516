import PyProof.Rows.All
import Wide.All
import OpenK.AllK
import Wide.FinOn
import KE.KStateDown
import HandS.ForMost
import HandS.Exc
import HandS.ExcCtx
import HandS.TryOnly
import HandS.TryMany
import HandS.ExcInit
import HandS.ExcField
import HandS.HotCalls
import HandS.WordsExc
import HandS.Defaults
import HandS.IsInst
import HandS.Zip
import HandS.Style
import HandS.Strs
import HandS.Deep
import HandS.NoneIn
import HandS.Wide
import HandS.Walk
import KE.GoesNew
import KE.GoesEnum
import HandS.Head0
import HandS.Head1
import HandS.Head2
import HandS.HeadEnd
import HandS.HeadHook1
import HandS.HeadHook2
import PySem.Challenge.RW_haulbell_k58_whole_stops_and_back
import HandS.CallSlots
import HandS.More
import KE.KDictList
import PyProof.CollectWalk
import HandS.Conv
import HandS.Sort
set_option Elab.async false
set_option linter.all false
set_option maxRecDepth 100000
set_option maxHeartbeats 0
/-! Haulbell, law k58: 1. the text by places, the facts of the top by names (printed by gen1.py) -/
namespace HB
open PySem L2
def top (i : Nat) : Stmt := PySem.Challenge.pw_haulbell_k58_whole_stops_and_back.main.body.getD i (.Pass ⟨0, 0, 0, 0⟩)
abbrev s_is_whole : Stmt := top 14
abbrev s_is_content : Stmt := top 15
abbrev s_is_box : Stmt := top 19
abbrev s_fits : Stmt := top 20
abbrev s_check_boxes : Stmt := top 23
abbrev s_check_number : Stmt := top 24
abbrev s_need_rows : Stmt := top 33
abbrev s_checked_cells : Stmt := top 40
abbrev s_check : Stmt := top 49
abbrev s_go_on : Stmt := top 50
abbrev s_lessen : Stmt := top 51
abbrev s_law_hand : Stmt := top 59
abbrev s_law_draw : Stmt := top 60
abbrev s_law_content : Stmt := top 61
abbrev s_law_cells : Stmt := top 62
abbrev s_law_leaves : Stmt := top 63
abbrev s_law_spot : Stmt := top 65
abbrev s_law_six : Stmt := top 66
abbrev s_law_spec : Stmt := top 67
abbrev s_law_deed : Stmt := top 68
abbrev s_law_long : Stmt := top 69
abbrev s_law_let : Stmt := top 70
abbrev s_law_reach : Stmt := top 71
abbrev s_law_fits : Stmt := top 72
abbrev s_law_barred : Stmt := top 73
abbrev s_law_step : Stmt := top 74
abbrev s_law_moved : Stmt := top 75
abbrev s_law_looked : Stmt := top 76
abbrev s_law_store : Stmt := top 77
abbrev s_law_boxes : Stmt := top 78
abbrev s_law_own : Stmt := top 79
abbrev s_law_watched : Stmt := top 80
abbrev s_law_go : Stmt := top 81
abbrev s_law_undo : Stmt := top 82
abbrev s_law_state : Stmt := top 83
abbrev s_law_stands : Stmt := top 84
abbrev s_law_open : Stmt := top 85
abbrev s_law_forth : Stmt := top 86
abbrev s_law_no_leave : Stmt := top 87
abbrev s_law : Stmt := top 88
abbrev s_Boxes_holds : Stmt := inClass (top 21) 1
abbrev s_Boxes_give : Stmt := inClass (top 21) 2
abbrev s_Boxes_told : Stmt := inClass (top 21) 3
abbrev s_Boxes_copied : Stmt := inClass (top 21) 4
abbrev s_Store_told : Stmt := inClass (top 41) 2
abbrev s_Store_leaves : Stmt := inClass (top 41) 3
abbrev s_Store_leave : Stmt := inClass (top 41) 4
abbrev s_Store_may : Stmt := inClass (top 41) 5
abbrev s_Store_look : Stmt := inClass (top 41) 6
abbrev s_Store_put : Stmt := inClass (top 41) 7
abbrev s_Store_copied : Stmt := inClass (top 41) 8
abbrev s_Noted_put : Stmt := inClass (top 43) 1
abbrev s_Noted_put_back : Stmt := inClass (top 43) 2
abbrev s_Watched_step : Stmt := inClass (top 44) 1
abbrev s_Watched_log : Stmt := inClass (top 44) 2
abbrev s_Watched_back : Stmt := inClass (top 44) 4
abbrev s_Machine_state : Stmt := inClass (top 34) 5
abbrev s_Machine_leaves : Stmt := inClass (top 34) 7
abbrev s_Machine_leave : Stmt := inClass (top 34) 8
abbrev s_Machine_is_done : Stmt := inClass (top 34) 1
abbrev s_Set_step : Stmt := inClass (top 26) 1
abbrev s_Add_step : Stmt := inClass (top 27) 1
abbrev s_Take_step : Stmt := inClass (top 28) 1
abbrev s_Read_step : Stmt := inClass (top 29) 1
abbrev s_Write_step : Stmt := inClass (top 30) 1
abbrev s_Hop_step : Stmt := inClass (top 47) 1
abbrev s_Copy_step : Stmt := inClass (top 52) 0
abbrev s_Fill_step : Stmt := inClass (top 53) 0
abbrev s_Seek_step : Stmt := inClass (top 54) 0
abbrev s_Match_step : Stmt := inClass (top 55) 0
abbrev s_Shift_step : Stmt := inClass (top 56) 0
abbrev s_Turn_step : Stmt := inClass (top 57) 0
abbrev s_Boxes_init : Stmt := inClass (top 21) 0
abbrev s_Set_init : Stmt := inClass (top 26) 0
abbrev s_Add_init : Stmt := inClass (top 27) 0
abbrev s_Take_init : Stmt := inClass (top 28) 0
abbrev s_Read_init : Stmt := inClass (top 29) 0
abbrev s_Write_init : Stmt := inClass (top 30) 0
abbrev s_Hop_init : Stmt := inClass (top 47) 0
abbrev s_Store_init : Stmt := inClass (top 41) 0
abbrev s_Noted_init : Stmt := inClass (top 43) 0
abbrev s_Watched_init : Stmt := inClass (top 44) 0
abbrev s_NoLeave_init : Stmt := inClass (top 4) 0
abbrev s_Stop_init : Stmt := inClass (top 5) 0
abbrev s_NoFit_init : Stmt := inClass (top 6) 0
abbrev s_Machine_init : Stmt := inClass (top 34) 0
abbrev s_Machine_step : Stmt := inClass (top 34) 2
def ln0 : List Str := ["_wall", "HaulError", "NoStore", "NoLeave", "Stop", "NoFit", "NoBox", "NoDeed", "NoRows", "NoPlace", "NoBack", "MOST_CONTENT"]
def ln1 : List Str := ["is_whole", "is_content", "BOXES", "MOST_HELD", "is_box", "fits", "Boxes", "check_boxes", "check_number", "Deed", "Set", "Add"]
def ln2 : List Str := ["Take", "Read", "Write", "MOST_ROWS", "need_rows", "Machine", "MOST_CELLS", "OPEN", "LOOK", "LEAVES", "checked_cells", "Store"]
def ln3 : List Str := ["Noted", "Watched", "MOST_HOP", "Hop", "check", "go_on", "lessen", "Copy", "Fill", "Seek", "Match", "Shift"]
def ln4 : List Str := ["Turn", "_law_hand", "_law_draw", "_law_content", "_law_cells", "_law_leaves", "_law_whole", "_law_spot", "_law_six", "_law_spec", "_law_deed", "_law_long"]
def ln5 : List Str := ["_law_let", "_law_reach", "_law_fits", "_law_barred", "_law_step", "_law_moved", "_law_looked", "_law_store", "_law_boxes", "_law_own", "_law_watched", "_law_go"]
def ln6 : List Str := ["_law_undo", "_law_state", "_law_stands", "_law_open", "_law_forth", "_law_no_leave"]
def ln : List Str := ln0 ++ (ln1 ++ (ln2 ++ (ln3 ++ (ln4 ++ (ln5 ++ (ln6))))))
def fa0 : List He.Fa := [.glo "is_whole", .glo "is_content", .glo "is_box", .glo "fits", .glo "check_boxes", .glo "check_number", .glo "need_rows", .glo "checked_cells", .glo "check", .glo "go_on", .glo "lessen", .glo "_law_hand"]
def fa1 : List He.Fa := [.glo "_law_draw", .glo "_law_content", .glo "_law_cells", .glo "_law_leaves", .glo "_law_spot", .glo "_law_six", .glo "_law_spec", .glo "_law_deed", .glo "_law_long", .glo "_law_let", .glo "_law_reach", .glo "_law_fits"]
def fa2 : List He.Fa := [.glo "_law_barred", .glo "_law_step", .glo "_law_moved", .glo "_law_looked", .glo "_law_store", .glo "_law_boxes", .glo "_law_own", .glo "_law_watched", .glo "_law_go", .glo "_law_undo", .glo "_law_state", .glo "_law_stands"]
def fa3 : List He.Fa := [.glo "_law_open", .glo "_law_forth", .glo "_law_no_leave", .glo "law", .glo "Boxes", .glo "Set", .glo "Add", .glo "Take", .glo "Read", .glo "Write", .glo "Hop", .glo "Copy"]
def fa4 : List He.Fa := [.glo "Fill", .glo "Seek", .glo "Match", .glo "Shift", .glo "Turn", .glo "Store", .glo "Noted", .glo "Watched", .glo "Deed", .glo "Machine", .glo "NoLeave", .glo "Stop"]
def fa5 : List He.Fa := [.glo "NoFit", .glo "BOXES", .glo "LEAVES", .free "len", .free "int", .free "min", .free "abs", .free "isinstance", .free "list", .free "tuple", .free "range", .free "zip"]
def fa6 : List He.Fa := [.free "enumerate", .free "bool", .free "str", .int "MOST_CONTENT" 1000000000, .int "MOST_HELD" 1000000000, .int "MOST_ROWS" 24, .int "MOST_CELLS" 60, .int "MOST_HOP" 24, .str "OPEN" "open", .str "LOOK" "look", .cls "Boxes", .cls "Set"]
def fa7 : List He.Fa := [.cls "Add", .cls "Take", .cls "Read", .cls "Write", .cls "Hop", .cls "Copy", .cls "Fill", .cls "Seek", .cls "Match", .cls "Shift", .cls "Turn", .cls "Store"]
def fa8 : List He.Fa := [.cls "Noted", .cls "Watched", .noat "Boxes" "numbers", .noat "Set" "box", .noat "Set" "number", .noat "Add" "box", .noat "Add" "number", .noat "Take" "box", .noat "Take" "other", .noat "Read" "box", .noat "Write" "box", .noat "Hop" "many"]
def fa9 : List He.Fa := [.noat "Hop" "on", .noat "Store" "kept", .noat "Store" "given", .noat "Noted" "kept", .noat "Noted" "given", .noat "Noted" "puts", .noat "Watched" "deeds", .noat "Watched" "store", .noat "Watched" "boxes", .noat "Watched" "spot", .noat "Watched" "entries", .meth "Boxes" "holds"]
def fa10 : List He.Fa := [.meth "Boxes" "give", .meth "Boxes" "told", .meth "Boxes" "copied", .meth "Store" "told", .meth "Store" "leaves", .meth "Store" "leave", .meth "Store" "may", .meth "Store" "look", .meth "Store" "put", .meth "Store" "copied", .meth "Noted" "told", .meth "Noted" "leaves"]
def fa11 : List He.Fa := [.meth "Noted" "leave", .meth "Noted" "may", .meth "Noted" "look", .meth "Noted" "put", .meth "Noted" "put_back", .meth "Watched" "step", .meth "Watched" "log", .meth "Watched" "back", .meth "Watched" "state", .meth "Watched" "leaves", .meth "Watched" "leave", .meth "Watched" "is_done"]
def fa12 : List He.Fa := [.meth "Set" "step", .meth "Add" "step", .meth "Take" "step", .meth "Read" "step", .meth "Write" "step", .meth "Hop" "step", .meth "Copy" "step", .meth "Fill" "step", .meth "Seek" "step", .meth "Match" "step", .meth "Shift" "step", .meth "Turn" "step"]
def fa13 : List He.Fa := [.mkr "Boxes", .mkr "Set", .mkr "Add", .mkr "Take", .mkr "Read", .mkr "Write", .mkr "Hop", .mkr "Store", .mkr "Noted", .mkr "Watched", .exm "Stop" "Stop" true, .exm "NoFit" "Stop" false]
def fa14 : List He.Fa := [.exm "NoFit" "NoFit" true, .exm "Stop" "NoFit" false, .exm "NoLeave" "NoLeave" true]
def fa : List He.Fa := fa0 ++ (fa1 ++ (fa2 ++ (fa3 ++ (fa4 ++ (fa5 ++ (fa6 ++ (fa7 ++ (fa8 ++ (fa9 ++ (fa10 ++ (fa11 ++ (fa12 ++ (fa13 ++ (fa14))))))))))))))
def df_is_whole : He.DefD := ⟨("is_whole", none), "is_whole", "is_whole", defArgs s_is_whole, defBody s_is_whole, defScope s_is_whole, [], []⟩
def df_is_content : He.DefD := ⟨("is_content", none), "is_content", "is_content", defArgs s_is_content, defBody s_is_content, defScope s_is_content, [], []⟩
def df_is_box : He.DefD := ⟨("is_box", none), "is_box", "is_box", defArgs s_is_box, defBody s_is_box, defScope s_is_box, [], []⟩
def df_fits : He.DefD := ⟨("fits", none), "fits", "fits", defArgs s_fits, defBody s_fits, defScope s_fits, [], []⟩
def df_check_boxes : He.DefD := ⟨("check_boxes", none), "check_boxes", "check_boxes", defArgs s_check_boxes, defBody s_check_boxes, defScope s_check_boxes, [], []⟩
def df_check_number : He.DefD := ⟨("check_number", none), "check_number", "check_number", defArgs s_check_number, defBody s_check_number, defScope s_check_number, [], []⟩
def df_need_rows : He.DefD := ⟨("need_rows", none), "need_rows", "need_rows", defArgs s_need_rows, defBody s_need_rows, defScope s_need_rows, [], []⟩
def df_checked_cells : He.DefD := ⟨("checked_cells", none), "checked_cells", "checked_cells", defArgs s_checked_cells, defBody s_checked_cells, defScope s_checked_cells, [], []⟩
def df_check : He.DefD := ⟨("check", none), "check", "check", defArgs s_check, defBody s_check, defScope s_check, [], []⟩
def df_go_on : He.DefD := ⟨("go_on", none), "go_on", "go_on", defArgs s_go_on, defBody s_go_on, defScope s_go_on, [], []⟩
def df_lessen : He.DefD := ⟨("lessen", none), "lessen", "lessen", defArgs s_lessen, defBody s_lessen, defScope s_lessen, [], []⟩
def df__law_hand : He.DefD := ⟨("_law_hand", none), "_law_hand", "_law_hand", defArgs s_law_hand, defBody s_law_hand, defScope s_law_hand, [], []⟩
def df__law_draw : He.DefD := ⟨("_law_draw", none), "_law_draw", "_law_draw", defArgs s_law_draw, defBody s_law_draw, defScope s_law_draw, [], []⟩
def df__law_content : He.DefD := ⟨("_law_content", none), "_law_content", "_law_content", defArgs s_law_content, defBody s_law_content, defScope s_law_content, [], []⟩
def df__law_cells : He.DefD := ⟨("_law_cells", none), "_law_cells", "_law_cells", defArgs s_law_cells, defBody s_law_cells, defScope s_law_cells, [], []⟩
def df__law_leaves : He.DefD := ⟨("_law_leaves", none), "_law_leaves", "_law_leaves", defArgs s_law_leaves, defBody s_law_leaves, defScope s_law_leaves, [], []⟩
def df__law_spot : He.DefD := ⟨("_law_spot", none), "_law_spot", "_law_spot", defArgs s_law_spot, defBody s_law_spot, defScope s_law_spot, [], []⟩
def df__law_six : He.DefD := ⟨("_law_six", none), "_law_six", "_law_six", defArgs s_law_six, defBody s_law_six, defScope s_law_six, [], []⟩
def df__law_spec : He.DefD := ⟨("_law_spec", none), "_law_spec", "_law_spec", defArgs s_law_spec, defBody s_law_spec, defScope s_law_spec, [], []⟩
def df__law_deed : He.DefD := ⟨("_law_deed", none), "_law_deed", "_law_deed", defArgs s_law_deed, defBody s_law_deed, defScope s_law_deed, [], []⟩
def df__law_long : He.DefD := ⟨("_law_long", none), "_law_long", "_law_long", defArgs s_law_long, defBody s_law_long, defScope s_law_long, [], []⟩
def df__law_let : He.DefD := ⟨("_law_let", none), "_law_let", "_law_let", defArgs s_law_let, defBody s_law_let, defScope s_law_let, [], []⟩
def df__law_reach : He.DefD := ⟨("_law_reach", none), "_law_reach", "_law_reach", defArgs s_law_reach, defBody s_law_reach, defScope s_law_reach, [], []⟩
def df__law_fits : He.DefD := ⟨("_law_fits", none), "_law_fits", "_law_fits", defArgs s_law_fits, defBody s_law_fits, defScope s_law_fits, [], []⟩
def df__law_barred : He.DefD := ⟨("_law_barred", none), "_law_barred", "_law_barred", defArgs s_law_barred, defBody s_law_barred, defScope s_law_barred, [], []⟩
def df__law_step : He.DefD := ⟨("_law_step", none), "_law_step", "_law_step", defArgs s_law_step, defBody s_law_step, defScope s_law_step, [], []⟩
def df__law_moved : He.DefD := ⟨("_law_moved", none), "_law_moved", "_law_moved", defArgs s_law_moved, defBody s_law_moved, defScope s_law_moved, [], []⟩
def df__law_looked : He.DefD := ⟨("_law_looked", none), "_law_looked", "_law_looked", defArgs s_law_looked, defBody s_law_looked, defScope s_law_looked, [], []⟩
def df__law_store : He.DefD := ⟨("_law_store", none), "_law_store", "_law_store", defArgs s_law_store, defBody s_law_store, defScope s_law_store, [], []⟩
def df__law_boxes : He.DefD := ⟨("_law_boxes", none), "_law_boxes", "_law_boxes", defArgs s_law_boxes, defBody s_law_boxes, defScope s_law_boxes, [], []⟩
def df__law_own : He.DefD := ⟨("_law_own", none), "_law_own", "_law_own", defArgs s_law_own, defBody s_law_own, defScope s_law_own, [], []⟩
def df__law_watched : He.DefD := ⟨("_law_watched", none), "_law_watched", "_law_watched", defArgs s_law_watched, defBody s_law_watched, defScope s_law_watched, [], []⟩
def df__law_go : He.DefD := ⟨("_law_go", none), "_law_go", "_law_go", defArgs s_law_go, defBody s_law_go, defScope s_law_go, [], []⟩
def df__law_undo : He.DefD := ⟨("_law_undo", none), "_law_undo", "_law_undo", defArgs s_law_undo, defBody s_law_undo, defScope s_law_undo, [], []⟩
def df__law_state : He.DefD := ⟨("_law_state", none), "_law_state", "_law_state", defArgs s_law_state, defBody s_law_state, defScope s_law_state, [], []⟩
def df__law_stands : He.DefD := ⟨("_law_stands", none), "_law_stands", "_law_stands", defArgs s_law_stands, defBody s_law_stands, defScope s_law_stands, [], []⟩
def df__law_open : He.DefD := ⟨("_law_open", none), "_law_open", "_law_open", defArgs s_law_open, defBody s_law_open, defScope s_law_open, [], []⟩
def df__law_forth : He.DefD := ⟨("_law_forth", none), "_law_forth", "_law_forth", defArgs s_law_forth, defBody s_law_forth, defScope s_law_forth, [], []⟩
def df__law_no_leave : He.DefD := ⟨("_law_no_leave", none), "_law_no_leave", "_law_no_leave", defArgs s_law_no_leave, defBody s_law_no_leave, defScope s_law_no_leave, [], []⟩
def df_law : He.DefD := ⟨("law", none), "law", "law", defArgs s_law, defBody s_law, defScope s_law, [], []⟩
def df_Boxes_holds : He.DefD := ⟨("Boxes", some "holds"), "holds", "Boxes.holds", defArgs s_Boxes_holds, defBody s_Boxes_holds, defScope s_Boxes_holds, [], []⟩
def df_Boxes_give : He.DefD := ⟨("Boxes", some "give"), "give", "Boxes.give", defArgs s_Boxes_give, defBody s_Boxes_give, defScope s_Boxes_give, [], []⟩
def df_Boxes_told : He.DefD := ⟨("Boxes", some "told"), "told", "Boxes.told", defArgs s_Boxes_told, defBody s_Boxes_told, defScope s_Boxes_told, [], []⟩
def df_Boxes_copied : He.DefD := ⟨("Boxes", some "copied"), "copied", "Boxes.copied", defArgs s_Boxes_copied, defBody s_Boxes_copied, defScope s_Boxes_copied, [], []⟩
def df_Store_told : He.DefD := ⟨("Store", some "told"), "told", "Store.told", defArgs s_Store_told, defBody s_Store_told, defScope s_Store_told, [], []⟩
def df_Store_leaves : He.DefD := ⟨("Store", some "leaves"), "leaves", "Store.leaves", defArgs s_Store_leaves, defBody s_Store_leaves, defScope s_Store_leaves, [], []⟩
def df_Store_leave : He.DefD := ⟨("Store", some "leave"), "leave", "Store.leave", defArgs s_Store_leave, defBody s_Store_leave, defScope s_Store_leave, [], []⟩
def df_Store_may : He.DefD := ⟨("Store", some "may"), "may", "Store.may", defArgs s_Store_may, defBody s_Store_may, defScope s_Store_may, [], []⟩
def df_Store_look : He.DefD := ⟨("Store", some "look"), "look", "Store.look", defArgs s_Store_look, defBody s_Store_look, defScope s_Store_look, [], []⟩
def df_Store_put : He.DefD := ⟨("Store", some "put"), "put", "Store.put", defArgs s_Store_put, defBody s_Store_put, defScope s_Store_put, [], []⟩
def df_Store_copied : He.DefD := ⟨("Store", some "copied"), "copied", "Store.copied", defArgs s_Store_copied, defBody s_Store_copied, defScope s_Store_copied, [], []⟩
def df_Noted_told : He.DefD := ⟨("Noted", some "told"), "told", "Store.told", defArgs s_Store_told, defBody s_Store_told, defScope s_Store_told, [], []⟩
def df_Noted_leaves : He.DefD := ⟨("Noted", some "leaves"), "leaves", "Store.leaves", defArgs s_Store_leaves, defBody s_Store_leaves, defScope s_Store_leaves, [], []⟩
def df_Noted_leave : He.DefD := ⟨("Noted", some "leave"), "leave", "Store.leave", defArgs s_Store_leave, defBody s_Store_leave, defScope s_Store_leave, [], []⟩
def df_Noted_may : He.DefD := ⟨("Noted", some "may"), "may", "Store.may", defArgs s_Store_may, defBody s_Store_may, defScope s_Store_may, [], []⟩
def df_Noted_look : He.DefD := ⟨("Noted", some "look"), "look", "Store.look", defArgs s_Store_look, defBody s_Store_look, defScope s_Store_look, [], []⟩
def df_Noted_put : He.DefD := ⟨("Noted", some "put"), "put", "Noted.put", defArgs s_Noted_put, defBody s_Noted_put, defScope s_Noted_put, [], []⟩
def df_Noted_put_back : He.DefD := ⟨("Noted", some "put_back"), "put_back", "Noted.put_back", defArgs s_Noted_put_back, defBody s_Noted_put_back, defScope s_Noted_put_back, [], []⟩
def df_Watched_step : He.DefD := ⟨("Watched", some "step"), "step", "Watched.step", defArgs s_Watched_step, defBody s_Watched_step, defScope s_Watched_step, [], []⟩
def df_Watched_log : He.DefD := ⟨("Watched", some "log"), "log", "Watched.log", defArgs s_Watched_log, defBody s_Watched_log, defScope s_Watched_log, [], []⟩
def df_Watched_back : He.DefD := ⟨("Watched", some "back"), "back", "Watched.back", defArgs s_Watched_back, defBody s_Watched_back, defScope s_Watched_back, [], []⟩
def df_Watched_state : He.DefD := ⟨("Watched", some "state"), "state", "Machine.state", defArgs s_Machine_state, defBody s_Machine_state, defScope s_Machine_state, [], []⟩
def df_Watched_leaves : He.DefD := ⟨("Watched", some "leaves"), "leaves", "Machine.leaves", defArgs s_Machine_leaves, defBody s_Machine_leaves, defScope s_Machine_leaves, [], []⟩
def df_Watched_leave : He.DefD := ⟨("Watched", some "leave"), "leave", "Machine.leave", defArgs s_Machine_leave, defBody s_Machine_leave, defScope s_Machine_leave, [], []⟩
def df_Watched_is_done : He.DefD := ⟨("Watched", some "is_done"), "is_done", "Machine.is_done", defArgs s_Machine_is_done, defBody s_Machine_is_done, defScope s_Machine_is_done, [], []⟩
def df_Set_step : He.DefD := ⟨("Set", some "step"), "step", "Set.step", defArgs s_Set_step, defBody s_Set_step, defScope s_Set_step, [], []⟩
def df_Add_step : He.DefD := ⟨("Add", some "step"), "step", "Add.step", defArgs s_Add_step, defBody s_Add_step, defScope s_Add_step, [], []⟩
def df_Take_step : He.DefD := ⟨("Take", some "step"), "step", "Take.step", defArgs s_Take_step, defBody s_Take_step, defScope s_Take_step, [], []⟩
def df_Read_step : He.DefD := ⟨("Read", some "step"), "step", "Read.step", defArgs s_Read_step, defBody s_Read_step, defScope s_Read_step, [], []⟩
def df_Write_step : He.DefD := ⟨("Write", some "step"), "step", "Write.step", defArgs s_Write_step, defBody s_Write_step, defScope s_Write_step, [], []⟩
def df_Hop_step : He.DefD := ⟨("Hop", some "step"), "step", "Hop.step", defArgs s_Hop_step, defBody s_Hop_step, defScope s_Hop_step, [], []⟩
def df_Copy_step : He.DefD := ⟨("Copy", some "step"), "step", "Copy.step", defArgs s_Copy_step, defBody s_Copy_step, defScope s_Copy_step, [], []⟩
def df_Fill_step : He.DefD := ⟨("Fill", some "step"), "step", "Fill.step", defArgs s_Fill_step, defBody s_Fill_step, defScope s_Fill_step, [], []⟩
def df_Seek_step : He.DefD := ⟨("Seek", some "step"), "step", "Seek.step", defArgs s_Seek_step, defBody s_Seek_step, defScope s_Seek_step, [], []⟩
def df_Match_step : He.DefD := ⟨("Match", some "step"), "step", "Match.step", defArgs s_Match_step, defBody s_Match_step, defScope s_Match_step, [], []⟩
def df_Shift_step : He.DefD := ⟨("Shift", some "step"), "step", "Shift.step", defArgs s_Shift_step, defBody s_Shift_step, defScope s_Shift_step, [], []⟩
def df_Turn_step : He.DefD := ⟨("Turn", some "step"), "step", "Turn.step", defArgs s_Turn_step, defBody s_Turn_step, defScope s_Turn_step, [], []⟩
def df_Boxes_init : He.DefD := ⟨("Boxes", some "__init__"), "__init__", "Boxes.__init__", defArgs s_Boxes_init, defBody s_Boxes_init, defScope s_Boxes_init, [.int 0, .int 0, .int 0, .int 1, .int 0, .int 0], []⟩
def df_Set_init : He.DefD := ⟨("Set", some "__init__"), "__init__", "Set.__init__", defArgs s_Set_init, defBody s_Set_init, defScope s_Set_init, [], []⟩
def df_Add_init : He.DefD := ⟨("Add", some "__init__"), "__init__", "Add.__init__", defArgs s_Add_init, defBody s_Add_init, defScope s_Add_init, [], []⟩
def df_Take_init : He.DefD := ⟨("Take", some "__init__"), "__init__", "Take.__init__", defArgs s_Take_init, defBody s_Take_init, defScope s_Take_init, [], []⟩
def df_Read_init : He.DefD := ⟨("Read", some "__init__"), "__init__", "Read.__init__", defArgs s_Read_init, defBody s_Read_init, defScope s_Read_init, [], []⟩
def df_Write_init : He.DefD := ⟨("Write", some "__init__"), "__init__", "Write.__init__", defArgs s_Write_init, defBody s_Write_init, defScope s_Write_init, [], []⟩
def df_Hop_init : He.DefD := ⟨("Hop", some "__init__"), "__init__", "Hop.__init__", defArgs s_Hop_init, defBody s_Hop_init, defScope s_Hop_init, [.non], []⟩
def df_Store_init : He.DefD := ⟨("Store", some "__init__"), "__init__", "Store.__init__", defArgs s_Store_init, defBody s_Store_init, defScope s_Store_init, [], []⟩
def df_Noted_init : He.DefD := ⟨("Noted", some "__init__"), "__init__", "Noted.__init__", defArgs s_Noted_init, defBody s_Noted_init, defScope s_Noted_init, [], []⟩
def df_Watched_init : He.DefD := ⟨("Watched", some "__init__"), "__init__", "Watched.__init__", defArgs s_Watched_init, defBody s_Watched_init, defScope s_Watched_init, [.int 0], []⟩
def df_NoLeave_init : He.DefD := ⟨("NoLeave", some "__init__"), "__init__", "NoLeave.__init__", defArgs s_NoLeave_init, defBody s_NoLeave_init, defScope s_NoLeave_init, [], []⟩
def df_Stop_init : He.DefD := ⟨("Stop", some "__init__"), "__init__", "Stop.__init__", defArgs s_Stop_init, defBody s_Stop_init, defScope s_Stop_init, [], []⟩
def df_NoFit_init : He.DefD := ⟨("NoFit", some "__init__"), "__init__", "NoFit.__init__", defArgs s_NoFit_init, defBody s_NoFit_init, defScope s_NoFit_init, [], []⟩
def df_Machine_init : He.DefD := ⟨("Machine", some "__init__"), "__init__", "Machine.__init__", defArgs s_Machine_init, defBody s_Machine_init, defScope s_Machine_init, [.int 0], []⟩
def df_Machine_step : He.DefD := ⟨("Machine", some "step"), "step", "Machine.step", defArgs s_Machine_step, defBody s_Machine_step, defScope s_Machine_step, [], []⟩
def fn0 : List He.DefD := [df_is_whole, df_is_content, df_is_box, df_fits, df_check_boxes, df_check_number, df_need_rows, df_checked_cells, df_check, df_go_on, df_lessen, df__law_hand]
def fn1 : List He.DefD := [df__law_draw, df__law_content, df__law_cells, df__law_leaves, df__law_spot, df__law_six, df__law_spec, df__law_deed, df__law_long, df__law_let, df__law_reach, df__law_fits]
def fn2 : List He.DefD := [df__law_barred, df__law_step, df__law_moved, df__law_looked, df__law_store, df__law_boxes, df__law_own, df__law_watched, df__law_go, df__law_undo, df__law_state, df__law_stands]
def fn3 : List He.DefD := [df__law_open, df__law_forth, df__law_no_leave, df_law, df_Boxes_holds, df_Boxes_give, df_Boxes_told, df_Boxes_copied, df_Store_told, df_Store_leaves, df_Store_leave, df_Store_may]
def fn4 : List He.DefD := [df_Store_look, df_Store_put, df_Store_copied, df_Noted_told, df_Noted_leaves, df_Noted_leave, df_Noted_may, df_Noted_look, df_Noted_put, df_Noted_put_back, df_Watched_step, df_Watched_log]
def fn5 : List He.DefD := [df_Watched_back, df_Watched_state, df_Watched_leaves, df_Watched_leave, df_Watched_is_done, df_Set_step, df_Add_step, df_Take_step, df_Read_step, df_Write_step, df_Hop_step, df_Copy_step]
def fn6 : List He.DefD := [df_Fill_step, df_Seek_step, df_Match_step, df_Shift_step, df_Turn_step, df_Boxes_init, df_Set_init, df_Add_init, df_Take_init, df_Read_init, df_Write_init, df_Hop_init]
def fn7 : List He.DefD := [df_Store_init, df_Noted_init, df_Watched_init, df_NoLeave_init, df_Stop_init, df_NoFit_init, df_Machine_init, df_Machine_step]
def fn : List He.DefD := fn0 ++ (fn1 ++ (fn2 ++ (fn3 ++ (fn4 ++ (fn5 ++ (fn6 ++ (fn7)))))))
def tydB (K : PySem.W.Frag) (a : Addr) : Bool := match K.lookup a with
  | some ⟨.type c, none, _, _⟩ => decide (c = "tuple")
  | _ => false
theorem tydB_ok {K : PySem.W.Frag} {a : Addr} (h : tydB K a = true) : ∃ o, K.lookup a = some o ∧ o.cls = .type "tuple" ∧ o.dict = none := by
  unfold tydB at h
  split at h
  · rename_i c dt sl e
    exact ⟨_, e, congrArg Value.type (of_decide_eq_true h), rfl⟩
  · cases h
/-- an own exception class over ValueError, with an own __init__ -/
def oexB (K : PySem.W.Frag) (C : Addr) : Bool := (match K.lookup C with
  | some ⟨.type "type", _, .cls cd, sl⟩ => (match cd.mro, sl.toList with
    | .ref C' :: bm, [_, _, _, _, some (.builtin n), _] => decide (C' = C) && (decide (n = "ValueError.__new__") && (!cd.hasDel && (cd.hasDict && PySem.HandSPX.refsVE bm)))
    | _, _ => false)
  | _ => false) && (decide (PySem.W.findIn K (.ref C) "__setattr__" = some (some (.builtin "object.__setattr__"))) && (decide (PySem.W.subIn K (.ref C) (.type "BaseException") = some true) && (decide (PySem.W.typeIn K (.ref C) = some (.type "type")) && PySem.W.keepIn K (.ref C))))
theorem oexB_ok {K : PySem.W.Frag} {C : Addr} (h : oexB K C = true) : OexC K C := by
  obtain ⟨q, h⟩ := He.ba h
  obtain ⟨h1, h⟩ := He.ba h
  obtain ⟨h2, h⟩ := He.ba h
  obtain ⟨h3, h4⟩ := He.ba h
  refine ⟨?_, of_decide_eq_true h1, of_decide_eq_true h2, of_decide_eq_true h3, h4⟩
  split at q
  · rename_i dd cd sl ho
    split at q
    · rename_i C' bm k0 k1 k2 k3 n k5 hm hs
      obtain ⟨q1, q⟩ := He.ba q
      obtain ⟨q2, q⟩ := He.ba q
      obtain ⟨q3, q⟩ := He.ba q
      obtain ⟨q4, q5⟩ := He.ba q
      have q1 := of_decide_eq_true q1
      have q2 := of_decide_eq_true q2
      subst q1 q2
      obtain ⟨nm, bs, mro, ns, qn, hd, sn, sub, ab, col, del⟩ := cd
      dsimp only at hm q3 q4
      have q3 : del = false := by simpa using q3
      subst hm q3 q4
      have hsl : sl = #[k0, k1, k2, k3, some (.builtin "ValueError.__new__"), k5] := by
        obtain ⟨l⟩ := sl
        simp only at hs
        rw [hs]
      subst hsl
      exact ⟨nm, qn, ns, bs, bm, sn, sub, ab, col, dd, k0, k1, k2, k3, k5, ho, q5⟩
    · cases q
  · cases q
/-- its __init__ is the def at f -/
def oiniB (K : PySem.W.Frag) (C : Addr) : Bool := decide (PySem.W.findIn K (.ref C) "__init__" = some (some (.ref (He.ma K C "__init__")))) && decide (PySem.W.typeIn K (.ref (He.ma K C "__init__")) = some (.type "function"))
def natB (K : PySem.W.Frag) (C : Addr) (f : Str) : Bool := decide (PySem.W.findIn K (.ref C) f = some none)
/-- C.m read off the class -/
def clmB (K : PySem.W.Frag) (C : Addr) (m : Str) : Bool := PySem.W.readsIn K C (.type "type") && ((match PySem.W.findCls K (.ref C) (.type "type") m with
  | some (.val (.ref f)) => decide (f = He.ma K C m)
  | _ => false) && (decide (PySem.W.specialIn K (.ref C) "__getattribute__" = some (some (.builtin "type.__getattribute__"))) && PySem.W.keepIn K (.ref (He.ma K C m))))
structure ClM (K : PySem.W.Frag) (C : Addr) (m : Str) (f : Addr) : Prop where
  rd : PySem.W.readsIn K C (.type "type") = true
  fc : PySem.W.findCls K (.ref C) (.type "type") m = some (.val (.ref f))
  ga : PySem.W.specialIn K (.ref C) "__getattribute__" = some (some (.builtin "type.__getattribute__"))
  kp : PySem.W.keepIn K (.ref f) = true
theorem clmB_ok {K : PySem.W.Frag} {C : Addr} {m : Str} (h : clmB K C m = true) : ClM K C m (He.ma K C m) := by
  obtain ⟨h1, h⟩ := He.ba h
  obtain ⟨h2, h⟩ := He.ba h
  obtain ⟨h3, h4⟩ := He.ba h
  refine ⟨h1, ?_, of_decide_eq_true h3, h4⟩
  split at h2
  · rename_i f e
    rw [e, of_decide_eq_true h2]
  · cases h2
/-- C() without an own __init__ -/
structure Mk0 (K : PySem.W.Frag) (C : Addr) : Prop where
  makes : PySem.W.makesIn K C = true
  init : PySem.W.findIn K (.ref C) "__init__" = some (some (.builtin "object.__init__"))
  kp : PySem.W.keepIn K (.ref C) = true
def mk0B (K : PySem.W.Frag) (C : Addr) : Bool := PySem.W.makesIn K C && (decide (PySem.W.findIn K (.ref C) "__init__" = some (some (.builtin "object.__init__"))) && PySem.W.keepIn K (.ref C))
theorem mk0B_ok {K : PySem.W.Frag} {C : Addr} (h : mk0B K C = true) : Mk0 K C := by
  obtain ⟨h1, h⟩ := He.ba h
  obtain ⟨h2, h3⟩ := He.ba h
  exact ⟨h1, of_decide_eq_true h2, h3⟩
/-- instances of C are instances of D -/
structure IsaC (K : PySem.W.Frag) (C D : Addr) : Prop where
  ha : PySem.W.findIn K (.ref C) "__class__" = some (some (.builtin "object.__class__"))
  hn : PySem.W.specialIn K (.builtin "object.__class__") "__get__" = some (some (.builtin "getset_descriptor.__get__"))
  htk : PySem.W.takesIn K (.builtin "object.__class__") = some true
  hm : PySem.W.mroIn K C (.type "object") = some true
  me : PySem.W.kitOne K (.ref C) (.ref D) = some true
def isaB (K : PySem.W.Frag) (C D : Addr) : Bool := decide (PySem.W.findIn K (.ref C) "__class__" = some (some (.builtin "object.__class__"))) && (decide (PySem.W.specialIn K (.builtin "object.__class__") "__get__" = some (some (.builtin "getset_descriptor.__get__"))) &&
  (decide (PySem.W.takesIn K (.builtin "object.__class__") = some true) && (decide (PySem.W.mroIn K C (.type "object") = some true) && decide (PySem.W.kitOne K (.ref C) (.ref D) = some true))))
theorem isaB_ok {K : PySem.W.Frag} {C D : Addr} (h : isaB K C D = true) : IsaC K C D := by
  obtain ⟨h1, h⟩ := He.ba h
  obtain ⟨h2, h⟩ := He.ba h
  obtain ⟨h3, h⟩ := He.ba h
  obtain ⟨h4, h5⟩ := He.ba h
  exact ⟨of_decide_eq_true h1, of_decide_eq_true h2, of_decide_eq_true h3, of_decide_eq_true h4, of_decide_eq_true h5⟩
def exs0 : List (PySem.W.Frag → Bool) := [fun K => He.tupB K "BOXES" [.str "here", .str "there", .str "left", .str "way", .str "sign", .str "met"], fun K => He.tupB K "LEAVES" [.str "open", .str "look", .str "shut"], fun K => tydB K (He.ga K "BOXES"), fun K => tydB K (He.ga K "LEAVES"), fun K => oexB K (He.ga K "NoLeave"), fun K => oiniB K (He.ga K "NoLeave"), fun K => natB K (He.ga K "NoLeave") "low", fun K => natB K (He.ga K "NoLeave") "behind"]
def exs1 : List (PySem.W.Frag → Bool) := [fun K => natB K (He.ga K "NoLeave") "word", fun K => oexB K (He.ga K "Stop"), fun K => oiniB K (He.ga K "Stop"), fun K => natB K (He.ga K "Stop") "deed", fun K => natB K (He.ga K "Stop") "cell", fun K => oexB K (He.ga K "NoFit"), fun K => oiniB K (He.ga K "NoFit"), fun K => natB K (He.ga K "NoFit") "box"]
def exs2 : List (PySem.W.Frag → Bool) := [fun K => natB K (He.ga K "NoFit") "number", fun K => xfB K (He.ga K "NoLeave"), fun K => clmB K (He.ga K "Machine") "__init__", fun K => clmB K (He.ga K "Machine") "step", fun K => clmB K (He.ga K "Store") "__init__", fun K => clmB K (He.ga K "Store") "put", fun K => mk0B K (He.ga K "Copy"), fun K => mk0B K (He.ga K "Fill")]
def exs3 : List (PySem.W.Frag → Bool) := [fun K => mk0B K (He.ga K "Seek"), fun K => mk0B K (He.ga K "Match"), fun K => mk0B K (He.ga K "Shift"), fun K => mk0B K (He.ga K "Turn"), fun K => isaB K (He.ga K "Set") (He.ga K "Deed"), fun K => isaB K (He.ga K "Add") (He.ga K "Deed"), fun K => isaB K (He.ga K "Take") (He.ga K "Deed"), fun K => isaB K (He.ga K "Read") (He.ga K "Deed")]
def exs4 : List (PySem.W.Frag → Bool) := [fun K => isaB K (He.ga K "Write") (He.ga K "Deed"), fun K => isaB K (He.ga K "Hop") (He.ga K "Deed"), fun K => isaB K (He.ga K "Copy") (He.ga K "Deed"), fun K => isaB K (He.ga K "Fill") (He.ga K "Deed"), fun K => isaB K (He.ga K "Seek") (He.ga K "Deed"), fun K => isaB K (He.ga K "Match") (He.ga K "Deed"), fun K => isaB K (He.ga K "Shift") (He.ga K "Deed"), fun K => isaB K (He.ga K "Turn") (He.ga K "Deed")]
def exs : List (PySem.W.Frag → Bool) := exs0 ++ (exs1 ++ (exs2 ++ (exs3 ++ (exs4))))
/-- what is known of the written part -/
structure Txt (K : PySem.W.Frag) (mg : Str → Option Value) : Prop where
  d : He.SaysD fa fn K
  ex : (exs.all fun f => f K) = true
  ns : ∃ h : Heap, K.In h ∧ h.Ns mainGlobals mg
section
variable {K : PySem.W.Frag} {mg : Str → Option Value}
theorem Txt.fct (T : Txt K mg) (i : Nat) {f : He.Fa} (h : fa[i]? = some f := by rfl) : f.ok K = true := T.d.fact i h
theorem Txt.exf (T : Txt K mg) (i : Nat) {f : PySem.W.Frag → Bool} (h : exs[i]? = some f := by rfl) : f K = true := List.all_eq_true.mp T.ex f (List.mem_of_getElem? h)
theorem Txt.g_is_whole (T : Txt K mg) : mg "is_whole" = some (.ref (He.ga K "is_whole")) := let ⟨_, X, G⟩ := T.ns; He.glo_ok X G (T.fct 0)
theorem Txt.g_is_content (T : Txt K mg) : mg "is_content" = some (.ref (He.ga K "is_content")) := let ⟨_, X, G⟩ := T.ns; He.glo_ok X G (T.fct 1)
theorem Txt.g_is_box (T : Txt K mg) : mg "is_box" = some (.ref (He.ga K "is_box")) := let ⟨_, X, G⟩ := T.ns; He.glo_ok X G (T.fct 2)
theorem Txt.g_fits (T : Txt K mg) : mg "fits" = some (.ref (He.ga K "fits")) := let ⟨_, X, G⟩ := T.ns; He.glo_ok X G (T.fct 3)
theorem Txt.g_check_boxes (T : Txt K mg) : mg "check_boxes" = some (.ref (He.ga K "check_boxes")) := let ⟨_, X, G⟩ := T.ns; He.glo_ok X G (T.fct 4)
theorem Txt.g_check_number (T : Txt K mg) : mg "check_number" = some (.ref (He.ga K "check_number")) := let ⟨_, X, G⟩ := T.ns; He.glo_ok X G (T.fct 5)
theorem Txt.g_need_rows (T : Txt K mg) : mg "need_rows" = some (.ref (He.ga K "need_rows")) := let ⟨_, X, G⟩ := T.ns; He.glo_ok X G (T.fct 6)
theorem Txt.g_checked_cells (T : Txt K mg) : mg "checked_cells" = some (.ref (He.ga K "checked_cells")) := let ⟨_, X, G⟩ := T.ns; He.glo_ok X G (T.fct 7)
theorem Txt.g_check (T : Txt K mg) : mg "check" = some (.ref (He.ga K "check")) := let ⟨_, X, G⟩ := T.ns; He.glo_ok X G (T.fct 8)
theorem Txt.g_go_on (T : Txt K mg) : mg "go_on" = some (.ref (He.ga K "go_on")) := let ⟨_, X, G⟩ := T.ns; He.glo_ok X G (T.fct 9)
theorem Txt.g_lessen (T : Txt K mg) : mg "lessen" = some (.ref (He.ga K "lessen")) := let ⟨_, X, G⟩ := T.ns; He.glo_ok X G (T.fct 10)
theorem Txt.g__law_hand (T : Txt K mg) : mg "_law_hand" = some (.ref (He.ga K "_law_hand")) := let ⟨_, X, G⟩ := T.ns; He.glo_ok X G (T.fct 11)
theorem Txt.g__law_draw (T : Txt K mg) : mg "_law_draw" = some (.ref (He.ga K "_law_draw")) := let ⟨_, X, G⟩ := T.ns; He.glo_ok X G (T.fct 12)
theorem Txt.g__law_content (T : Txt K mg) : mg "_law_content" = some (.ref (He.ga K "_law_content")) := let ⟨_, X, G⟩ := T.ns; He.glo_ok X G (T.fct 13)
theorem Txt.g__law_cells (T : Txt K mg) : mg "_law_cells" = some (.ref (He.ga K "_law_cells")) := let ⟨_, X, G⟩ := T.ns; He.glo_ok X G (T.fct 14)
theorem Txt.g__law_leaves (T : Txt K mg) : mg "_law_leaves" = some (.ref (He.ga K "_law_leaves")) := let ⟨_, X, G⟩ := T.ns; He.glo_ok X G (T.fct 15)
theorem Txt.g__law_spot (T : Txt K mg) : mg "_law_spot" = some (.ref (He.ga K "_law_spot")) := let ⟨_, X, G⟩ := T.ns; He.glo_ok X G (T.fct 16)
theorem Txt.g__law_six (T : Txt K mg) : mg "_law_six" = some (.ref (He.ga K "_law_six")) := let ⟨_, X, G⟩ := T.ns; He.glo_ok X G (T.fct 17)
theorem Txt.g__law_spec (T : Txt K mg) : mg "_law_spec" = some (.ref (He.ga K "_law_spec")) := let ⟨_, X, G⟩ := T.ns; He.glo_ok X G (T.fct 18)
theorem Txt.g__law_deed (T : Txt K mg) : mg "_law_deed" = some (.ref (He.ga K "_law_deed")) := let ⟨_, X, G⟩ := T.ns; He.glo_ok X G (T.fct 19)
theorem Txt.g__law_long (T : Txt K mg) : mg "_law_long" = some (.ref (He.ga K "_law_long")) := let ⟨_, X, G⟩ := T.ns; He.glo_ok X G (T.fct 20)
theorem Txt.g__law_let (T : Txt K mg) : mg "_law_let" = some (.ref (He.ga K "_law_let")) := let ⟨_, X, G⟩ := T.ns; He.glo_ok X G (T.fct 21)
theorem Txt.g__law_reach (T : Txt K mg) : mg "_law_reach" = some (.ref (He.ga K "_law_reach")) := let ⟨_, X, G⟩ := T.ns; He.glo_ok X G (T.fct 22)
theorem Txt.g__law_fits (T : Txt K mg) : mg "_law_fits" = some (.ref (He.ga K "_law_fits")) := let ⟨_, X, G⟩ := T.ns; He.glo_ok X G (T.fct 23)
theorem Txt.g__law_barred (T : Txt K mg) : mg "_law_barred" = some (.ref (He.ga K "_law_barred")) := let ⟨_, X, G⟩ := T.ns; He.glo_ok X G (T.fct 24)
theorem Txt.g__law_step (T : Txt K mg) : mg "_law_step" = some (.ref (He.ga K "_law_step")) := let ⟨_, X, G⟩ := T.ns; He.glo_ok X G (T.fct 25)
theorem Txt.g__law_moved (T : Txt K mg) : mg "_law_moved" = some (.ref (He.ga K "_law_moved")) := let ⟨_, X, G⟩ := T.ns; He.glo_ok X G (T.fct 26)
theorem Txt.g__law_looked (T : Txt K mg) : mg "_law_looked" = some (.ref (He.ga K "_law_looked")) := let ⟨_, X, G⟩ := T.ns; He.glo_ok X G (T.fct 27)
theorem Txt.g__law_store (T : Txt K mg) : mg "_law_store" = some (.ref (He.ga K "_law_store")) := let ⟨_, X, G⟩ := T.ns; He.glo_ok X G (T.fct 28)
theorem Txt.g__law_boxes (T : Txt K mg) : mg "_law_boxes" = some (.ref (He.ga K "_law_boxes")) := let ⟨_, X, G⟩ := T.ns; He.glo_ok X G (T.fct 29)
theorem Txt.g__law_own (T : Txt K mg) : mg "_law_own" = some (.ref (He.ga K "_law_own")) := let ⟨_, X, G⟩ := T.ns; He.glo_ok X G (T.fct 30)
theorem Txt.g__law_watched (T : Txt K mg) : mg "_law_watched" = some (.ref (He.ga K "_law_watched")) := let ⟨_, X, G⟩ := T.ns; He.glo_ok X G (T.fct 31)
theorem Txt.g__law_go (T : Txt K mg) : mg "_law_go" = some (.ref (He.ga K "_law_go")) := let ⟨_, X, G⟩ := T.ns; He.glo_ok X G (T.fct 32)
theorem Txt.g__law_undo (T : Txt K mg) : mg "_law_undo" = some (.ref (He.ga K "_law_undo")) := let ⟨_, X, G⟩ := T.ns; He.glo_ok X G (T.fct 33)
theorem Txt.g__law_state (T : Txt K mg) : mg "_law_state" = some (.ref (He.ga K "_law_state")) := let ⟨_, X, G⟩ := T.ns; He.glo_ok X G (T.fct 34)
theorem Txt.g__law_stands (T : Txt K mg) : mg "_law_stands" = some (.ref (He.ga K "_law_stands")) := let ⟨_, X, G⟩ := T.ns; He.glo_ok X G (T.fct 35)
theorem Txt.g__law_open (T : Txt K mg) : mg "_law_open" = some (.ref (He.ga K "_law_open")) := let ⟨_, X, G⟩ := T.ns; He.glo_ok X G (T.fct 36)
theorem Txt.g__law_forth (T : Txt K mg) : mg "_law_forth" = some (.ref (He.ga K "_law_forth")) := let ⟨_, X, G⟩ := T.ns; He.glo_ok X G (T.fct 37)
theorem Txt.g__law_no_leave (T : Txt K mg) : mg "_law_no_leave" = some (.ref (He.ga K "_law_no_leave")) := let ⟨_, X, G⟩ := T.ns; He.glo_ok X G (T.fct 38)
theorem Txt.g_law (T : Txt K mg) : mg "law" = some (.ref (He.ga K "law")) := let ⟨_, X, G⟩ := T.ns; He.glo_ok X G (T.fct 39)
theorem Txt.g_Boxes (T : Txt K mg) : mg "Boxes" = some (.ref (He.ga K "Boxes")) := let ⟨_, X, G⟩ := T.ns; He.glo_ok X G (T.fct 40)
theorem Txt.g_Set (T : Txt K mg) : mg "Set" = some (.ref (He.ga K "Set")) := let ⟨_, X, G⟩ := T.ns; He.glo_ok X G (T.fct 41)
theorem Txt.g_Add (T : Txt K mg) : mg "Add" = some (.ref (He.ga K "Add")) := let ⟨_, X, G⟩ := T.ns; He.glo_ok X G (T.fct 42)
theorem Txt.g_Take (T : Txt K mg) : mg "Take" = some (.ref (He.ga K "Take")) := let ⟨_, X, G⟩ := T.ns; He.glo_ok X G (T.fct 43)
theorem Txt.g_Read (T : Txt K mg) : mg "Read" = some (.ref (He.ga K "Read")) := let ⟨_, X, G⟩ := T.ns; He.glo_ok X G (T.fct 44)
theorem Txt.g_Write (T : Txt K mg) : mg "Write" = some (.ref (He.ga K "Write")) := let ⟨_, X, G⟩ := T.ns; He.glo_ok X G (T.fct 45)
theorem Txt.g_Hop (T : Txt K mg) : mg "Hop" = some (.ref (He.ga K "Hop")) := let ⟨_, X, G⟩ := T.ns; He.glo_ok X G (T.fct 46)
theorem Txt.g_Copy (T : Txt K mg) : mg "Copy" = some (.ref (He.ga K "Copy")) := let ⟨_, X, G⟩ := T.ns; He.glo_ok X G (T.fct 47)
theorem Txt.g_Fill (T : Txt K mg) : mg "Fill" = some (.ref (He.ga K "Fill")) := let ⟨_, X, G⟩ := T.ns; He.glo_ok X G (T.fct 48)
theorem Txt.g_Seek (T : Txt K mg) : mg "Seek" = some (.ref (He.ga K "Seek")) := let ⟨_, X, G⟩ := T.ns; He.glo_ok X G (T.fct 49)
theorem Txt.g_Match (T : Txt K mg) : mg "Match" = some (.ref (He.ga K "Match")) := let ⟨_, X, G⟩ := T.ns; He.glo_ok X G (T.fct 50)
theorem Txt.g_Shift (T : Txt K mg) : mg "Shift" = some (.ref (He.ga K "Shift")) := let ⟨_, X, G⟩ := T.ns; He.glo_ok X G (T.fct 51)
theorem Txt.g_Turn (T : Txt K mg) : mg "Turn" = some (.ref (He.ga K "Turn")) := let ⟨_, X, G⟩ := T.ns; He.glo_ok X G (T.fct 52)
theorem Txt.g_Store (T : Txt K mg) : mg "Store" = some (.ref (He.ga K "Store")) := let ⟨_, X, G⟩ := T.ns; He.glo_ok X G (T.fct 53)
theorem Txt.g_Noted (T : Txt K mg) : mg "Noted" = some (.ref (He.ga K "Noted")) := let ⟨_, X, G⟩ := T.ns; He.glo_ok X G (T.fct 54)
theorem Txt.g_Watched (T : Txt K mg) : mg "Watched" = some (.ref (He.ga K "Watched")) := let ⟨_, X, G⟩ := T.ns; He.glo_ok X G (T.fct 55)
theorem Txt.g_Deed (T : Txt K mg) : mg "Deed" = some (.ref (He.ga K "Deed")) := let ⟨_, X, G⟩ := T.ns; He.glo_ok X G (T.fct 56)
theorem Txt.g_Machine (T : Txt K mg) : mg "Machine" = some (.ref (He.ga K "Machine")) := let ⟨_, X, G⟩ := T.ns; He.glo_ok X G (T.fct 57)
theorem Txt.g_NoLeave (T : Txt K mg) : mg "NoLeave" = some (.ref (He.ga K "NoLeave")) := let ⟨_, X, G⟩ := T.ns; He.glo_ok X G (T.fct 58)
theorem Txt.g_Stop (T : Txt K mg) : mg "Stop" = some (.ref (He.ga K "Stop")) := let ⟨_, X, G⟩ := T.ns; He.glo_ok X G (T.fct 59)
theorem Txt.g_NoFit (T : Txt K mg) : mg "NoFit" = some (.ref (He.ga K "NoFit")) := let ⟨_, X, G⟩ := T.ns; He.glo_ok X G (T.fct 60)
theorem Txt.g_BOXES (T : Txt K mg) : mg "BOXES" = some (.ref (He.ga K "BOXES")) := let ⟨_, X, G⟩ := T.ns; He.glo_ok X G (T.fct 61)
theorem Txt.g_LEAVES (T : Txt K mg) : mg "LEAVES" = some (.ref (He.ga K "LEAVES")) := let ⟨_, X, G⟩ := T.ns; He.glo_ok X G (T.fct 62)
theorem Txt.f_len (T : Txt K mg) : mg "len" = none := let ⟨_, X, G⟩ := T.ns; He.free_ok X G (T.fct 63)
theorem Txt.f_int (T : Txt K mg) : mg "int" = none := let ⟨_, X, G⟩ := T.ns; He.free_ok X G (T.fct 64)
theorem Txt.f_min (T : Txt K mg) : mg "min" = none := let ⟨_, X, G⟩ := T.ns; He.free_ok X G (T.fct 65)
theorem Txt.f_abs (T : Txt K mg) : mg "abs" = none := let ⟨_, X, G⟩ := T.ns; He.free_ok X G (T.fct 66)
theorem Txt.f_isinstance (T : Txt K mg) : mg "isinstance" = none := let ⟨_, X, G⟩ := T.ns; He.free_ok X G (T.fct 67)
theorem Txt.f_list (T : Txt K mg) : mg "list" = none := let ⟨_, X, G⟩ := T.ns; He.free_ok X G (T.fct 68)
theorem Txt.f_tuple (T : Txt K mg) : mg "tuple" = none := let ⟨_, X, G⟩ := T.ns; He.free_ok X G (T.fct 69)
theorem Txt.f_range (T : Txt K mg) : mg "range" = none := let ⟨_, X, G⟩ := T.ns; He.free_ok X G (T.fct 70)
theorem Txt.f_zip (T : Txt K mg) : mg "zip" = none := let ⟨_, X, G⟩ := T.ns; He.free_ok X G (T.fct 71)
theorem Txt.f_enumerate (T : Txt K mg) : mg "enumerate" = none := let ⟨_, X, G⟩ := T.ns; He.free_ok X G (T.fct 72)
theorem Txt.f_bool (T : Txt K mg) : mg "bool" = none := let ⟨_, X, G⟩ := T.ns; He.free_ok X G (T.fct 73)
theorem Txt.f_str (T : Txt K mg) : mg "str" = none := let ⟨_, X, G⟩ := T.ns; He.free_ok X G (T.fct 74)
theorem Txt.i_MOST_CONTENT (T : Txt K mg) : ∃ t, mg "MOST_CONTENT" = some (.int 1000000000 t) := let ⟨_, X, G⟩ := T.ns; He.int_ok X G (T.fct 75)
theorem Txt.i_MOST_HELD (T : Txt K mg) : ∃ t, mg "MOST_HELD" = some (.int 1000000000 t) := let ⟨_, X, G⟩ := T.ns; He.int_ok X G (T.fct 76)
theorem Txt.i_MOST_ROWS (T : Txt K mg) : ∃ t, mg "MOST_ROWS" = some (.int 24 t) := let ⟨_, X, G⟩ := T.ns; He.int_ok X G (T.fct 77)
theorem Txt.i_MOST_CELLS (T : Txt K mg) : ∃ t, mg "MOST_CELLS" = some (.int 60 t) := let ⟨_, X, G⟩ := T.ns; He.int_ok X G (T.fct 78)
theorem Txt.i_MOST_HOP (T : Txt K mg) : ∃ t, mg "MOST_HOP" = some (.int 24 t) := let ⟨_, X, G⟩ := T.ns; He.int_ok X G (T.fct 79)
theorem Txt.s_OPEN (T : Txt K mg) : ∃ t, mg "OPEN" = some (.str "open" t) := let ⟨_, X, G⟩ := T.ns; He.str_ok X G (T.fct 80)
theorem Txt.s_LOOK (T : Txt K mg) : ∃ t, mg "LOOK" = some (.str "look" t) := let ⟨_, X, G⟩ := T.ns; He.str_ok X G (T.fct 81)
theorem Txt.c_Boxes (T : Txt K mg) : Cls K (He.ga K "Boxes") := He.cls_ok (T.fct 82)
theorem Txt.c_Set (T : Txt K mg) : Cls K (He.ga K "Set") := He.cls_ok (T.fct 83)
theorem Txt.c_Add (T : Txt K mg) : Cls K (He.ga K "Add") := He.cls_ok (T.fct 84)
theorem Txt.c_Take (T : Txt K mg) : Cls K (He.ga K "Take") := He.cls_ok (T.fct 85)
theorem Txt.c_Read (T : Txt K mg) : Cls K (He.ga K "Read") := He.cls_ok (T.fct 86)
theorem Txt.c_Write (T : Txt K mg) : Cls K (He.ga K "Write") := He.cls_ok (T.fct 87)
theorem Txt.c_Hop (T : Txt K mg) : Cls K (He.ga K "Hop") := He.cls_ok (T.fct 88)
theorem Txt.c_Copy (T : Txt K mg) : Cls K (He.ga K "Copy") := He.cls_ok (T.fct 89)
theorem Txt.c_Fill (T : Txt K mg) : Cls K (He.ga K "Fill") := He.cls_ok (T.fct 90)
theorem Txt.c_Seek (T : Txt K mg) : Cls K (He.ga K "Seek") := He.cls_ok (T.fct 91)
theorem Txt.c_Match (T : Txt K mg) : Cls K (He.ga K "Match") := He.cls_ok (T.fct 92)
theorem Txt.c_Shift (T : Txt K mg) : Cls K (He.ga K "Shift") := He.cls_ok (T.fct 93)
theorem Txt.c_Turn (T : Txt K mg) : Cls K (He.ga K "Turn") := He.cls_ok (T.fct 94)
theorem Txt.c_Store (T : Txt K mg) : Cls K (He.ga K "Store") := He.cls_ok (T.fct 95)
theorem Txt.c_Noted (T : Txt K mg) : Cls K (He.ga K "Noted") := He.cls_ok (T.fct 96)
theorem Txt.c_Watched (T : Txt K mg) : Cls K (He.ga K "Watched") := He.cls_ok (T.fct 97)
theorem Txt.n_Boxes_numbers (T : Txt K mg) : NoAttr K (He.ga K "Boxes") "numbers" := He.noat_ok (T.fct 98)
theorem Txt.n_Set_box (T : Txt K mg) : NoAttr K (He.ga K "Set") "box" := He.noat_ok (T.fct 99)
theorem Txt.n_Set_number (T : Txt K mg) : NoAttr K (He.ga K "Set") "number" := He.noat_ok (T.fct 100)
theorem Txt.n_Add_box (T : Txt K mg) : NoAttr K (He.ga K "Add") "box" := He.noat_ok (T.fct 101)
theorem Txt.n_Add_number (T : Txt K mg) : NoAttr K (He.ga K "Add") "number" := He.noat_ok (T.fct 102)
theorem Txt.n_Take_box (T : Txt K mg) : NoAttr K (He.ga K "Take") "box" := He.noat_ok (T.fct 103)
theorem Txt.n_Take_other (T : Txt K mg) : NoAttr K (He.ga K "Take") "other" := He.noat_ok (T.fct 104)
theorem Txt.n_Read_box (T : Txt K mg) : NoAttr K (He.ga K "Read") "box" := He.noat_ok (T.fct 105)
theorem Txt.n_Write_box (T : Txt K mg) : NoAttr K (He.ga K "Write") "box" := He.noat_ok (T.fct 106)
theorem Txt.n_Hop_many (T : Txt K mg) : NoAttr K (He.ga K "Hop") "many" := He.noat_ok (T.fct 107)
theorem Txt.n_Hop_on (T : Txt K mg) : NoAttr K (He.ga K "Hop") "on" := He.noat_ok (T.fct 108)
theorem Txt.n_Store_kept (T : Txt K mg) : NoAttr K (He.ga K "Store") "kept" := He.noat_ok (T.fct 109)
theorem Txt.n_Store_given (T : Txt K mg) : NoAttr K (He.ga K "Store") "given" := He.noat_ok (T.fct 110)
theorem Txt.n_Noted_kept (T : Txt K mg) : NoAttr K (He.ga K "Noted") "kept" := He.noat_ok (T.fct 111)
theorem Txt.n_Noted_given (T : Txt K mg) : NoAttr K (He.ga K "Noted") "given" := He.noat_ok (T.fct 112)
theorem Txt.n_Noted_puts (T : Txt K mg) : NoAttr K (He.ga K "Noted") "puts" := He.noat_ok (T.fct 113)
theorem Txt.n_Watched_deeds (T : Txt K mg) : NoAttr K (He.ga K "Watched") "deeds" := He.noat_ok (T.fct 114)
theorem Txt.n_Watched_store (T : Txt K mg) : NoAttr K (He.ga K "Watched") "store" := He.noat_ok (T.fct 115)
theorem Txt.n_Watched_boxes (T : Txt K mg) : NoAttr K (He.ga K "Watched") "boxes" := He.noat_ok (T.fct 116)
theorem Txt.n_Watched_spot (T : Txt K mg) : NoAttr K (He.ga K "Watched") "spot" := He.noat_ok (T.fct 117)
theorem Txt.n_Watched_entries (T : Txt K mg) : NoAttr K (He.ga K "Watched") "entries" := He.noat_ok (T.fct 118)
theorem Txt.m_Boxes_holds (T : Txt K mg) : Meth K (He.ga K "Boxes") "holds" (He.ma K (He.ga K "Boxes") "holds") := He.meth_ok (T.fct 119)
theorem Txt.m_Boxes_give (T : Txt K mg) : Meth K (He.ga K "Boxes") "give" (He.ma K (He.ga K "Boxes") "give") := He.meth_ok (T.fct 120)
theorem Txt.m_Boxes_told (T : Txt K mg) : Meth K (He.ga K "Boxes") "told" (He.ma K (He.ga K "Boxes") "told") := He.meth_ok (T.fct 121)
theorem Txt.m_Boxes_copied (T : Txt K mg) : Meth K (He.ga K "Boxes") "copied" (He.ma K (He.ga K "Boxes") "copied") := He.meth_ok (T.fct 122)
theorem Txt.m_Store_told (T : Txt K mg) : Meth K (He.ga K "Store") "told" (He.ma K (He.ga K "Store") "told") := He.meth_ok (T.fct 123)
theorem Txt.m_Store_leaves (T : Txt K mg) : Meth K (He.ga K "Store") "leaves" (He.ma K (He.ga K "Store") "leaves") := He.meth_ok (T.fct 124)
theorem Txt.m_Store_leave (T : Txt K mg) : Meth K (He.ga K "Store") "leave" (He.ma K (He.ga K "Store") "leave") := He.meth_ok (T.fct 125)
theorem Txt.m_Store_may (T : Txt K mg) : Meth K (He.ga K "Store") "may" (He.ma K (He.ga K "Store") "may") := He.meth_ok (T.fct 126)
theorem Txt.m_Store_look (T : Txt K mg) : Meth K (He.ga K "Store") "look" (He.ma K (He.ga K "Store") "look") := He.meth_ok (T.fct 127)
theorem Txt.m_Store_put (T : Txt K mg) : Meth K (He.ga K "Store") "put" (He.ma K (He.ga K "Store") "put") := He.meth_ok (T.fct 128)
theorem Txt.m_Store_copied (T : Txt K mg) : Meth K (He.ga K "Store") "copied" (He.ma K (He.ga K "Store") "copied") := He.meth_ok (T.fct 129)
theorem Txt.m_Noted_told (T : Txt K mg) : Meth K (He.ga K "Noted") "told" (He.ma K (He.ga K "Noted") "told") := He.meth_ok (T.fct 130)
theorem Txt.m_Noted_leaves (T : Txt K mg) : Meth K (He.ga K "Noted") "leaves" (He.ma K (He.ga K "Noted") "leaves") := He.meth_ok (T.fct 131)
theorem Txt.m_Noted_leave (T : Txt K mg) : Meth K (He.ga K "Noted") "leave" (He.ma K (He.ga K "Noted") "leave") := He.meth_ok (T.fct 132)
theorem Txt.m_Noted_may (T : Txt K mg) : Meth K (He.ga K "Noted") "may" (He.ma K (He.ga K "Noted") "may") := He.meth_ok (T.fct 133)
theorem Txt.m_Noted_look (T : Txt K mg) : Meth K (He.ga K "Noted") "look" (He.ma K (He.ga K "Noted") "look") := He.meth_ok (T.fct 134)
theorem Txt.m_Noted_put (T : Txt K mg) : Meth K (He.ga K "Noted") "put" (He.ma K (He.ga K "Noted") "put") := He.meth_ok (T.fct 135)
theorem Txt.m_Noted_put_back (T : Txt K mg) : Meth K (He.ga K "Noted") "put_back" (He.ma K (He.ga K "Noted") "put_back") := He.meth_ok (T.fct 136)
theorem Txt.m_Watched_step (T : Txt K mg) : Meth K (He.ga K "Watched") "step" (He.ma K (He.ga K "Watched") "step") := He.meth_ok (T.fct 137)
theorem Txt.m_Watched_log (T : Txt K mg) : Meth K (He.ga K "Watched") "log" (He.ma K (He.ga K "Watched") "log") := He.meth_ok (T.fct 138)
theorem Txt.m_Watched_back (T : Txt K mg) : Meth K (He.ga K "Watched") "back" (He.ma K (He.ga K "Watched") "back") := He.meth_ok (T.fct 139)
theorem Txt.m_Watched_state (T : Txt K mg) : Meth K (He.ga K "Watched") "state" (He.ma K (He.ga K "Watched") "state") := He.meth_ok (T.fct 140)
theorem Txt.m_Watched_leaves (T : Txt K mg) : Meth K (He.ga K "Watched") "leaves" (He.ma K (He.ga K "Watched") "leaves") := He.meth_ok (T.fct 141)
theorem Txt.m_Watched_leave (T : Txt K mg) : Meth K (He.ga K "Watched") "leave" (He.ma K (He.ga K "Watched") "leave") := He.meth_ok (T.fct 142)
theorem Txt.m_Watched_is_done (T : Txt K mg) : Meth K (He.ga K "Watched") "is_done" (He.ma K (He.ga K "Watched") "is_done") := He.meth_ok (T.fct 143)
theorem Txt.m_Set_step (T : Txt K mg) : Meth K (He.ga K "Set") "step" (He.ma K (He.ga K "Set") "step") := He.meth_ok (T.fct 144)
theorem Txt.m_Add_step (T : Txt K mg) : Meth K (He.ga K "Add") "step" (He.ma K (He.ga K "Add") "step") := He.meth_ok (T.fct 145)
theorem Txt.m_Take_step (T : Txt K mg) : Meth K (He.ga K "Take") "step" (He.ma K (He.ga K "Take") "step") := He.meth_ok (T.fct 146)
theorem Txt.m_Read_step (T : Txt K mg) : Meth K (He.ga K "Read") "step" (He.ma K (He.ga K "Read") "step") := He.meth_ok (T.fct 147)
theorem Txt.m_Write_step (T : Txt K mg) : Meth K (He.ga K "Write") "step" (He.ma K (He.ga K "Write") "step") := He.meth_ok (T.fct 148)
theorem Txt.m_Hop_step (T : Txt K mg) : Meth K (He.ga K "Hop") "step" (He.ma K (He.ga K "Hop") "step") := He.meth_ok (T.fct 149)
theorem Txt.m_Copy_step (T : Txt K mg) : Meth K (He.ga K "Copy") "step" (He.ma K (He.ga K "Copy") "step") := He.meth_ok (T.fct 150)
theorem Txt.m_Fill_step (T : Txt K mg) : Meth K (He.ga K "Fill") "step" (He.ma K (He.ga K "Fill") "step") := He.meth_ok (T.fct 151)
theorem Txt.m_Seek_step (T : Txt K mg) : Meth K (He.ga K "Seek") "step" (He.ma K (He.ga K "Seek") "step") := He.meth_ok (T.fct 152)
theorem Txt.m_Match_step (T : Txt K mg) : Meth K (He.ga K "Match") "step" (He.ma K (He.ga K "Match") "step") := He.meth_ok (T.fct 153)
theorem Txt.m_Shift_step (T : Txt K mg) : Meth K (He.ga K "Shift") "step" (He.ma K (He.ga K "Shift") "step") := He.meth_ok (T.fct 154)
theorem Txt.m_Turn_step (T : Txt K mg) : Meth K (He.ga K "Turn") "step" (He.ma K (He.ga K "Turn") "step") := He.meth_ok (T.fct 155)
theorem Txt.k_Boxes (T : Txt K mg) : Mk K (He.ga K "Boxes") (He.ma K (He.ga K "Boxes") "__init__") := He.mkr_ok (T.fct 156)
theorem Txt.k_Set (T : Txt K mg) : Mk K (He.ga K "Set") (He.ma K (He.ga K "Set") "__init__") := He.mkr_ok (T.fct 157)
theorem Txt.k_Add (T : Txt K mg) : Mk K (He.ga K "Add") (He.ma K (He.ga K "Add") "__init__") := He.mkr_ok (T.fct 158)
theorem Txt.k_Take (T : Txt K mg) : Mk K (He.ga K "Take") (He.ma K (He.ga K "Take") "__init__") := He.mkr_ok (T.fct 159)
theorem Txt.k_Read (T : Txt K mg) : Mk K (He.ga K "Read") (He.ma K (He.ga K "Read") "__init__") := He.mkr_ok (T.fct 160)
theorem Txt.k_Write (T : Txt K mg) : Mk K (He.ga K "Write") (He.ma K (He.ga K "Write") "__init__") := He.mkr_ok (T.fct 161)
theorem Txt.k_Hop (T : Txt K mg) : Mk K (He.ga K "Hop") (He.ma K (He.ga K "Hop") "__init__") := He.mkr_ok (T.fct 162)
theorem Txt.k_Store (T : Txt K mg) : Mk K (He.ga K "Store") (He.ma K (He.ga K "Store") "__init__") := He.mkr_ok (T.fct 163)
theorem Txt.k_Noted (T : Txt K mg) : Mk K (He.ga K "Noted") (He.ma K (He.ga K "Noted") "__init__") := He.mkr_ok (T.fct 164)
theorem Txt.k_Watched (T : Txt K mg) : Mk K (He.ga K "Watched") (He.ma K (He.ga K "Watched") "__init__") := He.mkr_ok (T.fct 165)
theorem Txt.x_Stop_Stop (T : Txt K mg) : PySem.W.exmOne K (.ref (He.ga K "Stop")) (.ref (He.ga K "Stop")) = some true := He.exm_ok (T.fct 166)
theorem Txt.x_NoFit_Stop (T : Txt K mg) : PySem.W.exmOne K (.ref (He.ga K "NoFit")) (.ref (He.ga K "Stop")) = some false := He.exm_ok (T.fct 167)
theorem Txt.x_NoFit_NoFit (T : Txt K mg) : PySem.W.exmOne K (.ref (He.ga K "NoFit")) (.ref (He.ga K "NoFit")) = some true := He.exm_ok (T.fct 168)
theorem Txt.x_Stop_NoFit (T : Txt K mg) : PySem.W.exmOne K (.ref (He.ga K "Stop")) (.ref (He.ga K "NoFit")) = some false := He.exm_ok (T.fct 169)
theorem Txt.x_NoLeave_NoLeave (T : Txt K mg) : PySem.W.exmOne K (.ref (He.ga K "NoLeave")) (.ref (He.ga K "NoLeave")) = some true := He.exm_ok (T.fct 170)
theorem Txt.t_BOXES (T : Txt K mg) : ∀ H : Hp, SqT K H (He.ga K "BOXES") [.str "here", .str "there", .str "left", .str "way", .str "sign", .str "met"] := fun H => He.tupB_ok (T.exf 0) H
theorem Txt.t_LEAVES (T : Txt K mg) : ∀ H : Hp, SqT K H (He.ga K "LEAVES") [.str "open", .str "look", .str "shut"] := fun H => He.tupB_ok (T.exf 1) H
theorem Txt.ty_BOXES (T : Txt K mg) : ∀ H : Hp, tyV K "tuple" (.ref (He.ga K "BOXES")) H := fun H => .inr (.inl ⟨rfl, tydB_ok (T.exf 2)⟩)
theorem Txt.ty_LEAVES (T : Txt K mg) : ∀ H : Hp, tyV K "tuple" (.ref (He.ga K "LEAVES")) H := fun H => .inr (.inl ⟨rfl, tydB_ok (T.exf 3)⟩)
theorem Txt.o_NoLeave (T : Txt K mg) : OexC K (He.ga K "NoLeave") := oexB_ok (T.exf 4)
theorem Txt.oi_NoLeave (T : Txt K mg) : PySem.W.findIn K (.ref (He.ga K "NoLeave")) "__init__" = some (some (.ref (He.ma K (He.ga K "NoLeave") "__init__"))) ∧ PySem.W.typeIn K (.ref (He.ma K (He.ga K "NoLeave") "__init__")) = some (.type "function") := let ⟨a, b⟩ := He.ba (T.exf 5); ⟨of_decide_eq_true a, of_decide_eq_true b⟩
theorem Txt.n_NoLeave_low (T : Txt K mg) : PySem.W.findIn K (.ref (He.ga K "NoLeave")) "low" = some none := of_decide_eq_true (T.exf 6)
theorem Txt.n_NoLeave_behind (T : Txt K mg) : PySem.W.findIn K (.ref (He.ga K "NoLeave")) "behind" = some none := of_decide_eq_true (T.exf 7)
theorem Txt.n_NoLeave_word (T : Txt K mg) : PySem.W.findIn K (.ref (He.ga K "NoLeave")) "word" = some none := of_decide_eq_true (T.exf 8)
theorem Txt.o_Stop (T : Txt K mg) : OexC K (He.ga K "Stop") := oexB_ok (T.exf 9)
theorem Txt.oi_Stop (T : Txt K mg) : PySem.W.findIn K (.ref (He.ga K "Stop")) "__init__" = some (some (.ref (He.ma K (He.ga K "Stop") "__init__"))) ∧ PySem.W.typeIn K (.ref (He.ma K (He.ga K "Stop") "__init__")) = some (.type "function") := let ⟨a, b⟩ := He.ba (T.exf 10); ⟨of_decide_eq_true a, of_decide_eq_true b⟩
theorem Txt.n_Stop_deed (T : Txt K mg) : PySem.W.findIn K (.ref (He.ga K "Stop")) "deed" = some none := of_decide_eq_true (T.exf 11)
theorem Txt.n_Stop_cell (T : Txt K mg) : PySem.W.findIn K (.ref (He.ga K "Stop")) "cell" = some none := of_decide_eq_true (T.exf 12)
theorem Txt.o_NoFit (T : Txt K mg) : OexC K (He.ga K "NoFit") := oexB_ok (T.exf 13)
theorem Txt.oi_NoFit (T : Txt K mg) : PySem.W.findIn K (.ref (He.ga K "NoFit")) "__init__" = some (some (.ref (He.ma K (He.ga K "NoFit") "__init__"))) ∧ PySem.W.typeIn K (.ref (He.ma K (He.ga K "NoFit") "__init__")) = some (.type "function") := let ⟨a, b⟩ := He.ba (T.exf 14); ⟨of_decide_eq_true a, of_decide_eq_true b⟩
theorem Txt.n_NoFit_box (T : Txt K mg) : PySem.W.findIn K (.ref (He.ga K "NoFit")) "box" = some none := of_decide_eq_true (T.exf 15)
theorem Txt.n_NoFit_number (T : Txt K mg) : PySem.W.findIn K (.ref (He.ga K "NoFit")) "number" = some none := of_decide_eq_true (T.exf 16)
theorem Txt.xf_NoLeave (T : Txt K mg) : XfC K (He.ga K "NoLeave") := xfB_ok (T.exf 17)
theorem Txt.cm_Machine_init (T : Txt K mg) : ClM K (He.ga K "Machine") "__init__" (He.ma K (He.ga K "Machine") "__init__") := clmB_ok (T.exf 18)
theorem Txt.cm_Machine_step (T : Txt K mg) : ClM K (He.ga K "Machine") "step" (He.ma K (He.ga K "Machine") "step") := clmB_ok (T.exf 19)
theorem Txt.cm_Store_init (T : Txt K mg) : ClM K (He.ga K "Store") "__init__" (He.ma K (He.ga K "Store") "__init__") := clmB_ok (T.exf 20)
theorem Txt.cm_Store_put (T : Txt K mg) : ClM K (He.ga K "Store") "put" (He.ma K (He.ga K "Store") "put") := clmB_ok (T.exf 21)
theorem Txt.k0_Copy (T : Txt K mg) : Mk0 K (He.ga K "Copy") := mk0B_ok (T.exf 22)
theorem Txt.k0_Fill (T : Txt K mg) : Mk0 K (He.ga K "Fill") := mk0B_ok (T.exf 23)
theorem Txt.k0_Seek (T : Txt K mg) : Mk0 K (He.ga K "Seek") := mk0B_ok (T.exf 24)
theorem Txt.k0_Match (T : Txt K mg) : Mk0 K (He.ga K "Match") := mk0B_ok (T.exf 25)
theorem Txt.k0_Shift (T : Txt K mg) : Mk0 K (He.ga K "Shift") := mk0B_ok (T.exf 26)
theorem Txt.k0_Turn (T : Txt K mg) : Mk0 K (He.ga K "Turn") := mk0B_ok (T.exf 27)
theorem Txt.isa_Set (T : Txt K mg) : IsaC K (He.ga K "Set") (He.ga K "Deed") := isaB_ok (T.exf 28)
theorem Txt.isa_Add (T : Txt K mg) : IsaC K (He.ga K "Add") (He.ga K "Deed") := isaB_ok (T.exf 29)
theorem Txt.isa_Take (T : Txt K mg) : IsaC K (He.ga K "Take") (He.ga K "Deed") := isaB_ok (T.exf 30)
theorem Txt.isa_Read (T : Txt K mg) : IsaC K (He.ga K "Read") (He.ga K "Deed") := isaB_ok (T.exf 31)
theorem Txt.isa_Write (T : Txt K mg) : IsaC K (He.ga K "Write") (He.ga K "Deed") := isaB_ok (T.exf 32)
theorem Txt.isa_Hop (T : Txt K mg) : IsaC K (He.ga K "Hop") (He.ga K "Deed") := isaB_ok (T.exf 33)
theorem Txt.isa_Copy (T : Txt K mg) : IsaC K (He.ga K "Copy") (He.ga K "Deed") := isaB_ok (T.exf 34)
theorem Txt.isa_Fill (T : Txt K mg) : IsaC K (He.ga K "Fill") (He.ga K "Deed") := isaB_ok (T.exf 35)
theorem Txt.isa_Seek (T : Txt K mg) : IsaC K (He.ga K "Seek") (He.ga K "Deed") := isaB_ok (T.exf 36)
theorem Txt.isa_Match (T : Txt K mg) : IsaC K (He.ga K "Match") (He.ga K "Deed") := isaB_ok (T.exf 37)
theorem Txt.isa_Shift (T : Txt K mg) : IsaC K (He.ga K "Shift") (He.ga K "Deed") := isaB_ok (T.exf 38)
theorem Txt.isa_Turn (T : Txt K mg) : IsaC K (He.ga K "Turn") (He.ga K "Deed") := isaB_ok (T.exf 39)
theorem Txt.d_is_whole (T : Txt K mg) : ∃ fd, FunD K "is_whole" "is_whole" (defArgs s_is_whole) (defBody s_is_whole) (defScope s_is_whole) ([] : List V) [] (He.ga K "is_whole") fd := T.d.def_ 0 (d := df_is_whole) rfl
theorem Txt.d_is_content (T : Txt K mg) : ∃ fd, FunD K "is_content" "is_content" (defArgs s_is_content) (defBody s_is_content) (defScope s_is_content) ([] : List V) [] (He.ga K "is_content") fd := T.d.def_ 1 (d := df_is_content) rfl
theorem Txt.d_is_box (T : Txt K mg) : ∃ fd, FunD K "is_box" "is_box" (defArgs s_is_box) (defBody s_is_box) (defScope s_is_box) ([] : List V) [] (He.ga K "is_box") fd := T.d.def_ 2 (d := df_is_box) rfl
theorem Txt.d_fits (T : Txt K mg) : ∃ fd, FunD K "fits" "fits" (defArgs s_fits) (defBody s_fits) (defScope s_fits) ([] : List V) [] (He.ga K "fits") fd := T.d.def_ 3 (d := df_fits) rfl
theorem Txt.d_check_boxes (T : Txt K mg) : ∃ fd, FunD K "check_boxes" "check_boxes" (defArgs s_check_boxes) (defBody s_check_boxes) (defScope s_check_boxes) ([] : List V) [] (He.ga K "check_boxes") fd := T.d.def_ 4 (d := df_check_boxes) rfl
theorem Txt.d_check_number (T : Txt K mg) : ∃ fd, FunD K "check_number" "check_number" (defArgs s_check_number) (defBody s_check_number) (defScope s_check_number) ([] : List V) [] (He.ga K "check_number") fd := T.d.def_ 5 (d := df_check_number) rfl
theorem Txt.d_need_rows (T : Txt K mg) : ∃ fd, FunD K "need_rows" "need_rows" (defArgs s_need_rows) (defBody s_need_rows) (defScope s_need_rows) ([] : List V) [] (He.ga K "need_rows") fd := T.d.def_ 6 (d := df_need_rows) rfl
theorem Txt.d_checked_cells (T : Txt K mg) : ∃ fd, FunD K "checked_cells" "checked_cells" (defArgs s_checked_cells) (defBody s_checked_cells) (defScope s_checked_cells) ([] : List V) [] (He.ga K "checked_cells") fd := T.d.def_ 7 (d := df_checked_cells) rfl
theorem Txt.d_check (T : Txt K mg) : ∃ fd, FunD K "check" "check" (defArgs s_check) (defBody s_check) (defScope s_check) ([] : List V) [] (He.ga K "check") fd := T.d.def_ 8 (d := df_check) rfl
theorem Txt.d_go_on (T : Txt K mg) : ∃ fd, FunD K "go_on" "go_on" (defArgs s_go_on) (defBody s_go_on) (defScope s_go_on) ([] : List V) [] (He.ga K "go_on") fd := T.d.def_ 9 (d := df_go_on) rfl
theorem Txt.d_lessen (T : Txt K mg) : ∃ fd, FunD K "lessen" "lessen" (defArgs s_lessen) (defBody s_lessen) (defScope s_lessen) ([] : List V) [] (He.ga K "lessen") fd := T.d.def_ 10 (d := df_lessen) rfl
theorem Txt.d__law_hand (T : Txt K mg) : ∃ fd, FunD K "_law_hand" "_law_hand" (defArgs s_law_hand) (defBody s_law_hand) (defScope s_law_hand) ([] : List V) [] (He.ga K "_law_hand") fd := T.d.def_ 11 (d := df__law_hand) rfl
theorem Txt.d__law_draw (T : Txt K mg) : ∃ fd, FunD K "_law_draw" "_law_draw" (defArgs s_law_draw) (defBody s_law_draw) (defScope s_law_draw) ([] : List V) [] (He.ga K "_law_draw") fd := T.d.def_ 12 (d := df__law_draw) rfl
theorem Txt.d__law_content (T : Txt K mg) : ∃ fd, FunD K "_law_content" "_law_content" (defArgs s_law_content) (defBody s_law_content) (defScope s_law_content) ([] : List V) [] (He.ga K "_law_content") fd := T.d.def_ 13 (d := df__law_content) rfl
theorem Txt.d__law_cells (T : Txt K mg) : ∃ fd, FunD K "_law_cells" "_law_cells" (defArgs s_law_cells) (defBody s_law_cells) (defScope s_law_cells) ([] : List V) [] (He.ga K "_law_cells") fd := T.d.def_ 14 (d := df__law_cells) rfl
theorem Txt.d__law_leaves (T : Txt K mg) : ∃ fd, FunD K "_law_leaves" "_law_leaves" (defArgs s_law_leaves) (defBody s_law_leaves) (defScope s_law_leaves) ([] : List V) [] (He.ga K "_law_leaves") fd := T.d.def_ 15 (d := df__law_leaves) rfl
theorem Txt.d__law_spot (T : Txt K mg) : ∃ fd, FunD K "_law_spot" "_law_spot" (defArgs s_law_spot) (defBody s_law_spot) (defScope s_law_spot) ([] : List V) [] (He.ga K "_law_spot") fd := T.d.def_ 16 (d := df__law_spot) rfl
theorem Txt.d__law_six (T : Txt K mg) : ∃ fd, FunD K "_law_six" "_law_six" (defArgs s_law_six) (defBody s_law_six) (defScope s_law_six) ([] : List V) [] (He.ga K "_law_six") fd := T.d.def_ 17 (d := df__law_six) rfl
theorem Txt.d__law_spec (T : Txt K mg) : ∃ fd, FunD K "_law_spec" "_law_spec" (defArgs s_law_spec) (defBody s_law_spec) (defScope s_law_spec) ([] : List V) [] (He.ga K "_law_spec") fd := T.d.def_ 18 (d := df__law_spec) rfl
theorem Txt.d__law_deed (T : Txt K mg) : ∃ fd, FunD K "_law_deed" "_law_deed" (defArgs s_law_deed) (defBody s_law_deed) (defScope s_law_deed) ([] : List V) [] (He.ga K "_law_deed") fd := T.d.def_ 19 (d := df__law_deed) rfl
theorem Txt.d__law_long (T : Txt K mg) : ∃ fd, FunD K "_law_long" "_law_long" (defArgs s_law_long) (defBody s_law_long) (defScope s_law_long) ([] : List V) [] (He.ga K "_law_long") fd := T.d.def_ 20 (d := df__law_long) rfl
theorem Txt.d__law_let (T : Txt K mg) : ∃ fd, FunD K "_law_let" "_law_let" (defArgs s_law_let) (defBody s_law_let) (defScope s_law_let) ([] : List V) [] (He.ga K "_law_let") fd := T.d.def_ 21 (d := df__law_let) rfl
theorem Txt.d__law_reach (T : Txt K mg) : ∃ fd, FunD K "_law_reach" "_law_reach" (defArgs s_law_reach) (defBody s_law_reach) (defScope s_law_reach) ([] : List V) [] (He.ga K "_law_reach") fd := T.d.def_ 22 (d := df__law_reach) rfl
theorem Txt.d__law_fits (T : Txt K mg) : ∃ fd, FunD K "_law_fits" "_law_fits" (defArgs s_law_fits) (defBody s_law_fits) (defScope s_law_fits) ([] : List V) [] (He.ga K "_law_fits") fd := T.d.def_ 23 (d := df__law_fits) rfl
theorem Txt.d__law_barred (T : Txt K mg) : ∃ fd, FunD K "_law_barred" "_law_barred" (defArgs s_law_barred) (defBody s_law_barred) (defScope s_law_barred) ([] : List V) [] (He.ga K "_law_barred") fd := T.d.def_ 24 (d := df__law_barred) rfl
theorem Txt.d__law_step (T : Txt K mg) : ∃ fd, FunD K "_law_step" "_law_step" (defArgs s_law_step) (defBody s_law_step) (defScope s_law_step) ([] : List V) [] (He.ga K "_law_step") fd := T.d.def_ 25 (d := df__law_step) rfl
theorem Txt.d__law_moved (T : Txt K mg) : ∃ fd, FunD K "_law_moved" "_law_moved" (defArgs s_law_moved) (defBody s_law_moved) (defScope s_law_moved) ([] : List V) [] (He.ga K "_law_moved") fd := T.d.def_ 26 (d := df__law_moved) rfl
theorem Txt.d__law_looked (T : Txt K mg) : ∃ fd, FunD K "_law_looked" "_law_looked" (defArgs s_law_looked) (defBody s_law_looked) (defScope s_law_looked) ([] : List V) [] (He.ga K "_law_looked") fd := T.d.def_ 27 (d := df__law_looked) rfl
theorem Txt.d__law_store (T : Txt K mg) : ∃ fd, FunD K "_law_store" "_law_store" (defArgs s_law_store) (defBody s_law_store) (defScope s_law_store) ([] : List V) [] (He.ga K "_law_store") fd := T.d.def_ 28 (d := df__law_store) rfl
theorem Txt.d__law_boxes (T : Txt K mg) : ∃ fd, FunD K "_law_boxes" "_law_boxes" (defArgs s_law_boxes) (defBody s_law_boxes) (defScope s_law_boxes) ([] : List V) [] (He.ga K "_law_boxes") fd := T.d.def_ 29 (d := df__law_boxes) rfl
theorem Txt.d__law_own (T : Txt K mg) : ∃ fd, FunD K "_law_own" "_law_own" (defArgs s_law_own) (defBody s_law_own) (defScope s_law_own) ([] : List V) [] (He.ga K "_law_own") fd := T.d.def_ 30 (d := df__law_own) rfl
theorem Txt.d__law_watched (T : Txt K mg) : ∃ fd, FunD K "_law_watched" "_law_watched" (defArgs s_law_watched) (defBody s_law_watched) (defScope s_law_watched) ([] : List V) [] (He.ga K "_law_watched") fd := T.d.def_ 31 (d := df__law_watched) rfl
theorem Txt.d__law_go (T : Txt K mg) : ∃ fd, FunD K "_law_go" "_law_go" (defArgs s_law_go) (defBody s_law_go) (defScope s_law_go) ([] : List V) [] (He.ga K "_law_go") fd := T.d.def_ 32 (d := df__law_go) rfl
theorem Txt.d__law_undo (T : Txt K mg) : ∃ fd, FunD K "_law_undo" "_law_undo" (defArgs s_law_undo) (defBody s_law_undo) (defScope s_law_undo) ([] : List V) [] (He.ga K "_law_undo") fd := T.d.def_ 33 (d := df__law_undo) rfl
theorem Txt.d__law_state (T : Txt K mg) : ∃ fd, FunD K "_law_state" "_law_state" (defArgs s_law_state) (defBody s_law_state) (defScope s_law_state) ([] : List V) [] (He.ga K "_law_state") fd := T.d.def_ 34 (d := df__law_state) rfl
theorem Txt.d__law_stands (T : Txt K mg) : ∃ fd, FunD K "_law_stands" "_law_stands" (defArgs s_law_stands) (defBody s_law_stands) (defScope s_law_stands) ([] : List V) [] (He.ga K "_law_stands") fd := T.d.def_ 35 (d := df__law_stands) rfl
theorem Txt.d__law_open (T : Txt K mg) : ∃ fd, FunD K "_law_open" "_law_open" (defArgs s_law_open) (defBody s_law_open) (defScope s_law_open) ([] : List V) [] (He.ga K "_law_open") fd := T.d.def_ 36 (d := df__law_open) rfl
theorem Txt.d__law_forth (T : Txt K mg) : ∃ fd, FunD K "_law_forth" "_law_forth" (defArgs s_law_forth) (defBody s_law_forth) (defScope s_law_forth) ([] : List V) [] (He.ga K "_law_forth") fd := T.d.def_ 37 (d := df__law_forth) rfl
theorem Txt.d__law_no_leave (T : Txt K mg) : ∃ fd, FunD K "_law_no_leave" "_law_no_leave" (defArgs s_law_no_leave) (defBody s_law_no_leave) (defScope s_law_no_leave) ([] : List V) [] (He.ga K "_law_no_leave") fd := T.d.def_ 38 (d := df__law_no_leave) rfl
theorem Txt.d_law (T : Txt K mg) : ∃ fd, FunD K "law" "law" (defArgs s_law) (defBody s_law) (defScope s_law) ([] : List V) [] (He.ga K "law") fd := T.d.def_ 39 (d := df_law) rfl
theorem Txt.d_Boxes_holds (T : Txt K mg) : ∃ fd, FunD K "holds" "Boxes.holds" (defArgs s_Boxes_holds) (defBody s_Boxes_holds) (defScope s_Boxes_holds) ([] : List V) [] (He.ma K (He.ga K "Boxes") "holds") fd := T.d.def_ 40 (d := df_Boxes_holds) rfl
theorem Txt.d_Boxes_give (T : Txt K mg) : ∃ fd, FunD K "give" "Boxes.give" (defArgs s_Boxes_give) (defBody s_Boxes_give) (defScope s_Boxes_give) ([] : List V) [] (He.ma K (He.ga K "Boxes") "give") fd := T.d.def_ 41 (d := df_Boxes_give) rfl
theorem Txt.d_Boxes_told (T : Txt K mg) : ∃ fd, FunD K "told" "Boxes.told" (defArgs s_Boxes_told) (defBody s_Boxes_told) (defScope s_Boxes_told) ([] : List V) [] (He.ma K (He.ga K "Boxes") "told") fd := T.d.def_ 42 (d := df_Boxes_told) rfl
theorem Txt.d_Boxes_copied (T : Txt K mg) : ∃ fd, FunD K "copied" "Boxes.copied" (defArgs s_Boxes_copied) (defBody s_Boxes_copied) (defScope s_Boxes_copied) ([] : List V) [] (He.ma K (He.ga K "Boxes") "copied") fd := T.d.def_ 43 (d := df_Boxes_copied) rfl
theorem Txt.d_Store_told (T : Txt K mg) : ∃ fd, FunD K "told" "Store.told" (defArgs s_Store_told) (defBody s_Store_told) (defScope s_Store_told) ([] : List V) [] (He.ma K (He.ga K "Store") "told") fd := T.d.def_ 44 (d := df_Store_told) rfl
theorem Txt.d_Store_leaves (T : Txt K mg) : ∃ fd, FunD K "leaves" "Store.leaves" (defArgs s_Store_leaves) (defBody s_Store_leaves) (defScope s_Store_leaves) ([] : List V) [] (He.ma K (He.ga K "Store") "leaves") fd := T.d.def_ 45 (d := df_Store_leaves) rfl
theorem Txt.d_Store_leave (T : Txt K mg) : ∃ fd, FunD K "leave" "Store.leave" (defArgs s_Store_leave) (defBody s_Store_leave) (defScope s_Store_leave) ([] : List V) [] (He.ma K (He.ga K "Store") "leave") fd := T.d.def_ 46 (d := df_Store_leave) rfl
theorem Txt.d_Store_may (T : Txt K mg) : ∃ fd, FunD K "may" "Store.may" (defArgs s_Store_may) (defBody s_Store_may) (defScope s_Store_may) ([] : List V) [] (He.ma K (He.ga K "Store") "may") fd := T.d.def_ 47 (d := df_Store_may) rfl
theorem Txt.d_Store_look (T : Txt K mg) : ∃ fd, FunD K "look" "Store.look" (defArgs s_Store_look) (defBody s_Store_look) (defScope s_Store_look) ([] : List V) [] (He.ma K (He.ga K "Store") "look") fd := T.d.def_ 48 (d := df_Store_look) rfl
theorem Txt.d_Store_put (T : Txt K mg) : ∃ fd, FunD K "put" "Store.put" (defArgs s_Store_put) (defBody s_Store_put) (defScope s_Store_put) ([] : List V) [] (He.ma K (He.ga K "Store") "put") fd := T.d.def_ 49 (d := df_Store_put) rfl
theorem Txt.d_Store_copied (T : Txt K mg) : ∃ fd, FunD K "copied" "Store.copied" (defArgs s_Store_copied) (defBody s_Store_copied) (defScope s_Store_copied) ([] : List V) [] (He.ma K (He.ga K "Store") "copied") fd := T.d.def_ 50 (d := df_Store_copied) rfl
theorem Txt.d_Noted_told (T : Txt K mg) : ∃ fd, FunD K "told" "Store.told" (defArgs s_Store_told) (defBody s_Store_told) (defScope s_Store_told) ([] : List V) [] (He.ma K (He.ga K "Noted") "told") fd := T.d.def_ 51 (d := df_Noted_told) rfl
theorem Txt.d_Noted_leaves (T : Txt K mg) : ∃ fd, FunD K "leaves" "Store.leaves" (defArgs s_Store_leaves) (defBody s_Store_leaves) (defScope s_Store_leaves) ([] : List V) [] (He.ma K (He.ga K "Noted") "leaves") fd := T.d.def_ 52 (d := df_Noted_leaves) rfl
theorem Txt.d_Noted_leave (T : Txt K mg) : ∃ fd, FunD K "leave" "Store.leave" (defArgs s_Store_leave) (defBody s_Store_leave) (defScope s_Store_leave) ([] : List V) [] (He.ma K (He.ga K "Noted") "leave") fd := T.d.def_ 53 (d := df_Noted_leave) rfl
theorem Txt.d_Noted_may (T : Txt K mg) : ∃ fd, FunD K "may" "Store.may" (defArgs s_Store_may) (defBody s_Store_may) (defScope s_Store_may) ([] : List V) [] (He.ma K (He.ga K "Noted") "may") fd := T.d.def_ 54 (d := df_Noted_may) rfl
theorem Txt.d_Noted_look (T : Txt K mg) : ∃ fd, FunD K "look" "Store.look" (defArgs s_Store_look) (defBody s_Store_look) (defScope s_Store_look) ([] : List V) [] (He.ma K (He.ga K "Noted") "look") fd := T.d.def_ 55 (d := df_Noted_look) rfl
theorem Txt.d_Noted_put (T : Txt K mg) : ∃ fd, FunD K "put" "Noted.put" (defArgs s_Noted_put) (defBody s_Noted_put) (defScope s_Noted_put) ([] : List V) [] (He.ma K (He.ga K "Noted") "put") fd := T.d.def_ 56 (d := df_Noted_put) rfl
theorem Txt.d_Noted_put_back (T : Txt K mg) : ∃ fd, FunD K "put_back" "Noted.put_back" (defArgs s_Noted_put_back) (defBody s_Noted_put_back) (defScope s_Noted_put_back) ([] : List V) [] (He.ma K (He.ga K "Noted") "put_back") fd := T.d.def_ 57 (d := df_Noted_put_back) rfl
theorem Txt.d_Watched_step (T : Txt K mg) : ∃ fd, FunD K "step" "Watched.step" (defArgs s_Watched_step) (defBody s_Watched_step) (defScope s_Watched_step) ([] : List V) [] (He.ma K (He.ga K "Watched") "step") fd := T.d.def_ 58 (d := df_Watched_step) rfl
theorem Txt.d_Watched_log (T : Txt K mg) : ∃ fd, FunD K "log" "Watched.log" (defArgs s_Watched_log) (defBody s_Watched_log) (defScope s_Watched_log) ([] : List V) [] (He.ma K (He.ga K "Watched") "log") fd := T.d.def_ 59 (d := df_Watched_log) rfl
theorem Txt.d_Watched_back (T : Txt K mg) : ∃ fd, FunD K "back" "Watched.back" (defArgs s_Watched_back) (defBody s_Watched_back) (defScope s_Watched_back) ([] : List V) [] (He.ma K (He.ga K "Watched") "back") fd := T.d.def_ 60 (d := df_Watched_back) rfl
theorem Txt.d_Watched_state (T : Txt K mg) : ∃ fd, FunD K "state" "Machine.state" (defArgs s_Machine_state) (defBody s_Machine_state) (defScope s_Machine_state) ([] : List V) [] (He.ma K (He.ga K "Watched") "state") fd := T.d.def_ 61 (d := df_Watched_state) rfl
theorem Txt.d_Watched_leaves (T : Txt K mg) : ∃ fd, FunD K "leaves" "Machine.leaves" (defArgs s_Machine_leaves) (defBody s_Machine_leaves) (defScope s_Machine_leaves) ([] : List V) [] (He.ma K (He.ga K "Watched") "leaves") fd := T.d.def_ 62 (d := df_Watched_leaves) rfl
theorem Txt.d_Watched_leave (T : Txt K mg) : ∃ fd, FunD K "leave" "Machine.leave" (defArgs s_Machine_leave) (defBody s_Machine_leave) (defScope s_Machine_leave) ([] : List V) [] (He.ma K (He.ga K "Watched") "leave") fd := T.d.def_ 63 (d := df_Watched_leave) rfl
theorem Txt.d_Watched_is_done (T : Txt K mg) : ∃ fd, FunD K "is_done" "Machine.is_done" (defArgs s_Machine_is_done) (defBody s_Machine_is_done) (defScope s_Machine_is_done) ([] : List V) [] (He.ma K (He.ga K "Watched") "is_done") fd := T.d.def_ 64 (d := df_Watched_is_done) rfl
theorem Txt.d_Set_step (T : Txt K mg) : ∃ fd, FunD K "step" "Set.step" (defArgs s_Set_step) (defBody s_Set_step) (defScope s_Set_step) ([] : List V) [] (He.ma K (He.ga K "Set") "step") fd := T.d.def_ 65 (d := df_Set_step) rfl
theorem Txt.d_Add_step (T : Txt K mg) : ∃ fd, FunD K "step" "Add.step" (defArgs s_Add_step) (defBody s_Add_step) (defScope s_Add_step) ([] : List V) [] (He.ma K (He.ga K "Add") "step") fd := T.d.def_ 66 (d := df_Add_step) rfl
theorem Txt.d_Take_step (T : Txt K mg) : ∃ fd, FunD K "step" "Take.step" (defArgs s_Take_step) (defBody s_Take_step) (defScope s_Take_step) ([] : List V) [] (He.ma K (He.ga K "Take") "step") fd := T.d.def_ 67 (d := df_Take_step) rfl
theorem Txt.d_Read_step (T : Txt K mg) : ∃ fd, FunD K "step" "Read.step" (defArgs s_Read_step) (defBody s_Read_step) (defScope s_Read_step) ([] : List V) [] (He.ma K (He.ga K "Read") "step") fd := T.d.def_ 68 (d := df_Read_step) rfl
theorem Txt.d_Write_step (T : Txt K mg) : ∃ fd, FunD K "step" "Write.step" (defArgs s_Write_step) (defBody s_Write_step) (defScope s_Write_step) ([] : List V) [] (He.ma K (He.ga K "Write") "step") fd := T.d.def_ 69 (d := df_Write_step) rfl
theorem Txt.d_Hop_step (T : Txt K mg) : ∃ fd, FunD K "step" "Hop.step" (defArgs s_Hop_step) (defBody s_Hop_step) (defScope s_Hop_step) ([] : List V) [] (He.ma K (He.ga K "Hop") "step") fd := T.d.def_ 70 (d := df_Hop_step) rfl
theorem Txt.d_Copy_step (T : Txt K mg) : ∃ fd, FunD K "step" "Copy.step" (defArgs s_Copy_step) (defBody s_Copy_step) (defScope s_Copy_step) ([] : List V) [] (He.ma K (He.ga K "Copy") "step") fd := T.d.def_ 71 (d := df_Copy_step) rfl
theorem Txt.d_Fill_step (T : Txt K mg) : ∃ fd, FunD K "step" "Fill.step" (defArgs s_Fill_step) (defBody s_Fill_step) (defScope s_Fill_step) ([] : List V) [] (He.ma K (He.ga K "Fill") "step") fd := T.d.def_ 72 (d := df_Fill_step) rfl
theorem Txt.d_Seek_step (T : Txt K mg) : ∃ fd, FunD K "step" "Seek.step" (defArgs s_Seek_step) (defBody s_Seek_step) (defScope s_Seek_step) ([] : List V) [] (He.ma K (He.ga K "Seek") "step") fd := T.d.def_ 73 (d := df_Seek_step) rfl
theorem Txt.d_Match_step (T : Txt K mg) : ∃ fd, FunD K "step" "Match.step" (defArgs s_Match_step) (defBody s_Match_step) (defScope s_Match_step) ([] : List V) [] (He.ma K (He.ga K "Match") "step") fd := T.d.def_ 74 (d := df_Match_step) rfl
theorem Txt.d_Shift_step (T : Txt K mg) : ∃ fd, FunD K "step" "Shift.step" (defArgs s_Shift_step) (defBody s_Shift_step) (defScope s_Shift_step) ([] : List V) [] (He.ma K (He.ga K "Shift") "step") fd := T.d.def_ 75 (d := df_Shift_step) rfl
theorem Txt.d_Turn_step (T : Txt K mg) : ∃ fd, FunD K "step" "Turn.step" (defArgs s_Turn_step) (defBody s_Turn_step) (defScope s_Turn_step) ([] : List V) [] (He.ma K (He.ga K "Turn") "step") fd := T.d.def_ 76 (d := df_Turn_step) rfl
theorem Txt.d_Boxes_init (T : Txt K mg) : ∃ fd, FunD K "__init__" "Boxes.__init__" (defArgs s_Boxes_init) (defBody s_Boxes_init) (defScope s_Boxes_init) ([.int 0, .int 0, .int 0, .int 1, .int 0, .int 0] : List V) [] (He.ma K (He.ga K "Boxes") "__init__") fd := T.d.def_ 77 (d := df_Boxes_init) rfl
theorem Txt.d_Set_init (T : Txt K mg) : ∃ fd, FunD K "__init__" "Set.__init__" (defArgs s_Set_init) (defBody s_Set_init) (defScope s_Set_init) ([] : List V) [] (He.ma K (He.ga K "Set") "__init__") fd := T.d.def_ 78 (d := df_Set_init) rfl
theorem Txt.d_Add_init (T : Txt K mg) : ∃ fd, FunD K "__init__" "Add.__init__" (defArgs s_Add_init) (defBody s_Add_init) (defScope s_Add_init) ([] : List V) [] (He.ma K (He.ga K "Add") "__init__") fd := T.d.def_ 79 (d := df_Add_init) rfl
theorem Txt.d_Take_init (T : Txt K mg) : ∃ fd, FunD K "__init__" "Take.__init__" (defArgs s_Take_init) (defBody s_Take_init) (defScope s_Take_init) ([] : List V) [] (He.ma K (He.ga K "Take") "__init__") fd := T.d.def_ 80 (d := df_Take_init) rfl
theorem Txt.d_Read_init (T : Txt K mg) : ∃ fd, FunD K "__init__" "Read.__init__" (defArgs s_Read_init) (defBody s_Read_init) (defScope s_Read_init) ([] : List V) [] (He.ma K (He.ga K "Read") "__init__") fd := T.d.def_ 81 (d := df_Read_init) rfl
theorem Txt.d_Write_init (T : Txt K mg) : ∃ fd, FunD K "__init__" "Write.__init__" (defArgs s_Write_init) (defBody s_Write_init) (defScope s_Write_init) ([] : List V) [] (He.ma K (He.ga K "Write") "__init__") fd := T.d.def_ 82 (d := df_Write_init) rfl
theorem Txt.d_Hop_init (T : Txt K mg) : ∃ fd, FunD K "__init__" "Hop.__init__" (defArgs s_Hop_init) (defBody s_Hop_init) (defScope s_Hop_init) ([.non] : List V) [] (He.ma K (He.ga K "Hop") "__init__") fd := T.d.def_ 83 (d := df_Hop_init) rfl
theorem Txt.d_Store_init (T : Txt K mg) : ∃ fd, FunD K "__init__" "Store.__init__" (defArgs s_Store_init) (defBody s_Store_init) (defScope s_Store_init) ([] : List V) [] (He.ma K (He.ga K "Store") "__init__") fd := T.d.def_ 84 (d := df_Store_init) rfl
theorem Txt.d_Noted_init (T : Txt K mg) : ∃ fd, FunD K "__init__" "Noted.__init__" (defArgs s_Noted_init) (defBody s_Noted_init) (defScope s_Noted_init) ([] : List V) [] (He.ma K (He.ga K "Noted") "__init__") fd := T.d.def_ 85 (d := df_Noted_init) rfl
theorem Txt.d_Watched_init (T : Txt K mg) : ∃ fd, FunD K "__init__" "Watched.__init__" (defArgs s_Watched_init) (defBody s_Watched_init) (defScope s_Watched_init) ([.int 0] : List V) [] (He.ma K (He.ga K "Watched") "__init__") fd := T.d.def_ 86 (d := df_Watched_init) rfl
theorem Txt.d_NoLeave_init (T : Txt K mg) : ∃ fd, FunD K "__init__" "NoLeave.__init__" (defArgs s_NoLeave_init) (defBody s_NoLeave_init) (defScope s_NoLeave_init) ([] : List V) [] (He.ma K (He.ga K "NoLeave") "__init__") fd := T.d.def_ 87 (d := df_NoLeave_init) rfl
theorem Txt.d_Stop_init (T : Txt K mg) : ∃ fd, FunD K "__init__" "Stop.__init__" (defArgs s_Stop_init) (defBody s_Stop_init) (defScope s_Stop_init) ([] : List V) [] (He.ma K (He.ga K "Stop") "__init__") fd := T.d.def_ 88 (d := df_Stop_init) rfl
theorem Txt.d_NoFit_init (T : Txt K mg) : ∃ fd, FunD K "__init__" "NoFit.__init__" (defArgs s_NoFit_init) (defBody s_NoFit_init) (defScope s_NoFit_init) ([] : List V) [] (He.ma K (He.ga K "NoFit") "__init__") fd := T.d.def_ 89 (d := df_NoFit_init) rfl
theorem Txt.d_Machine_init (T : Txt K mg) : ∃ fd, FunD K "__init__" "Machine.__init__" (defArgs s_Machine_init) (defBody s_Machine_init) (defScope s_Machine_init) ([.int 0] : List V) [] (He.ma K (He.ga K "Machine") "__init__") fd := T.d.def_ 90 (d := df_Machine_init) rfl
theorem Txt.d_Machine_step (T : Txt K mg) : ∃ fd, FunD K "step" "Machine.step" (defArgs s_Machine_step) (defBody s_Machine_step) (defScope s_Machine_step) ([] : List V) [] (He.ma K (He.ga K "Machine") "step") fd := T.d.def_ 91 (d := df_Machine_step) rfl
end
end HB

/-! the head: the top run in the kernel, the facts seen there -/
namespace HB
open PySem PySem.Spec PyProof.Rows L2
abbrev R : PySem.W.OpenRow := PySem.W.OpenLaw.row PySem.Challenge.rw_haulbell_k58_whole_stops_and_back
def loose : List Str := ln
abbrev AlZ : Type := He.AlD × Bool
def obsZ (K : PySem.W.Frag) : AlZ := (He.obsD fa fn K, exs.all fun f => f K)
def valZ : AlZ := (He.valD fn, true)
def depth : Nat := 5

def forceO {α : Type} (o : Obj) (k : Obj → α) : α := match o with
  | ⟨c, d, dt, sl⟩ => (match d with
    | none => (match dt with
      | .func fd => k ⟨c, none, .func fd, sl⟩
      | .cls cd => k ⟨c, none, .cls cd, sl⟩
      | .seq a n => k ⟨c, none, .seq a n, sl⟩
      | .dict a n => k ⟨c, none, .dict a n, sl⟩
      | dt => k ⟨c, none, dt, sl⟩)
    | some d => (match dt with
      | .func fd => k ⟨c, some d, .func fd, sl⟩
      | .cls cd => k ⟨c, some d, .cls cd, sl⟩
      | dt => k ⟨c, some d, dt, sl⟩))
theorem forceO_eq {α : Type} (o : Obj) (k : Obj → α) : forceO o k = k o := by
  obtain ⟨c, d, dt, sl⟩ := o
  cases d <;> cases dt <;> rfl
def forceK {α : Type} : PySem.W.Frag → (PySem.W.Frag → α) → α
  | [], k => k []
  | (a, o) :: r, k => HandSHeadRun.frNat a fun a => forceO o fun o => forceK r fun r => k ((a, o) :: r)
theorem forceK_eq {α : Type} : ∀ (l : PySem.W.Frag) (k : PySem.W.Frag → α), forceK l k = k l
  | [], k => rfl
  | (a, o) :: r, k => by
    unfold forceK
    rw [HandSHeadRun.frNat_eq, forceO_eq, forceK_eq r]

def valRefs (o : Obj) : List Addr := match o.data with
  | .dict es _ => es.toList.flatMap fun e => He.refV e.val
  | _ => []
def fnRefs (g : Addr → Option Obj) (a : Addr) : List Addr := match g a with
  | some o => (match o.data with
    | .func fd => a :: (He.refV fd.code ++ He.refV fd.defaults)
    | .cls cd => a :: cd.ns :: (match g cd.ns with
      | some n => (valRefs n).flatMap fun b => (match g b with
        | some o => (match o.data with
          | .func fd => b :: (He.refV fd.code ++ He.refV fd.defaults)
          | _ => [])
        | none => [])
      | none => [])
    | .seq _ _ => [a]
    | _ => [])
  | none => []
def addrs (g : Addr → Option Obj) : List Addr := mainGlobals :: cStatics :: (match g mainGlobals with
  | some o => (valRefs o).flatMap (fnRefs g)
  | none => [])
def obsZG (g : Addr → Option Obj) : AlZ := forceK (He.frG g (addrs g)) obsZ
def hk : PySem.W.Hook where
  α := AlZ
  obs := fun s => obsZG s.heap.get?
  val := fun _ => valZ
  says := fun _ h => ∃ K : PySem.W.Frag, K.In h ∧ obsZ K = valZ
  of := fun _ _ e => ⟨_, He.frG_in, (forceK_eq _ _).symm.trans e⟩
  keeps := fun _ _ _ ⟨K, hK, c⟩ k => ⟨K, PySem.W.Frag.In.keeps hK k, c⟩
theorem obsZG_eq {g : Addr → Option Obj} {s : Shared} (h : ∀ a, g a = s.heap.get? a) : obsZG g = hk.obs s := by
  have e : g = s.heap.get? := funext h
  rw [e] <;> rfl
def ob (s : PySem.W.SharedT) : AlZ := obsZG (HandSHeadRun.getT s)
theorem ob_eq (s : PySem.W.SharedT) : ob s = hk.obs s.abs := obsZG_eq (HandSHeadRun.getT_eq s)
def ob2 (s : PySem.W.SharedT) : Bool := forceK (He.frG (HandSHeadRun.getT s) (addrs (HandSHeadRun.getT s))) fun K => fn.all fun d => d.ok K
def ob13 (s : PySem.W.SharedT) : Bool × List He.FnW := forceK (He.frG (HandSHeadRun.getT s) (addrs (HandSHeadRun.getT s))) fun K => (fa.all fun f => f.ok K, fn.map fun d => He.fnW K d.at_)
def ob4 (s : PySem.W.SharedT) : Bool := forceK (He.frG (HandSHeadRun.getT s) (addrs (HandSHeadRun.getT s))) fun K => exs.all fun f => f K
theorem ob_parts (s : PySem.W.SharedT) : ob s = (((ob13 s).1 && ob2 s, (ob13 s).2), ob4 s) := by
  unfold ob obsZG ob13 ob2 ob4
  simp only [forceK_eq]
  rfl
theorem comb {σ α β γ : Type} {o : Option σ} {f : σ → α} {g : σ → β} {h : σ → (Bool × γ) × Bool} {h2 h4 : σ → Bool} {h13 : σ → Bool × γ} {a : α} {b : β} {c : γ} {v : (Bool × γ) × Bool} (e : ∀ s, h s = (((h13 s).1 && h2 s, (h13 s).2), h4 s)) (ev : v = ((true, c), true)) (p : o.map (fun s => (f s, g s, h4 s)) = some (a, b, true)) (p2 : o.map h2 = some true) (p13 : o.map h13 = some (true, c)) : o.map (fun s => (f s, g s, h s)) = some (a, b, v) := by
  cases o with
  | none => cases p
  | some s =>
    injection p with p
    injection p2 with p2
    injection p13 with p13
    injection p with pa p
    injection p with pb pc
    show some (f s, g s, h s) = _
    rw [pa, pb, e s, ev, p13, p2, pc]
    rfl
theorem run_a (w : World) (os : OsState) : (HandSHeadRun.endF (HandSHeadRun.stepQ (HandSHeadRun.denQ HandSHeadRun.tabQ) R.prog w) 40000 R.prog w os).map ob2 = some true := by kernel_rfl
theorem run_b (w : World) (os : OsState) : (HandSHeadRun.endF (HandSHeadRun.stepQ (HandSHeadRun.denQ HandSHeadRun.tabQ) R.prog w) 40000 R.prog w os).map ob13 = some (true, fn.map He.DefD.val) := by kernel_rfl
theorem run_c (w : World) (os : OsState) : (HandSHeadRun.endF (HandSHeadRun.stepQ (HandSHeadRun.denQ HandSHeadRun.tabQ) R.prog w) 40000 R.prog w os).map (fun s => (HandSHeadRun.looksF R.prog (PySem.W.boot_heap w.params) s.abs, HandSHeadRun.seenQ (PySem.W.view R.prog [88]) loose (PySem.importedModules R.prog.main.body) (fun s => PySem.W.xlAt (PySem.W.view R.prog [88]) [] s && PySem.W.recOk R.toRowW.records s) s.abs, ob4 s)) = some (true, PySem.W.openGood (PySem.W.view R.prog [88]) loose, true) := by kernel_rfl
theorem run (w : World) : HandSHeadRun.RunEq R (PySem.W.view R.prog [88]) hk ob 40000 loose w := by
  unfold HandSHeadRun.RunEq
  intro os
  refine comb ob_parts ?ev (run_c w os) (run_a w os) (run_b w os)
  case ev => rfl
end HB

/-! 2. rules of my own -/
namespace HB
open PySem PySem.Spec PyProof.Rows L2
abbrev CXr (P : Program) (w : World) : CXT := L2N.CX P w
theorem passN {X : Cx} : Passes (CXr X.prog X.w) X E0 := fun _ _ _ _ _ _ _ h => by
  obtain ⟨_, _, _, _, _, _, _, _, _, _, _, _, z⟩ := h
  exact z.elim
/-- a def that is called: its promise, how its arguments bind (dvs the defaults that fill up) -/
structure Good (P : Program) (w : World) (K : PySem.W.Frag) (mg : Str → Option Value) (base : Heap) (k : Nat) (f : Addr) (dvs : List V) (sp : Sp) : Prop where
  ex : ∃ (fd : FuncData) (ps : List Str) (ds : List Value), FnOk P w K mg base (CXr P w) k f fd ps sp ∧ Binds K fd ps ds ∧ Vals dvs ds
  kp : PySem.W.keepIn K (.ref f) = true
theorem Good.mono {P : Program} {w : World} {K : PySem.W.Frag} {mg : Str → Option Value} {base : Heap} {j k : Nat} {f : Addr} {dvs : List V} {sp : Sp} (G : Good P w K mg base j f dvs sp) (h : j ≤ k) : Good P w K mg base k f dvs sp := by
  obtain ⟨⟨fd, ps, ds, F, b, d⟩, kp⟩ := G
  exact ⟨⟨fd, ps, ds, F.mono h, b, d⟩, kp⟩
section
variable {X : Cx} {k : Nat} {f C : Addr} {sp : Sp} {dvs : List V} {E : XK} {x m : Str} {p pos apos : Pos} {e o : Expr} {es : List Expr} {ta : TE} {t : TA}
theorem pe_callG (G : Good X.prog X.w X.K X.mg X.base k f dvs sp) (hr : Room k X.A) (hm : X.mg x = some (.ref f)) (hx : Passes (CXr X.prog X.w) X E) (ha : PA X (e :: es) t) (hg : Gl X x := by rfl) (hdb : (x == ("__debug__" : Str)) = false := by decide)
    (he : starEach (e :: es) X.env = (false, eval e X.env) :: starEach es X.env := by rfl) (hpl : (backTo pos (starEach es X.env)).any (·.1) = false := by rfl) :
    PE X (.Call (.Name x p) (e :: es) [] pos) (tCall sp dvs E t) := by
  obtain ⟨⟨fd, ps, ds, F, b, d⟩, kp⟩ := G
  exact pe_call F hr hg hm kp b d hx ha hdb he hpl
theorem pe_methG {pl : Sem Bool} (he : PE X o ta) (c : Cls X.K C) (hm : Meth X.K C m f) (G : Good X.prog X.w X.K X.mg X.base k f dvs sp) (hr : Room k X.A) (hx : Passes (CXr X.prog X.w) X E) (ha : PA X (e :: es) t)
    (hst : starEach (e :: es) X.env = (false, eval e X.env) :: starEach es X.env := by rfl) (hpl : (backTo pos (starEach es X.env)).any (·.1) = false := by rfl)
    (ht : eval (.Call (.Attribute o m apos) (e :: es) [] pos) X.env = (do
      let ov ← eval o X.env
      standAt apos.atName
      let (f, first) ← holding [ov] (getMethod ov m pl)
      callWith pos f first (backTo pos (starEach (e :: es) X.env)) (backToKw pos (keywordEach [] X.env))) := by rfl) :
    PE X (.Call (.Attribute o m apos) (e :: es) [] pos) (tMeth C m sp dvs E ta t) := by
  obtain ⟨⟨fd, ps, ds, F, b, d⟩, kp⟩ := G
  exact pe_meth he c hm F hr b d hx ha hst hpl ht
theorem pe_methG0 {pl : Sem Bool} (he : PE X o ta) (c : Cls X.K C) (hm : Meth X.K C m f) (G : Good X.prog X.w X.K X.mg X.base k f dvs sp) (hr : Room k X.A) (hx : Passes (CXr X.prog X.w) X E)
    (ht : eval (.Call (.Attribute o m apos) [] [] pos) X.env = (do
      let ov ← eval o X.env
      standAt apos.atName
      let (f, first) ← holding [ov] (getMethod ov m pl)
      callWith pos f first (backTo pos (starEach [] X.env)) (backToKw pos (keywordEach [] X.env))) := by rfl) :
    PE X (.Call (.Attribute o m apos) [] [] pos) (tMeth C m sp dvs E ta tNil) := by
  obtain ⟨⟨fd, ps, ds, F, b, d⟩, kp⟩ := G
  exact pe_meth0 he c hm F hr b d hx ht
theorem pe_makeG (M : Mk X.K C f) (G : Good X.prog X.w X.K X.mg X.base k f dvs sp) (hr : Room (k + 1) X.A) (hm : X.mg x = some (.ref C)) (hx : Passes (CXr X.prog X.w) X E) (ha : PA X (e :: es) t) (hg : Gl X x := by rfl) (hdb : (x == ("__debug__" : Str)) = false := by decide)
    (he : starEach (e :: es) X.env = (false, eval e X.env) :: starEach es X.env := by rfl) (hpl : (backTo pos (starEach es X.env)).any (·.1) = false := by rfl) :
    PE X (.Call (.Name x p) (e :: es) [] pos) (tMake C sp dvs E t) := by
  obtain ⟨⟨fd, ps, ds, F, b, d⟩, kp⟩ := G
  exact pe_make M F hr hg hm b d hx ha hdb he hpl
theorem pe_makeG0 (M : Mk X.K C f) (G : Good X.prog X.w X.K X.mg X.base k f dvs sp) (hr : Room (k + 1) X.A) (hm : X.mg x = some (.ref C)) (hx : Passes (CXr X.prog X.w) X E) (hg : Gl X x := by rfl) (hdb : (x == ("__debug__" : Str)) = false := by decide) :
    PE X (.Call (.Name x p) [] [] pos) (tMake C sp dvs E tNil) := by
  obtain ⟨⟨fd, ps, ds, F, b, d⟩, kp⟩ := G
  exact pe_make0 M F hr hg hm b d hx hdb
/-- o.m(e, ..), o an instance of a class that is only known by the value -/
def tMethV (X : Cx) (m : Str) (k : Nat) (E : XK) (ta : TE) (t : TA) : TE := fun σ H Q => ta σ H fun x H1 => ∃ a C dx fs f sp, x = .ref a ∧ H1 a = some (.ins C dx fs) ∧ fs.lookup m = none ∧ Cls X.K C ∧ Meth X.K C m f ∧
  Good X.prog X.w X.K X.mg X.base k f [] sp ∧ t σ H1 fun vs H2 => sp (x :: vs) H2 Q E
theorem pe_methV {pl : Sem Bool} (he : PE X o ta) (hr : Room k X.A) (hx : Passes (CXr X.prog X.w) X E) (ha : PA X (e :: es) t)
    (hst : starEach (e :: es) X.env = (false, eval e X.env) :: starEach es X.env := by rfl) (hpl : (backTo pos (starEach es X.env)).any (·.1) = false := by rfl)
    (ht : eval (.Call (.Attribute o m apos) (e :: es) [] pos) X.env = (do
      let ov ← eval o X.env
      standAt apos.atName
      let (f, first) ← holding [ov] (getMethod ov m pl)
      callWith pos f first (backTo pos (starEach (e :: es) X.env)) (backToKw pos (keywordEach [] X.env))) := by rfl) :
    PE X (.Call (.Attribute o m apos) (e :: es) [] pos) (tMethV X m k E ta t) := by
  refine ⟨fun pins s σ H Q I h => ?_⟩
  refine PySem.W.methodCall_KW (pl := pl) (thn (he.run pins s σ H _ I h) fun u s1 ⟨x, H1, I1, rx, a, C, dx, fs, f, sp, ex, ea, l, c, hm, G, q⟩ => ?_) ht
  subst ex
  obtain rfl : u = Value.ref a := rx
  obtain ⟨⟨fd, ps, ds, F, b, d⟩, kp⟩ := G
  refine getmeth_ok I1 ea c hm l ?_
  refine PySem.W.callWith_K (first := [.ref a]) (h₀ := X.base) I.ok.mod.kin hm.kp (thn (ha.run pos pins s1 σ H1 _ I1 q) fun us s2 ⟨vs, H2, I2, r, q2⟩ => ⟨I2.kIn, ?_⟩) hst hpl
  refine run_fn (us := .ref a :: us) (vs := .ref a :: vs) F hr b d hx I2 (.cons rfl r) ?_
  show sp ((V.ref a :: vs) ++ []) H2 Q E
  rw [List.append_nil]
  exact q2
/-- C.m(e, ..), C the class itself -/
theorem pe_callC {pl : Sem Bool} {x : Str} {p1 : Pos} (hm : X.mg x = some (.ref C)) (c : ClM X.K C m f) (G : Good X.prog X.w X.K X.mg X.base k f dvs sp) (hr : Room k X.A) (hx : Passes (CXr X.prog X.w) X E) (ha : PA X (e :: es) t) (hg : Gl X x := by rfl)
    (hst : starEach (e :: es) X.env = (false, eval e X.env) :: starEach es X.env := by rfl) (hpl : (backTo pos (starEach es X.env)).any (·.1) = false := by rfl) (hdb : (x == ("__debug__" : Str)) = false := by decide)
    (ht : eval (.Call (.Attribute (.Name x p1) m apos) (e :: es) [] pos) X.env = (do
      let ov ← eval (.Name x p1) X.env
      standAt apos.atName
      let (f, first) ← holding [ov] (getMethod ov m pl)
      callWith pos f first (backTo pos (starEach (e :: es) X.env)) (backToKw pos (keywordEach [] X.env))) := by rfl) :
    PE X (.Call (.Attribute (.Name x p1) m apos) (e :: es) [] pos) (tCall sp dvs E t) := by
  obtain ⟨⟨fd, ps, ds, F, b, d⟩, kp⟩ := G
  refine ⟨fun pins s σ H Q I h => ?_⟩
  refine PySem.W.methodCall_KW (pl := pl) (ld_glob I hg hm ?_ hdb) ht
  refine PySem.W.method_cls I.kIn c.ga (PySem.W.cls_value I.kIn c.rd c.fc rfl ?_)
  have I0 := I.tok (s.toks + 1)
  refine PySem.W.callWith_K (first := []) (h₀ := X.base) I.ok.mod.kin c.kp (thn (ha.run pos pins _ σ H _ I0 h) fun us s1 ⟨vs, H1, I1, r, q⟩ => ⟨I1.kIn, ?_⟩) hst hpl
  exact run_fn F hr b d hx I1 r q
end
section
variable {X : Cx} {a b c d : Expr} {ta tb tc td : TE} {pos : Pos}
/-- a op1 b op2 c op3 d, as a test -/
def tChain3 (r r' r'' : R2) (ta tb tc td : TE) : TT := fun σ H Q => ta σ H fun x H1 => tb σ H1 fun y H2 => r x y H2 fun z H3 => ∃ k, z = .bl k ∧
  (if k = true then tc σ H3 fun w' H4 => r' y w' H4 fun z' H5 => ∃ k', z' = .bl k' ∧ (if k' = true then td σ H5 fun w'' H6 => r'' w' w'' H6 fun z'' H7 => ∃ k'', z'' = .bl k'' ∧ Q k'' H7 else Q false H5) else Q false H3)
theorem pt_chain3 {op op' op'' : CmpOp} {r r' r'' : R2} (ho : OpR X (compareOp op) r) (ho' : OpR X (compareOp op') r') (ho'' : OpR X (compareOp op'') r'') (ha : PE X a ta) (hb : PE X b tb) (hc : PE X c tc) (hd : PE X d td)
    (hm : lastMarks [op, op', op''] [b, c, d] = false := by with_unfolding_all rfl) : PT X (.Compare a [op, op', op''] [b, c, d] pos) (tChain3 r r' r'' ta tb tc td) := by
  refine ⟨fun pins s σ H Q I h => ?_⟩
  refine isTrue_chain (thn (ha.run pins s σ H _ I h) fun v s1 ⟨x, H1, I1, r1, q1⟩ => test_link (thn (hb.run pins s1 σ H1 _ I1 q1) fun u s2 ⟨y, H2, I2, r2, q2⟩ =>
    thn (ho pins s2 σ H2 x y v u _ I2 r1 r2 q2) fun d s3 ⟨z, H3, I3, r3, k, e, q3⟩ => ?_)) hm
  subst e
  cases r3
  refine wpAny_truthy_bool ?_
  cases k with
  | false => exact ite_ff ⟨H3, I3, q3⟩
  | true =>
    refine ite_tt (test_link (thn (hc.run pins s3 σ H3 _ I3 q3) fun u' s4 ⟨y', H4, I4, r4, q4⟩ => thn (ho' pins s4 σ H4 y y' u u' _ I4 r2 r4 q4) fun d' s5 ⟨z', H5, I5, r5, k', e', q5⟩ => ?_))
    subst e'
    cases r5
    refine wpAny_truthy_bool ?_
    cases k' with
    | false => exact ite_ff ⟨H5, I5, q5⟩
    | true =>
      refine ite_tt (test_last (thn (hd.run pins s5 σ H5 _ I5 q5) fun u'' s6 ⟨y'', H6, I6, r6, q6⟩ => thn (ho'' pins s6 σ H6 y' y'' u' u'' _ I6 r4 r6 q6) fun d'' s7 ⟨z'', H7, I7, r7, k'', e'', q7⟩ => ?_))
      subst e''
      cases r7
      exact wpAny_truthy_bool ⟨H7, I7, q7⟩
/-- a constant of the module -/
theorem pe_gI {x : Str} {i : Int} (hm : ∃ t, X.mg x = some (.int i t)) (hg : Gl X x := by rfl) (hd : (x == ("__debug__" : Str)) = false := by decide) : PE X (.Name x pos) (tC (.int i)) := by
  obtain ⟨t, hm⟩ := hm
  exact pe_glob hg hm ⟨t, rfl⟩ hd
theorem pe_gS {x y : Str} (hm : ∃ t, X.mg x = some (.str y t)) (hg : Gl X x := by rfl) (hd : (x == ("__debug__" : Str)) = false := by decide) : PE X (.Name x pos) (tC (.str y)) := by
  obtain ⟨t, hm⟩ := hm
  exact pe_glob hg hm ⟨t, rfl⟩ hd
theorem pe_gR {x : Str} {a : Addr} (hm : X.mg x = some (.ref a)) (hg : Gl X x := by rfl) (hd : (x == ("__debug__" : Str)) = false := by decide) : PE X (.Name x pos) (tC (.ref a)) := pe_glob hg hm rfl hd
/-- a built-in type's name as a value -/
theorem pe_ty {x : Str} {n : String} (hm : X.mg x = none) (hv : bootBuiltins x = some (.type n)) (hg : Gl X x := by rfl) (hn : x ≠ "__name__" := by decide) (hd : (x == ("__debug__" : Str)) = false := by decide) : PE X (.Name x pos) (tC (.ty n)) := pe_bltn hg hm hv rfl hn hd
theorem hx_of {E : XK} (tk : L2N.Takes X (fun cls d _ H => E cls d H)) : Passes (CXr X.prog X.w) X E := L2N.passes_call tk fun _ _ _ _ h => h
end
end HB

/-! 3. the data, the mirror, heaps -/
namespace HB
open PySem PySem.Spec PyProof.Rows L2
abbrev Fs := List (Str × V)
/-! ### boxes -/
inductive Bx where
  | here | there | left | way | sign | met
  deriving DecidableEq
def Bx.nm : Bx → Str
  | .here => "here"
  | .there => "there"
  | .left => "left"
  | .way => "way"
  | .sign => "sign"
  | .met => "met"
def Bx.ix : Bx → Nat
  | .here => 0
  | .there => 1
  | .left => 2
  | .way => 3
  | .sign => 4
  | .met => 5
structure Six where
  here : Int
  there : Int
  left : Int
  way : Int
  sign : Int
  met : Int
def Six.get (s : Six) : Bx → Int
  | .here => s.here
  | .there => s.there
  | .left => s.left
  | .way => s.way
  | .sign => s.sign
  | .met => s.met
def Six.put (s : Six) (b : Bx) (n : Int) : Six := match b with
  | .here => { s with here := n }
  | .there => { s with there := n }
  | .left => { s with left := n }
  | .way => { s with way := n }
  | .sign => { s with sign := n }
  | .met => { s with met := n }
def Six.ints (s : Six) : List Int := [s.here, s.there, s.left, s.way, s.sign, s.met]
def Six.vals (s : Six) : List V := [.int s.here, .int s.there, .int s.left, .int s.way, .int s.sign, .int s.met]
def inC (n : Int) : Bool := decide (0 ≤ n) && decide (n ≤ 1000000000)
def fitsB (b : Bx) (n : Int) : Bool := match b with
  | .here => decide (-1000000000 ≤ n) && decide (n ≤ 1000000000)
  | .there => decide (-1000000000 ≤ n) && decide (n ≤ 1000000000)
  | .left => inC n
  | .way => decide (n = 1) || decide (n = -1)
  | .sign => inC n
  | .met => decide (n = 0) || decide (n = 1)
def Six.ok (s : Six) : Prop := ∀ b, fitsB b (s.get b) = true
theorem Six.ok_put {s : Six} {b : Bx} {n : Int} (h : s.ok) (hn : fitsB b n = true) : (s.put b n).ok := fun c => by
  have z := h c
  cases b <;> cases c <;> first | exact z | exact hn
theorem Six.vals_get (s : Six) (b : Bx) : s.vals[b.ix]? = some (.int (s.get b)) := by cases b <;> rfl
theorem Six.vals_put (s : Six) (b : Bx) (n : Int) : s.vals.set b.ix (.int n) = (s.put b n).vals := by cases b <;> rfl
theorem Six.vals_len (s : Six) : s.vals.length = 6 := rfl
/-- the dict of the law's own six boxes -/
def Six.kvs (s : Six) : List (Key × V) := [(.inr "here", .int s.here), (.inr "there", .int s.there), (.inr "left", .int s.left), (.inr "way", .int s.way), (.inr "sign", .int s.sign), (.inr "met", .int s.met)]
/-! ### leaves -/
inductive Lv where
  | op | lk | sh
  deriving DecidableEq
def Lv.nm : Lv → Str
  | .op => "open"
  | .lk => "look"
  | .sh => "shut"
def Lv.v (l : Lv) : V := .str l.nm
def mayM (lv : List Lv) (look : Bool) (c : Int) : Bool := decide (0 ≤ c) && (match lv[c.toNat]? with
  | some .op => true
  | some .lk => look
  | _ => false)
def deedW (look : Bool) : Str := if look then "look" else "put"
/-- lv with the cells from a on, ahead of b, given l -/
def lvSet (lv : List Lv) (a b : Nat) (l : Lv) : List Lv := lv.mapIdx fun k x => if a ≤ k ∧ k < b then l else x
theorem lvSet_len (lv : List Lv) (a b : Nat) (l : Lv) : (lvSet lv a b l).length = lv.length := by simp [lvSet]
theorem lvSet_none (lv : List Lv) (a : Nat) (l : Lv) : lvSet lv a a l = lv := by
  refine List.ext_getElem? fun k => ?_
  unfold lvSet
  rw [List.getElem?_mapIdx]
  cases lv[k]? with
  | none => rfl
  | some x =>
    show some (if a ≤ k ∧ k < a then l else x) = some x
    rw [if_neg (by omega)]
theorem lvSet_step (lv : List Lv) (a i : Nat) (l : Lv) (h : a + i < lv.length) : (lvSet lv a (a + i) l).set (a + i) l = lvSet lv a (a + (i + 1)) l := by
  refine List.ext_getElem? fun k => ?_
  unfold lvSet
  rw [List.getElem?_set, List.getElem?_mapIdx, List.getElem?_mapIdx, List.length_mapIdx]
  by_cases e : a + i = k
  · subst e
    rw [if_pos rfl, if_pos h, List.getElem?_eq_getElem h]
    show some l = some (if a ≤ a + i ∧ a + i < a + (i + 1) then l else lv[a + i])
    rw [if_pos (by omega)]
  · rw [if_neg e]
    cases lv[k]? with
    | none => rfl
    | some x =>
      show some (if a ≤ k ∧ k < a + i then l else x) = some (if a ≤ k ∧ k < a + (i + 1) then l else x)
      by_cases c : a ≤ k ∧ k < a + i
      · rw [if_pos c, if_pos (by omega)]
      · rw [if_neg c, if_neg (by omega)]
/-! ### deeds -/
inductive Lg where
  | copy | fill | seek | match_ | shift | turn
  deriving DecidableEq
def Lg.nm : Lg → Str
  | .copy => "copy"
  | .fill => "fill"
  | .seek => "seek"
  | .match_ => "match"
  | .shift => "shift"
  | .turn => "turn"
def Lg.cls : Lg → Str
  | .copy => "Copy"
  | .fill => "Fill"
  | .seek => "Seek"
  | .match_ => "Match"
  | .shift => "Shift"
  | .turn => "Turn"
inductive Spc where
  | lng (l : Lg)
  | set (b : Bx) (n : Int)
  | add (b : Bx) (n : Int)
  | take (b c : Bx)
  | read (b : Bx)
  | write (b : Bx)
  | hop (m : Int) (on : Option Int)
  deriving DecidableEq
def onV : Option Int → V
  | none => .non
  | some i => .int i
def Spc.vals : Spc → List V
  | .lng l => [.str l.nm]
  | .set b n => [.str "set", .str b.nm, .int n]
  | .add b n => [.str "add", .str b.nm, .int n]
  | .take b c => [.str "take", .str b.nm, .str c.nm]
  | .read b => [.str "read", .str b.nm]
  | .write b => [.str "write", .str b.nm]
  | .hop m on => [.str "hop", .int m, onV on]
/-- what a deed is made of is what its class lets -/
def Spc.ok : Spc → Prop
  | .set _ n => -1000000000 ≤ n ∧ n ≤ 1000000000
  | .add _ n => -1000000000 ≤ n ∧ n ≤ 1000000000
  | .hop m on => (0 ≤ m ∧ m ≤ 24) ∧ ∀ i, on = some i → 0 ≤ i ∧ i ≤ 1
  | _ => True
/-! ### one step -/
abbrev Ch := List (Int × Int × Int)
/-- done behind a step that leaves k to go -/
def dn (k : Int) : Int := if k = 0 then 1 else 0
def at_ (cs : List Int) (c : Int) : Int := cs.getD c.toNat 0
def st_ (cs : List Int) (c v : Int) : List Int := cs.set c.toNat v
def stepL (l : Lg) (s : Six) (cs : List Int) (lv : List Lv) : Option (Int × Six × List Int × Ch) := match l with
  | .copy => if s.left = 0 then some (1, s, cs, []) else
    if mayM lv true s.here && mayM lv false s.there then some (dn (s.left - 1), { s with here := s.here + s.way, there := s.there + s.way, left := s.left - 1 }, st_ cs s.there (at_ cs s.here), [(s.there, at_ cs s.there, at_ cs s.here)]) else none
  | .fill => if s.left = 0 then some (1, s, cs, []) else
    if mayM lv false s.there then some (dn (s.left - 1), { s with there := s.there + s.way, left := s.left - 1 }, st_ cs s.there s.sign, [(s.there, at_ cs s.there, s.sign)]) else none
  | .seek => if s.left = 0 then some (1, { s with met := 0 }, cs, []) else
    if mayM lv true s.here then (if at_ cs s.here = s.sign then some (1, { s with met := 1 }, cs, []) else some (dn (s.left - 1), { s with here := s.here + s.way, left := s.left - 1, met := 0 }, cs, [])) else none
  | .match_ => if s.left = 0 then some (1, { s with met := 1 }, cs, []) else
    if mayM lv true s.here && mayM lv true s.there then (if at_ cs s.here = at_ cs s.there then some (dn (s.left - 1), { s with here := s.here + s.way, there := s.there + s.way, left := s.left - 1, met := 1 }, cs, []) else some (1, { s with met := 0 }, cs, [])) else none
  | .shift => if s.left = 0 then some (1, s, cs, []) else
    let far := if s.there > s.here then s.left - 1 else 0
    if mayM lv true (s.here + far) && mayM lv false (s.there + far) then some (dn (s.left - 1), (if s.there ≤ s.here then { s with here := s.here + 1, there := s.there + 1, left := s.left - 1 } else { s with left := s.left - 1 }), st_ cs (s.there + far) (at_ cs (s.here + far)), [(s.there + far, at_ cs (s.there + far), at_ cs (s.here + far))]) else none
  | .turn => if s.left = 0 then some (1, s, cs, []) else if s.left = 1 then some (1, { s with left := 0 }, cs, []) else
    let o := s.here + s.left - 1
    if (mayM lv true s.here && mayM lv true o) && (mayM lv false s.here && mayM lv false o) then some (dn (s.left - 2), { s with here := s.here + 1, left := s.left - 2 }, st_ (st_ cs s.here (at_ cs o)) o (at_ cs s.here), [(s.here, at_ cs s.here, at_ cs o), (o, at_ cs o, at_ cs s.here)]) else none
def stepM (d : Spc) (s : Six) (cs : List Int) (lv : List Lv) : Option (Int × Six × List Int × Ch) := match d with
  | .lng l => stepL l s cs lv
  | .set b n => if fitsB b n then some (1, s.put b n, cs, []) else none
  | .add b n => if fitsB b (s.get b + n) then some (1, s.put b (s.get b + n), cs, []) else none
  | .take b c => if fitsB b (s.get c) then some (1, s.put b (s.get c), cs, []) else none
  | .read b => if mayM lv true s.here then (if fitsB b (at_ cs s.here) then some (1, s.put b (at_ cs s.here), cs, []) else none) else none
  | .write b => if inC (s.get b) then (if mayM lv false s.there then some (1, s, st_ cs s.there (s.get b), [(s.there, at_ cs s.there, s.get b)]) else none) else none
  | .hop m on => some ((if on = none ∨ on = some s.met then 1 + m else 1), s, cs, [])
theorem mayM_lt {lv : List Lv} {b : Bool} {c : Int} (h : mayM lv b c = true) : 0 ≤ c ∧ c < lv.length := by
  unfold mayM at h
  rw [Bool.and_eq_true] at h
  obtain ⟨h0, h1⟩ := h
  have h0 := of_decide_eq_true h0
  refine ⟨h0, ?_⟩
  by_cases z : c.toNat < lv.length
  · omega
  · rw [List.getElem?_eq_none (by omega)] at h1
    cases h1
/-! ### heaps -/
/-- all that was tracked, but what stands in S, is as it was -/
def Kp (S : List Addr) (H H' : Hp) : Prop := ∀ b o, b ∉ S → H b = some o → H' b = some o
theorem Kp.refl {S : List Addr} {H : Hp} : Kp S H H := fun _ _ _ h => h
theorem Kp.trans {S : List Addr} {H H1 H2 : Hp} (a : Kp S H H1) (b : Kp S H1 H2) : Kp S H H2 := fun c o n h => b c o n (a c o n h)
theorem Kp.mono {S T : List Addr} {H H' : Hp} (a : Kp S H H') (h : ∀ b ∈ S, b ∈ T) : Kp T H H' := fun c o n q => a c o (fun z => n (h c z)) q
theorem Kp.same {S : List Addr} {H H' : Hp} (a : Same H H') : Kp S H H' := fun c o _ q => a c o q
theorem Kp.of {H H' : Hp} (a : Kp [] H H') : Same H H' := fun c o q => a c o (by simp) q
theorem Kp.get {S : List Addr} {H H' : Hp} {b : Addr} {o : HO} (a : Kp S H H') (h : H b = some o) (n : b ∉ S) : H' b = some o := a b o n h
theorem Kp.set {S : List Addr} {H H' : Hp} {x : Addr} {o : HO} (a : Kp S H H') (h : x ∈ S) : Kp S H (upd H' x o) := fun c u n q => by
  rw [upd_ne (fun z => n (by rw [z]; exact h))]
  exact a c u n q
theorem Kp.new {S : List Addr} {H H' : Hp} {x : Addr} {o : HO} (a : Kp S H H') (h : H' x = none) : Kp S H (upd H' x o) := fun c u n q => by
  have q' := a c u n q
  rw [upd_ne (ne_of_none q' h)]
  exact q'
theorem Same.get {H H' : Hp} {b : Addr} {o : HO} (a : Same H H') (h : H b = some o) : H' b = some o := a b o h
theorem Same.new {H H' : Hp} {x : Addr} {o : HO} (a : Same H H') (h : H' x = none) : Same H (upd H' x o) := fun c u q => by
  have q' := a c u q
  rw [upd_ne (ne_of_none q' h)]
  exact q'
theorem upd_keep {H : Hp} {a x : Addr} {o u : HO} (h : H a = some o) (n : H x = none) : upd H x u a = some o := by
  rw [upd_ne (ne_of_none h n)]
  exact h
theorem upd_far {H : Hp} {a x : Addr} {o u : HO} (n : a ≠ x) (h : H a = some o) : upd H x u a = some o := by
  rw [upd_ne n]
  exact h
theorem upd_far0 {H : Hp} {a x : Addr} {u : HO} (n : a ≠ x) (h : H a = none) : upd H x u a = none := by
  rw [upd_ne n]
  exact h
theorem ne_new {H : Hp} {a b : Addr} {o : HO} (h : H a = some o) (h' : H b = none) : b ≠ a := fun e => ne_of_none h h' e.symm
theorem sz_ {n : Nat} (h : n ≤ 100000) : n ≤ sizeLine := Nat.le_trans h (by decide)
theorem notin1 {a b : Addr} (h : a ≠ b) : a ∉ [b] := by simpa using h
end HB

/-! zip of a tuple and a list, of a list and a tuple -/
namespace HB
open PySem PySem.Spec PyProof.Rows L2
/-- what is drawn: a list or a tuple -/
inductive Kd where
  | l | t
def SqK (K : PySem.W.Frag) (H : Hp) (a : Addr) (xs : List V) : Kd → Prop
  | .l => SqL K H a xs
  | .t => SqT K H a xs
def HeK (h : Heap) (a : Addr) (its : Array Value) : Kd → Prop
  | .l => h.IsList a its
  | .t => h.IsTuple a its
def ItK (h : Heap) (it a : Addr) (i : Nat) : Kd → Prop
  | .l => h.IsListIter it a i
  | .t => h.IsTupleIter it a i
def obK (a : Addr) : Kd → Obj
  | .l => { cls := .type "list_iterator", data := .fields #[.ref a, .int 0 0] }
  | .t => { cls := .type "tuple_iterator", data := .fields #[.ref a, .int 0 0] }
section
variable {X : Cx} {pins : List (Addr × Obj)} {σ : L2.St} {H : Hp} {s : Shared} {a : Addr} {xs ys : List V}
theorem sqK_in (k : Kd) (I : Inv X pins σ H s) (q : SqK X.K H a xs k) : ∃ its : List Value, Vals xs its ∧ HeK s.heap a its.toArray k ∧ a < s.heap.objs.size := by
  cases k with
  | l =>
    obtain ⟨its, r, p, _⟩ := I.list q
    exact ⟨its, r, p.isList, p.lt⟩
  | t =>
    obtain ⟨its, r, p, _⟩ := I.tuple q
    exact ⟨its, r, p, p.lt⟩
theorem sqK_inj (k : Kd) (I : Inv X pins σ H s) (q : SqK X.K H a xs k) (q' : SqK X.K H a ys k) : xs = ys := by
  cases k with
  | l => exact I.list_inj q q'
  | t => exact I.tuple_inj q q'
theorem drawsK (k : Kd) {prog : Program} {w : World} {A : Around} (hh : A.handled = none) (it b : Addr) (hne : b ≠ it) (items : Array Value) :
    Draws prog w A it [it, b] items.size (fun i v => items[i]? = some v) (fun i h => ItK h it b i k ∧ HeK h b items k) := by
  cases k with
  | l => exact Draws.list hh it b hne items
  | t => exact Draws.tuple hh it b hne items
theorem itK_at (k : Kd) {h h' : Heap} {it b : Addr} {i : Nat} (x : ItK h it b i k) (e : ∀ o, h.get? it = some o → h'.get? it = some o) : ItK h' it b i k := by
  cases k with
  | l =>
    obtain ⟨o, ho, r⟩ := x
    exact ⟨o, e _ ho, r⟩
  | t =>
    obtain ⟨o, ho, r⟩ := x
    exact ⟨o, e _ ho, r⟩
theorem itK_ob (k : Kd) {h : Heap} {it b : Addr} {i : Nat} (x : ItK h it b i k) : ∃ o, h.get? it = some o ∧ ∀ v, o.data ≠ .cell v := by
  cases k with
  | l =>
    obtain ⟨o, ho, _, d⟩ := x
    exact ⟨o, ho, fun v q => by rw [d] at q; cases q⟩
  | t =>
    obtain ⟨o, ho, _, d⟩ := x
    exact ⟨o, ho, fun v q => by rw [d] at q; cases q⟩
theorem beginsK (k : Kd) (b : Addr) (items : Array Value) : Begins (.ref b) (obK b k) (fun h => HeK h b items k) := by
  cases k with
  | l => exact begins_list b items
  | t => exact begins_tuple b items
theorem obK_it (k : Kd) {h : Heap} {it b : Addr} (e : h.get? it = some (obK b k)) : ItK h it b 0 k := by
  cases k with
  | l => exact ⟨_, e, rfl, rfl⟩
  | t => exact ⟨_, e, rfl, rfl⟩
end
/-- pairs of the items of two sources of one length -/
def ItzK (K : PySem.W.Frag) (k1 k2 : Kd) (a b : Addr) : It :=
  ⟨fun i H => ∃ xs ys : List V, SqK K H a xs k1 ∧ SqK K H b ys k2 ∧ xs.length = ys.length ∧ i < xs.length,
    fun i H v H' => ∃ T x y, v = .ref T ∧ H T = none ∧ H' = upd H T (.tup [x, y]) ∧ (∀ xs, SqK K H a xs k1 → xs[i]? = some x) ∧ ∀ ys, SqK K H b ys k2 → ys[i]? = some y,
    fun i H => ∃ xs ys : List V, SqK K H a xs k1 ∧ SqK K H b ys k2 ∧ xs.length = ys.length ∧ i = xs.length⟩
theorem turnK {P : Program} {w : World} {K : PySem.W.Frag} {elts : List Expr} {kk : Nat} {tpos : Pos} {k1 k2 : Kd} {a b N : Addr} (ha : a < N) (hb : b < N) :
    Turn P w K (.Tuple elts kk tpos) (ItzK K k1 k2 a b) [N + 4, N + 2, N + 3, N, N + 1] (N + 4)
      (fun i h => IsZip h (N + 4) (N + 2) (N + 3) .none ∧ IsTupOf2 h (N + 2) (.ref N) (.ref (N + 1)) ∧ (∃ a1 a2, IsTupOf2 h (N + 3) a1 a2) ∧ ItK h N a i k1 ∧ ItK h (N + 1) b i k2) where
  mem := List.mem_cons_self
  obj := fun i h st c hc => by
    obtain ⟨hz, hTI, ⟨x, y, hTO⟩, h1, h2⟩ := st
    rcases (by simpa using hc : c = N + 4 ∨ c = N + 2 ∨ c = N + 3 ∨ c = N ∨ c = N + 1) with q | q | q | q | q <;> subst q
    · exact ⟨_, hz, fun v q => nomatch q⟩
    · exact ⟨_, hTI, fun v q => nomatch q⟩
    · exact ⟨_, hTO, fun v q => nomatch q⟩
    · exact itK_ob k1 h1
    · exact itK_ob k2 h2
  keep := fun i h h' st k => by
    obtain ⟨hz, hTI, ⟨x, y, hTO⟩, h1, h2⟩ := st
    exact ⟨k (N + 4) (by simp) _ hz, k (N + 2) (by simp) _ hTI, ⟨x, y, k (N + 3) (by simp) _ hTO⟩, itK_at k1 h1 fun o q => k N (by simp) o q, itK_at k2 h2 fun o q => k (N + 1) (by simp) o q⟩
  item := by
    intro X hP hw hK hc i pins s σ H E I hf st hg
    subst hP hw hK
    obtain ⟨hz, hTI, hTO, h1, h2⟩ := st
    obtain ⟨xs, ys, q1, q2, hl, hi⟩ := hg
    obtain ⟨is1, r1, p1, _⟩ := sqK_in k1 I q1
    obtain ⟨is2, r2, p2, _⟩ := sqK_in k2 I q2
    have hh := I.ok.hd hc
    have l1 : xs.length = is1.toArray.size := by rw [r1.length]; simp
    have l2 : ys.length = is2.toArray.size := by rw [r2.length]; simp
    have S : ZipSep2 (N + 4) (N + 2) (N + 3) N (N + 1) (N :: [a]) ((N + 1) :: [b]) := zip_sep2 (fun c hc => by rw [List.mem_singleton.mp hc]; exact ha) (fun c hc => by rw [List.mem_singleton.mp hc]; exact hb)
    have Z := GoesN.zip2 (elts := elts) (x1 := kk) (pos := tpos) S (drawsK k1 (prog := X.prog) (w := X.w) (A := X.A.in1) hh N a (Nat.ne_of_lt ha) is1.toArray) (drawsK k2 (prog := X.prog) (w := X.w) (A := X.A.in1) hh (N + 1) b (Nat.ne_of_lt (Nat.lt_succ_of_lt hb)) is2.toArray)
    refine thn (Z.goes i s (fun v s2 => ∃ x H', Inv X pins σ H' s2 ∧ RelV x v ∧ (ItzK X.K k1 k2 a b).yld i H x H' ∧ (IsZip s2.heap (N + 4) (N + 2) (N + 3) .none ∧ IsTupOf2 s2.heap (N + 2) (.ref N) (.ref (N + 1)) ∧ (∃ a1 a2, IsTupOf2 s2.heap (N + 3) a1 a2) ∧ ItK s2.heap N a (i + 1) k1 ∧ ItK s2.heap (N + 1) b (i + 1) k2) ∧ ∀ b ∈ [N + 4, N + 2, N + 3, N, N + 1], H' b = none) E (by omega) ⟨hz, hTI, hTO, ⟨h1, p1⟩, ⟨h2, p2⟩⟩ ?_) fun r s1 q => q
    rintro v h' tk ⟨T, x, y, rfl, hT, hx, hy, hTt⟩ ⟨z', TI', TO', ⟨i1', _⟩, ⟨i2', _⟩⟩ hk _
    obtain ⟨vx, ex, rx⟩ : ∃ vx, xs[i]? = some vx ∧ RelV vx x := by
      have hx2 : xs[i]? = some xs[i] := List.getElem?_eq_getElem hi
      obtain ⟨u, hu, ru⟩ := r1.get hx2
      have e : is1.toArray[i]? = some u := by simpa using hu
      rw [hx] at e
      cases e
      exact ⟨_, hx2, ru⟩
    obtain ⟨vy, ey, ry⟩ : ∃ vy, ys[i]? = some vy ∧ RelV vy y := by
      have hy2 : ys[i]? = some ys[i] := List.getElem?_eq_getElem (by omega)
      obtain ⟨u, hu, ru⟩ := r2.get hy2
      have e : is2.toArray[i]? = some u := by simpa using hu
      rw [hy] at e
      cases e
      exact ⟨_, hy2, ru⟩
    have new : ObjOk X.prog X.w (upd H T (.tup [vx, vy])) h' T (.tup [vx, vy]) := ⟨by show 2 ≤ sizeLine; decide, [x, y], .cons rx (.cons ry .nil), hTt⟩
    have J := I.turnedNew (t' := tk) (ch := [N + 4, N + 2, N + 3, N, N + 1]) (fun c o hb q => hk c o (fun z => hb (by simp at z ⊢; rcases z with z | z | z | z <;> simp [z])) q) hf hT new
    refine ⟨.ref T, _, J, rfl, ⟨T, vx, vy, rfl, I.hok.fresh hT, rfl, fun l hl => by rw [sqK_inj k1 I hl q1]; exact ex, fun l hl => by rw [sqK_inj k2 I hl q2]; exact ey⟩, ⟨z', TI', TO', i1', i2'⟩, fun c hc => ?_⟩
    have hlt : c < s.heap.objs.size := by
      rcases (by simpa using hc : c = N + 4 ∨ c = N + 2 ∨ c = N + 3 ∨ c = N ∨ c = N + 1) with q | q | q | q | q <;> subst q
      · exact Heap.lt_size hz
      · exact Heap.lt_size hTI
      · obtain ⟨_, _, e⟩ := hTO
        exact Heap.lt_size e
      · obtain ⟨o, e, _⟩ := itK_ob k1 h1
        exact Heap.lt_size e
      · obtain ⟨o, e, _⟩ := itK_ob k2 h2
        exact Heap.lt_size e
    rw [upd_ne (Nat.ne_of_lt (Nat.lt_of_lt_of_le hlt hT))]
    exact (hf c hc).1
  done := by
    intro X hP hw hK hc i pins s σ H E I hf st hg
    subst hP hw hK
    obtain ⟨hz, hTI, hTO, h1, h2⟩ := st
    obtain ⟨xs, ys, q1, q2, hl, hi⟩ := hg
    obtain ⟨is1, r1, p1, _⟩ := sqK_in k1 I q1
    obtain ⟨is2, r2, p2, _⟩ := sqK_in k2 I q2
    have hh := I.ok.hd hc
    have l1 : xs.length = is1.toArray.size := by rw [r1.length]; simp
    have l2 : ys.length = is2.toArray.size := by rw [r2.length]; simp
    have S : ZipSep2 (N + 4) (N + 2) (N + 3) N (N + 1) (N :: [a]) ((N + 1) :: [b]) := zip_sep2 (fun c hc => by rw [List.mem_singleton.mp hc]; exact ha) (fun c hc => by rw [List.mem_singleton.mp hc]; exact hb)
    have Z := GoesN.zip2 (elts := elts) (x1 := kk) (pos := tpos) S (drawsK k1 (prog := X.prog) (w := X.w) (A := X.A.in1) hh N a (Nat.ne_of_lt ha) is1.toArray) (drawsK k2 (prog := X.prog) (w := X.w) (A := X.A.in1) hh (N + 1) b (Nat.ne_of_lt (Nat.lt_succ_of_lt hb)) is2.toArray)
    have e : i = min is1.toArray.size is2.toArray.size := by omega
    refine Z.stops s (fun s1 => Inv X pins σ H s1) E ?_ fun h' tk hk _ => I.turnedL (t' := tk) (ch := [N + 4, N + 2, N + 3, N, N + 1]) (fun c o hb q => hk c o (fun z => hb (by simp at z ⊢; rcases z with z | z | z | z <;> simp [z])) q) hf
    rw [← e]
    exact ⟨hz, hTI, hTO, ⟨h1, p1⟩, ⟨h2, p2⟩⟩
  self := fun A i s Q E st h => wpAny_pyIter_zip st.1 h
def iZipK (K : PySem.W.Frag) (k1 k2 : Kd) (ta : TA) : TI := fun σ H R => ta σ H fun vs H1 => ∃ a b xs ys, vs = [.ref a, .ref b] ∧ SqK K H1 a xs k1 ∧ SqK K H1 b ys k2 ∧ R (ItzK K k1 k2 a b) H1
theorem pi_zipK {X : Cx} (k1 k2 : Kd) {e e2 : Expr} {ta : TA} {p pos tpos : Pos} {elts : List Expr} {kk : Nat} (hg : Gl X "zip") (hm : X.mg "zip" = none) (ha : PA X [e, e2] ta)
    (hs : starEach [e, e2] X.env = (false, eval e X.env) :: starEach [e2] X.env := by rfl) (hpl : (backTo pos (starEach [e2] X.env)).any (·.1) = false := by rfl) :
    PI X (.Tuple elts kk tpos) (.Call (.Name "zip" p) [e, e2] [] pos) (iZipK X.K k1 k2 ta) := by
  refine ⟨fun pins s σ H R I h => Call_ (ld_blt I hg hm PyProof.Rows.boot_zip (PyProof.Rows.callWith_type1 (thn (ha.run pos pins s σ H _ I h) fun us s1 ⟨vs, H1, I1, r1, q1⟩ => ?_) hs hpl))⟩
  obtain ⟨a, b, xs, ys, ev, qa, qb, q⟩ := q1
  subst ev
  obtain ⟨u1, u2, rfl, ra, rb⟩ := vals2 r1
  cases ra
  cases rb
  obtain ⟨is1, _, p1, la⟩ := sqK_in k1 I1 qa
  obtain ⟨is2, _, p2, lb⟩ := sqK_in k2 I1 qb
  refine zip_begins2 (beginsK k1 a is1.toArray) (beginsK k2 b is2.toArray) p1 p2 fun h' hz hTI hTO o1 o2 hsz hk => wpAny_pyIter_zip hz ?_
  refine ⟨s1.heap.objs.size + 4, [s1.heap.objs.size + 4, s1.heap.objs.size + 2, s1.heap.objs.size + 3, s1.heap.objs.size, s1.heap.objs.size + 1], _, _, H1, rfl, I1.kept (t' := s1.toks) hk, turnK la lb, ⟨hz, hTI, ⟨_, _, hTO⟩, obK_it k1 o1, obK_it k2 o2⟩, fun c hc => ?_, q⟩
  have hle : s1.heap.objs.size ≤ c := by
    rcases (by simpa using hc : c = s1.heap.objs.size + 4 ∨ c = s1.heap.objs.size + 2 ∨ c = s1.heap.objs.size + 3 ∨ c = s1.heap.objs.size ∨ c = s1.heap.objs.size + 1) with q | q | q | q | q <;> rw [q]
    · exact Nat.le_add_right _ _
    · exact Nat.le_add_right _ _
    · exact Nat.le_add_right _ _
    · exact Nat.le_refl _
    · exact Nat.le_add_right _ _
  exact I1.fpOk hle (I1.hok.fresh hle)
/-- a loop over it -/
theorem walkK {K : PySem.W.Frag} {k1 k2 : Kd} {a b : Addr} {xs ys : List V} (hl : xs.length = ys.length) : Walk (ItzK K k1 k2 a b) xs.length (fun H => SqK K H a xs k1 ∧ SqK K H b ys k2) (YPair (fun i => xs[i]?) (fun i => ys[i]?)) :=
  ⟨fun i H hi q => ⟨xs, ys, q.1, q.2, hl, hi⟩, fun H q => ⟨xs, ys, q.1, q.2, hl, rfl⟩, fun i H v H' hi q ⟨T, x, y, e1, e2, e3, f1, f2⟩ => ⟨T, x, y, e1, e2, e3, f1 xs q.1, f2 ys q.2⟩⟩
end HB

namespace HB
open PySem PySem.Spec PyProof.Rows L2
local macro_rules | `(tactic| walk_at "ne") => `(tactic| first | assumption | (apply Ne.symm; assumption) | exact ne_of_none (by assumption) (by assumption) | exact ne_new (by assumption) (by assumption) | (intro q; cases q; done))
local macro_rules | `(tactic| walk_at "hp") => `(tactic| first
  | assumption
  | exact upd_same
  | (refine upd_keep ?_ (by assumption); walk_at "hp")
  | (refine upd_far (by walk_at "ne") ?_; walk_at "hp")
  | (refine Same.get (by assumption) ?_; walk_at "hp")
  | (refine Kp.get (by assumption) ?_ (notin1 (by walk_at "ne")); walk_at "hp"))
local macro_rules | `(tactic| walk_at "same") => `(tactic| first
  | assumption
  | exact Same.refl _
  | (refine Same.new ?_ (by assumption); walk_at "same")
  | (refine Same.trans ?_ (by assumption); walk_at "same"))
/-- one row of a reading -/
local macro_rules | `(tactic| walk_at "r1") => `(tactic| first
  | refine ⟨_, rfl, ?_⟩
  | refine ⟨_, _, rfl, rfl, ?_⟩
  | refine ⟨rfl, ?_⟩
  | refine ⟨_, _, _, _, _, rfl, (by walk_at "hp"), (by assumption), (by assumption), rfl, ?_⟩
  | refine ⟨sz_ (by decide), fun _ _ => ?_⟩)
local macro_rules | `(tactic| walk_at "rd") => `(tactic| repeat walk_at "r1")
section
variable {P : Program} {w : World} {K : PySem.W.Frag} {mg : Str → Option Value} {base : Heap}
theorem hx_cx {N : List Str} {qual : Str} {scope : Scope} {f : Addr} {cd : Value} {A : Around} {outer : List Env} {s : Shared} {H : Hp} {E : XK} : Passes (CXr P w) (cxOf (CXr P w) P w K mg base N qual scope f cd A outer s H E) E := hx_of (L2N.takes_of rfl rfl rfl rfl)
theorem po_cx {N : List Str} {qual : Str} {scope : Scope} {f : Addr} {cd : Value} {A : Around} {outer : List Env} {s : Shared} {H : Hp} {E : XK} : PassesOwn (model P w) (cxOf (CXr P w) P w K mg base N qual scope f cd A outer s H E).A (cxOf (CXr P w) P w K mg base N qual scope f cd A outer s H E).env (cxOf (CXr P w) P w K mg base N qual scope f cd A outer s H E).xe := passes_of rfl
/-! ### wholes -/
def isWh : V → Option Bool
  | .int _ => some true
  | .non => some false
  | _ => none
def sp_is_whole : Sp := fun vs H Q _ => ∃ v, vs = [v] ∧ ∃ b, isWh v = some b ∧ Q (.bl b) H
def nm_is_whole : List Str := ["thing"]
theorem sc_is_whole : FnScope nm_is_whole ["thing"] (defScope s_is_whole) := ⟨rfl, rfl, rfl, by decide +kernel, rfl, by decide +kernel, by decide +kernel⟩
theorem ok_is_whole (T : Txt K mg) {f : Addr} {fd : FuncData} {dv : List V} {kw : List (Str × V)} (F : FunD K "is_whole" "is_whole" (defArgs s_is_whole) (defBody s_is_whole) (defScope s_is_whole) dv kw f fd) : FnOk P w K mg base (CXr P w) 1 f fd ["thing"] (sp_is_whole) := by
  refine F.ok sc_is_whole (fun vs H Q E h => ?_) (fun cdv A outer s H vs Q E hr h => ?_)
  · obtain ⟨v, rfl, _⟩ := h
    rfl
  · obtain ⟨v, rfl, h⟩ := h
    refine ⟨_, (pss_one (ps_ret (pe_and (pe_callB call_isi (by rfl) T.f_isinstance (by decide +kernel) (pa_cons (pv 0) (pa_cons (pe_ty (n := "int") T.f_int (by decide +kernel)) pa_nil))) (pe_one (pe_not (pe_callB call_isi (by rfl) T.f_isinstance (by decide +kernel) (pa_cons (pv 0) (pa_cons (pe_ty (n := "bool") T.f_bool (by decide +kernel)) pa_nil)))))))), ?_⟩
    obtain ⟨b, hb, k⟩ := h
    cases v <;> cases hb
    · exact ⟨_, rfl, _, _, _, _, _, rfl, .ty _, .base .non, rfl, _, rfl, k⟩
    · exact ⟨_, rfl, _, _, _, _, _, rfl, .ty _, .base (.int _), rfl, _, rfl, _, rfl, _, _, _, _, _, rfl, .ty _, .base (.int _), rfl, _, rfl, k⟩
theorem good_is_whole (T : Txt K mg) : Good P w K mg base 1 (He.ga K "is_whole") [] (sp_is_whole) := by
  obtain ⟨fd, F⟩ := T.d_is_whole
  exact ⟨⟨fd, _, [], ok_is_whole T F, F.bindsN fun _ _ _ _ _ _ us hl => match us, hl with | [_], _ => rfl, .nil⟩, F.kp⟩
def sp_is_content : Sp := fun vs H Q _ => ∃ i : Int, vs = [.int i] ∧ Q (.bl (inC i)) H
def nm_is_content : List Str := ["thing"]
theorem sc_is_content : FnScope nm_is_content ["thing"] (defScope s_is_content) := ⟨rfl, rfl, rfl, by decide +kernel, rfl, by decide +kernel, by decide +kernel⟩
theorem ok_is_content (T : Txt K mg) {f : Addr} {fd : FuncData} {dv : List V} {kw : List (Str × V)} (F : FunD K "is_content" "is_content" (defArgs s_is_content) (defBody s_is_content) (defScope s_is_content) dv kw f fd) : FnOk P w K mg base (CXr P w) 2 f fd ["thing"] (sp_is_content) := by
  refine F.ok sc_is_content (fun vs H Q E h => ?_) (fun cdv A outer s H vs Q E hr h => ?_)
  · obtain ⟨i, rfl, _⟩ := h
    rfl
  · obtain ⟨i, rfl, h⟩ := h
    refine ⟨_, (pss_one (ps_ret (pe_and (pe_callG (good_is_whole T) (hr.mono (by decide)) T.g_is_whole hx_cx (pa_cons (pv 0) pa_nil)) (pe_one (pe_chain op_le op_le pe_int (pv 0) (pe_gI T.i_MOST_CONTENT)))))), ?_⟩
    refine ⟨_, rfl, _, rfl, true, rfl, _, rfl, ?_⟩
    refine ⟨_, rfl, _, _, rfl, rfl, _, rfl, ?_⟩
    unfold inC at h
    refine ite2 (fun c => ?_) fun c => ?_
    · rw [show decide (0 ≤ i) = true from c] at h
      exact ⟨_, _, rfl, rfl, h⟩
    · rw [show decide (0 ≤ i) = false from Bool.not_eq_true _ ▸ c] at h
      exact h
theorem good_is_content (T : Txt K mg) : Good P w K mg base 2 (He.ga K "is_content") [] (sp_is_content) := by
  obtain ⟨fd, F⟩ := T.d_is_content
  exact ⟨⟨fd, _, [], ok_is_content T F, F.bindsN fun _ _ _ _ _ _ us hl => match us, hl with | [_], _ => rfl, .nil⟩, F.kp⟩
def sp_is_box : Sp := fun vs H Q _ => ∃ b : Bx, vs = [.str b.nm] ∧ Q (.bl true) H
def boxesV : List V := [.str "here", .str "there", .str "left", .str "way", .str "sign", .str "met"]
theorem in_boxes (b : Bx) : inV (.str b.nm) boxesV = true := by cases b <;> rfl
def nm_is_box : List Str := ["thing"]
theorem sc_is_box : FnScope nm_is_box ["thing"] (defScope s_is_box) := ⟨rfl, rfl, rfl, by decide +kernel, rfl, by decide +kernel, by decide +kernel⟩
theorem ok_is_box (T : Txt K mg) {f : Addr} {fd : FuncData} {dv : List V} {kw : List (Str × V)} (F : FunD K "is_box" "is_box" (defArgs s_is_box) (defBody s_is_box) (defScope s_is_box) dv kw f fd) : FnOk P w K mg base (CXr P w) 1 f fd ["thing"] (sp_is_box) := by
  refine F.ok sc_is_box (fun vs H Q E h => ?_) (fun cdv A outer s H vs Q E hr h => ?_)
  · obtain ⟨b, rfl, _⟩ := h
    rfl
  · obtain ⟨b, rfl, h⟩ := h
    refine ⟨_, (pss_one (ps_ret (pe_and (pe_callB call_isi (by rfl) T.f_isinstance (by decide +kernel) (pa_cons (pv 0) (pa_cons (pe_ty (n := "str") T.f_str (by decide +kernel)) pa_nil))) (pe_one (pe_cmpR op_in_seq (pv 0) (pe_gR T.g_BOXES) (by rfl)))))), ?_⟩
    refine ⟨_, rfl, _, _, _, _, true, rfl, .ty _, .base (.str _), rfl, true, rfl, ?_⟩
    refine ⟨_, rfl, _, boxesV, rfl, .inr (T.t_BOXES H), rfl, rfl, ?_⟩
    show Q (.bl (inV (.str b.nm) boxesV)) H
    rw [in_boxes]
    exact h
theorem good_is_box (T : Txt K mg) : Good P w K mg base 1 (He.ga K "is_box") [] (sp_is_box) := by
  obtain ⟨fd, F⟩ := T.d_is_box
  exact ⟨⟨fd, _, [], ok_is_box T F, F.bindsN fun _ _ _ _ _ _ us hl => match us, hl with | [_], _ => rfl, .nil⟩, F.kp⟩
def sp_fits : Sp := fun vs H Q _ => ∃ (b : Bx) (i : Int), vs = [.str b.nm, .int i] ∧ ∀ H', Same H H' → Q (.bl (fitsB b i)) H'
theorem in_two (i a b : Int) : inV (.int i) [.int a, .int b] = (decide (i = a) || decide (i = b)) := by
  show (eqV (.int a) (.int i) || (eqV (.int b) (.int i) || false)) = _
  rw [Bool.or_false]
  show ((a == i) || (b == i)) = _
  by_cases h1 : i = a <;> by_cases h2 : i = b <;> simp [h1, h2] <;> omega
theorem abs_le (i : Int) : decide ((if i < 0 then -i else i) ≤ 1000000000) = (decide (-1000000000 ≤ i) && decide (i ≤ 1000000000)) := by
  by_cases h : i < 0
  · rw [if_pos h, ← Bool.decide_and]
    exact decide_eq_decide.mpr (by omega)
  · rw [if_neg h, ← Bool.decide_and]
    exact decide_eq_decide.mpr (by omega)
def nm_fits : List Str := ["box", "thing"]
theorem sc_fits : FnScope nm_fits ["box", "thing"] (defScope s_fits) := ⟨rfl, rfl, rfl, by decide +kernel, rfl, by decide +kernel, by decide +kernel⟩
theorem ok_fits (T : Txt K mg) {f : Addr} {fd : FuncData} {dv : List V} {kw : List (Str × V)} (F : FunD K "fits" "fits" (defArgs s_fits) (defBody s_fits) (defScope s_fits) dv kw f fd) : FnOk P w K mg base (CXr P w) 3 f fd ["box", "thing"] (sp_fits) := by
  refine F.ok sc_fits (fun vs H Q E h => ?_) (fun cdv A outer s H vs Q E hr h => ?_)
  · obtain ⟨b, i, rfl, _⟩ := h
    rfl
  · obtain ⟨b, i, rfl, h⟩ := h
    refine ⟨_, (pss_cons (ps_if (pt_not (pt_val (pe_callG (good_is_whole T) (hr.mono (by decide)) T.g_is_whole hx_cx (pa_cons (pv 1) pa_nil)))) (pss_one (ps_ret pe_bl)) pss_nil) (pss_cons (ps_if (pt_cmpR op_eq (pv 0) pe_str (nomark _)) (pss_one (ps_ret (pe_cmpR op_in_seq (pv 1) (pe_tup (pa_cons pe_int (pa_cons (pe_un un_neg pe_int) pa_nil))) (by rfl)))) pss_nil) (pss_cons (ps_if (pt_cmpR op_eq (pv 0) pe_str (nomark _)) (pss_one (ps_ret (pe_cmpR op_in_seq (pv 1) (pe_tup (pa_cons pe_int (pa_cons pe_int pa_nil))) (by rfl)))) pss_nil) (pss_cons (ps_if (pt_cmpR op_eq (pv 0) pe_str (nomark _)) (pss_one (ps_ret (pe_callG (good_is_content T) (hr.mono (by decide)) T.g_is_content hx_cx (pa_cons (pv 1) pa_nil)))) pss_nil) (pss_cons (ps_if (pt_cmpR op_eq (pv 0) pe_str (nomark _)) (pss_one (ps_ret (pe_chain op_le op_le pe_int (pv 1) (pe_gI T.i_MOST_HELD)))) pss_nil) (pss_one (ps_ret (pe_cmpR op_le (pe_callB call_abs (by rfl) T.f_abs (by decide +kernel) (pa_cons (pv 1) pa_nil)) (pe_gI T.i_MOST_HELD) (nomark _))))))))), ?_⟩
    refine ⟨_, rfl, _, rfl, true, rfl, true, rfl, iteF ?_⟩
    cases b
    case way =>
      refine ⟨_, rfl, rfl, _, rfl, iteT ?_⟩
      refine ⟨_, rfl, _, rfl, by show 2 ≤ sizeLine; decide, fun p hp => ?_⟩
      refine ⟨p, [.int 1, .int (-1)], rfl, .inr (SqT.of upd_same), rfl, rfl, ?_⟩
      show Q (.bl (inV (.int i) [.int 1, .int (-1)])) _
      rw [in_two]
      exact h _ (by walk_at "same")
    case met =>
      refine ⟨_, rfl, rfl, _, rfl, iteF ?_⟩
      refine ⟨_, rfl, rfl, _, rfl, iteT ?_⟩
      refine ⟨_, rfl, by show 2 ≤ sizeLine; decide, fun p hp => ?_⟩
      refine ⟨p, [.int 0, .int 1], rfl, .inr (SqT.of upd_same), rfl, rfl, ?_⟩
      show Q (.bl (inV (.int i) [.int 0, .int 1])) _
      rw [in_two]
      exact h _ (by walk_at "same")
    case sign =>
      refine ⟨_, rfl, rfl, _, rfl, iteF ?_⟩
      refine ⟨_, rfl, rfl, _, rfl, iteF ?_⟩
      refine ⟨_, rfl, rfl, _, rfl, iteT ?_⟩
      exact ⟨_, rfl, i, rfl, h _ (Same.refl _)⟩
    case left =>
      refine ⟨_, rfl, rfl, _, rfl, iteF ?_⟩
      refine ⟨_, rfl, rfl, _, rfl, iteF ?_⟩
      refine ⟨_, rfl, rfl, _, rfl, iteF ?_⟩
      refine ⟨_, rfl, rfl, _, rfl, iteT ?_⟩
      refine ⟨_, rfl, _, _, rfl, rfl, _, rfl, ?_⟩
      have k : Q (.bl (inC i)) H := h _ (Same.refl _)
      unfold inC at k
      refine ite2 (fun c => ?_) fun c => ?_
      · rw [show decide (0 ≤ i) = true from c] at k
        exact ⟨_, _, rfl, rfl, k⟩
      · rw [show decide (0 ≤ i) = false from Bool.not_eq_true _ ▸ c] at k
        exact k
    all_goals
      refine ⟨_, rfl, rfl, _, rfl, iteF ?_⟩
      refine ⟨_, rfl, rfl, _, rfl, iteF ?_⟩
      refine ⟨_, rfl, rfl, _, rfl, iteF ?_⟩
      refine ⟨_, rfl, rfl, _, rfl, iteF ?_⟩
      refine ⟨_, rfl, _, rfl, _, _, rfl, rfl, ?_⟩
      show Q (.bl (decide ((if i < 0 then -i else i) ≤ 1000000000))) H
      rw [abs_le]
      exact h _ (Same.refl _)
theorem good_fits (T : Txt K mg) : Good P w K mg base 3 (He.ga K "fits") [] (sp_fits) := by
  obtain ⟨fd, F⟩ := T.d_fits
  exact ⟨⟨fd, _, [], ok_fits T F, F.bindsN fun _ _ _ _ _ _ us hl => match us, hl with | [_, _], _ => rfl, .nil⟩, F.kp⟩
end
end HB


namespace HB
open PySem PySem.Spec PyProof.Rows L2
local macro_rules | `(tactic| walk_at "ne") => `(tactic| first | assumption | (apply Ne.symm; assumption) | exact ne_of_none (by assumption) (by assumption) | exact ne_new (by assumption) (by assumption) | (intro q; cases q; done))
local macro_rules | `(tactic| walk_at "hp") => `(tactic| first
  | assumption
  | exact upd_same
  | (refine upd_keep ?_ (by assumption); walk_at "hp")
  | (refine upd_far (by walk_at "ne") ?_; walk_at "hp")
  | (refine Same.get (by assumption) ?_; walk_at "hp")
  | (refine Kp.get (by assumption) ?_ (notin1 (by walk_at "ne")); walk_at "hp"))
local macro_rules | `(tactic| walk_at "same") => `(tactic| first
  | assumption
  | exact Same.refl _
  | (refine Same.new ?_ (by assumption); walk_at "same")
  | (refine Same.trans ?_ (by assumption); walk_at "same"))
/-- one row of a reading -/
local macro_rules | `(tactic| walk_at "r1") => `(tactic| first
  | refine ⟨_, rfl, ?_⟩
  | refine ⟨_, _, rfl, rfl, ?_⟩
  | refine ⟨rfl, ?_⟩
  | refine ⟨_, _, _, _, _, rfl, (by walk_at "hp"), (by assumption), (by assumption), rfl, ?_⟩
  | refine ⟨sz_ (by decide), fun _ _ => ?_⟩)
local macro_rules | `(tactic| walk_at "rd") => `(tactic| repeat walk_at "r1")
section
variable {P : Program} {w : World} {K : PySem.W.Frag} {mg : Str → Option Value} {base : Heap}
/-! ### errors with fields -/
/-- C(e, ..): the exception is made where nothing is handled, its context is none -/
theorem pmk_oexN {X : Cx} {CX : CXT} {x : Str} {e : Expr} {es : List Expr} {ta : TA} {p pos : Pos} {C fI : Addr} {k : Nat} {fd : FuncData} {ps : List Str} {sp : Sp} {ds : List Value} {dvs : List V} (T : OexC X.K C) (iC : PySem.W.findIn X.K (.ref C) "__init__" = some (some (.ref fI))) (tI : PySem.W.typeIn X.K (.ref fI) = some (.type "function"))
    (F1 : FnOk X.prog X.w X.K X.mg X.base CX k fI fd ps sp) (hr : Room (k + 1) X.A) (hb : Binds X.K fd ps ds) (hd : Vals dvs ds) (hx : Passes CX X (fun _ _ _ => False)) (hg : Gl X x) (hm : X.mg x = some (.ref C)) (ha : PA X (e :: es) ta)
    (hdb : (x == ("__debug__" : Str)) = false := by decide) (he : starEach (e :: es) X.env = (false, eval e X.env) :: starEach es X.env := by rfl) (hpl : (backTo pos (starEach es X.env)).any (·.1) = false := by rfl) :
    L2N.PMk X (.Call (.Name x p) (e :: es) [] pos) (tMkO C sp dvs ta) := by
  intro pins s σ H Q I h
  obtain ⟨nm, q, N, bs, bm, sn, sub, ab, col, dd, k0, k1, k2, k3, k5, hC, hbm⟩ := T.cls
  refine wpAny_Call_Name_kw (ld_glob I hg hm ?_ hdb)
  refine PySem.W.callWith_K (h₀ := X.base) I.ok.mod.kin T.kC (thn (ha.run pos pins s σ H _ I h) fun us s1 ⟨vs, H1, I1, r1, hz, q1⟩ => ⟨I1.kIn, ?_⟩) he hpl
  show wpAny _ _ (call (.ref C) us) _ _ _
  obtain ⟨hp, g, dr, tk, os⟩ := s1
  have up : hp.objs.size ≤ hp.objs.size + 1 := Nat.le_succ _
  have hq := q1 (hp.objs.size + 1) (I1.hok.fresh up)
  have kk : ∀ b o, hp.get? b = some o → ((hp.push (PySem.W.kdv_tup us)).push (PySem.HandSPX.excO C hp.objs.size)).get? b = some o := fun b o e => Heap.get?_push_of_some _ (Heap.get?_push_of_some _ e)
  have I2 : Inv X pins σ (upd H1 (hp.objs.size + 1) (exo (hp.objs.size + 1) C none)) ⟨(hp.push (PySem.W.kdv_tup us)).push (PySem.HandSPX.excO C hp.objs.size), g, dr, tk, os⟩ :=
    I1.laid (t' := tk) (a := hp.objs.size + 1) (o := exo (hp.objs.size + 1) C none) (h' := (hp.push (PySem.W.kdv_tup us)).push (PySem.HandSPX.excO C hp.objs.size)) kk up (exo_ok (by heap_get))
  have r2 : Vals (V.ref (hp.objs.size + 1) :: (vs ++ dvs)) (Value.ref (hp.objs.size + 1) :: (us ++ ds)) := .cons rfl (r1.append hd)
  have hl : (Value.ref (hp.objs.size + 1) :: us ++ ds).length = ps.length := (by have e := r2.length; rw [F1.len _ _ _ _ hq] at e; exact e.symm)
  refine wpAny_call (PySem.HandSPX.call_own F.excBase_ValueError (fun Y => PySem.HandSPX.refsVE_contains Y bm hbm) (I1.kIn _ _ hC) (PySem.W.looks_findIn I1.kIn iC) (fun self => PySem.W.bind_fn I1.kIn self tI) (by rw [← Paired.length r1, sizeLine_eq]; omega)
    (codeAny_mono (F1.run _ X.stack _ _ ⟨Value.ref (hp.objs.size + 1) :: us, []⟩ (Value.ref (hp.objs.size + 1) :: (us ++ ds)) _ _ (fun _ _ _ => False) (hr.make C us []) (I2.env0.make C us []) (hb _ (Value.ref (hp.objs.size + 1) :: us) I2.kIn hl) r2 hq) fun r s' hq' => ?_))
  cases r with
  | error er => exact hx pins σ _ _ er s' I2 hq'
  | ok fl =>
    cases fl with
    | ret u =>
      obtain ⟨v, H2, os2, bare2, un2, hok2, rv, ev, d, fs, ea, ed, hd1, q2⟩ := hq'
      subst ev
      obtain ⟨h2, g2, d2, t2, os'⟩ := s'
      obtain ⟨t0, G, J, kG, ge, hoe, na⟩ := mk_end0 (d2 := d2) (t2 := t2) I1 up kk un2 hok2 os2 bare2 ea ed hd1
      exact ⟨rv, hp.objs.size + 1, _, _, ⟨G, g2, d2, t2, os'⟩, _, .ref C, some d, rfl, J, kG, ge, hoe, ⟨rfl, rfl, fun vs hv => by cases hv; rfl⟩, rfl, rfl, na, rfl, bare2, raises_own T.exC T.tyC, q2⟩
    | next => exact False.elim hq'
    | brk => exact False.elim hq'
    | cont => exact False.elim hq'
theorem ps_raiseX {X : Cx} {W : WX} {C fI : Addr} {k : Nat} {sp : Sp} {x : Str} {e : Expr} {es : List Expr} {ta : TA} {p pos pos2 : Pos} (T : OexC X.K C)
    (oi : PySem.W.findIn X.K (.ref C) "__init__" = some (some (.ref fI)) ∧ PySem.W.typeIn X.K (.ref fI) = some (.type "function")) (G : Good X.prog X.w X.K X.mg X.base k fI [] sp) (hr : Room (k + 1) X.A) (hm : X.mg x = some (.ref C)) (ha : PA X (e :: es) ta)
    (tk : L2N.Takes X W) (hc : X.calm = true := by rfl) (hg : Gl X x := by rfl) (hdb : (x == ("__debug__" : Str)) = false := by decide)
    (he : starEach (e :: es) X.env = (false, eval e X.env) :: starEach es X.env := by rfl) (hpl : (backTo pos (starEach es X.env)).any (·.1) = false := by rfl) :
    PS X (.Raise (some (.Call (.Name x p) (e :: es) [] pos)) none pos2) (fun _ σ H => tMkO C sp [] ta σ H fun cls d H' => W cls d σ H') := by
  obtain ⟨⟨fd, ps, ds, F, b, d⟩, kp⟩ := G
  exact L2N.ps_raise hc tk (pmk_oexN T oi.1 oi.2 F hr b d passN hg hm ha hdb he hpl)
theorem tk_cx {N : List Str} {qual : Str} {scope : Scope} {f : Addr} {cd : Value} {A : Around} {outer : List Env} {s : Shared} {H : Hp} {E : XK} : L2N.Takes (cxOf (CXr P w) P w K mg base N qual scope f cd A outer s H E) (fun cls d _ H => E cls d H) := L2N.takes_of rfl rfl rfl rfl
def spExc2 (C : Addr) (f1 f2 : Str) : Sp := fun vs H Q _ => ∃ (a : Addr) (x y : V), vs = [.ref a, x, y] ∧ H a = some (exo a C none) ∧ ∀ (d : Addr) (H' : Hp), H d = none → d ≠ a →
  (∀ b o, b ≠ a → H b = some o → H' b = some o) → H' a = some (exo a C (some d)) → H' d = some (exd d [(f2, y), (f1, x)]) → Q .non H'
def spExc3 (C : Addr) (f1 f2 f3 : Str) : Sp := fun vs H Q _ => ∃ (a : Addr) (x y z : V), vs = [.ref a, x, y, z] ∧ H a = some (exo a C none) ∧ ∀ (d : Addr) (H' : Hp), H d = none → d ≠ a →
  (∀ b o, b ≠ a → H b = some o → H' b = some o) → H' a = some (exo a C (some d)) → H' d = some (exd d [(f3, z), (f2, y), (f1, x)]) → Q .non H'
theorem exc_end {C a d : Addr} {H H1 : Hp} {fs : Fs} {Q : XK} (ha : H a = none) (hd : upd H a (exo a C none) d = none) (hne : d ≠ a) (k : ∀ b o, b ≠ a → upd H a (exo a C none) b = some o → H1 b = some o) (e1 : H1 a = some (exo a C (some d)))
    (e2 : H1 d = some (exd d fs)) (q : ∀ (d : Addr) (H' : Hp), Same H H' → H d = none → H' d = some (.xd fs) → Q (.ref C) (some d) H') :
    (V.non = V.non) ∧ ∃ (d : Addr) (fs : Fs), H1 a = some (exo a C (some d)) ∧ H1 d = some (exd d fs) ∧ H d = none ∧ Q (.ref C) (some d) (upd (del H1 a) d (.xd fs)) := by
  have hd0 : H d = none := by
    rw [upd_ne hne] at hd
    exact hd
  refine ⟨rfl, d, fs, e1, e2, hd0, q d _ (fun b o e => ?_) hd0 upd_same⟩
  have nb : b ≠ a := ne_of_none e ha
  rw [upd_ne (ne_of_none e hd0), del_ne nb]
  exact k b o nb (by rw [upd_ne nb]; exact e)
/-- the reading of raise C(x, y): any new dict d that holds the fields -/
theorem exc2_rd {C : Addr} {f1 f2 : Str} {x y : V} {H : Hp} {Q : XK} (q : ∀ (d : Addr) (H' : Hp), Same H H' → H d = none → H' d = some (.xd [(f2, y), (f1, x)]) → Q (.ref C) (some d) H') :
    ([x, y] : List V).length ≤ 1000 ∧ ∀ a, H a = none → spExc2 C f1 f2 (.ref a :: ([x, y] ++ [])) (upd H a (exo a C none))
      (fun v H2 => v = .non ∧ ∃ (d : Addr) (fs : Fs), H2 a = some (exo a C (some d)) ∧ H2 d = some (exd d fs) ∧ H d = none ∧ Q (.ref C) (some d) (upd (del H2 a) d (.xd fs))) (fun _ _ _ => False) :=
  ⟨by simp, fun a ha => ⟨a, x, y, rfl, upd_same, fun d H1 hd hne k e1 e2 => exc_end ha hd hne k e1 e2 q⟩⟩
theorem exc3_rd {C : Addr} {f1 f2 f3 : Str} {x y z : V} {H : Hp} {Q : XK} (q : ∀ (d : Addr) (H' : Hp), Same H H' → H d = none → H' d = some (.xd [(f3, z), (f2, y), (f1, x)]) → Q (.ref C) (some d) H') :
    ([x, y, z] : List V).length ≤ 1000 ∧ ∀ a, H a = none → spExc3 C f1 f2 f3 (.ref a :: ([x, y, z] ++ [])) (upd H a (exo a C none))
      (fun v H2 => v = .non ∧ ∃ (d : Addr) (fs : Fs), H2 a = some (exo a C (some d)) ∧ H2 d = some (exd d fs) ∧ H d = none ∧ Q (.ref C) (some d) (upd (del H2 a) d (.xd fs))) (fun _ _ _ => False) :=
  ⟨by simp, fun a ha => ⟨a, x, y, z, rfl, upd_same, fun d H1 hd hne k e1 e2 => exc_end ha hd hne k e1 e2 q⟩⟩
def nm_NoFit_init : List Str := ["self", "box", "number"]
theorem sc_NoFit_init : FnScope nm_NoFit_init ["self", "box", "number"] (defScope s_NoFit_init) := ⟨rfl, rfl, rfl, by decide +kernel, rfl, by decide +kernel, by decide +kernel⟩
theorem ok_NoFit_init (T : Txt K mg) {f : Addr} {fd : FuncData} {dv : List V} {kw : List (Str × V)} (F : FunD K "__init__" "NoFit.__init__" (defArgs s_NoFit_init) (defBody s_NoFit_init) (defScope s_NoFit_init) dv kw f fd) : FnOk P w K mg base (CXr P w) 1 f fd ["self", "box", "number"] (spExc2 (He.ga K "NoFit") "box" "number") := by
  refine F.ok sc_NoFit_init (fun vs H Q E h => ?_) (fun cdv A outer s H vs Q E hr h => ?_)
  · obtain ⟨a, x, y, rfl, _⟩ := h
    rfl
  · obtain ⟨a, x, y, rfl, h⟩ := h
    refine ⟨_, (pss_cons (ps_ost (pv 0) (pv 1)) (pss_one (ps_ost (pv 0) (pv 2)))), ?_⟩
    obtain ⟨ha, k⟩ := h
    refine ⟨_, rfl, _, rfl, a, _, rfl, T.o_NoFit, T.n_NoFit_box, .inl ⟨ha, fun d hd hne => ?_⟩⟩
    refine ⟨_, rfl, _, rfl, a, _, rfl, T.o_NoFit, T.n_NoFit_number, .inr ⟨d, _, upd_same, (upd_ne hne).trans upd_same, by simp, ?_⟩⟩
    exact k d _ hd hne (fun b o nb e => by rw [upd_ne (ne_of_none e hd), upd_ne nb, upd_ne (ne_of_none e hd)]; exact e) ((upd_ne (Ne.symm hne)).trans upd_same) upd_same
theorem good_NoFit_init (T : Txt K mg) : Good P w K mg base 1 (He.ma K (He.ga K "NoFit") "__init__") [] (spExc2 (He.ga K "NoFit") "box" "number") := by
  obtain ⟨fd, F⟩ := T.d_NoFit_init
  exact ⟨⟨fd, _, [], ok_NoFit_init T F, F.bindsN fun _ _ _ _ _ _ us hl => match us, hl with | [_, _, _], _ => rfl, .nil⟩, F.kp⟩
def nm_Stop_init : List Str := ["self", "deed", "cell"]
theorem sc_Stop_init : FnScope nm_Stop_init ["self", "deed", "cell"] (defScope s_Stop_init) := ⟨rfl, rfl, rfl, by decide +kernel, rfl, by decide +kernel, by decide +kernel⟩
theorem ok_Stop_init (T : Txt K mg) {f : Addr} {fd : FuncData} {dv : List V} {kw : List (Str × V)} (F : FunD K "__init__" "Stop.__init__" (defArgs s_Stop_init) (defBody s_Stop_init) (defScope s_Stop_init) dv kw f fd) : FnOk P w K mg base (CXr P w) 1 f fd ["self", "deed", "cell"] (spExc2 (He.ga K "Stop") "deed" "cell") := by
  refine F.ok sc_Stop_init (fun vs H Q E h => ?_) (fun cdv A outer s H vs Q E hr h => ?_)
  · obtain ⟨a, x, y, rfl, _⟩ := h
    rfl
  · obtain ⟨a, x, y, rfl, h⟩ := h
    refine ⟨_, (pss_cons (ps_ost (pv 0) (pv 1)) (pss_one (ps_ost (pv 0) (pv 2)))), ?_⟩
    obtain ⟨ha, k⟩ := h
    refine ⟨_, rfl, _, rfl, a, _, rfl, T.o_Stop, T.n_Stop_deed, .inl ⟨ha, fun d hd hne => ?_⟩⟩
    refine ⟨_, rfl, _, rfl, a, _, rfl, T.o_Stop, T.n_Stop_cell, .inr ⟨d, _, upd_same, (upd_ne hne).trans upd_same, by simp, ?_⟩⟩
    exact k d _ hd hne (fun b o nb e => by rw [upd_ne (ne_of_none e hd), upd_ne nb, upd_ne (ne_of_none e hd)]; exact e) ((upd_ne (Ne.symm hne)).trans upd_same) upd_same
theorem good_Stop_init (T : Txt K mg) : Good P w K mg base 1 (He.ma K (He.ga K "Stop") "__init__") [] (spExc2 (He.ga K "Stop") "deed" "cell") := by
  obtain ⟨fd, F⟩ := T.d_Stop_init
  exact ⟨⟨fd, _, [], ok_Stop_init T F, F.bindsN fun _ _ _ _ _ _ us hl => match us, hl with | [_, _, _], _ => rfl, .nil⟩, F.kp⟩
def nm_NoLeave_init : List Str := ["self", "low", "behind", "word"]
theorem sc_NoLeave_init : FnScope nm_NoLeave_init ["self", "low", "behind", "word"] (defScope s_NoLeave_init) := ⟨rfl, rfl, rfl, by decide +kernel, rfl, by decide +kernel, by decide +kernel⟩
theorem ok_NoLeave_init (T : Txt K mg) {f : Addr} {fd : FuncData} {dv : List V} {kw : List (Str × V)} (F : FunD K "__init__" "NoLeave.__init__" (defArgs s_NoLeave_init) (defBody s_NoLeave_init) (defScope s_NoLeave_init) dv kw f fd) : FnOk P w K mg base (CXr P w) 1 f fd ["self", "low", "behind", "word"] (spExc3 (He.ga K "NoLeave") "low" "behind" "word") := by
  refine F.ok sc_NoLeave_init (fun vs H Q E h => ?_) (fun cdv A outer s H vs Q E hr h => ?_)
  · obtain ⟨a, x, y, z, rfl, _⟩ := h
    rfl
  · obtain ⟨a, x, y, z, rfl, h⟩ := h
    refine ⟨_, (pss_cons (ps_ost (pv 0) (pv 1)) (pss_cons (ps_ost (pv 0) (pv 2)) (pss_one (ps_ost (pv 0) (pv 3))))), ?_⟩
    obtain ⟨ha, k⟩ := h
    refine ⟨_, rfl, _, rfl, a, _, rfl, T.o_NoLeave, T.n_NoLeave_low, .inl ⟨ha, fun d hd hne => ?_⟩⟩
    refine ⟨_, rfl, _, rfl, a, _, rfl, T.o_NoLeave, T.n_NoLeave_behind, .inr ⟨d, _, upd_same, (upd_ne hne).trans upd_same, by simp, ?_⟩⟩
    have e1 : ∀ u, upd (upd (upd H d u) a (exo a (He.ga K "NoLeave") (some d))) d (exd d [("behind", y), ("low", x)]) a = some (exo a (He.ga K "NoLeave") (some d)) := fun u => (upd_ne (Ne.symm hne)).trans upd_same
    refine ⟨_, rfl, _, rfl, a, _, rfl, T.o_NoLeave, T.n_NoLeave_word, .inr ⟨d, _, e1 _, upd_same, by simp, ?_⟩⟩
    exact k d _ hd hne (fun b o nb e => by rw [upd_ne (ne_of_none e hd), upd_ne (ne_of_none e hd), upd_ne nb, upd_ne (ne_of_none e hd)]; exact e) ((upd_ne (Ne.symm hne)).trans (e1 _)) upd_same
theorem good_NoLeave_init (T : Txt K mg) : Good P w K mg base 1 (He.ma K (He.ga K "NoLeave") "__init__") [] (spExc3 (He.ga K "NoLeave") "low" "behind" "word") := by
  obtain ⟨fd, F⟩ := T.d_NoLeave_init
  exact ⟨⟨fd, _, [], ok_NoLeave_init T F, F.bindsN fun _ _ _ _ _ _ us hl => match us, hl with | [_, _, _, _], _ => rfl, .nil⟩, F.kp⟩
end
end HB


/-! rules: try .. except (A, B); methods within a try -/
namespace HB
open PySem PySem.Spec PyProof.Rows L2
theorem flying_keeps {B h h' : Heap} {l : List Env} {a : Addr} {Z : Obj → Prop} (x : HandSPX.FlyingZ B l a Z h) (k : ∀ b o, h.get? b = some o → h'.get? b = some o) : HandSPX.FlyingZ B l a Z h' := by
  obtain ⟨x1, x2, x3, oe, vs, T, oT, ts, he, hz, hd, h1, hn, ne, hT, hdT, h3⟩ := x
  exact ⟨fun b o e => k b o (x1 b o e), x2, x3.of_keeps fun b o e _ => ⟨o, k b o e, rfl⟩, oe, vs, T, oT, ts, k _ _ he, hz, hd, h1, hn, ne, k _ _ hT, hdT, h3⟩
/-- what except (A, B) wishes of an exception of the body, where one of the two takes it -/
def wTwo (K : PySem.W.Frag) (c1 c2 : Value) (ts : Addr → Value → Option Addr → TS) (D : Ends) : WX := fun cls d σ H => PySem.W.exmAny K cls [c1, c2] = some true ∧ ∀ a, H a = none → ts a cls d D σ H
section
variable {X : Cx} {x1 x2 : Str} {c1 c2 : Value} {body suite : List Stmt} {b₀ : Stmt} {p1 p2 pt pos pos' : Pos} {kk : Nat} {tb : WX → TS} {ts : Addr → Value → Option Addr → TS}
theorem ps_try_two (hs : X.stack = X.env :: X.outer) (hf : X.env.frame = some X.env.locals) (n1 : Names X x1 c1) (n2 : Names X x2 c2)
    (hb : ∀ (W : WX) (pn : List (Addr × Obj)) (xe : Value → Shared → Prop), L2N.Takes (X.tr pn xe) W → PSs (X.tr pn xe) body (tb W))
    (hsu : ∀ (a : Addr) (oe : Obj) (cls : Value) (d : Option Addr) (pn : List (Addr × Obj)), PSs (X.suite a ((a, oe) :: pn)) (b₀ :: suite) (ts a cls d)) :
    PS X (.Try body [.ExceptHandler (some (.Tuple [.Name x1 p1, .Name x2 p2] kk pt)) none (b₀ :: suite) pos'] [] [] pos) (fun D σ H => tb (wTwo X.K c1 c2 ts D) D σ H) := by
  refine ⟨fun pins s σ H D I h => ?_⟩
  have ok := I.ok
  have hfr : X.A.frames = some (X.env :: X.outer) := by rw [ok.frames, hs]
  refine wpAny_Try_except ?_
  refine wpAny_mono ((hb (wTwo X.K c1 c2 ts D) (X.pn ++ pins) _ (fun u s' xx => ?_)).run [] s σ H D (I.toTry _) h) (fun f s1 hsp => ?_) (fun e s1 he => he)
  · obtain ⟨a, B, sI, pins', σ', H', cls, d, rfl, J', nb, up, sky, na, os, ag, hx, w⟩ := xx
    have J : Inv X pins σ' H' sI := J'.ofTry ok
    have sky' : L2.Sky B (X.env :: X.outer) a (L2N.Zn cls d) X.env.locals s'.heap := by rw [← hs]; exact sky
    show wpAny (model X.prog X.w) X.A (noteFrame (.ref a) X.env) _ _ _
    refine L2N.Sky.land L2N.Zn.steady hfr hf sky' fun h3 fl3 up3 => ?_
    have J3 : Inv X pins σ' H' { s' with heap := h3 } := J.landed nb fl3.1 (up.trans up3) os ag
    obtain ⟨oe3, vs3, he3, hz3, hd3⟩ := fl3.there
    have nfr : a ∉ frs (X.env :: X.outer) := fun hm => by
      obtain ⟨_, o', e', hnf⟩ := fl3.2.2.1.mem hm
      rw [he3] at e'; cases e'
      exact hnf _ hd3
    have nL : a ≠ X.env.locals := fun z => nfr (List.mem_filterMap.mpr ⟨X.env, List.mem_cons_self, by rw [hf, z]⟩)
    have nF : a ∉ X.fs := fun hm => by
      obtain ⟨e, he, q⟩ := List.mem_filterMap.mp hm
      exact nfr (List.mem_filterMap.mpr ⟨e, List.mem_cons_of_mem _ he, q⟩)
    have S3 := J3.suite he3 hd3 na nL nF
    have LT : PySem.W.Looks (model X.prog X.w) h3 (typeOf (.ref a)) cls := fun A Q E s k q => wpAny_typeOf_ref (k _ _ he3) (by rw [hz3.1]; exact q)
    have nm : ∀ {x : Str} {c : Value} {np : Pos} {Q : Value → Shared → Prop} {E : Value → Shared → Prop}, Names X x c → Q c { s' with heap := h3 } → wpAny (model X.prog X.w) (X.A.mark (some (.ref a))) (eval (.Name x np) X.env) Q E { s' with heap := h3 } := fun hc q => by
      obtain ⟨hg, hdbg, hm | ⟨hm, hv, hnn⟩⟩ := hc
      · exact ld_glob (X := X.suite a ((a, oe3) :: (X.pn ++ pins))) S3 hg hm q hdbg
      · exact ld_blt (X := X.suite a ((a, oe3) :: (X.pn ++ pins))) S3 hg hm hv q hnn hdbg
    have kp : ∀ q o, h3.get? q = some o → (h3.push { cls := .type "tuple", data := .seq [c1, c2].toArray }).get? q = some o := fun _ _ z => Heap.get?_push_of_some _ z
    refine wpAny_handleBy_cons (codeAny_handlers_test ?_) (by intro q; cases q)
    refine wpAny_Tuple (wpAny_items_cons (nm n1 ?_))
    refine wpAny_items_cons (nm n2 ?_)
    refine wpAny_items_nil ⟨by size_fits, ?_⟩
    refine (PySem.W.exm_tup2 (J3.kIn.keeps kp) (LT.keeps kp) (Heap.get?_push_size h3 rfl) hx).here ?_
    refine codeAny_handlers_suite ?_
    refine HandSPX.lands_againZ (flying_keeps fl3 kp) fun h4 fl4 up4 => ?_
    have J4 : Inv X pins σ' H' { s' with heap := h4 } := J.landed nb fl4.1 (((up.trans up3).trans (Heap.UpToSlots.of_keeps kp)).trans up4) os ag
    obtain ⟨oe4, vs4, he4, hz4, hd4⟩ := fl4.there
    have S4 := J4.suite he4 hd4 na nL nF
    refine wpAny_mono ((hsu a oe4 cls d (X.pn ++ pins)).run [] _ _ H' _ S4 (w a na)) (fun f s6 hsp => ?_) (fun _ _ z => False.elim z)
    cases f with
    | next =>
      obtain ⟨σ6, H6, S6, q6⟩ := hsp
      exact ⟨_, _, S6.unsuite ok, q6⟩
    | brk =>
      obtain ⟨σ6, H6, S6, q6⟩ := hsp
      exact ⟨_, _, S6.unsuite ok, q6⟩
    | cont =>
      obtain ⟨σ6, H6, S6, q6⟩ := hsp
      exact ⟨_, _, S6.unsuite ok, q6⟩
    | ret u =>
      obtain ⟨v6, σ6, H6, S6, r6, q6⟩ := hsp
      exact ⟨_, _, _, S6.unsuite ok, r6, q6⟩
  · cases f with
    | next =>
      obtain ⟨σ', H', J', q⟩ := hsp
      exact wpAny_execs_nil ⟨σ', H', J'.ofTry ok, q⟩
    | brk =>
      obtain ⟨σ', H', J', q⟩ := hsp
      exact ⟨σ', H', J'.ofTry ok, q⟩
    | cont =>
      obtain ⟨σ', H', J', q⟩ := hsp
      exact ⟨σ', H', J'.ofTry ok, q⟩
    | ret u =>
      obtain ⟨v, σ', H', J', r, q⟩ := hsp
      exact ⟨v, σ', H', J'.ofTry ok, r, q⟩
end
section
variable {X : Cx} {k : Nat} {C f : Addr} {sp : Sp} {E : L2.St → XK} {m : Str} {pos apos : Pos} {e o : Expr} {es : List Expr} {ta : TE} {t : TA}
/-- o.m(e, ..) where what an exception wishes hangs on the names -/
def tMethVS (P : Program) (w : World) (K : PySem.W.Frag) (mg : Str → Option Value) (base : Heap) (m : Str) (k : Nat) (E : L2.St → XK) (ta : TE) (t : TA) : TE := fun σ H Q => ta σ H fun x H1 => ∃ a C dx fs f sp, x = .ref a ∧ H1 a = some (.ins C dx fs) ∧ fs.lookup m = none ∧ Cls K C ∧ Meth K C m f ∧
  Good P w K mg base k f [] sp ∧ t σ H1 fun vs H2 => sp (x :: vs) H2 Q (E σ)
theorem pe_methVS {pl : Sem Bool} (he : PE X o ta) (hr : Room k X.A) (hx : ∀ σ, PassesAt (CXr X.prog X.w) X σ (E σ)) (ha : PA X (e :: es) t)
    (hst : starEach (e :: es) X.env = (false, eval e X.env) :: starEach es X.env := by rfl) (hpl : (backTo pos (starEach es X.env)).any (·.1) = false := by rfl)
    (ht : eval (.Call (.Attribute o m apos) (e :: es) [] pos) X.env = (do
      let ov ← eval o X.env
      standAt apos.atName
      let (f, first) ← holding [ov] (getMethod ov m pl)
      callWith pos f first (backTo pos (starEach (e :: es) X.env)) (backToKw pos (keywordEach [] X.env))) := by rfl) :
    PE X (.Call (.Attribute o m apos) (e :: es) [] pos) (tMethVS X.prog X.w X.K X.mg X.base m k E ta t) := by
  refine ⟨fun pins s σ H Q I h => ?_⟩
  refine PySem.W.methodCall_KW (pl := pl) (thn (he.run pins s σ H _ I h) fun u s1 ⟨x, H1, I1, rx, a, C, dx, fs, f, sp, ex, ea, l, c, hm, G, q⟩ => ?_) ht
  subst ex
  obtain rfl : u = Value.ref a := rx
  obtain ⟨⟨fd, ps, ds, F, b, d⟩, kp⟩ := G
  refine getmeth_ok I1 ea c hm l ?_
  refine PySem.W.callWith_K (first := [.ref a]) (h₀ := X.base) I.ok.mod.kin hm.kp (thn (ha.run pos pins s1 σ H1 _ I1 q) fun us s2 ⟨vs, H2, I2, r, q2⟩ => ⟨I2.kIn, ?_⟩) hst hpl
  refine run_fnSD (us := .ref a :: us) (vs := .ref a :: vs) F hr b d (hx σ) I2 (.cons rfl r) ?_
  show sp ((V.ref a :: vs) ++ []) H2 Q (E σ)
  rw [List.append_nil]
  exact q2
end
end HB

/-! rules: xs[i] += .., xs[:] = ys, d.get(k, x), C() without an own __init__, list(d) -/
namespace HB
open PySem PySem.Spec PyProof.Rows L2
/-- a list's item at a place not below 0 -/
def rGetL : V → V → Hp → VK → Prop := fun o i H Q => ∃ p xs k v, o = .ref p ∧ i = .int k ∧ H p = some (.lst xs) ∧ 0 ≤ k ∧ xs[k.toNat]? = some v ∧ Q v H
theorem get_list {X : Cx} : PGet X rGetL := by
  intro pins s σ H o i ov iv Q I ro ri h
  obtain ⟨p, xs, k, v, rfl, rfl, hp, h0, hv, q⟩ := h
  cases ro
  obtain ⟨t, rfl⟩ := ri
  obtain ⟨its, n, r, ho, hz⟩ := I.lst hp
  obtain ⟨u, hu, ru⟩ := r.get hv
  have hlt := (List.getElem?_eq_some_iff.mp hv).1
  have hn := line63
  exact wpAny_getItem_list (PySem.IsL.isList ho) h0 (by omega) (by simpa using hu) ⟨v, H, I, ru, q⟩
/-! xs[:] = ys -/
section
variable {prog : Program} {w : World} {A : Around} {E : Value → Shared → Prop} {s : Shared}
theorem setItem_all {l b sl : Addr} {items new : Array Value} {n n2 : Nat} {Q : Unit → Shared → Prop}
    (e : s.heap.get? l = some { cls := .type "list", data := .seq items n }) (e2 : s.heap.get? b = some { cls := .type "list", data := .seq new n2 }) (hne : l ≠ b)
    (hs : s.heap.IsSliceOf sl .none .none .none)
    (hsz : items.size + new.size ≤ sizeLine) (h : Q () { s with heap := s.heap.update l (Obj.mapSeq fun xs => xs.extract 0 0 ++ new ++ xs.extract items.size xs.size) }) :
    wpAny (model prog w) A (setItem (.ref l) (.ref sl) (.ref b)) Q E s := by
  have hl : s.heap.IsList l items := PySem.IsL.isList e
  have hb : s.heap.IsList b new := PySem.IsL.isList e2
  obtain ⟨os, hos, hcs, hds⟩ := id hs
  have hTs : s.TypeIs (.ref sl) "slice" := ⟨os, hos, hcs⟩
  have hstep : ¬ ((rawPart none == rawInt 0) = true) := Bool.false_ne_true
  have hsame : Builtin.List.listSameRef (.ref l) (.ref b) = false := beq_eq_false_iff_ne.mpr hne
  have hmax : (max (0 : Int) (items.size : Int)).toNat = items.size := by omega
  have hz' : ((fun xs : Array Value => xs.extract 0 0 ++ new ++ xs.extract items.size xs.size) items).size ≤ sizeLine + 1 := by
    simp only [Array.size_append, Array.size_extract]
    omega
  unfold setItem
  try with_reducible refine wpAny_holding ?_
  first | refine wpAny_bind (wpAny_pure ?_) | skip
  refine wpAny_bind (wpAny_sequenceKey hl.typeIs (by decide) ?_)
  refine wpAny_bind (wpAny_callSpecial?_slot (name := Str.ofString "__setitem__") hl.typeIs slot_list_setitem
    (wpAny_call_entry slot_list_setitem hl.typeIs entry_list_setitem ?_ (args_list_setitem _ _ _)))
  show wpAny _ _ (Builtin.List.listSubscript? (.ref sl) >>= _) _ _ s
  refine wpAny_bind ?_
  unfold Builtin.List.listSubscript?
  refine wpAny_bind (wpAny_specialOf hTs slice_no_index ?_)
  simp only [Option.isNone_none, if_true]
  refine wpAny_pure ?_
  show wpAny _ _ (typeOf (.ref sl) >>= _) _ _ s
  refine wpAny_bind (wpAny_typeOf hTs ?_)
  first
    | rw [if_neg (by decide)]
    | refine PySem.W.KFB.if_not (by decide) ?_
  rw [listSliceParts_eq]
  refine wpAny_bind (wpAny_bind (wpAny_field hos hds (x := .none) rfl (wpAny_bind (wpAny_listPart .none ?_))))
  rw [if_neg hstep]
  refine wpAny_bind (wpAny_field hos hds (x := .none) rfl (wpAny_bind (wpAny_listPart .none ?_)))
  refine wpAny_bind (wpAny_field hos hds (x := .none) rfl (wpAny_bind (wpAny_listPart .none (wpAny_pure ?_))))
  first
    | simp only [hsame, Bool.false_eq_true, if_false]
    | refine PySem.W.KFB.if_not hsame ?_
  refine wpAny_bind (m := Builtin.List.listAllItems (.ref b) "must assign iterable to extended slice") ?_
  unfold Builtin.List.listAllItems
  refine wpAny_bind (wpAny_typeOf hb.typeIs ?_)
  first
    | refine PySem.W.KFB.if_so (by decide) ?_
    | rw [if_pos (by decide)]
  unfold Builtin.List.listItems
  refine wpAny_bind (wpAny_seqItems e2 rfl (wpAny_pure ?_))
  refine wpAny_bind (wpAny_bind (wpAny_seqItems e rfl (wpAny_pure ?_)))
  refine wpAny_bind (wpAny_of_eq ((sliceIndices_raw none none none items.size (by simp)).trans (congrArg (pure : Int × Int × Int → Sem (Int × Int × Int)) (show sliceBounds none none none items.size = ((0 : Int), (items.size : Int), 1) from rfl))) ?_)
  show wpAny _ _ (if ((1 : Int) == 1) = true then _ else _) _ _ s
  rw [if_pos (by decide)]
  refine wpAny_bind (wpAny_rule ?_)
  first
    | simp only [notLongL hsz, Bool.false_eq_true, if_false]
    | refine PySem.W.KFB.if_not (notLongL hsz) ?_
  first | refine wpAny_bind (wpAny_pure ?_) | skip
  show wpAny _ _ (updateSeq l (fun xs => xs.extract 0 ((0 : Int)).toNat ++ new ++ xs.extract (max (0 : Int) (items.size : Int)).toNat xs.size) >>= _) _ _ s
  rw [hmax]
  refine wpAny_bind (wpAny_updateSeq (hz := Nat.le_trans (Nat.le_add_right _ _) hsz) (_hz' := hz') e rfl ?_)
  refine wpAny_bind (wpAny_letGo ?_)
  first
    | exact wpAny_bind (wpAny_pure (wpAny_pure ⟨.none, rfl, wpAny_pure h⟩))
    | exact wpAny_pure ⟨.none, rfl, wpAny_pure h⟩
end
def gAll (to : TE) : TG := fun v σ H Q => to σ H fun o H1 => ∃ l b xs ys, o = .ref l ∧ v = .ref b ∧ l ≠ b ∧ H1 l = some (.lst xs) ∧ H1 b = some (.lst ys) ∧ xs.length + ys.length ≤ sizeLine ∧ Q σ (upd H1 l (.lst ys))
theorem pg_all {X : Cx} {o : Expr} {to : TE} {p2 pos : Pos} (ho : PE X o to)
    (ha : ∀ v, assign (.Subscript o (.Slice none none none p2) pos) X.env v = (do
      let ov ← holding [v] (eval o X.env)
      let iv ← holding [v, ov] (eval (.Slice none none none p2) X.env)
      standAt pos
      holding [v, ov, iv] (setItem ov iv v)
      release [v, ov, iv] []) := by intro _; rfl) : PG X (.Subscript o (.Slice none none none p2) pos) (gAll to) := by
  refine ⟨fun pins s σ H v u Q I r h => ?_⟩
  rw [ha]
  refine wpAny_bind (wpAny_holding (thn (ho.run pins s σ H _ I h) fun ov s1 ⟨x, H1, I1, r1, l, b, xs, ys, ex, ev, hne, hl, hb, hz, q⟩ => ?_))
  subst ex
  subst ev
  cases r
  cases r1
  refine wpAny_bind (wpAny_holding (wpAny_Slice ?_))
  rw [evalPart_none]
  refine wpAny_pure (wpAny_pure (wpAny_pure ?_))
  refine wpAny_bind (wpAny_standAt (wpAny_bind (wpAny_holding ?_)))
  have I4 : Inv X pins σ H1 { s1 with heap := s1.heap.push { cls := .type "slice", data := .fields #[.none, .none, .none] } } := I1.kept (t' := s1.toks) fun b ob q => Heap.get?_push_of_some _ q
  obtain ⟨z, its, n, rr, el, e⟩ := I4.lstM hl
  obtain ⟨z2, its2, n2, r2, el2, e2⟩ := I4.lstM hb
  refine setItem_all e e2 hne (Heap.IsSliceOf.new ..) (by simp only [List.size_toArray]; omega) ?_
  refine wpAny_release ⟨σ, _, I4.lset (its' := its2) (t' := s1.toks) hl e ?_ r2 (by omega), q⟩
  apply Array.toList_inj.mp
  simp
/-- o.get(k, x), by the context's own rows -/
theorem m2get {X : Cx} {o e f : Expr} {apos cpos : Pos} (base : attributeBase o "get" X.env (eval o X.env) = eval o X.env := by rfl)
    (few : ((backTo cpos (starEach [e, f] X.env)).all (fun x => !x.1) && (backToKw cpos (keywordEach [] X.env)).all (fun x => x.1.isSome)
      && decide (([e, f] : List Expr).length + ([] : List Keyword).length + (if ([] : List Keyword).isEmpty then 0 else 1) < 30)) = true := by rfl) (line : (apos.endLine == cpos.line) = true := by rfl)
    (trees : backTo cpos (starEach [e, f] X.env) = [(false, eval e X.env), (false, eval f X.env)] := by rfl) : M2 X o "get" apos e f cpos := ⟨base, few, line, trees⟩
/-- C(), C without an own __init__ -/
def tMakeP (C : Addr) : TE := fun _ H Q => ∀ x dx, H x = none → H dx = none → dx ≠ x → Q (.ref x) (upd (upd H dx (.own x)) x (.ins C dx []))
theorem pe_makeP {X : Cx} {x : Str} {C : Addr} {p pos : Pos} (M : Mk0 X.K C) (hm : X.mg x = some (.ref C)) (hg : Gl X x := by rfl) (hdb : (x == ("__debug__" : Str)) = false := by decide) : PE X (.Call (.Name x p) [] [] pos) (tMakeP C) := by
  refine ⟨fun pins s σ H Q I h => ?_⟩
  refine wpAny_Call_Name_kw (ld_glob I hg hm ?_ hdb)
  refine PySem.W.callWith_K0 I.kIn M.kp ?_
  have hq := h (s.heap.objs.size + 1) s.heap.objs.size (I.hok.fresh (Nat.le_succ _)) (I.hok.fresh (Nat.le_refl _)) (Nat.ne_of_lt (Nat.lt_succ_self _))
  have I2 := Inv.made (C := C) I
  have Y := PySem.W.makes_of (M := model X.prog X.w) I.kIn M.makes
  refine wpAny_call (make_map0 I.kIn M.makes M.init (fun self => PySem.W.Looks.of_pure (PySem.W.oi_bind self)) ?_)
  have t1 : PySem.W.Looks (model X.prog X.w) ((s.heap.push PySem.W.emptyDict).push (PySem.W.instObj C s.heap.objs.size)) (typeOf (.ref (s.heap.objs.size + 1))) (.ref C) := (PySem.W.Looks.ld (by heap_get)).andThen .now
  have t2 : PySem.W.Looks (model X.prog X.w) ((s.heap.push PySem.W.emptyDict).push (PySem.W.instObj C s.heap.objs.size)) (isInstance (.ref (s.heap.objs.size + 1)) (.type "object")) true := t1.andThen (Y.top.keeps fun b o e => Heap.get?_push_of_some _ (Heap.get?_push_of_some _ e))
  refine codeAny_call_builtin PySem.W.oi_plain PySem.W.entry_oi (@PySem.W.check_slot (model X.prog X.w) _ _ _ "object.__init__" "object" "__init__" (.ref (s.heap.objs.size + 1)) [] [] _ PySem.W.oi_kind PySem.W.oi_split t2 (PySem.W.oi_args (.ref (s.heap.objs.size + 1))) ?_)
  rw [PySem.W.oi_run]
  exact wpAny_pure (And.intro rfl ⟨V.ref (s.heap.objs.size + 1), _, I2, rfl, hq⟩)
end HB

namespace HB
open PySem PySem.Spec PyProof.Rows L2
local macro_rules | `(tactic| walk_at "ne") => `(tactic| first | assumption | (apply Ne.symm; assumption) | exact ne_of_none (by assumption) (by assumption) | exact ne_new (by assumption) (by assumption) | (intro q; cases q; done))
local macro_rules | `(tactic| walk_at "hp") => `(tactic| first
  | assumption
  | exact upd_same
  | (refine upd_keep ?_ (by assumption); walk_at "hp")
  | (refine upd_far (by walk_at "ne") ?_; walk_at "hp")
  | (refine Same.get (by assumption) ?_; walk_at "hp")
  | (refine Kp.get (by assumption) ?_ (notin1 (by walk_at "ne")); walk_at "hp"))
local macro_rules | `(tactic| walk_at "same") => `(tactic| first
  | assumption
  | exact Same.refl _
  | (refine Same.new ?_ (by assumption); walk_at "same")
  | (refine Same.trans ?_ (by assumption); walk_at "same"))
/-- one row of a reading -/
local macro_rules | `(tactic| walk_at "r1") => `(tactic| first
  | refine ⟨_, rfl, ?_⟩
  | refine ⟨_, _, rfl, rfl, ?_⟩
  | refine ⟨rfl, ?_⟩
  | refine ⟨_, _, _, _, _, rfl, (by walk_at "hp"), (by assumption), (by assumption), rfl, ?_⟩
  | refine ⟨sz_ (by decide), fun _ _ => ?_⟩)
local macro_rules | `(tactic| walk_at "rd") => `(tactic| repeat walk_at "r1")
section
variable {P : Program} {w : World} {K : PySem.W.Frag} {mg : Str → Option Value} {base : Heap}
/-! ### Boxes -/
def bF (nl : Addr) : Fs := [("numbers", .ref nl)]
abbrev BoxI (K : PySem.W.Frag) (H : Hp) (b nl : Addr) (dx : Addr) : Prop := H b = some (.ins (He.ga K "Boxes") dx (bF nl))
theorem pair_ix {s : Six} {i : Nat} {x y : V} (hx : boxesV[i]? = some x) (hy : s.vals[i]? = some y) : ∃ b : Bx, x = .str b.nm ∧ y = .int (s.get b) ∧ i = b.ix := by
  match i, hx, hy with
  | 0, hx, hy => exact ⟨.here, (Option.some.inj hx).symm, (Option.some.inj hy).symm, rfl⟩
  | 1, hx, hy => exact ⟨.there, (Option.some.inj hx).symm, (Option.some.inj hy).symm, rfl⟩
  | 2, hx, hy => exact ⟨.left, (Option.some.inj hx).symm, (Option.some.inj hy).symm, rfl⟩
  | 3, hx, hy => exact ⟨.way, (Option.some.inj hx).symm, (Option.some.inj hy).symm, rfl⟩
  | 4, hx, hy => exact ⟨.sign, (Option.some.inj hx).symm, (Option.some.inj hy).symm, rfl⟩
  | 5, hx, hy => exact ⟨.met, (Option.some.inj hx).symm, (Option.some.inj hy).symm, rfl⟩
  | n + 6, hx, hy => cases hx
def sp_Boxes_init (K : PySem.W.Frag) : Sp := fun vs H Q _ => ∃ (b : Addr) (s : Six), vs = [.ref b, .int s.here, .int s.there, .int s.left, .int s.way, .int s.sign, .int s.met] ∧ ∃ dx, H b = some (.ins (He.ga K "Boxes") dx []) ∧ s.ok ∧
  ∀ (nl : Addr) (H' : Hp), H nl = none → Kp [b] H H' → BoxI K H' b nl dx → H' nl = some (.lst s.vals) → Q .non H'
def nm_Boxes_init : List Str := ["self", "here", "there", "left", "way", "sign", "met", "box", "thing"]
theorem sc_Boxes_init : FnScope nm_Boxes_init ["self", "here", "there", "left", "way", "sign", "met"] (defScope s_Boxes_init) := ⟨rfl, rfl, rfl, by decide +kernel, rfl, by decide +kernel, by decide +kernel⟩
theorem ok_Boxes_init (T : Txt K mg) {f : Addr} {fd : FuncData} {dv : List V} {kw : List (Str × V)} (F : FunD K "__init__" "Boxes.__init__" (defArgs s_Boxes_init) (defBody s_Boxes_init) (defScope s_Boxes_init) dv kw f fd) : FnOk P w K mg base (CXr P w) 4 f fd ["self", "here", "there", "left", "way", "sign", "met"] (sp_Boxes_init K) := by
  refine F.ok sc_Boxes_init (fun vs H Q E h => ?_) (fun cdv A outer s H vs Q E hr h => ?_)
  · obtain ⟨b, s, rfl, _⟩ := h
    rfl
  · obtain ⟨b, s, rfl, h⟩ := h
    refine ⟨_, (pss_cons (ps_fld (pv 0) (pe_lst (pa_cons (pv 1) (pa_cons (pv 2) (pa_cons (pv 3) (pa_cons (pv 4) (pa_cons (pv 5) (pa_cons (pv 6) pa_nil))))))) rfl) (pss_one (ps_for po_cx rfl (pi_zipK .t .l (by rfl) T.f_zip (pa_cons (pe_gR T.g_BOXES) (pa_cons (pe_fld (pv 0) rfl) pa_nil))) (pg_tup rfl (pgs_cons (pg_name (i := 7) sc_Boxes_init.nd rfl (Or.inl rfl)) (pgs_cons (pg_name (i := 8) sc_Boxes_init.nd rfl (Or.inl rfl)) pgs_nil))) (pss_one (ps_if (pt_not (pt_val (pe_callG (good_fits T) (hr.mono (by decide)) T.g_fits hx_cx (pa_cons (pv 7) (pa_cons (pv 8) pa_nil))))) (pss_one ps_never) pss_nil))))), ?_⟩
    obtain ⟨dx, hb, ok, k⟩ := h
    refine ⟨_, rfl, _, rfl, _, rfl, _, rfl, _, rfl, _, rfl, sz_ (by simp), fun nl hn => ?_⟩
    have nb : b ≠ nl := ne_of_none hb hn
    refine ⟨_, rfl, b, _, dx, [], rfl, upd_keep hb hn, T.c_Boxes, T.n_Boxes_numbers, by simp, ?_⟩
    refine ⟨_, rfl, b, _, dx, bF nl, _, rfl, upd_same, T.c_Boxes, T.n_Boxes_numbers, rfl, ?_⟩
    have e0 : upd (upd H nl (.lst s.vals)) b (.ins (He.ga K "Boxes") dx (bF nl)) nl = some (.lst s.vals) := (upd_ne (Ne.symm nb)).trans upd_same
    have k0 : Kp [b] H (upd (upd H nl (.lst s.vals)) b (.ins (He.ga K "Boxes") dx (bF nl))) := (Kp.refl.new hn).set (by simp)
    refine ⟨_, _, boxesV, s.vals, rfl, T.t_BOXES _, SqL.of e0, for_it (walkK (xs := boxesV) (ys := s.vals) rfl) (fun i σ H1 => (∃ v1 v2 : Option V, σ = [some (.ref b), some (.int s.here), some (.int s.there), some (.int s.left), some (.int s.way), some (.int s.sign), some (.int s.met), v1, v2]) ∧
      Kp [b] H H1 ∧ BoxI K H1 b nl dx ∧ H1 nl = some (.lst s.vals)) ⟨⟨_, _, rfl⟩, k0, upd_same, e0⟩ (fun i σ H1 _ q => ⟨T.t_BOXES _, SqL.of q.2.2.2⟩) ?_ fun σ H1 q => k nl H1 hn q.2.1 q.2.2.1 q.2.2.2⟩
    rintro i x σ H1 H2 hi ⟨⟨v1, v2, rfl⟩, q1, q2, q3⟩ ⟨t, x', y', rfl, ht, rfl, ex, ey⟩
    obtain ⟨c, rfl, rfl, _⟩ := pair_ix ex ey
    refine ⟨t, _, rfl, SqT.of upd_same, rfl, _, _, rfl, _, _, rfl, rfl, ?_⟩
    refine ⟨_, rfl, _, rfl, c, _, rfl, fun H3 h3 => ⟨_, rfl, ?_⟩⟩
    rw [ok c]
    exact iteF ⟨⟨_, _, rfl⟩, (q1.new ht).trans (.same h3), h3 _ _ (upd_keep q2 ht), h3 _ _ (upd_keep q3 ht)⟩
theorem good_Boxes_init (T : Txt K mg) : Good P w K mg base 4 (He.ma K (He.ga K "Boxes") "__init__") [] (sp_Boxes_init K) := by
  obtain ⟨fd, F⟩ := T.d_Boxes_init
  obtain ⟨ds, r, b⟩ := F.binds1 (ps := ["self", "here", "there", "left", "way", "sign", "met"]) 7 6 (by simp) (by rfl) fun _ _ _ _ _ _ _ us its hl hi => match us, its, hl, hi with | [_, _, _, _, _, _, _], [_, _, _, _, _, _], _, _ => ⟨_, rfl, rfl⟩
  exact ⟨⟨fd, _, ds, ok_Boxes_init T F, b, r⟩, F.kp⟩
theorem good_Boxes_init0 (T : Txt K mg) : Good P w K mg base 4 (He.ma K (He.ga K "Boxes") "__init__") [.int 0, .int 0, .int 0, .int 1, .int 0, .int 0] (sp_Boxes_init K) := by
  obtain ⟨fd, F⟩ := T.d_Boxes_init
  obtain ⟨ds, r, b⟩ := F.binds1 (ps := ["self", "here", "there", "left", "way", "sign", "met"]) 1 0 (by simp) (by rfl) fun _ _ _ _ _ _ _ us its hl hi => match us, its, hl, hi with | [_], [_, _, _, _, _, _], _, _ => ⟨_, rfl, rfl⟩
  exact ⟨⟨fd, _, ds, ok_Boxes_init T F, b, r⟩, F.kp⟩
def sp_Boxes_holds (K : PySem.W.Frag) : Sp := fun vs H Q _ => ∃ (b : Addr) (x : Bx), vs = [.ref b, .str x.nm] ∧ ∃ nl dx s, BoxI K H b nl dx ∧ H nl = some (.lst (Six.vals s)) ∧ Q (.int (s.get x)) H
theorem nm_ix (x : Bx) : (["here", "there", "left", "way", "sign", "met"] : List Str)[x.ix]? = some x.nm := by cases x <;> rfl
theorem nm_no (x : Bx) (m : Nat) (h : m < x.ix) : (["here", "there", "left", "way", "sign", "met"] : List Str)[m]? ≠ some x.nm := by
  cases x <;> (simp only [Bx.ix] at h) <;> (match m, h with
    | 0, h => first | omega | decide +kernel
    | 1, h => first | omega | decide +kernel
    | 2, h => first | omega | decide +kernel
    | 3, h => first | omega | decide +kernel
    | 4, h => first | omega | decide +kernel
    | n + 5, h => omega)
def nm_Boxes_holds : List Str := ["self", "box"]
theorem sc_Boxes_holds : FnScope nm_Boxes_holds ["self", "box"] (defScope s_Boxes_holds) := ⟨rfl, rfl, rfl, by decide +kernel, rfl, by decide +kernel, by decide +kernel⟩
theorem ok_Boxes_holds (T : Txt K mg) {f : Addr} {fd : FuncData} {dv : List V} {kw : List (Str × V)} (F : FunD K "holds" "Boxes.holds" (defArgs s_Boxes_holds) (defBody s_Boxes_holds) (defScope s_Boxes_holds) dv kw f fd) : FnOk P w K mg base (CXr P w) 2 f fd ["self", "box"] (sp_Boxes_holds K) := by
  refine F.ok sc_Boxes_holds (fun vs H Q E h => ?_) (fun cdv A outer s H vs Q E hr h => ?_)
  · obtain ⟨b, x, rfl, _⟩ := h
    rfl
  · obtain ⟨b, x, rfl, h⟩ := h
    refine ⟨_, (pss_cons (ps_if (pt_not (pt_val (pe_callG (good_is_box T) (hr.mono (by decide)) T.g_is_box hx_cx (pa_cons (pv 1) pa_nil)))) (pss_one ps_never) pss_nil) (pss_one (ps_ret (pe_ix ix_list (pe_fld (pv 0) rfl) (pe_bm PySem.F.plainAttrs_tuple PySem.F.slot_tuple_index PySem.F.type_tuple_index mt_tup_index (pe_gR T.g_BOXES) (pa_cons (pv 1) pa_nil)) (fun _ _ => rfl))))), ?_⟩
    obtain ⟨nl, dx, s, hb, hn, k⟩ := h
    refine ⟨_, rfl, x, rfl, _, rfl, iteF ?_⟩
    refine ⟨_, rfl, b, _, dx, _, _, rfl, hb, T.c_Boxes, T.n_Boxes_numbers, rfl, ?_⟩
    refine ⟨T.ty_BOXES H, _, rfl, _, ["here", "there", "left", "way", "sign", "met"], x.nm, x.ix, rfl, rfl, T.t_BOXES H, nm_ix x, nm_no x, ?_⟩
    exact ⟨_, _, _, _, rfl, rfl, SqL.of hn, atI_nat (s.vals_get x), k⟩
theorem good_Boxes_holds (T : Txt K mg) : Good P w K mg base 2 (He.ma K (He.ga K "Boxes") "holds") [] (sp_Boxes_holds K) := by
  obtain ⟨fd, F⟩ := T.d_Boxes_holds
  exact ⟨⟨fd, _, [], ok_Boxes_holds T F, F.bindsN fun _ _ _ _ _ _ us hl => match us, hl with | [_, _], _ => rfl, .nil⟩, F.kp⟩
def sp_Boxes_give (K : PySem.W.Frag) : Sp := fun vs H Q E => ∃ (b : Addr) (x : Bx) (n : Int), vs = [.ref b, .str x.nm, .int n] ∧ ∃ nl dx s, BoxI K H b nl dx ∧ H nl = some (.lst (Six.vals s)) ∧
  (fitsB x n = true → ∀ H', Kp [nl] H H' → H' nl = some (.lst (s.put x n).vals) → Q .non H') ∧ (fitsB x n = false → ∀ d H', Same H H' → E (.ref (He.ga K "NoFit")) d H')
theorem ix_lt (x : Bx) : x.ix < 6 := by cases x <;> decide
theorem ixN_nat {j n : Nat} (h : j < n) : ixN n (j : Int) = some j := by
  unfold ixN
  rw [if_pos (Int.natCast_nonneg j), if_pos (by omega)]
  simp
def nm_Boxes_give : List Str := ["self", "box", "number"]
theorem sc_Boxes_give : FnScope nm_Boxes_give ["self", "box", "number"] (defScope s_Boxes_give) := ⟨rfl, rfl, rfl, by decide +kernel, rfl, by decide +kernel, by decide +kernel⟩
theorem ok_Boxes_give (T : Txt K mg) {f : Addr} {fd : FuncData} {dv : List V} {kw : List (Str × V)} (F : FunD K "give" "Boxes.give" (defArgs s_Boxes_give) (defBody s_Boxes_give) (defScope s_Boxes_give) dv kw f fd) : FnOk P w K mg base (CXr P w) 4 f fd ["self", "box", "number"] (sp_Boxes_give K) := by
  refine F.ok sc_Boxes_give (fun vs H Q E h => ?_) (fun cdv A outer s H vs Q E hr h => ?_)
  · obtain ⟨b, x, n, rfl, _⟩ := h
    rfl
  · obtain ⟨b, x, n, rfl, h⟩ := h
    refine ⟨_, (pss_cons (ps_if (pt_not (pt_val (pe_callG (good_is_box T) (hr.mono (by decide)) T.g_is_box hx_cx (pa_cons (pv 1) pa_nil)))) (pss_one ps_never) pss_nil) (pss_cons (ps_if (pt_not (pt_val (pe_callG (good_fits T) (hr.mono (by decide)) T.g_fits hx_cx (pa_cons (pv 1) (pa_cons (pv 2) pa_nil))))) (pss_one (ps_raiseX T.o_NoFit T.oi_NoFit (good_NoFit_init T) (hr.mono (by decide)) T.g_NoFit (pa_cons (pv 1) (pa_cons (pv 2) pa_nil)) tk_cx)) pss_nil) (pss_one (ps_asg (pv 2) (pg_sub (pe_fld (pv 0) rfl) (pe_bm PySem.F.plainAttrs_tuple PySem.F.slot_tuple_index PySem.F.type_tuple_index mt_tup_index (pe_gR T.g_BOXES) (pa_cons (pv 1) pa_nil)) set_list))))), ?_⟩
    obtain ⟨nl, dx, s, hb, hn, ky, kn⟩ := h
    refine ⟨_, rfl, x, rfl, _, rfl, iteF ?_⟩
    refine ⟨_, rfl, _, rfl, x, n, rfl, fun H1 h1 => ⟨_, rfl, ?_⟩⟩
    cases hf : fitsB x n with
    | true =>
      refine iteF ?_
      refine ⟨_, rfl, _, rfl, b, _, dx, _, _, rfl, h1 _ _ hb, T.c_Boxes, T.n_Boxes_numbers, rfl, ?_⟩
      refine ⟨T.ty_BOXES H1, _, rfl, _, ["here", "there", "left", "way", "sign", "met"], x.nm, x.ix, rfl, rfl, T.t_BOXES H1, nm_ix x, nm_no x, ?_⟩
      refine ⟨nl, _, _, x.ix, rfl, rfl, h1 _ _ hn, ixN_nat (ix_lt x), ?_⟩
      refine ky hf _ ((Kp.same h1).set (by simp)) ?_
      rw [upd_same, Six.vals_put]
    | false => exact iteT ⟨_, rfl, _, rfl, exc2_rd fun d H2 h2 _ _ => kn hf (some d) H2 (h1.trans h2)⟩
theorem good_Boxes_give (T : Txt K mg) : Good P w K mg base 4 (He.ma K (He.ga K "Boxes") "give") [] (sp_Boxes_give K) := by
  obtain ⟨fd, F⟩ := T.d_Boxes_give
  exact ⟨⟨fd, _, [], ok_Boxes_give T F, F.bindsN fun _ _ _ _ _ _ us hl => match us, hl with | [_, _, _], _ => rfl, .nil⟩, F.kp⟩
def sp_Boxes_told (K : PySem.W.Frag) : Sp := fun vs H Q _ => ∃ (b : Addr), vs = [.ref b] ∧ ∃ nl dx s, BoxI K H b nl dx ∧ H nl = some (.lst (Six.vals s)) ∧ ∀ t, H t = none → Q (.ref t) (upd H t (.tup s.vals))
def nm_Boxes_told : List Str := ["self"]
theorem sc_Boxes_told : FnScope nm_Boxes_told ["self"] (defScope s_Boxes_told) := ⟨rfl, rfl, rfl, by decide +kernel, rfl, by decide +kernel, by decide +kernel⟩
theorem ok_Boxes_told (T : Txt K mg) {f : Addr} {fd : FuncData} {dv : List V} {kw : List (Str × V)} (F : FunD K "told" "Boxes.told" (defArgs s_Boxes_told) (defBody s_Boxes_told) (defScope s_Boxes_told) dv kw f fd) : FnOk P w K mg base (CXr P w) 1 f fd ["self"] (sp_Boxes_told K) := by
  refine F.ok sc_Boxes_told (fun vs H Q E h => ?_) (fun cdv A outer s H vs Q E hr h => ?_)
  · obtain ⟨b, rfl, _⟩ := h
    rfl
  · obtain ⟨b, rfl, h⟩ := h
    refine ⟨_, (pss_one (ps_ret (pe_callTy call_tuple_of (by rfl) T.f_tuple (by decide +kernel) (pa_cons (pe_fld (pv 0) rfl) pa_nil)))), ?_⟩
    obtain ⟨nl, dx, s, hb, hn, k⟩ := h
    exact ⟨_, rfl, b, _, dx, _, _, rfl, hb, T.c_Boxes, T.n_Boxes_numbers, rfl, _, _, rfl, .inl ⟨SqL.of hn, k⟩⟩
theorem good_Boxes_told (T : Txt K mg) : Good P w K mg base 1 (He.ma K (He.ga K "Boxes") "told") [] (sp_Boxes_told K) := by
  obtain ⟨fd, F⟩ := T.d_Boxes_told
  exact ⟨⟨fd, _, [], ok_Boxes_told T F, F.bindsN fun _ _ _ _ _ _ us hl => match us, hl with | [_], _ => rfl, .nil⟩, F.kp⟩
def Six.mix (i : Nat) (s t : Six) : Six := ⟨if 0 < i then s.here else t.here, if 1 < i then s.there else t.there, if 2 < i then s.left else t.left, if 3 < i then s.way else t.way, if 4 < i then s.sign else t.sign, if 5 < i then s.met else t.met⟩
theorem mix_step (b : Bx) (s t : Six) : Six.mix (b.ix + 1) s t = (Six.mix b.ix s t).put b (s.get b) := by cases b <;> rfl
def sp_Boxes_copied (K : PySem.W.Frag) : Sp := fun vs H Q _ => ∃ (b : Addr), vs = [.ref b] ∧ ∃ nl dx s, BoxI K H b nl dx ∧ H nl = some (.lst (Six.vals s)) ∧ s.ok ∧
  ∀ b' nl' dx' H', H b' = none → H nl' = none → b' ≠ nl' → Same H H' → BoxI K H' b' nl' dx' → H' nl' = some (.lst s.vals) → Q (.ref b') H'
def six0 : Six := ⟨0, 0, 0, 1, 0, 0⟩
theorem six0_ok : six0.ok := fun b => by cases b <;> decide
def nm_Boxes_copied : List Str := ["self", "twin", "box", "thing"]
theorem sc_Boxes_copied : FnScope nm_Boxes_copied ["self"] (defScope s_Boxes_copied) := ⟨rfl, rfl, rfl, by decide +kernel, rfl, by decide +kernel, by decide +kernel⟩
theorem ok_Boxes_copied (T : Txt K mg) {f : Addr} {fd : FuncData} {dv : List V} {kw : List (Str × V)} (F : FunD K "copied" "Boxes.copied" (defArgs s_Boxes_copied) (defBody s_Boxes_copied) (defScope s_Boxes_copied) dv kw f fd) : FnOk P w K mg base (CXr P w) 6 f fd ["self"] (sp_Boxes_copied K) := by
  refine F.ok sc_Boxes_copied (fun vs H Q E h => ?_) (fun cdv A outer s H vs Q E hr h => ?_)
  · obtain ⟨b, rfl, _⟩ := h
    rfl
  · obtain ⟨b, rfl, h⟩ := h
    refine ⟨_, (pss_cons (ps_set (i := 1) sc_Boxes_copied.nd rfl (Or.inl rfl) (pe_makeG0 T.k_Boxes (good_Boxes_init0 T) (hr.mono (by decide)) T.g_Boxes hx_cx)) (pss_cons (ps_for po_cx rfl (pi_zipK .t .l (by rfl) T.f_zip (pa_cons (pe_gR T.g_BOXES) (pa_cons (pe_fld (pv 0) rfl) pa_nil))) (pg_tup rfl (pgs_cons (pg_name (i := 2) sc_Boxes_copied.nd rfl (Or.inl rfl)) (pgs_cons (pg_name (i := 3) sc_Boxes_copied.nd rfl (Or.inl rfl)) pgs_nil))) (pss_one (ps_expr (pe_methG (pv 1) T.c_Boxes T.m_Boxes_give (good_Boxes_give T) (hr.mono (by decide)) hx_cx (pa_cons (pv 2) (pa_cons (pv 3) pa_nil)))))) (pss_one (ps_ret (pv 1))))), ?_⟩
    obtain ⟨nl, dx, s, hb, hn, ok, k⟩ := h
    intro b' dx' nb nd ne
    have s0 : Same H (upd (upd H dx' (.own b')) b' (.ins (He.ga K "Boxes") dx' [])) := fun c o e => by
      rw [upd_ne (ne_of_none e nb), upd_ne (ne_of_none e nd)]
      exact e
    refine ⟨b', six0, rfl, dx', upd_same, six0_ok, fun nl' H1 n1 k1 i1 l1 => ⟨rfl, ?_⟩⟩
    have nb' : b' ≠ nl' := ne_of_none (H := upd (upd H dx' (.own b')) b' (.ins (He.ga K "Boxes") dx' [])) upd_same n1
    have n1' : H nl' = none := s0.free n1
    have s1 : Same H H1 := fun c o e => k1 c o (notin1 (ne_of_none e nb)) (s0 c o e)
    have hb1 := s1 _ _ hb
    have hn1 := s1 _ _ hn
    refine ⟨_, rfl, b, _, dx, _, _, rfl, hb1, T.c_Boxes, T.n_Boxes_numbers, rfl, ?_⟩
    refine ⟨_, _, boxesV, s.vals, rfl, T.t_BOXES _, SqL.of hn1, for_it (walkK (xs := boxesV) (ys := s.vals) rfl) (fun i σ H2 => (∃ v1 v2 : Option V, σ = [some (.ref b), some (.ref b'), v1, v2]) ∧
      Same H H2 ∧ BoxI K H2 b' nl' dx' ∧ H2 nl' = some (.lst (Six.mix i s six0).vals)) ⟨⟨_, _, rfl⟩, s1, i1, l1⟩ (fun i σ H2 _ q => ⟨T.t_BOXES _, SqL.of (q.2.1 _ _ hn)⟩) ?_ fun σ H2 q => ?_⟩
    · rintro i x σ H2 H3 hi ⟨⟨v1, v2, rfl⟩, q1, q2, q3⟩ ⟨t, x', y', rfl, ht, rfl, ex, ey⟩
      obtain ⟨c, rfl, rfl, rfl⟩ := pair_ix ex ey
      refine ⟨t, _, rfl, SqT.of upd_same, rfl, _, _, rfl, _, _, rfl, rfl, ?_⟩
      refine ⟨_, rfl, b', dx', _, rfl, upd_keep q2 ht, rfl, _, rfl, _, rfl, b', c, _, rfl, nl', dx', _, upd_keep q2 ht, upd_keep q3 ht, fun _ H4 k4 l4 => ?_, fun z => ?_⟩
      · refine ⟨⟨_, _, rfl⟩, fun c o e => k4 c o (notin1 (ne_of_none e n1')) (upd_keep (q1 c o e) ht), k4 _ _ (notin1 nb') (upd_keep q2 ht), ?_⟩
        rw [l4, mix_step]
      · rw [ok c] at z
        cases z
    · obtain ⟨⟨v1, v2, rfl⟩, q1, q2, q3⟩ := q
      exact ⟨_, rfl, k b' nl' dx' H2 nb n1' nb' q1 q2 q3⟩
theorem good_Boxes_copied (T : Txt K mg) : Good P w K mg base 6 (He.ma K (He.ga K "Boxes") "copied") [] (sp_Boxes_copied K) := by
  obtain ⟨fd, F⟩ := T.d_Boxes_copied
  exact ⟨⟨fd, _, [], ok_Boxes_copied T F, F.bindsN fun _ _ _ _ _ _ us hl => match us, hl with | [_], _ => rfl, .nil⟩, F.kp⟩
end
end HB


namespace HB
open PySem PySem.Spec PyProof.Rows L2
local macro_rules | `(tactic| walk_at "ne") => `(tactic| first | assumption | (apply Ne.symm; assumption) | exact ne_of_none (by assumption) (by assumption) | exact ne_new (by assumption) (by assumption) | (intro q; cases q; done))
local macro_rules | `(tactic| walk_at "hp") => `(tactic| first
  | assumption
  | exact upd_same
  | (refine upd_keep ?_ (by assumption); walk_at "hp")
  | (refine upd_far (by walk_at "ne") ?_; walk_at "hp")
  | (refine Same.get (by assumption) ?_; walk_at "hp")
  | (refine Kp.get (by assumption) ?_ (notin1 (by walk_at "ne")); walk_at "hp"))
local macro_rules | `(tactic| walk_at "same") => `(tactic| first
  | assumption
  | exact Same.refl _
  | (refine Same.new ?_ (by assumption); walk_at "same")
  | (refine Same.trans ?_ (by assumption); walk_at "same"))
/-- one row of a reading -/
local macro_rules | `(tactic| walk_at "r1") => `(tactic| first
  | refine ⟨_, rfl, ?_⟩
  | refine ⟨_, _, rfl, rfl, ?_⟩
  | refine ⟨rfl, ?_⟩
  | refine ⟨_, _, _, _, _, rfl, (by walk_at "hp"), (by assumption), (by assumption), rfl, ?_⟩
  | refine ⟨sz_ (by decide), fun _ _ => ?_⟩)
local macro_rules | `(tactic| walk_at "rd") => `(tactic| repeat walk_at "r1")
section
variable {P : Program} {w : World} {K : PySem.W.Frag} {mg : Str → Option Value} {base : Heap}
/-! ### stores -/
def sF (kl gl : Addr) : Fs := [("kept", .ref kl), ("given", .ref gl)]
def nF (kl gl pl : Addr) : Fs := [("kept", .ref kl), ("given", .ref gl), ("puts", .ref pl)]
abbrev ivs (cs : List Int) : List V := cs.map V.int
abbrev lvs (lv : List Lv) : List V := lv.map Lv.v
theorem at_ivs {cs : List Int} {c : Int} (h0 : 0 ≤ c) (h1 : c < cs.length) : atI (ivs cs) c = some (.int (at_ cs c)) := by
  obtain ⟨n, rfl⟩ := Int.eq_ofNat_of_zero_le h0
  have hn : n < cs.length := by omega
  refine atI_nat ?_
  unfold at_
  simp [List.getD, hn]
theorem at_lvs {lv : List Lv} {c : Int} {l : Lv} (h0 : 0 ≤ c) (h : lv[c.toNat]? = some l) : atI (lvs lv) c = some l.v := by
  obtain ⟨n, rfl⟩ := Int.eq_ofNat_of_zero_le h0
  refine atI_nat ?_
  have h' : lv[n]? = some l := by simpa using h
  simp [h']
theorem ixN_int {n : Nat} {c : Int} (h0 : 0 ≤ c) (h1 : c < n) : ixN n c = some c.toNat := by
  obtain ⟨m, rfl⟩ := Int.eq_ofNat_of_zero_le h0
  rw [ixN_nat (by omega)]
  simp
theorem set_ivs (cs : List Int) (c v : Int) : (ivs cs).set c.toNat (.int v) = ivs (st_ cs c v) := by
  unfold st_ ivs
  rw [List.map_set]
theorem ivs_get {cs : List Int} {i : Nat} {y : V} (h : (ivs cs)[i]? = some y) : ∃ c, cs[i]? = some c ∧ y = V.int c := by
  rw [List.getElem?_map] at h
  cases e : cs[i]? with
  | none =>
    rw [e] at h
    cases h
  | some c =>
    rw [e] at h
    exact ⟨c, rfl, (Option.some.inj h).symm⟩
theorem lvs_get {lv : List Lv} {i : Nat} {y : V} (h : (lvs lv)[i]? = some y) : ∃ c, lv[i]? = some c ∧ y = c.v := by
  rw [List.getElem?_map] at h
  cases e : lv[i]? with
  | none =>
    rw [e] at h
    cases h
  | some c =>
    rw [e] at h
    exact ⟨c, rfl, (Option.some.inj h).symm⟩
/-- Lists of this program's own are short. -/
theorem sz60 {n : Nat} (h : n ≤ 60) : n ≤ sizeLine := sz_ (by omega)
def sp_checked_cells : Sp := fun vs H Q _ => ∃ (cl : Addr), vs = [.ref cl] ∧ ∃ cs, H cl = some (.lst (ivs cs)) ∧ 1 ≤ cs.length ∧ cs.length ≤ 60 ∧ (∀ c ∈ cs, inC c = true) ∧
  ∀ l H', H l = none → Same H H' → H' l = some (.lst (ivs cs)) → Q (.ref l) H'
def nm_checked_cells : List Str := ["cells", "at", "thing"]
theorem sc_checked_cells : FnScope nm_checked_cells ["cells"] (defScope s_checked_cells) := ⟨rfl, rfl, rfl, by decide +kernel, rfl, by decide +kernel, by decide +kernel⟩
theorem ok_checked_cells (T : Txt K mg) {f : Addr} {fd : FuncData} {dv : List V} {kw : List (Str × V)} (F : FunD K "checked_cells" "checked_cells" (defArgs s_checked_cells) (defBody s_checked_cells) (defScope s_checked_cells) dv kw f fd) : FnOk P w K mg base (CXr P w) 3 f fd ["cells"] (sp_checked_cells) := by
  refine F.ok sc_checked_cells (fun vs H Q E h => ?_) (fun cdv A outer s H vs Q E hr h => ?_)
  · obtain ⟨cl, rfl, _⟩ := h
    rfl
  · obtain ⟨cl, rfl, h⟩ := h
    refine ⟨_, (pss_cons (ps_if (PW.pt (pw_or (pt_not (pt_val (pe_callB call_isi (by rfl) T.f_isinstance (by decide +kernel) (pa_cons (pv 0) (pa_cons (pe_ty (n := "list") T.f_list (by decide +kernel)) pa_nil))))) (pw_or1 (pt_not (pt_chain op_le op_le pe_int (pe_callB call_len_seq (by rfl) T.f_len PySem.boot_len (pa_cons (pv 0) pa_nil)) (pe_gI T.i_MOST_CELLS)))))) (pss_one ps_never) pss_nil) (pss_cons (ps_for po_cx rfl (pi_enum (by rfl) T.f_enumerate (pa_cons (pv 0) pa_nil)) (pg_tup rfl (pgs_cons (pg_name (i := 1) sc_checked_cells.nd rfl (Or.inl rfl)) (pgs_cons (pg_name (i := 2) sc_checked_cells.nd rfl (Or.inl rfl)) pgs_nil))) (pss_one (ps_if (pt_not (pt_val (pe_callG (good_is_content T) (hr.mono (by decide)) T.g_is_content hx_cx (pa_cons (pv 2) pa_nil)))) (pss_one ps_never) pss_nil))) (pss_one (ps_ret (pe_callTy call_list_of (by rfl) T.f_list (by decide +kernel) (pa_cons (pv 0) pa_nil)))))), ?_⟩
    obtain ⟨cs, hc, h1, h2, hin, k⟩ := h
    have hl : ((ivs cs).length : Int) = cs.length := by simp
    refine ⟨_, rfl, _, _, _, _, true, rfl, .ty _, .base (.lst hc), rfl, true, rfl, ?_⟩
    refine ⟨_, rfl, _, _, rfl, .inl (SqL.of hc), _, _, rfl, rfl, _, rfl, ?_⟩
    rw [decide_eq_true (by rw [hl]; omega)]
    refine iteT ?_
    refine ⟨_, _, rfl, rfl, _, rfl, ?_⟩
    rw [decide_eq_true (by rw [hl]; omega)]
    refine iteF ?_
    refine ⟨_, rfl, _, ivs cs, rfl, SqL.of hc, for_it (walk_enum (xs := ivs cs)) (fun i σ H1 => (∃ v1 v2 : Option V, σ = [some (.ref cl), v1, v2]) ∧ Same H H1) ⟨⟨_, _, rfl⟩, Same.refl _⟩ (fun i σ H1 _ q => SqL.of (q.2 _ _ hc)) ?_ fun σ H1 q => ?_⟩
    · rintro i x σ H1 H2 hi ⟨⟨v1, v2, rfl⟩, q1⟩ ⟨t, x', y', rfl, ht, rfl, ex, ey⟩
      cases ex
      obtain ⟨c, ec, rfl⟩ := ivs_get ey
      refine ⟨t, _, rfl, SqT.of upd_same, rfl, _, _, rfl, _, _, rfl, rfl, ?_⟩
      refine ⟨_, rfl, c, rfl, _, rfl, ?_⟩
      rw [hin c (List.mem_of_getElem? ec)]
      exact iteF ⟨⟨_, _, rfl⟩, Same.new q1 ht⟩
    · obtain ⟨⟨v1, v2, rfl⟩, q1⟩ := q
      exact ⟨_, rfl, cl, _, rfl, .inl (SqL.of (q1 _ _ hc)), fun l hl => k l _ (q1.free hl) (Same.new q1 hl) upd_same⟩
theorem good_checked_cells (T : Txt K mg) : Good P w K mg base 3 (He.ga K "checked_cells") [] (sp_checked_cells) := by
  obtain ⟨fd, F⟩ := T.d_checked_cells
  exact ⟨⟨fd, _, [], ok_checked_cells T F, F.bindsN fun _ _ _ _ _ _ us hl => match us, hl with | [_], _ => rfl, .nil⟩, F.kp⟩
/-- an instance at a of a class with the plain attributes kept and given -/
structure StoI (K : PySem.W.Frag) (H : Hp) (a kl gl : Addr) : Prop where
  ex : ∃ C dx fs, H a = some (.ins C dx fs) ∧ Cls K C ∧ NoAttr K C "kept" ∧ NoAttr K C "given" ∧ fs.lookup ("kept" : Str) = some (.ref kl) ∧ fs.lookup ("given" : Str) = some (.ref gl)
theorem stoI_S {H : Hp} {a kl gl dx : Addr} (T : Txt K mg) (h : H a = some (.ins (He.ga K "Store") dx (sF kl gl))) : StoI K H a kl gl := ⟨_, _, _, h, T.c_Store, T.n_Store_kept, T.n_Store_given, rfl, rfl⟩
theorem stoI_N {H : Hp} {a kl gl pl dx : Addr} (T : Txt K mg) (h : H a = some (.ins (He.ga K "Noted") dx (nF kl gl pl))) : StoI K H a kl gl := ⟨_, _, _, h, T.c_Noted, T.n_Noted_kept, T.n_Noted_given, rfl, rfl⟩
def sp_Store_told (K : PySem.W.Frag) : Sp := fun vs H Q _ => ∃ (a : Addr), vs = [.ref a] ∧ ∃ kl gl xs, StoI K H a kl gl ∧ H kl = some (.lst xs) ∧ ∀ l, H l = none → Q (.ref l) (upd H l (.lst xs))
def nm_Store_told : List Str := ["self"]
theorem sc_Store_told : FnScope nm_Store_told ["self"] (defScope s_Store_told) := ⟨rfl, rfl, rfl, by decide +kernel, rfl, by decide +kernel, by decide +kernel⟩
theorem ok_Store_told (T : Txt K mg) {f : Addr} {fd : FuncData} {dv : List V} {kw : List (Str × V)} (F : FunD K "told" "Store.told" (defArgs s_Store_told) (defBody s_Store_told) (defScope s_Store_told) dv kw f fd) : FnOk P w K mg base (CXr P w) 1 f fd ["self"] (sp_Store_told K) := by
  refine F.ok sc_Store_told (fun vs H Q E h => ?_) (fun cdv A outer s H vs Q E hr h => ?_)
  · obtain ⟨a, rfl, _⟩ := h
    rfl
  · obtain ⟨a, rfl, h⟩ := h
    refine ⟨_, (pss_one (ps_ret (pe_callTy call_list_of (by rfl) T.f_list (by decide +kernel) (pa_cons (pe_fld (pv 0) rfl) pa_nil)))), ?_⟩
    obtain ⟨kl, gl, xs, ⟨C, dx, fs, ha, cl, n1, n2, l1, l2⟩, hk, k⟩ := h
    exact ⟨_, rfl, a, C, dx, _, _, rfl, ha, cl, n1, l1, _, _, rfl, .inl (SqL.of hk), k⟩
theorem good_Store_told (T : Txt K mg) : Good P w K mg base 1 (He.ma K (He.ga K "Store") "told") [] (sp_Store_told K) := by
  obtain ⟨fd, F⟩ := T.d_Store_told
  exact ⟨⟨fd, _, [], ok_Store_told T F, F.bindsN fun _ _ _ _ _ _ us hl => match us, hl with | [_], _ => rfl, .nil⟩, F.kp⟩
theorem good_Noted_told (T : Txt K mg) : Good P w K mg base 1 (He.ma K (He.ga K "Noted") "told") [] (sp_Store_told K) := by
  obtain ⟨fd, F⟩ := T.d_Noted_told
  exact ⟨⟨fd, _, [], ok_Store_told T F, F.bindsN fun _ _ _ _ _ _ us hl => match us, hl with | [_], _ => rfl, .nil⟩, F.kp⟩
def sp_Store_leaves (K : PySem.W.Frag) : Sp := fun vs H Q _ => ∃ (a : Addr), vs = [.ref a] ∧ ∃ kl gl xs, StoI K H a kl gl ∧ H gl = some (.lst xs) ∧ ∀ l, H l = none → Q (.ref l) (upd H l (.lst xs))
def nm_Store_leaves : List Str := ["self"]
theorem sc_Store_leaves : FnScope nm_Store_leaves ["self"] (defScope s_Store_leaves) := ⟨rfl, rfl, rfl, by decide +kernel, rfl, by decide +kernel, by decide +kernel⟩
theorem ok_Store_leaves (T : Txt K mg) {f : Addr} {fd : FuncData} {dv : List V} {kw : List (Str × V)} (F : FunD K "leaves" "Store.leaves" (defArgs s_Store_leaves) (defBody s_Store_leaves) (defScope s_Store_leaves) dv kw f fd) : FnOk P w K mg base (CXr P w) 1 f fd ["self"] (sp_Store_leaves K) := by
  refine F.ok sc_Store_leaves (fun vs H Q E h => ?_) (fun cdv A outer s H vs Q E hr h => ?_)
  · obtain ⟨a, rfl, _⟩ := h
    rfl
  · obtain ⟨a, rfl, h⟩ := h
    refine ⟨_, (pss_one (ps_ret (pe_callTy call_list_of (by rfl) T.f_list (by decide +kernel) (pa_cons (pe_fld (pv 0) rfl) pa_nil)))), ?_⟩
    obtain ⟨kl, gl, xs, ⟨C, dx, fs, ha, cl, n1, n2, l1, l2⟩, hk, k⟩ := h
    exact ⟨_, rfl, a, C, dx, _, _, rfl, ha, cl, n2, l2, _, _, rfl, .inl (SqL.of hk), k⟩
theorem good_Store_leaves (T : Txt K mg) : Good P w K mg base 1 (He.ma K (He.ga K "Store") "leaves") [] (sp_Store_leaves K) := by
  obtain ⟨fd, F⟩ := T.d_Store_leaves
  exact ⟨⟨fd, _, [], ok_Store_leaves T F, F.bindsN fun _ _ _ _ _ _ us hl => match us, hl with | [_], _ => rfl, .nil⟩, F.kp⟩
theorem good_Noted_leaves (T : Txt K mg) : Good P w K mg base 1 (He.ma K (He.ga K "Noted") "leaves") [] (sp_Store_leaves K) := by
  obtain ⟨fd, F⟩ := T.d_Noted_leaves
  exact ⟨⟨fd, _, [], ok_Store_leaves T F, F.bindsN fun _ _ _ _ _ _ us hl => match us, hl with | [_], _ => rfl, .nil⟩, F.kp⟩
def Lv.lets (l : Lv) (lk : Bool) : Bool := match l with
  | .op => true
  | .lk => lk
  | .sh => false
theorem mayM_at {lv : List Lv} {lk : Bool} {c : Int} {l : Lv} (h0 : 0 ≤ c) (el : lv[c.toNat]? = some l) : mayM lv lk c = l.lets lk := by
  unfold mayM
  rw [decide_eq_true h0, el]
  cases l <;> rfl
theorem mayM_out {lv : List Lv} {lk : Bool} {c : Int} (n : ¬ (0 ≤ c ∧ c < lv.length)) : mayM lv lk c = false := by
  cases e : mayM lv lk c with
  | false => rfl
  | true => exact absurd (mayM_lt e) n
def sp_Store_may (K : PySem.W.Frag) : Sp := fun vs H Q _ => ∃ (a : Addr) (lk : Bool) (c : Int), vs = [.ref a, .str (deedW lk), .int c] ∧ ∃ kl gl xs lv, StoI K H a kl gl ∧ H kl = some (.lst xs) ∧ H gl = some (.lst (lvs lv)) ∧ xs.length = lv.length ∧ Q (.bl (mayM lv lk c)) H
def nm_Store_may : List Str := ["self", "deed", "cell"]
theorem sc_Store_may : FnScope nm_Store_may ["self", "deed", "cell"] (defScope s_Store_may) := ⟨rfl, rfl, rfl, by decide +kernel, rfl, by decide +kernel, by decide +kernel⟩
theorem ok_Store_may (T : Txt K mg) {f : Addr} {fd : FuncData} {dv : List V} {kw : List (Str × V)} (F : FunD K "may" "Store.may" (defArgs s_Store_may) (defBody s_Store_may) (defScope s_Store_may) dv kw f fd) : FnOk P w K mg base (CXr P w) 1 f fd ["self", "deed", "cell"] (sp_Store_may K) := by
  refine F.ok sc_Store_may (fun vs H Q E h => ?_) (fun cdv A outer s H vs Q E hr h => ?_)
  · obtain ⟨a, lk, c, rfl, _⟩ := h
    rfl
  · obtain ⟨a, lk, c, rfl, h⟩ := h
    refine ⟨_, (pss_cons (ps_if (pt_not (pt_chain op_le op_lt pe_int (pv 2) (pe_callB call_len_seq (by rfl) T.f_len PySem.boot_len (pa_cons (pe_fld (pv 0) rfl) pa_nil)))) (pss_one (ps_ret pe_bl)) pss_nil) (pss_one (ps_ret (pe_or (pe_cmpR op_eq (pe_ix ix_list (pe_fld (pv 0) rfl) (pv 2) (fun _ _ => rfl)) (pe_gS T.s_OPEN) (nomark _)) (pe_one (pe_and (pe_cmpR op_eq (pe_ix ix_list (pe_fld (pv 0) rfl) (pv 2) (fun _ _ => rfl)) (pe_gS T.s_LOOK) (nomark _)) (pe_one (pe_cmpR op_eq (pv 1) (pe_gS T.s_LOOK) (nomark _))))))))), ?_⟩
    obtain ⟨kl, gl, xs, lv, ⟨C, dx, fs, ha, cl, n1, n2, l1, l2⟩, hk, hg, hl, k⟩ := h
    refine ⟨_, rfl, _, _, rfl, rfl, _, rfl, ?_⟩
    by_cases c0 : 0 ≤ c
    · rw [decide_eq_true c0]
      refine iteT ?_
      refine ⟨_, rfl, a, C, dx, _, _, rfl, ha, cl, n1, l1, kl, _, rfl, .inl (SqL.of hk), _, _, rfl, rfl, _, rfl, ?_⟩
      by_cases c1 : c < lv.length
      · rw [decide_eq_true (by omega)]
        refine iteF ?_
        obtain ⟨l, el⟩ : ∃ l, lv[c.toNat]? = some l := ⟨lv[c.toNat]'(by omega), by simp⟩
        have ev := at_lvs c0 el
        have em := mayM_at (lk := lk) c0 el
        rw [em] at k
        refine ⟨_, rfl, a, C, dx, _, _, rfl, ha, cl, n2, l2, _, rfl, _, _, _, _, rfl, rfl, SqL.of hg, ev, ?_⟩
        cases l
        · exact ⟨rfl, _, rfl, iteT k⟩
        · refine ⟨rfl, _, rfl, iteF ?_⟩
          refine ⟨_, rfl, a, C, dx, _, _, rfl, ha, cl, n2, l2, _, rfl, _, _, _, _, rfl, rfl, SqL.of hg, ev, ?_⟩
          refine ⟨rfl, _, rfl, iteT ?_⟩
          refine ⟨_, rfl, rfl, ?_⟩
          cases lk <;> exact k
        · refine ⟨rfl, _, rfl, iteF ?_⟩
          refine ⟨_, rfl, a, C, dx, _, _, rfl, ha, cl, n2, l2, _, rfl, _, _, _, _, rfl, rfl, SqL.of hg, ev, ?_⟩
          exact ⟨rfl, _, rfl, iteF k⟩
      · rw [decide_eq_false (by omega)]
        refine iteT ?_
        rw [mayM_out (fun z => c1 z.2)] at k
        exact k
    · rw [decide_eq_false c0]
      refine iteF ?_
      refine ⟨_, rfl, iteT ?_⟩
      rw [mayM_out (fun z => c0 z.1)] at k
      exact k
theorem good_Noted_may (T : Txt K mg) : Good P w K mg base 1 (He.ma K (He.ga K "Noted") "may") [] (sp_Store_may K) := by
  obtain ⟨fd, F⟩ := T.d_Noted_may
  exact ⟨⟨fd, _, [], ok_Store_may T F, F.bindsN fun _ _ _ _ _ _ us hl => match us, hl with | [_, _, _], _ => rfl, .nil⟩, F.kp⟩
/-! a Noted store: its cells cs, their leaves lv, the list of what was put -/
abbrev NotI (K : PySem.W.Frag) (H : Hp) (a dx kl gl pl : Addr) : Prop := H a = some (.ins (He.ga K "Noted") dx (nF kl gl pl))
structure CelI (H : Hp) (kl gl : Addr) (cs : List Int) (lv : List Lv) : Prop where
  k : H kl = some (.lst (ivs cs))
  g : H gl = some (.lst (lvs lv))
  len : cs.length = lv.length
def sp_Store_look (K : PySem.W.Frag) : Sp := fun vs H Q E => ∃ (a : Addr) (c : Int), vs = [.ref a, .int c] ∧ ∃ dx kl gl pl cs lv, NotI K H a dx kl gl pl ∧ CelI H kl gl cs lv ∧
  (mayM lv true c = true → Q (.int (at_ cs c)) H) ∧ (mayM lv true c = false → ∀ d H', Same H H' → E (.ref (He.ga K "Stop")) d H')
def nm_Store_look : List Str := ["self", "cell"]
theorem sc_Store_look : FnScope nm_Store_look ["self", "cell"] (defScope s_Store_look) := ⟨rfl, rfl, rfl, by decide +kernel, rfl, by decide +kernel, by decide +kernel⟩
theorem ok_Store_look (T : Txt K mg) {f : Addr} {fd : FuncData} {dv : List V} {kw : List (Str × V)} (F : FunD K "look" "Store.look" (defArgs s_Store_look) (defBody s_Store_look) (defScope s_Store_look) dv kw f fd) : FnOk P w K mg base (CXr P w) 3 f fd ["self", "cell"] (sp_Store_look K) := by
  refine F.ok sc_Store_look (fun vs H Q E h => ?_) (fun cdv A outer s H vs Q E hr h => ?_)
  · obtain ⟨a, c, rfl, _⟩ := h
    rfl
  · obtain ⟨a, c, rfl, h⟩ := h
    refine ⟨_, (pss_cons (ps_if (pt_not (pt_val (pe_methG (pv 0) T.c_Noted T.m_Noted_may (good_Noted_may T) (hr.mono (by decide)) hx_cx (pa_cons pe_str (pa_cons (pv 1) pa_nil))))) (pss_one (ps_raiseX T.o_Stop T.oi_Stop (good_Stop_init T) (hr.mono (by decide)) T.g_Stop (pa_cons pe_str (pa_cons (pv 1) pa_nil)) tk_cx)) pss_nil) (pss_one (ps_ret (pe_ix ix_list (pe_fld (pv 0) rfl) (pv 1) (fun _ _ => rfl))))), ?_⟩
    obtain ⟨dx, kl, gl, pl, cs, lv, ha, hc, ky, kn⟩ := h
    refine ⟨_, rfl, a, dx, _, rfl, ha, rfl, _, rfl, ?_⟩
    refine ⟨a, true, c, rfl, kl, gl, _, lv, stoI_N T ha, hc.k, hc.g, (by rw [List.length_map]; exact hc.len), ?_⟩
    refine ⟨_, rfl, ?_⟩
    cases hm : mayM lv true c with
    | true =>
      obtain ⟨m0, m1⟩ := mayM_lt hm
      exact iteF ⟨_, rfl, a, _, dx, _, _, rfl, ha, T.c_Noted, T.n_Noted_kept, rfl, _, rfl, _, _, _, _, rfl, rfl, SqL.of hc.k, at_ivs m0 (by have := hc.len; omega), ky hm⟩
    | false => exact iteT ⟨_, rfl, exc2_rd fun d H2 h2 _ _ => kn hm (some d) H2 h2⟩
theorem good_Noted_look (T : Txt K mg) : Good P w K mg base 3 (He.ma K (He.ga K "Noted") "look") [] (sp_Store_look K) := by
  obtain ⟨fd, F⟩ := T.d_Noted_look
  exact ⟨⟨fd, _, [], ok_Store_look T F, F.bindsN fun _ _ _ _ _ _ us hl => match us, hl with | [_, _], _ => rfl, .nil⟩, F.kp⟩
def sp_Store_put (K : PySem.W.Frag) : Sp := fun vs H Q E => ∃ (a : Addr) (c v : Int), vs = [.ref a, .int c, .int v] ∧ ∃ dx kl gl pl cs lv, NotI K H a dx kl gl pl ∧ CelI H kl gl cs lv ∧
  (mayM lv false c = true → Q .non (upd H kl (.lst (ivs (st_ cs c v))))) ∧ (mayM lv false c = false → ∀ d H', Same H H' → E (.ref (He.ga K "Stop")) d H')
def nm_Store_put : List Str := ["self", "cell", "content"]
theorem sc_Store_put : FnScope nm_Store_put ["self", "cell", "content"] (defScope s_Store_put) := ⟨rfl, rfl, rfl, by decide +kernel, rfl, by decide +kernel, by decide +kernel⟩
theorem ok_Store_put (T : Txt K mg) {f : Addr} {fd : FuncData} {dv : List V} {kw : List (Str × V)} (F : FunD K "put" "Store.put" (defArgs s_Store_put) (defBody s_Store_put) (defScope s_Store_put) dv kw f fd) : FnOk P w K mg base (CXr P w) 3 f fd ["self", "cell", "content"] (sp_Store_put K) := by
  refine F.ok sc_Store_put (fun vs H Q E h => ?_) (fun cdv A outer s H vs Q E hr h => ?_)
  · obtain ⟨a, c, v, rfl, _⟩ := h
    rfl
  · obtain ⟨a, c, v, rfl, h⟩ := h
    refine ⟨_, (pss_cons (ps_if (pt_not (pt_val (pe_methG (pv 0) T.c_Noted T.m_Noted_may (good_Noted_may T) (hr.mono (by decide)) hx_cx (pa_cons pe_str (pa_cons (pv 1) pa_nil))))) (pss_one (ps_raiseX T.o_Stop T.oi_Stop (good_Stop_init T) (hr.mono (by decide)) T.g_Stop (pa_cons pe_str (pa_cons (pv 1) pa_nil)) tk_cx)) pss_nil) (pss_one (ps_asg (pv 2) (pg_sub (pe_fld (pv 0) rfl) (pv 1) set_list)))), ?_⟩
    obtain ⟨dx, kl, gl, pl, cs, lv, ha, hc, ky, kn⟩ := h
    refine ⟨_, rfl, a, dx, _, rfl, ha, rfl, _, rfl, ?_⟩
    refine ⟨a, false, c, rfl, kl, gl, _, lv, stoI_N T ha, hc.k, hc.g, (by rw [List.length_map]; exact hc.len), ?_⟩
    refine ⟨_, rfl, ?_⟩
    cases hm : mayM lv false c with
    | true =>
      obtain ⟨m0, m1⟩ := mayM_lt hm
      refine iteF ⟨_, rfl, _, rfl, a, _, dx, _, _, rfl, ha, T.c_Noted, T.n_Noted_kept, rfl, _, rfl, kl, _, _, _, rfl, rfl, hc.k, ixN_int m0 (by rw [List.length_map]; have := hc.len; omega), ?_⟩
      rw [set_ivs]
      exact ky hm
    | false => exact iteT ⟨_, rfl, exc2_rd fun d H2 h2 _ _ => kn hm (some d) H2 h2⟩
theorem good_Store_put (T : Txt K mg) : Good P w K mg base 3 (He.ma K (He.ga K "Store") "put") [] (sp_Store_put K) := by
  obtain ⟨fd, F⟩ := T.d_Store_put
  exact ⟨⟨fd, _, [], ok_Store_put T F, F.bindsN fun _ _ _ _ _ _ us hl => match us, hl with | [_, _, _], _ => rfl, .nil⟩, F.kp⟩
def sp_Noted_put (K : PySem.W.Frag) : Sp := fun vs H Q E => ∃ (a : Addr) (c v : Int), vs = [.ref a, .int c, .int v] ∧ ∃ dx kl gl pl cs lv ps, NotI K H a dx kl gl pl ∧ CelI H kl gl cs lv ∧ H pl = some (.lst ps) ∧ ps.length ≤ 10 ∧ kl ≠ pl ∧
  (mayM lv false c = true → ∀ t H', H t = none → Kp [kl, pl] H H' → H' kl = some (.lst (ivs (st_ cs c v))) → H' pl = some (.lst (ps ++ [.ref t])) → H' t = some (.tup [.int c, .int (at_ cs c), .int v]) → Q .non H') ∧
  (mayM lv false c = false → ∀ d H', Same H H' → E (.ref (He.ga K "Stop")) d H')
def nm_Noted_put : List Str := ["self", "cell", "content", "before"]
theorem sc_Noted_put : FnScope nm_Noted_put ["self", "cell", "content"] (defScope s_Noted_put) := ⟨rfl, rfl, rfl, by decide +kernel, rfl, by decide +kernel, by decide +kernel⟩
theorem ok_Noted_put (T : Txt K mg) {f : Addr} {fd : FuncData} {dv : List V} {kw : List (Str × V)} (F : FunD K "put" "Noted.put" (defArgs s_Noted_put) (defBody s_Noted_put) (defScope s_Noted_put) dv kw f fd) : FnOk P w K mg base (CXr P w) 4 f fd ["self", "cell", "content"] (sp_Noted_put K) := by
  refine F.ok sc_Noted_put (fun vs H Q E h => ?_) (fun cdv A outer s H vs Q E hr h => ?_)
  · obtain ⟨a, c, v, rfl, _⟩ := h
    rfl
  · obtain ⟨a, c, v, rfl, h⟩ := h
    refine ⟨_, (pss_cons (ps_set (i := 3) sc_Noted_put.nd rfl (Or.inl rfl) pe_non) (pss_cons (ps_if (pt_val (pe_methG (pv 0) T.c_Noted T.m_Noted_may (good_Noted_may T) (hr.mono (by decide)) hx_cx (pa_cons pe_str (pa_cons (pv 1) pa_nil)))) (pss_one (ps_set (i := 3) sc_Noted_put.nd rfl (Or.inl rfl) (pe_ix ix_list (pe_fld (pv 0) rfl) (pv 1) (fun _ _ => rfl)))) pss_nil) (pss_cons (ps_expr (pe_callC T.g_Store T.cm_Store_put (good_Store_put T) (hr.mono (by decide)) hx_cx (pa_cons (pv 0) (pa_cons (pv 1) (pa_cons (pv 2) pa_nil))))) (pss_one (ps_expr (pe_bm PySem.F.plainAttrs_list PySem.F.slot_list_append PySem.F.type_list_append mt_append (pe_fld (pv 0) rfl) (pa_cons (pe_tup (pa_cons (pv 1) (pa_cons (pv 3) (pa_cons (pv 2) pa_nil)))) pa_nil))))))), ?_⟩
    obtain ⟨dx, kl, gl, pl, cs, lv, ps, ha, hc, hp, hps, hkp, ky, kn⟩ := h
    refine ⟨_, rfl, a, dx, _, rfl, ha, rfl, _, rfl, ?_⟩
    refine ⟨a, false, c, rfl, kl, gl, _, lv, stoI_N T ha, hc.k, hc.g, (by rw [List.length_map]; exact hc.len), ?_⟩
    refine ⟨_, rfl, ?_⟩
    cases hm : mayM lv false c with
    | true =>
      obtain ⟨m0, m1⟩ := mayM_lt hm
      have nak : a ≠ kl := ne_of ha hc.k (by intro z; cases z)
      have nap : a ≠ pl := ne_of ha hp (by intro z; cases z)
      refine iteT ⟨_, rfl, a, _, dx, _, _, rfl, ha, T.c_Noted, T.n_Noted_kept, rfl, _, rfl, _, _, _, _, rfl, rfl, SqL.of hc.k, at_ivs m0 (by have := hc.len; omega), ?_⟩
      refine ⟨_, rfl, _, rfl, _, rfl, a, c, v, rfl, dx, kl, gl, pl, cs, lv, ha, hc, fun _ => ?_, fun z => by rw [hm] at z; cases z⟩
      have ha1 : NotI K (upd H kl (.lst (ivs (st_ cs c v)))) a dx kl gl pl := upd_far nak ha
      have hp1 : upd H kl (.lst (ivs (st_ cs c v))) pl = some (.lst ps) := upd_far (Ne.symm hkp) hp
      refine ⟨_, rfl, a, _, dx, _, _, rfl, ha1, T.c_Noted, T.n_Noted_puts, rfl, .inl ⟨rfl, _, SqL.of hp1⟩, ?_⟩
      refine ⟨_, rfl, _, rfl, _, rfl, sz_ (by simp), fun t ht => ?_⟩
      have nt : ∀ {b o}, H b = some o → b ≠ t := fun {b o} e z => by
        subst z
        by_cases q : b = kl
        · subst q
          rw [upd_same] at ht
          cases ht
        · rw [upd_ne q, e] at ht
          cases ht
      have ht0 : H t = none := by
        have := nt hc.k
        rw [upd_ne (Ne.symm this)] at ht
        exact ht
      refine ⟨pl, _, _, rfl, rfl, upd_keep hp1 ht, Nat.lt_of_le_of_lt (Nat.le_trans hps (by decide : 10 ≤ 100)) (by decide), ?_⟩
      refine ky hm t _ ht0 (fun b o nb e => ?_) ?_ upd_same ?_
      · rw [upd_ne (fun z => nb (by simp [z])), upd_ne (nt e), upd_ne (fun z => nb (by simp [z]))]
        exact e
      · rw [upd_ne hkp, upd_ne (nt hc.k), upd_same]
      · rw [upd_ne (Ne.symm (nt hp)), upd_same]
    | false =>
      refine iteF ⟨_, rfl, _, rfl, _, rfl, a, c, v, rfl, dx, kl, gl, pl, cs, lv, ha, hc, fun z => (by rw [hm] at z; cases z), fun _ d H' h' => kn hm d H' h'⟩
theorem good_Noted_put (T : Txt K mg) : Good P w K mg base 4 (He.ma K (He.ga K "Noted") "put") [] (sp_Noted_put K) := by
  obtain ⟨fd, F⟩ := T.d_Noted_put
  exact ⟨⟨fd, _, [], ok_Noted_put T F, F.bindsN fun _ _ _ _ _ _ us hl => match us, hl with | [_, _, _], _ => rfl, .nil⟩, F.kp⟩
end
end HB


namespace HB
open PySem PySem.Spec PyProof.Rows L2
local macro_rules | `(tactic| walk_at "ne") => `(tactic| first | assumption | (apply Ne.symm; assumption) | exact ne_of_none (by assumption) (by assumption) | exact ne_new (by assumption) (by assumption) | (intro q; cases q; done))
local macro_rules | `(tactic| walk_at "hp") => `(tactic| first
  | assumption
  | exact upd_same
  | (refine upd_keep ?_ (by assumption); walk_at "hp")
  | (refine upd_far (by walk_at "ne") ?_; walk_at "hp")
  | (refine Same.get (by assumption) ?_; walk_at "hp")
  | (refine Kp.get (by assumption) ?_ (notin1 (by walk_at "ne")); walk_at "hp"))
local macro_rules | `(tactic| walk_at "same") => `(tactic| first
  | assumption
  | exact Same.refl _
  | (refine Same.new ?_ (by assumption); walk_at "same")
  | (refine Same.trans ?_ (by assumption); walk_at "same"))
/-- one row of a reading -/
local macro_rules | `(tactic| walk_at "r1") => `(tactic| first
  | refine ⟨_, rfl, ?_⟩
  | refine ⟨_, _, rfl, rfl, ?_⟩
  | refine ⟨rfl, ?_⟩
  | refine ⟨_, _, _, _, _, rfl, (by walk_at "hp"), (by assumption), (by assumption), rfl, ?_⟩
  | refine ⟨sz_ (by decide), fun _ _ => ?_⟩)
local macro_rules | `(tactic| walk_at "rd") => `(tactic| repeat walk_at "r1")
section
variable {P : Program} {w : World} {K : PySem.W.Frag} {mg : Str → Option Value} {base : Heap}
def sp_Store_leave (K : PySem.W.Frag) : Sp := fun vs H Q E => ∃ (a : Addr) (lo : Int) (be : Option Int) (z : Str), vs = [.ref a, .int lo, onV be, .str z] ∧ ∃ kl gl xs lv, StoI K H a kl gl ∧ H kl = some (.lst xs) ∧ H gl = some (.lst (lvs lv)) ∧ xs.length = lv.length ∧ lv.length ≤ 60 ∧
  ((∃ (j : Int) (l : Lv), be = some j ∧ z = l.nm ∧ 0 ≤ lo ∧ lo ≤ j ∧ j ≤ lv.length ∧ ∀ H', Kp [gl] H H' → H' gl = some (.lst (lvs (lvSet lv lo.toNat j.toNat l))) → Q .non H') ∨
  ((be = none ∨ (∃ j, be = some j ∧ ¬ (0 ≤ lo ∧ lo ≤ j ∧ j ≤ lv.length)) ∨ (∃ j, be = some j ∧ (0 ≤ lo ∧ lo ≤ j ∧ j ≤ lv.length) ∧ ∀ l : Lv, z ≠ l.nm)) ∧
    ∀ d H', Same H H' → H' d = some (.xd [("word", .str z), ("behind", onV be), ("low", .int lo)]) → E (.ref (He.ga K "NoLeave")) (some d) H'))
theorem set_lvs (lv : List Lv) (n : Nat) (l : Lv) : (lvs lv).set n l.v = lvs (lv.set n l) := by
  unfold lvs
  rw [List.map_set]
theorem in_leaves (l : Lv) : inV (.str l.nm) [.str "open", .str "look", .str "shut"] = true := by cases l <;> rfl
theorem notin_leaves {z : Str} (h : ∀ l : Lv, z ≠ l.nm) : inV (.str z) [.str "open", .str "look", .str "shut"] = false := by
  have h1 : z ≠ "open" := h .op
  have h2 : z ≠ "look" := h .lk
  have h3 : z ≠ "shut" := h .sh
  show ((("open" : Str) == z) || ((("look" : Str) == z) || ((("shut" : Str) == z) || false))) = false
  rw [beq_eq_false_iff_ne.mpr (Ne.symm h1), beq_eq_false_iff_ne.mpr (Ne.symm h2), beq_eq_false_iff_ne.mpr (Ne.symm h3)]
  rfl
def nm_Store_leave : List Str := ["self", "low", "behind", "word", "cell"]
theorem sc_Store_leave : FnScope nm_Store_leave ["self", "low", "behind", "word"] (defScope s_Store_leave) := ⟨rfl, rfl, rfl, by decide +kernel, rfl, by decide +kernel, by decide +kernel⟩
theorem ok_Store_leave (T : Txt K mg) {f : Addr} {fd : FuncData} {dv : List V} {kw : List (Str × V)} (F : FunD K "leave" "Store.leave" (defArgs s_Store_leave) (defBody s_Store_leave) (defScope s_Store_leave) dv kw f fd) : FnOk P w K mg base (CXr P w) 3 f fd ["self", "low", "behind", "word"] (sp_Store_leave K) := by
  refine F.ok sc_Store_leave (fun vs H Q E h => ?_) (fun cdv A outer s H vs Q E hr h => ?_)
  · obtain ⟨a, lo, be, z, rfl, _⟩ := h
    rfl
  · obtain ⟨a, lo, be, z, rfl, h⟩ := h
    refine ⟨_, (pss_cons (ps_if (PW.pt (pw_or (pt_not (pt_val (pe_callG (good_is_whole T) (hr.mono (by decide)) T.g_is_whole hx_cx (pa_cons (pv 1) pa_nil)))) (pw_or (pt_not (pt_val (pe_callG (good_is_whole T) (hr.mono (by decide)) T.g_is_whole hx_cx (pa_cons (pv 2) pa_nil)))) (pw_or1 (pt_not (pt_chain3 op_le op_le op_le pe_int (pv 1) (pv 2) (pe_callB call_len_seq (by rfl) T.f_len PySem.boot_len (pa_cons (pe_fld (pv 0) rfl) pa_nil)))))))) (pss_one (ps_raiseX T.o_NoLeave T.oi_NoLeave (good_NoLeave_init T) (hr.mono (by decide)) T.g_NoLeave (pa_cons (pv 1) (pa_cons (pv 2) (pa_cons (pv 3) pa_nil))) tk_cx)) pss_nil) (pss_cons (ps_if (PW.pt (pw_or (pt_not (pt_val (pe_callB call_isi (by rfl) T.f_isinstance (by decide +kernel) (pa_cons (pv 3) (pa_cons (pe_ty (n := "str") T.f_str (by decide +kernel)) pa_nil))))) (pw_or1 (pt_cmpR op_notIn_seq (pv 3) (pe_gR T.g_LEAVES) (by rfl))))) (pss_one (ps_raiseX T.o_NoLeave T.oi_NoLeave (good_NoLeave_init T) (hr.mono (by decide)) T.g_NoLeave (pa_cons (pv 1) (pa_cons (pv 2) (pa_cons (pv 3) pa_nil))) tk_cx)) pss_nil) (pss_one (ps_for po_cx rfl (pi_range2 rfl T.f_range (pa_cons (pv 1) (pa_cons (pv 2) pa_nil))) (pg_name (i := 4) sc_Store_leave.nd rfl (Or.inl rfl)) (pss_one (ps_asg (pv 3) (pg_sub (pe_fld (pv 0) rfl) (pv 4) set_list))))))), ?_⟩
    obtain ⟨kl, gl, xs, lv, ⟨C, dx, fs, ha, cl, n1, n2, l1, l2⟩, hk, hg, hlen, hl60, hh⟩ := h
    have ixs : ((xs.length : Nat) : Int) = lv.length := by omega
    refine ⟨_, rfl, .int lo, rfl, true, rfl, _, rfl, iteF ?_⟩
    rcases be with _ | j
    · -- behind is None
      rcases hh with ⟨j, l, e, _⟩ | ⟨_, k⟩
      · cases e
      · exact ⟨_, rfl, .non, rfl, false, rfl, _, rfl, iteT (iteT ⟨_, rfl, _, rfl, _, rfl, exc3_rd fun d H2 h2 _ hd => k d H2 h2 hd⟩)⟩
    · refine ⟨_, rfl, .int j, rfl, true, rfl, _, rfl, iteF ?_⟩
      -- 0 <= low <= behind <= len(self.kept)
      by_cases inn : 0 ≤ lo ∧ lo ≤ j ∧ j ≤ (lv.length : Int)
      · refine ⟨_, rfl, _, _, rfl, rfl, _, rfl, ?_⟩
        rw [decide_eq_true inn.1]
        refine iteT ⟨_, rfl, _, _, rfl, rfl, _, rfl, ?_⟩
        rw [decide_eq_true inn.2.1]
        refine iteT ⟨_, rfl, a, C, dx, _, _, rfl, ha, cl, n1, l1, kl, _, rfl, .inl (SqL.of hk), _, _, rfl, rfl, _, rfl, ?_⟩
        rw [ixs, decide_eq_true inn.2.2]
        refine iteF ?_
        refine ⟨_, rfl, _, _, _, _, true, rfl, .ty _, .base (.str _), rfl, true, rfl, iteF ?_⟩
        refine ⟨_, rfl, _, _, rfl, .inr (T.t_LEAVES H), rfl, rfl, _, rfl, ?_⟩
        rcases hh with ⟨j', l, e, rfl, _, _, _, k⟩ | ⟨b, k⟩
        · cases e
          rw [show (if true = true then !inV (.str l.nm) [.str "open", .str "look", .str "shut"] else inV (.str l.nm) [.str "open", .str "look", .str "shut"]) = false from by rw [in_leaves]; rfl]
          refine iteF ?_
          have nag : a ≠ gl := ne_of ha hg (by intro q; cases q)
          have e0 : lo + ((j - lo).toNat : Int) = j := by omega
          refine ⟨_, rfl, _, rfl, lo, j, rfl, ⟨by omega, by omega, by omega, by omega⟩, for_range (lo := lo) (n := (j - lo).toNat) (fun i σ H1 => (∃ v : Option V, σ = [some (.ref a), some (.int lo), some (.int j), some (.str l.nm), v]) ∧ Kp [gl] H H1 ∧
            H1 gl = some (.lst (lvs (lvSet lv lo.toNat (lo.toNat + i) l)))) ⟨⟨_, rfl⟩, Kp.refl, by rw [Nat.add_zero, lvSet_none]; exact hg⟩ ?_ fun σ H1 q => ?_⟩
          · rintro i σ H1 hi ⟨⟨v, rfl⟩, q1, q2⟩
            refine ⟨_, rfl, _, rfl, a, C, dx, _, _, rfl, q1 _ _ (notin1 nag) ha, cl, n2, l2, _, rfl, gl, _, lo + i, (lo.toNat + i), rfl, rfl, q2, ?_, ⟨_, rfl⟩, q1.set (by simp), ?_⟩
            · rw [ixN_int (by omega) (by rw [List.length_map, lvSet_len]; omega)]
              congr 1
              omega
            · rw [upd_same, ← lvSet_step _ _ _ _ (by omega), ← set_lvs]
              rfl
          · obtain ⟨_, q1, q2⟩ := q
            refine k H1 q1 ?_
            rw [q2]
            congr 3
            congr 1
            omega
        · rcases b with e | ⟨j', e, nn⟩ | ⟨j', e, _, nz⟩
          · cases e
          · cases e
            exact absurd inn nn
          · rw [show (if true = true then !inV (.str z) [.str "open", .str "look", .str "shut"] else inV (.str z) [.str "open", .str "look", .str "shut"]) = true from by rw [notin_leaves nz]; rfl]
            exact iteT ⟨_, rfl, _, rfl, _, rfl, exc3_rd fun d H2 h2 _ hd => k d H2 h2 hd⟩
      · rcases hh with ⟨j', l, e, _, i1, i2, i3, _⟩ | ⟨_, k⟩
        · cases e
          exact absurd ⟨i1, i2, i3⟩ inn
        · refine ⟨_, rfl, _, _, rfl, rfl, _, rfl, ?_⟩
          by_cases c1 : 0 ≤ lo
          · rw [decide_eq_true c1]
            refine iteT ⟨_, rfl, _, _, rfl, rfl, _, rfl, ?_⟩
            by_cases c2 : lo ≤ j
            · rw [decide_eq_true c2]
              refine iteT ⟨_, rfl, a, C, dx, _, _, rfl, ha, cl, n1, l1, kl, _, rfl, .inl (SqL.of hk), _, _, rfl, rfl, _, rfl, ?_⟩
              rw [ixs, decide_eq_false (by omega)]
              exact iteT ⟨_, rfl, _, rfl, _, rfl, exc3_rd fun d H2 h2 _ hd => k d H2 h2 hd⟩
            · rw [decide_eq_false c2]
              exact iteF (iteT ⟨_, rfl, _, rfl, _, rfl, exc3_rd fun d H2 h2 _ hd => k d H2 h2 hd⟩)
          · rw [decide_eq_false c1]
            exact iteF (iteT ⟨_, rfl, _, rfl, _, rfl, exc3_rd fun d H2 h2 _ hd => k d H2 h2 hd⟩)
theorem good_Store_leave (T : Txt K mg) : Good P w K mg base 3 (He.ma K (He.ga K "Store") "leave") [] (sp_Store_leave K) := by
  obtain ⟨fd, F⟩ := T.d_Store_leave
  exact ⟨⟨fd, _, [], ok_Store_leave T F, F.bindsN fun _ _ _ _ _ _ us hl => match us, hl with | [_, _, _, _], _ => rfl, .nil⟩, F.kp⟩
theorem good_Noted_leave (T : Txt K mg) : Good P w K mg base 3 (He.ma K (He.ga K "Noted") "leave") [] (sp_Store_leave K) := by
  obtain ⟨fd, F⟩ := T.d_Noted_leave
  exact ⟨⟨fd, _, [], ok_Store_leave T F, F.bindsN fun _ _ _ _ _ _ us hl => match us, hl with | [_, _, _, _], _ => rfl, .nil⟩, F.kp⟩
end
end HB


namespace HB
open PySem PySem.Spec PyProof.Rows L2
local macro_rules | `(tactic| walk_at "ne") => `(tactic| first | assumption | (apply Ne.symm; assumption) | exact ne_of_none (by assumption) (by assumption) | exact ne_new (by assumption) (by assumption) | (intro q; cases q; done))
local macro_rules | `(tactic| walk_at "hp") => `(tactic| first
  | assumption
  | exact upd_same
  | (refine upd_keep ?_ (by assumption); walk_at "hp")
  | (refine upd_far (by walk_at "ne") ?_; walk_at "hp")
  | (refine Same.get (by assumption) ?_; walk_at "hp")
  | (refine Kp.get (by assumption) ?_ (notin1 (by walk_at "ne")); walk_at "hp"))
local macro_rules | `(tactic| walk_at "same") => `(tactic| first
  | assumption
  | exact Same.refl _
  | (refine Same.new ?_ (by assumption); walk_at "same")
  | (refine Same.trans ?_ (by assumption); walk_at "same"))
/-- one row of a reading -/
local macro_rules | `(tactic| walk_at "r1") => `(tactic| first
  | refine ⟨_, rfl, ?_⟩
  | refine ⟨_, _, rfl, rfl, ?_⟩
  | refine ⟨rfl, ?_⟩
  | refine ⟨_, _, _, _, _, rfl, (by walk_at "hp"), (by assumption), (by assumption), rfl, ?_⟩
  | refine ⟨sz_ (by decide), fun _ _ => ?_⟩)
local macro_rules | `(tactic| walk_at "rd") => `(tactic| repeat walk_at "r1")
section
variable {P : Program} {w : World} {K : PySem.W.Frag} {mg : Str → Option Value} {base : Heap}
theorem rep_open (n : Nat) : (List.replicate n [V.str "open"]).flatten = lvs (List.replicate n .op) := by
  induction n with
  | zero => rfl
  | succ n ih =>
    rw [List.replicate_succ, List.flatten_cons, ih]
    rfl
def sp_Store_init (K : PySem.W.Frag) : Sp := fun vs H Q _ => ∃ (a cl : Addr), vs = [.ref a, .ref cl] ∧ ∃ C dx cs, H a = some (.ins C dx []) ∧ Cls K C ∧ NoAttr K C "kept" ∧ NoAttr K C "given" ∧ H cl = some (.lst (ivs cs)) ∧ 1 ≤ cs.length ∧ cs.length ≤ 60 ∧ (∀ c ∈ cs, inC c = true) ∧
  ∀ kl gl H', H kl = none → H gl = none → kl ≠ gl → Kp [a] H H' → H' a = some (.ins C dx (sF kl gl)) → H' kl = some (.lst (ivs cs)) → H' gl = some (.lst (lvs (List.replicate cs.length .op))) → Q .non H'
def nm_Store_init : List Str := ["self", "cells"]
theorem sc_Store_init : FnScope nm_Store_init ["self", "cells"] (defScope s_Store_init) := ⟨rfl, rfl, rfl, by decide +kernel, rfl, by decide +kernel, by decide +kernel⟩
theorem ok_Store_init (T : Txt K mg) {f : Addr} {fd : FuncData} {dv : List V} {kw : List (Str × V)} (F : FunD K "__init__" "Store.__init__" (defArgs s_Store_init) (defBody s_Store_init) (defScope s_Store_init) dv kw f fd) : FnOk P w K mg base (CXr P w) 4 f fd ["self", "cells"] (sp_Store_init K) := by
  refine F.ok sc_Store_init (fun vs H Q E h => ?_) (fun cdv A outer s H vs Q E hr h => ?_)
  · obtain ⟨a, cl, rfl, _⟩ := h
    rfl
  · obtain ⟨a, cl, rfl, h⟩ := h
    refine ⟨_, (pss_cons (ps_fld (pv 0) (pe_callG (good_checked_cells T) (hr.mono (by decide)) T.g_checked_cells hx_cx (pa_cons (pv 1) pa_nil)) rfl) (pss_one (ps_fld (pv 0) (pe_op op_rep (pe_lst (pa_cons (pe_gS T.s_OPEN) pa_nil)) (pe_callB call_len_seq (by rfl) T.f_len PySem.boot_len (pa_cons (pe_fld (pv 0) rfl) pa_nil))) rfl))), ?_⟩
    obtain ⟨C, dx, cs, ha, hC, n1, n2, hc, h1, h2, hin, k⟩ := h
    refine ⟨_, rfl, cl, rfl, cs, hc, h1, h2, hin, fun kl H1 hk s1 e1 => ?_⟩
    have ha1 := s1 _ _ ha
    have nak : a ≠ kl := ne_of_none ha hk
    refine ⟨_, rfl, a, C, dx, [], rfl, ha1, hC, n1, by simp, ?_⟩
    have e2 : upd H1 a (.ins C dx [("kept", .ref kl)]) kl = some (.lst (ivs cs)) := upd_far (Ne.symm nak) e1
    refine ⟨sz_ (by simp), fun p hp => ?_⟩
    have nap : a ≠ p := ne_of_none (H := upd H1 a (.ins C dx [("kept", .ref kl)])) upd_same hp
    have nkp : kl ≠ p := ne_of_none e2 hp
    have hp1 : H1 p = none := by
      rw [upd_ne (Ne.symm nap)] at hp
      exact hp
    refine ⟨_, rfl, a, C, dx, [("kept", .ref kl)], _, rfl, upd_keep upd_same hp, hC, n1, rfl, kl, _, rfl, .inl (SqL.of (upd_keep e2 hp)), ?_⟩
    have el : (((ivs cs).length : Nat) : Int) = cs.length := by simp
    refine ⟨p, _, _, rfl, rfl, upd_same, by omega, by omega, ?_, fun gl hg => ?_⟩
    · rw [el]
      exact sz_ (by simp; omega)
    · have ngp : p ≠ gl := ne_of_none (H := upd (upd H1 a (.ins C dx [("kept", .ref kl)])) p (.lst [.str "open"])) upd_same hg
      have nag : a ≠ gl := ne_of_none (upd_keep upd_same hp) hg
      have nkg : kl ≠ gl := ne_of_none (upd_keep e2 hp) hg
      have hg1 : H1 gl = none := by
        rw [upd_ne (Ne.symm ngp), upd_ne (Ne.symm nag)] at hg
        exact hg
      refine ⟨_, rfl, a, C, dx, [("kept", .ref kl)], rfl, upd_keep (upd_keep upd_same hp) hg, hC, n2, by simp, ?_⟩
      refine k kl gl _ hk (s1.free hg1) nkg ?_ upd_same ?_ ?_
      · intro b o nb e
        have nba : b ≠ a := fun z => nb (by simp [z])
        rw [upd_ne nba, upd_ne (ne_of_none (s1 _ _ e) hg1), upd_ne (ne_of_none (s1 _ _ e) hp1), upd_ne nba]
        exact s1 _ _ e
      · rw [upd_ne (Ne.symm nak), upd_ne nkg, upd_ne nkp]
        exact e2
      · rw [upd_ne (Ne.symm nag), upd_same, el]
        show some (HO.lst (List.replicate cs.length [V.str "open"]).flatten) = _
        rw [rep_open]
theorem good_Store_init (T : Txt K mg) : Good P w K mg base 4 (He.ma K (He.ga K "Store") "__init__") [] (sp_Store_init K) := by
  obtain ⟨fd, F⟩ := T.d_Store_init
  exact ⟨⟨fd, _, [], ok_Store_init T F, F.bindsN fun _ _ _ _ _ _ us hl => match us, hl with | [_, _], _ => rfl, .nil⟩, F.kp⟩
/-- Noted's class has Store's __init__ behind Store.__init__ -/
def sp_Store_copied (K : PySem.W.Frag) : Sp := fun vs H Q _ => ∃ (a : Addr), vs = [.ref a] ∧ ∃ dx kl gl cs lv, H a = some (.ins (He.ga K "Store") dx (sF kl gl)) ∧ CelI H kl gl cs lv ∧ 1 ≤ cs.length ∧ cs.length ≤ 60 ∧ (∀ c ∈ cs, inC c = true) ∧ ∀ a' H', H a' = none → Same H H' → Q (.ref a') H'
def nm_Store_copied : List Str := ["self", "twin", "cell", "word"]
theorem sc_Store_copied : FnScope nm_Store_copied ["self"] (defScope s_Store_copied) := ⟨rfl, rfl, rfl, by decide +kernel, rfl, by decide +kernel, by decide +kernel⟩
theorem ok_Store_copied (T : Txt K mg) {f : Addr} {fd : FuncData} {dv : List V} {kw : List (Str × V)} (F : FunD K "copied" "Store.copied" (defArgs s_Store_copied) (defBody s_Store_copied) (defScope s_Store_copied) dv kw f fd) : FnOk P w K mg base (CXr P w) 6 f fd ["self"] (sp_Store_copied K) := by
  refine F.ok sc_Store_copied (fun vs H Q E h => ?_) (fun cdv A outer s H vs Q E hr h => ?_)
  · obtain ⟨a, rfl, _⟩ := h
    rfl
  · obtain ⟨a, rfl, h⟩ := h
    refine ⟨_, (pss_cons (ps_set (i := 1) sc_Store_copied.nd rfl (Or.inl rfl) (pe_makeG T.k_Store (good_Store_init T) (hr.mono (by decide)) T.g_Store hx_cx (pa_cons (pe_fld (pv 0) rfl) pa_nil))) (pss_cons (ps_for po_cx rfl (pi_enum (by rfl) T.f_enumerate (pa_cons (pe_fld (pv 0) rfl) pa_nil)) (pg_tup rfl (pgs_cons (pg_name (i := 2) sc_Store_copied.nd rfl (Or.inl rfl)) (pgs_cons (pg_name (i := 3) sc_Store_copied.nd rfl (Or.inl rfl)) pgs_nil))) (pss_one (ps_expr (pe_methG (pv 1) T.c_Store T.m_Store_leave (good_Store_leave T) (hr.mono (by decide)) hx_cx (pa_cons (pv 2) (pa_cons (pe_op op_add (pv 2) pe_int) (pa_cons (pv 3) pa_nil))))))) (pss_one (ps_ret (pv 1))))), ?_⟩
    obtain ⟨dx, kl, gl, cs, lv, ha, hc, h1, h2, hin, k⟩ := h
    refine ⟨_, rfl, a, _, dx, _, _, rfl, ha, T.c_Store, T.n_Store_kept, rfl, ?_⟩
    intro b bx nb nx ne
    have s0 : Same H (upd (upd H bx (.own b)) b (.ins (He.ga K "Store") bx [])) := fun c o e => by
      rw [upd_ne (ne_of_none e nb), upd_ne (ne_of_none e nx)]
      exact e
    refine ⟨b, kl, rfl, _, bx, cs, upd_same, T.c_Store, T.n_Store_kept, T.n_Store_given, s0 _ _ hc.k, h1, h2, hin, fun kl' gl' H1 f1 f2 n1 q1 i1 l1 g1 => ⟨rfl, ?_⟩⟩
    have s1 : Same H H1 := fun c o e => q1 c o (notin1 (ne_of_none e nb)) (s0 c o e)
    have nbg : b ≠ gl' := ne_of_none (H := upd (upd H bx (.own b)) b (.ins (He.ga K "Store") bx [])) upd_same f2
    have f2' := s0.free f2
    refine ⟨_, rfl, a, _, dx, _, _, rfl, s1 _ _ ha, T.c_Store, T.n_Store_given, rfl, _, lvs lv, rfl, SqL.of (s1 _ _ hc.g), for_it (walk_enum (xs := lvs lv)) (fun i σ H2 => (∃ v1 v2 : Option V, σ = [some (.ref a), some (.ref b), v1, v2]) ∧
      Same H H2 ∧ H2 b = some (.ins (He.ga K "Store") bx (sF kl' gl')) ∧ H2 kl' = some (.lst (ivs cs)) ∧ ∃ lv', H2 gl' = some (.lst (lvs lv')) ∧ lv'.length = lv.length) ⟨⟨_, _, rfl⟩, s1, i1, l1, _, g1, by rw [List.length_replicate]; exact hc.len⟩ (fun i σ H2 _ q => SqL.of (q.2.1 _ _ hc.g)) ?_ fun σ H2 q => ?_⟩
    · rintro i x σ H2 H3 hi ⟨⟨v1, v2, rfl⟩, q1, q2, q3, lv', q4, q5⟩ ⟨t, x', y', rfl, ht, rfl, ex, ey⟩
      cases ex
      obtain ⟨c, ec, rfl⟩ := lvs_get ey
      have hi' : i < lv.length := (List.getElem?_eq_some_iff.mp ec).1
      refine ⟨t, _, rfl, SqT.of upd_same, rfl, _, _, rfl, _, _, rfl, rfl, ?_⟩
      refine ⟨_, rfl, b, bx, _, rfl, upd_keep q2 ht, rfl, _, rfl, _, rfl, _, _, rfl, rfl, _, rfl, ?_⟩
      refine ⟨b, i, some ((i : Int) + 1), c.nm, rfl, kl', gl', _, lv', stoI_S T (upd_keep q2 ht), upd_keep q3 ht, upd_keep q4 ht, by rw [List.length_map, q5]; exact hc.len, by have := hc.len; omega, .inl ⟨_, c, rfl, rfl, by omega, by omega, by omega, fun H4 k4 g4 => ?_⟩⟩
      have nkg : kl' ≠ gl' := n1
      exact ⟨⟨_, _, rfl⟩, fun d o e => k4 _ _ (notin1 (ne_of_none e f2')) (upd_keep (q1 _ _ e) ht), k4 _ _ (notin1 nbg) (upd_keep q2 ht), k4 _ _ (notin1 nkg) (upd_keep q3 ht), _, g4, by rw [lvSet_len]; exact q5⟩
    · obtain ⟨⟨v1, v2, rfl⟩, q1, _⟩ := q
      exact ⟨_, rfl, k b H2 nb q1⟩
theorem good_Store_copied (T : Txt K mg) : Good P w K mg base 6 (He.ma K (He.ga K "Store") "copied") [] (sp_Store_copied K) := by
  obtain ⟨fd, F⟩ := T.d_Store_copied
  exact ⟨⟨fd, _, [], ok_Store_copied T F, F.bindsN fun _ _ _ _ _ _ us hl => match us, hl with | [_], _ => rfl, .nil⟩, F.kp⟩
def sp_Noted_init (K : PySem.W.Frag) : Sp := fun vs H Q _ => ∃ (a cl ll : Addr), vs = [.ref a, .ref cl, .ref ll] ∧ ∃ dx cs lv, H a = some (.ins (He.ga K "Noted") dx []) ∧ H cl = some (.lst (ivs cs)) ∧ H ll = some (.lst (lvs lv)) ∧ 1 ≤ cs.length ∧ cs.length ≤ 60 ∧ (∀ c ∈ cs, inC c = true) ∧
  ∀ kl gl pl H', H kl = none → H gl = none → H pl = none → kl ≠ gl → kl ≠ pl → gl ≠ pl → Kp [a] H H' → NotI K H' a dx kl gl pl → H' kl = some (.lst (ivs cs)) → H' gl = some (.lst (lvs lv)) → H' pl = some (.lst []) → Q .non H'
def nm_Noted_init : List Str := ["self", "cells", "leaves"]
theorem sc_Noted_init : FnScope nm_Noted_init ["self", "cells", "leaves"] (defScope s_Noted_init) := ⟨rfl, rfl, rfl, by decide +kernel, rfl, by decide +kernel, by decide +kernel⟩
theorem ok_Noted_init (T : Txt K mg) {f : Addr} {fd : FuncData} {dv : List V} {kw : List (Str × V)} (F : FunD K "__init__" "Noted.__init__" (defArgs s_Noted_init) (defBody s_Noted_init) (defScope s_Noted_init) dv kw f fd) : FnOk P w K mg base (CXr P w) 5 f fd ["self", "cells", "leaves"] (sp_Noted_init K) := by
  refine F.ok sc_Noted_init (fun vs H Q E h => ?_) (fun cdv A outer s H vs Q E hr h => ?_)
  · obtain ⟨a, cl, ll, rfl, _⟩ := h
    rfl
  · obtain ⟨a, cl, ll, rfl, h⟩ := h
    refine ⟨_, (pss_cons (ps_expr (pe_callC T.g_Store T.cm_Store_init (good_Store_init T) (hr.mono (by decide)) hx_cx (pa_cons (pv 0) (pa_cons (pv 1) pa_nil)))) (pss_cons (ps_fld (pv 0) (pe_callTy call_list_of (by rfl) T.f_list (by decide +kernel) (pa_cons (pv 2) pa_nil)) rfl) (pss_one (ps_fld (pv 0) (pe_lst pa_nil) rfl)))), ?_⟩
    obtain ⟨dx, cs, lv, ha, hc, hl, h1, h2, hin, k⟩ := h
    refine ⟨_, rfl, _, rfl, a, cl, rfl, _, dx, cs, ha, T.c_Noted, T.n_Noted_kept, T.n_Noted_given, hc, h1, h2, hin, fun kl g0 H1 f1 f2 n1 q1 i1 l1 g1 => ?_⟩
    have nal : a ≠ ll := ne_of ha hl (by intro z; cases z)
    have hl1 : H1 ll = some (.lst (lvs lv)) := q1 _ _ (notin1 (Ne.symm nal)) hl
    have nak : a ≠ kl := ne_of_none ha f1
    refine ⟨_, rfl, ll, _, rfl, .inl (SqL.of hl1), fun gl hg => ?_⟩
    have nag : a ≠ gl := ne_of_none i1 hg
    have nkg : kl ≠ gl := ne_of_none l1 hg
    have hg0 : H gl = none := by
      cases e : H gl with
      | none => rfl
      | some o =>
        rw [q1 _ _ (notin1 (Ne.symm nag)) e] at hg
        cases hg
    refine ⟨_, rfl, a, _, dx, _, rfl, upd_keep i1 hg, T.c_Noted, T.n_Noted_given, by simp [sF], ?_⟩
    have ep : putF "given" (.ref gl) (sF kl g0) = sF kl gl := rfl
    rw [ep]
    refine ⟨by show 0 ≤ sizeLine; exact Nat.zero_le _, fun pl hp => ?_⟩
    have nap : a ≠ pl := ne_of_none (H := upd (upd H1 gl (.lst (lvs lv))) a (.ins (He.ga K "Noted") dx (sF kl gl))) upd_same hp
    have hp1 : upd H1 gl (.lst (lvs lv)) pl = none := by
      rw [upd_ne (Ne.symm nap)] at hp
      exact hp
    have ngp : gl ≠ pl := ne_of_none (H := upd H1 gl (.lst (lvs lv))) upd_same hp1
    have hp2 : H1 pl = none := by
      rw [upd_ne (Ne.symm ngp)] at hp1
      exact hp1
    have nkp : kl ≠ pl := ne_of_none l1 hp2
    have hp0 : H pl = none := by
      cases e : H pl with
      | none => rfl
      | some o =>
        rw [q1 _ _ (notin1 (Ne.symm nap)) e] at hp2
        cases hp2
    refine ⟨_, rfl, a, _, dx, _, rfl, upd_keep upd_same hp, T.c_Noted, T.n_Noted_puts, by simp [sF], ?_⟩
    refine k kl gl pl _ f1 hg0 hp0 nkg nkp ngp (fun b o nb e => ?_) upd_same ?_ ?_ ?_
    · have nba : b ≠ a := fun z => nb (by simp [z])
      have e1 := q1 b o nb e
      rw [upd_ne nba, upd_ne (ne_of_none e1 hp2), upd_ne nba, upd_ne (ne_of_none e1 hg)]
      exact e1
    · rw [upd_ne (Ne.symm nak), upd_ne nkp, upd_ne (Ne.symm nak), upd_ne nkg]
      exact l1
    · rw [upd_ne (Ne.symm nag), upd_ne ngp, upd_ne (Ne.symm nag), upd_same]
    · rw [upd_ne (Ne.symm nap), upd_same]
theorem good_Noted_init (T : Txt K mg) : Good P w K mg base 5 (He.ma K (He.ga K "Noted") "__init__") [] (sp_Noted_init K) := by
  obtain ⟨fd, F⟩ := T.d_Noted_init
  exact ⟨⟨fd, _, [], ok_Noted_init T F, F.bindsN fun _ _ _ _ _ _ us hl => match us, hl with | [_, _, _], _ => rfl, .nil⟩, F.kp⟩
/-! the contents put back -/
def undoM (cs : List Int) (ch : Ch) : List Int := ch.reverse.foldl (fun cs e => st_ cs e.1 e.2.1) cs
/-- the tuples at ts are the changes ch -/
def ChI (H : Hp) (ts : List Addr) (ch : Ch) : Prop := ts.length = ch.length ∧ ∀ (i : Nat) (t : Addr) (e : Int × Int × Int), ts[i]? = some t → ch[i]? = some e → H t = some (.tup [.int e.1, .int e.2.1, .int e.2.2])
theorem st_len (cs : List Int) (c v : Int) : (st_ cs c v).length = cs.length := by simp [st_]
theorem take_succ' {α : Type} {l : List α} {i : Nat} {x : α} (h : l[i]? = some x) : l.take (i + 1) = l.take i ++ [x] := by
  rw [List.take_add_one, h]
  rfl
def sp_Noted_put_back (K : PySem.W.Frag) : Sp := fun vs H Q _ => ∃ (a ql : Addr), vs = [.ref a, .ref ql] ∧ ∃ dx kl gl pl cs ts ch, NotI K H a dx kl gl pl ∧ H kl = some (.lst (ivs cs)) ∧ H ql = some (.lst (ts.map V.ref)) ∧ ChI H ts ch ∧ (∀ e ∈ ch, 0 ≤ e.1 ∧ e.1 < (cs.length : Int)) ∧
  ∀ H', Kp [kl] H H' → H' kl = some (.lst (ivs (undoM cs ch))) → Q .non H'
def nm_Noted_put_back : List Str := ["self", "puts", "cell", "before", "behind"]
theorem sc_Noted_put_back : FnScope nm_Noted_put_back ["self", "puts"] (defScope s_Noted_put_back) := ⟨rfl, rfl, rfl, by decide +kernel, rfl, by decide +kernel, by decide +kernel⟩
theorem ok_Noted_put_back (T : Txt K mg) {f : Addr} {fd : FuncData} {dv : List V} {kw : List (Str × V)} (F : FunD K "put_back" "Noted.put_back" (defArgs s_Noted_put_back) (defBody s_Noted_put_back) (defScope s_Noted_put_back) dv kw f fd) : FnOk P w K mg base (CXr P w) 1 f fd ["self", "puts"] (sp_Noted_put_back K) := by
  refine F.ok sc_Noted_put_back (fun vs H Q E h => ?_) (fun cdv A outer s H vs Q E hr h => ?_)
  · obtain ⟨a, ql, rfl, _⟩ := h
    rfl
  · obtain ⟨a, ql, rfl, h⟩ := h
    refine ⟨_, (pss_one (ps_for po_cx rfl (pi_list (pe_revL (pv 1))) (pg_tup rfl (pgs_cons (pg_name (i := 2) sc_Noted_put_back.nd rfl (Or.inl rfl)) (pgs_cons (pg_name (i := 3) sc_Noted_put_back.nd rfl (Or.inl rfl)) (pgs_cons (pg_name (i := 4) sc_Noted_put_back.nd rfl (Or.inl rfl)) pgs_nil)))) (pss_one (ps_asg (pv 3) (pg_sub (pe_fld (pv 0) rfl) (pv 2) set_list))))), ?_⟩
    obtain ⟨dx, kl, gl, pl, cs, ts, ch, ha, hk, hq, ⟨hl, ht⟩, hin, k⟩ := h
    have nak : a ≠ kl := ne_of ha hk (by intro z; cases z)
    refine ⟨_, rfl, ql, _, rfl, SqL.of hq, fun p hp => ?_⟩
    have npk : kl ≠ p := ne_of_none hk hp
    refine ⟨p, rfl, ⟨_, SqL.of upd_same⟩, for_list (K := K) (a := p) (xs := (ts.map V.ref).reverse) (fun i σ H1 => (∃ v1 v2 v3 : Option V, σ = [some (.ref a), some (.ref ql), v1, v2, v3]) ∧ Kp [kl] H H1 ∧ H1 p = some (.lst (ts.map V.ref).reverse) ∧
      H1 kl = some (.lst (ivs ((ch.reverse.take i).foldl (fun cs e => st_ cs e.1 e.2.1) cs))) ∧ ((ch.reverse.take i).foldl (fun cs e => st_ cs e.1 e.2.1) cs).length = cs.length) ⟨⟨_, _, _, rfl⟩, Kp.refl.new hp, upd_same, upd_keep hk hp, rfl⟩ (fun i σ H1 _ q => SqL.of q.2.2.1) ?_ fun σ H1 q => ?_⟩
    · rintro i x σ H1 hi ⟨⟨v1, v2, v3, rfl⟩, q1, q2, q3, q4⟩
      rw [← List.map_reverse, List.getElem?_map] at hi
      obtain ⟨t, et, rfl⟩ : ∃ t, ts.reverse[i]? = some t ∧ x = V.ref t := by
        cases e : ts.reverse[i]? with
        | none =>
          rw [e] at hi
          cases hi
        | some t =>
          rw [e] at hi
          exact ⟨t, rfl, (Option.some.inj hi).symm⟩
      have hi' : i < ts.length := by
        have := (List.getElem?_eq_some_iff.mp et).1
        simpa using this
      have et' : ts[ts.length - 1 - i]? = some t := by
        rw [List.getElem?_reverse hi'] at et
        exact et
      obtain ⟨e, ee⟩ : ∃ e, ch[ts.length - 1 - i]? = some e := ⟨ch[ts.length - 1 - i]'(by omega), by simp⟩
      have ee' : ch.reverse[i]? = some e := by
        rw [List.getElem?_reverse (by omega), ← hl]
        exact ee
      have tt := ht _ _ _ et' ee
      have ntk : t ≠ kl := ne_of tt hk (by intro z; cases z)
      obtain ⟨i0, i1⟩ := hin e (List.mem_of_getElem? ee)
      refine ⟨t, _, rfl, SqT.of (q1 _ _ (notin1 ntk) tt), rfl, _, _, rfl, _, _, rfl, _, _, rfl, rfl, ?_⟩
      refine ⟨_, rfl, _, rfl, a, _, dx, _, _, rfl, q1 _ _ (notin1 nak) ha, T.c_Noted, T.n_Noted_kept, rfl, _, rfl, kl, _, _, _, rfl, rfl, q3, ixN_int i0 (by rw [List.length_map, q4]; exact i1), ?_⟩
      rw [set_ivs]
      have fe : (ch.reverse.take (i + 1)).foldl (fun cs e => st_ cs e.1 e.2.1) cs = st_ ((ch.reverse.take i).foldl (fun cs e => st_ cs e.1 e.2.1) cs) e.1 e.2.1 := by
        rw [take_succ' ee', List.foldl_append]
        rfl
      refine ⟨⟨_, _, _, rfl⟩, q1.set (by simp), ?_, ?_, ?_⟩
      · rw [upd_ne (Ne.symm npk)]
        exact q2
      · rw [upd_same, fe]
      · rw [fe, st_len]
        exact q4
    · refine k H1 q.2.1 ?_
      rw [q.2.2.2.1]
      unfold undoM
      rw [List.take_of_length_le (by simp; omega)]
theorem good_Noted_put_back (T : Txt K mg) : Good P w K mg base 1 (He.ma K (He.ga K "Noted") "put_back") [] (sp_Noted_put_back K) := by
  obtain ⟨fd, F⟩ := T.d_Noted_put_back
  exact ⟨⟨fd, _, [], ok_Noted_put_back T F, F.bindsN fun _ _ _ _ _ _ us hl => match us, hl with | [_, _], _ => rfl, .nil⟩, F.kp⟩
end
end HB


namespace HB
open PySem PySem.Spec PyProof.Rows L2
local macro_rules | `(tactic| walk_at "ne") => `(tactic| first | assumption | (apply Ne.symm; assumption) | exact ne_of_none (by assumption) (by assumption) | exact ne_new (by assumption) (by assumption) | (intro q; cases q; done))
local macro_rules | `(tactic| walk_at "hp") => `(tactic| first
  | assumption
  | exact upd_same
  | (refine upd_keep ?_ (by assumption); walk_at "hp")
  | (refine upd_far (by walk_at "ne") ?_; walk_at "hp")
  | (refine Same.get (by assumption) ?_; walk_at "hp")
  | (refine Kp.get (by assumption) ?_ (notin1 (by walk_at "ne")); walk_at "hp"))
local macro_rules | `(tactic| walk_at "same") => `(tactic| first
  | assumption
  | exact Same.refl _
  | (refine Same.new ?_ (by assumption); walk_at "same")
  | (refine Same.trans ?_ (by assumption); walk_at "same"))
/-- one row of a reading -/
local macro_rules | `(tactic| walk_at "r1") => `(tactic| first
  | refine ⟨_, rfl, ?_⟩
  | refine ⟨_, _, rfl, rfl, ?_⟩
  | refine ⟨rfl, ?_⟩
  | refine ⟨_, _, _, _, _, rfl, (by walk_at "hp"), (by assumption), (by assumption), rfl, ?_⟩
  | refine ⟨sz_ (by decide), fun _ _ => ?_⟩)
local macro_rules | `(tactic| walk_at "rd") => `(tactic| repeat walk_at "r1")
section
variable {P : Program} {w : World} {K : PySem.W.Frag} {mg : Str → Option Value} {base : Heap}
/-! ### deeds -/
def sp_check_boxes : Sp := fun vs H Q _ => ∃ (z : Str) (l : Addr), vs = [.str z, .ref l] ∧ ∃ bs : List Bx, H l = some (.lst (bs.map fun b => V.str b.nm)) ∧ Q .non H
def nm_check_boxes : List Str := ["word", "boxes", "box"]
theorem sc_check_boxes : FnScope nm_check_boxes ["word", "boxes"] (defScope s_check_boxes) := ⟨rfl, rfl, rfl, by decide +kernel, rfl, by decide +kernel, by decide +kernel⟩
theorem ok_check_boxes (T : Txt K mg) {f : Addr} {fd : FuncData} {dv : List V} {kw : List (Str × V)} (F : FunD K "check_boxes" "check_boxes" (defArgs s_check_boxes) (defBody s_check_boxes) (defScope s_check_boxes) dv kw f fd) : FnOk P w K mg base (CXr P w) 2 f fd ["word", "boxes"] (sp_check_boxes) := by
  refine F.ok sc_check_boxes (fun vs H Q E h => ?_) (fun cdv A outer s H vs Q E hr h => ?_)
  · obtain ⟨z, l, rfl, _⟩ := h
    rfl
  · obtain ⟨z, l, rfl, h⟩ := h
    refine ⟨_, (pss_one (ps_for po_cx rfl (pi_list (pv 1)) (pg_name (i := 2) sc_check_boxes.nd rfl (Or.inl rfl)) (pss_one (ps_if (pt_not (pt_val (pe_callG (good_is_box T) (hr.mono (by decide)) T.g_is_box hx_cx (pa_cons (pv 2) pa_nil)))) (pss_one ps_never) pss_nil)))), ?_⟩
    obtain ⟨bs, hl, k⟩ := h
    refine ⟨_, rfl, l, rfl, ⟨_, SqL.of hl⟩, for_list (K := K) (a := l) (xs := bs.map fun b => V.str b.nm) (fun i σ H1 => (∃ v : Option V, σ = [some (.str z), some (.ref l), v]) ∧ H1 = H) ⟨⟨_, rfl⟩, rfl⟩ (fun i σ H1 _ q => by rw [q.2]; exact SqL.of hl) ?_ fun σ H1 q => by rw [q.2]; exact k⟩
    rintro i x σ H1 hi ⟨⟨v, rfl⟩, rfl⟩
    rw [List.getElem?_map] at hi
    cases e : bs[i]? with
    | none =>
      rw [e] at hi
      cases hi
    | some b =>
      rw [e] at hi
      cases hi
      exact ⟨_, rfl, b, rfl, _, rfl, iteF ⟨⟨_, rfl⟩, rfl⟩⟩
theorem good_check_boxes (T : Txt K mg) : Good P w K mg base 2 (He.ga K "check_boxes") [] (sp_check_boxes) := by
  obtain ⟨fd, F⟩ := T.d_check_boxes
  exact ⟨⟨fd, _, [], ok_check_boxes T F, F.bindsN fun _ _ _ _ _ _ us hl => match us, hl with | [_, _], _ => rfl, .nil⟩, F.kp⟩
def sp_check_number : Sp := fun vs H Q _ => ∃ (z : Str) (n : Int), vs = [.str z, .int n] ∧ -1000000000 ≤ n ∧ n ≤ 1000000000 ∧ Q .non H
def nm_check_number : List Str := ["word", "number"]
theorem sc_check_number : FnScope nm_check_number ["word", "number"] (defScope s_check_number) := ⟨rfl, rfl, rfl, by decide +kernel, rfl, by decide +kernel, by decide +kernel⟩
theorem ok_check_number (T : Txt K mg) {f : Addr} {fd : FuncData} {dv : List V} {kw : List (Str × V)} (F : FunD K "check_number" "check_number" (defArgs s_check_number) (defBody s_check_number) (defScope s_check_number) dv kw f fd) : FnOk P w K mg base (CXr P w) 2 f fd ["word", "number"] (sp_check_number) := by
  refine F.ok sc_check_number (fun vs H Q E h => ?_) (fun cdv A outer s H vs Q E hr h => ?_)
  · obtain ⟨z, n, rfl, _⟩ := h
    rfl
  · obtain ⟨z, n, rfl, h⟩ := h
    refine ⟨_, (pss_one (ps_if (PW.pt (pw_or (pt_not (pt_val (pe_callG (good_is_whole T) (hr.mono (by decide)) T.g_is_whole hx_cx (pa_cons (pv 1) pa_nil)))) (pw_or1 (pt_cmpR op_gt (pe_callB call_abs (by rfl) T.f_abs (by decide +kernel) (pa_cons (pv 1) pa_nil)) (pe_gI T.i_MOST_HELD) (nomark _))))) (pss_one ps_never) pss_nil)), ?_⟩
    obtain ⟨h1, h2, k⟩ := h
    refine ⟨_, rfl, _, rfl, true, rfl, _, rfl, iteF ?_⟩
    refine ⟨_, rfl, _, rfl, _, _, rfl, rfl, _, rfl, ?_⟩
    have e : decide ((1000000000 : Int) < (if n < 0 then -n else n)) = false := by
      refine decide_eq_false ?_
      by_cases c : n < 0
      · rw [if_pos c]
        omega
      · rw [if_neg c]
        omega
    rw [e]
    exact iteF k
theorem good_check_number (T : Txt K mg) : Good P w K mg base 2 (He.ga K "check_number") [] (sp_check_number) := by
  obtain ⟨fd, F⟩ := T.d_check_number
  exact ⟨⟨fd, _, [], ok_check_number T F, F.bindsN fun _ _ _ _ _ _ us hl => match us, hl with | [_, _], _ => rfl, .nil⟩, F.kp⟩
def boxV (b : Bx) : V := .str b.nm
def sp_Set_init (K : PySem.W.Frag) : Sp := fun vs H Q _ => ∃ (a : Addr) (b : Bx) (n : Int), vs = [.ref a, .str b.nm, .int n] ∧ ∃ dx, H a = some (.ins (He.ga K "Set") dx []) ∧ -1000000000 ≤ n ∧ n ≤ 1000000000 ∧
  ∀ H', Kp [a] H H' → H' a = some (.ins (He.ga K "Set") dx [("box", .str b.nm), ("number", .int n)]) → Q .non H'
def nm_Set_init : List Str := ["self", "box", "number"]
theorem sc_Set_init : FnScope nm_Set_init ["self", "box", "number"] (defScope s_Set_init) := ⟨rfl, rfl, rfl, by decide +kernel, rfl, by decide +kernel, by decide +kernel⟩
theorem ok_Set_init (T : Txt K mg) {f : Addr} {fd : FuncData} {dv : List V} {kw : List (Str × V)} (F : FunD K "__init__" "Set.__init__" (defArgs s_Set_init) (defBody s_Set_init) (defScope s_Set_init) dv kw f fd) : FnOk P w K mg base (CXr P w) 3 f fd ["self", "box", "number"] (sp_Set_init K) := by
  refine F.ok sc_Set_init (fun vs H Q E h => ?_) (fun cdv A outer s H vs Q E hr h => ?_)
  · obtain ⟨a, b, n, rfl, _⟩ := h
    rfl
  · obtain ⟨a, b, n, rfl, h⟩ := h
    refine ⟨_, (pss_cons (ps_expr (pe_callG (good_check_boxes T) (hr.mono (by decide)) T.g_check_boxes hx_cx (pa_cons pe_str (pa_cons (pe_lst (pa_cons (pv 1) pa_nil)) pa_nil)))) (pss_cons (ps_expr (pe_callG (good_check_number T) (hr.mono (by decide)) T.g_check_number hx_cx (pa_cons pe_str (pa_cons (pv 2) pa_nil)))) (pss_cons (ps_fld (pv 0) (pv 1) rfl) (pss_one (ps_fld (pv 0) (pv 2) rfl))))), ?_⟩
    obtain ⟨dx, ha, h1, h2, k⟩ := h
    refine ⟨_, rfl, sz_ (by simp), fun l hl => ?_⟩
    refine ⟨_, l, rfl, [b], upd_same, ?_⟩
    refine ⟨_, rfl, _, n, rfl, h1, h2, ?_⟩
    refine ⟨_, rfl, _, rfl, a, _, dx, [], rfl, upd_keep ha hl, T.c_Set, T.n_Set_box, by simp, ?_⟩
    refine ⟨_, rfl, _, rfl, a, _, dx, _, rfl, upd_same, T.c_Set, T.n_Set_number, by simp [putF], ?_⟩
    exact k _ (((Kp.refl.new hl).set (by simp)).set (by simp)) upd_same
theorem good_Set_init (T : Txt K mg) : Good P w K mg base 3 (He.ma K (He.ga K "Set") "__init__") [] (sp_Set_init K) := by
  obtain ⟨fd, F⟩ := T.d_Set_init
  exact ⟨⟨fd, _, [], ok_Set_init T F, F.bindsN fun _ _ _ _ _ _ us hl => match us, hl with | [_, _, _], _ => rfl, .nil⟩, F.kp⟩
def sp_Add_init (K : PySem.W.Frag) : Sp := fun vs H Q _ => ∃ (a : Addr) (b : Bx) (n : Int), vs = [.ref a, .str b.nm, .int n] ∧ ∃ dx, H a = some (.ins (He.ga K "Add") dx []) ∧ -1000000000 ≤ n ∧ n ≤ 1000000000 ∧
  ∀ H', Kp [a] H H' → H' a = some (.ins (He.ga K "Add") dx [("box", .str b.nm), ("number", .int n)]) → Q .non H'
def nm_Add_init : List Str := ["self", "box", "number"]
theorem sc_Add_init : FnScope nm_Add_init ["self", "box", "number"] (defScope s_Add_init) := ⟨rfl, rfl, rfl, by decide +kernel, rfl, by decide +kernel, by decide +kernel⟩
theorem ok_Add_init (T : Txt K mg) {f : Addr} {fd : FuncData} {dv : List V} {kw : List (Str × V)} (F : FunD K "__init__" "Add.__init__" (defArgs s_Add_init) (defBody s_Add_init) (defScope s_Add_init) dv kw f fd) : FnOk P w K mg base (CXr P w) 3 f fd ["self", "box", "number"] (sp_Add_init K) := by
  refine F.ok sc_Add_init (fun vs H Q E h => ?_) (fun cdv A outer s H vs Q E hr h => ?_)
  · obtain ⟨a, b, n, rfl, _⟩ := h
    rfl
  · obtain ⟨a, b, n, rfl, h⟩ := h
    refine ⟨_, (pss_cons (ps_expr (pe_callG (good_check_boxes T) (hr.mono (by decide)) T.g_check_boxes hx_cx (pa_cons pe_str (pa_cons (pe_lst (pa_cons (pv 1) pa_nil)) pa_nil)))) (pss_cons (ps_expr (pe_callG (good_check_number T) (hr.mono (by decide)) T.g_check_number hx_cx (pa_cons pe_str (pa_cons (pv 2) pa_nil)))) (pss_cons (ps_fld (pv 0) (pv 1) rfl) (pss_one (ps_fld (pv 0) (pv 2) rfl))))), ?_⟩
    obtain ⟨dx, ha, h1, h2, k⟩ := h
    refine ⟨_, rfl, sz_ (by simp), fun l hl => ?_⟩
    refine ⟨_, l, rfl, [b], upd_same, ?_⟩
    refine ⟨_, rfl, _, n, rfl, h1, h2, ?_⟩
    refine ⟨_, rfl, _, rfl, a, _, dx, [], rfl, upd_keep ha hl, T.c_Add, T.n_Add_box, by simp, ?_⟩
    refine ⟨_, rfl, _, rfl, a, _, dx, _, rfl, upd_same, T.c_Add, T.n_Add_number, by simp [putF], ?_⟩
    exact k _ (((Kp.refl.new hl).set (by simp)).set (by simp)) upd_same
theorem good_Add_init (T : Txt K mg) : Good P w K mg base 3 (He.ma K (He.ga K "Add") "__init__") [] (sp_Add_init K) := by
  obtain ⟨fd, F⟩ := T.d_Add_init
  exact ⟨⟨fd, _, [], ok_Add_init T F, F.bindsN fun _ _ _ _ _ _ us hl => match us, hl with | [_, _, _], _ => rfl, .nil⟩, F.kp⟩
def sp_Take_init (K : PySem.W.Frag) : Sp := fun vs H Q _ => ∃ (a : Addr) (b c : Bx), vs = [.ref a, .str b.nm, .str c.nm] ∧ ∃ dx, H a = some (.ins (He.ga K "Take") dx []) ∧
  ∀ H', Kp [a] H H' → H' a = some (.ins (He.ga K "Take") dx [("box", .str b.nm), ("other", .str c.nm)]) → Q .non H'
def nm_Take_init : List Str := ["self", "box", "other"]
theorem sc_Take_init : FnScope nm_Take_init ["self", "box", "other"] (defScope s_Take_init) := ⟨rfl, rfl, rfl, by decide +kernel, rfl, by decide +kernel, by decide +kernel⟩
theorem ok_Take_init (T : Txt K mg) {f : Addr} {fd : FuncData} {dv : List V} {kw : List (Str × V)} (F : FunD K "__init__" "Take.__init__" (defArgs s_Take_init) (defBody s_Take_init) (defScope s_Take_init) dv kw f fd) : FnOk P w K mg base (CXr P w) 3 f fd ["self", "box", "other"] (sp_Take_init K) := by
  refine F.ok sc_Take_init (fun vs H Q E h => ?_) (fun cdv A outer s H vs Q E hr h => ?_)
  · obtain ⟨a, b, c, rfl, _⟩ := h
    rfl
  · obtain ⟨a, b, c, rfl, h⟩ := h
    refine ⟨_, (pss_cons (ps_expr (pe_callG (good_check_boxes T) (hr.mono (by decide)) T.g_check_boxes hx_cx (pa_cons pe_str (pa_cons (pe_lst (pa_cons (pv 1) (pa_cons (pv 2) pa_nil))) pa_nil)))) (pss_cons (ps_fld (pv 0) (pv 1) rfl) (pss_one (ps_fld (pv 0) (pv 2) rfl)))), ?_⟩
    obtain ⟨dx, ha, k⟩ := h
    refine ⟨_, rfl, _, rfl, sz_ (by simp), fun l hl => ?_⟩
    refine ⟨_, l, rfl, [b, c], upd_same, ?_⟩
    refine ⟨_, rfl, _, rfl, a, _, dx, [], rfl, upd_keep ha hl, T.c_Take, T.n_Take_box, by simp, ?_⟩
    refine ⟨_, rfl, _, rfl, a, _, dx, _, rfl, upd_same, T.c_Take, T.n_Take_other, by simp [putF], ?_⟩
    exact k _ (((Kp.refl.new hl).set (by simp)).set (by simp)) upd_same
theorem good_Take_init (T : Txt K mg) : Good P w K mg base 3 (He.ma K (He.ga K "Take") "__init__") [] (sp_Take_init K) := by
  obtain ⟨fd, F⟩ := T.d_Take_init
  exact ⟨⟨fd, _, [], ok_Take_init T F, F.bindsN fun _ _ _ _ _ _ us hl => match us, hl with | [_, _, _], _ => rfl, .nil⟩, F.kp⟩
def sp_Read_init (K : PySem.W.Frag) : Sp := fun vs H Q _ => ∃ (a : Addr) (b : Bx), vs = [.ref a, .str b.nm] ∧ ∃ dx, H a = some (.ins (He.ga K "Read") dx []) ∧
  ∀ H', Kp [a] H H' → H' a = some (.ins (He.ga K "Read") dx [("box", .str b.nm)]) → Q .non H'
def nm_Read_init : List Str := ["self", "box"]
theorem sc_Read_init : FnScope nm_Read_init ["self", "box"] (defScope s_Read_init) := ⟨rfl, rfl, rfl, by decide +kernel, rfl, by decide +kernel, by decide +kernel⟩
theorem ok_Read_init (T : Txt K mg) {f : Addr} {fd : FuncData} {dv : List V} {kw : List (Str × V)} (F : FunD K "__init__" "Read.__init__" (defArgs s_Read_init) (defBody s_Read_init) (defScope s_Read_init) dv kw f fd) : FnOk P w K mg base (CXr P w) 3 f fd ["self", "box"] (sp_Read_init K) := by
  refine F.ok sc_Read_init (fun vs H Q E h => ?_) (fun cdv A outer s H vs Q E hr h => ?_)
  · obtain ⟨a, b, rfl, _⟩ := h
    rfl
  · obtain ⟨a, b, rfl, h⟩ := h
    refine ⟨_, (pss_cons (ps_expr (pe_callG (good_check_boxes T) (hr.mono (by decide)) T.g_check_boxes hx_cx (pa_cons pe_str (pa_cons (pe_lst (pa_cons (pv 1) pa_nil)) pa_nil)))) (pss_one (ps_fld (pv 0) (pv 1) rfl))), ?_⟩
    obtain ⟨dx, ha, k⟩ := h
    refine ⟨_, rfl, sz_ (by simp), fun l hl => ?_⟩
    refine ⟨_, l, rfl, [b], upd_same, ?_⟩
    refine ⟨_, rfl, _, rfl, a, _, dx, [], rfl, upd_keep ha hl, T.c_Read, T.n_Read_box, by simp, ?_⟩
    exact k _ ((Kp.refl.new hl).set (by simp)) upd_same
theorem good_Read_init (T : Txt K mg) : Good P w K mg base 3 (He.ma K (He.ga K "Read") "__init__") [] (sp_Read_init K) := by
  obtain ⟨fd, F⟩ := T.d_Read_init
  exact ⟨⟨fd, _, [], ok_Read_init T F, F.bindsN fun _ _ _ _ _ _ us hl => match us, hl with | [_, _], _ => rfl, .nil⟩, F.kp⟩
def sp_Write_init (K : PySem.W.Frag) : Sp := fun vs H Q _ => ∃ (a : Addr) (b : Bx), vs = [.ref a, .str b.nm] ∧ ∃ dx, H a = some (.ins (He.ga K "Write") dx []) ∧
  ∀ H', Kp [a] H H' → H' a = some (.ins (He.ga K "Write") dx [("box", .str b.nm)]) → Q .non H'
def nm_Write_init : List Str := ["self", "box"]
theorem sc_Write_init : FnScope nm_Write_init ["self", "box"] (defScope s_Write_init) := ⟨rfl, rfl, rfl, by decide +kernel, rfl, by decide +kernel, by decide +kernel⟩
theorem ok_Write_init (T : Txt K mg) {f : Addr} {fd : FuncData} {dv : List V} {kw : List (Str × V)} (F : FunD K "__init__" "Write.__init__" (defArgs s_Write_init) (defBody s_Write_init) (defScope s_Write_init) dv kw f fd) : FnOk P w K mg base (CXr P w) 3 f fd ["self", "box"] (sp_Write_init K) := by
  refine F.ok sc_Write_init (fun vs H Q E h => ?_) (fun cdv A outer s H vs Q E hr h => ?_)
  · obtain ⟨a, b, rfl, _⟩ := h
    rfl
  · obtain ⟨a, b, rfl, h⟩ := h
    refine ⟨_, (pss_cons (ps_expr (pe_callG (good_check_boxes T) (hr.mono (by decide)) T.g_check_boxes hx_cx (pa_cons pe_str (pa_cons (pe_lst (pa_cons (pv 1) pa_nil)) pa_nil)))) (pss_one (ps_fld (pv 0) (pv 1) rfl))), ?_⟩
    obtain ⟨dx, ha, k⟩ := h
    refine ⟨_, rfl, sz_ (by simp), fun l hl => ?_⟩
    refine ⟨_, l, rfl, [b], upd_same, ?_⟩
    refine ⟨_, rfl, _, rfl, a, _, dx, [], rfl, upd_keep ha hl, T.c_Write, T.n_Write_box, by simp, ?_⟩
    exact k _ ((Kp.refl.new hl).set (by simp)) upd_same
theorem good_Write_init (T : Txt K mg) : Good P w K mg base 3 (He.ma K (He.ga K "Write") "__init__") [] (sp_Write_init K) := by
  obtain ⟨fd, F⟩ := T.d_Write_init
  exact ⟨⟨fd, _, [], ok_Write_init T F, F.bindsN fun _ _ _ _ _ _ us hl => match us, hl with | [_, _], _ => rfl, .nil⟩, F.kp⟩
def sp_Hop_init (K : PySem.W.Frag) : Sp := fun vs H Q _ => ∃ (a : Addr) (m : Int) (on : Option Int), vs = [.ref a, .int m, onV on] ∧ ∃ dx, H a = some (.ins (He.ga K "Hop") dx []) ∧ (0 ≤ m ∧ m ≤ 24) ∧ (∀ i, on = some i → 0 ≤ i ∧ i ≤ 1) ∧
  ∀ H', Kp [a] H H' → H' a = some (.ins (He.ga K "Hop") dx [("many", .int m), ("on", onV on)]) → Q .non H'
def nm_Hop_init : List Str := ["self", "many", "on"]
theorem sc_Hop_init : FnScope nm_Hop_init ["self", "many", "on"] (defScope s_Hop_init) := ⟨rfl, rfl, rfl, by decide +kernel, rfl, by decide +kernel, by decide +kernel⟩
theorem ok_Hop_init (T : Txt K mg) {f : Addr} {fd : FuncData} {dv : List V} {kw : List (Str × V)} (F : FunD K "__init__" "Hop.__init__" (defArgs s_Hop_init) (defBody s_Hop_init) (defScope s_Hop_init) dv kw f fd) : FnOk P w K mg base (CXr P w) 2 f fd ["self", "many", "on"] (sp_Hop_init K) := by
  refine F.ok sc_Hop_init (fun vs H Q E h => ?_) (fun cdv A outer s H vs Q E hr h => ?_)
  · obtain ⟨a, m, on, rfl, _⟩ := h
    rfl
  · obtain ⟨a, m, on, rfl, h⟩ := h
    refine ⟨_, (pss_cons (ps_if (PW.pt (pw_or (pt_not (pt_val (pe_callG (good_is_whole T) (hr.mono (by decide)) T.g_is_whole hx_cx (pa_cons (pv 1) pa_nil)))) (pw_or1 (pt_not (pt_chain op_le op_le pe_int (pv 1) (pe_gI T.i_MOST_HOP)))))) (pss_one ps_never) pss_nil) (pss_cons (ps_if (PW.pt (pw_and (pt_cmpR op_notN (pv 2) pe_non (nomark _)) (pw_and1 (PW.pt (pw_or (pt_not (pt_val (pe_callG (good_is_whole T) (hr.mono (by decide)) T.g_is_whole hx_cx (pa_cons (pv 2) pa_nil)))) (pw_or1 (pt_not (pt_chain op_le op_le pe_int (pv 2) pe_int)))))))) (pss_one ps_never) pss_nil) (pss_cons (ps_fld (pv 0) (pv 1) rfl) (pss_one (ps_fld (pv 0) (pv 2) rfl))))), ?_⟩
    obtain ⟨dx, ha, ⟨m0, m1⟩, hon, k⟩ := h
    refine ⟨_, rfl, _, rfl, true, rfl, _, rfl, iteF ?_⟩
    refine ⟨_, rfl, _, _, rfl, rfl, _, rfl, ?_⟩
    rw [decide_eq_true m0]
    refine iteT ⟨_, _, rfl, rfl, _, rfl, ?_⟩
    rw [decide_eq_true m1]
    refine iteF ?_
    have fin : ∀ D : Ends, D.nx = (fun _ H' => Q .non H') → (tSeq (sFld K (tVar 0) (tVar 1) "many") (sFld K (tVar 0) (tVar 2) "on")) D (L2.start nm_Hop_init [.ref a, .int m, onV on]) H := by
      intro D hD
      refine ⟨_, rfl, _, rfl, a, _, dx, [], rfl, ha, T.c_Hop, T.n_Hop_many, by simp, ?_⟩
      refine ⟨_, rfl, _, rfl, a, _, dx, _, rfl, upd_same, T.c_Hop, T.n_Hop_on, by simp [putF], ?_⟩
      rw [hD]
      exact k _ ((Kp.refl.set (by simp)).set (by simp)) upd_same
    rcases on with _ | i
    · exact ⟨_, rfl, rfl, _, rfl, iteF (iteF (fin _ rfl))⟩
    · obtain ⟨i0, i1⟩ := hon i rfl
      refine ⟨_, rfl, rfl, _, rfl, iteT ?_⟩
      refine ⟨_, rfl, _, rfl, true, rfl, _, rfl, iteF ?_⟩
      refine ⟨_, rfl, _, _, rfl, rfl, _, rfl, ?_⟩
      rw [decide_eq_true i0]
      refine iteT ⟨_, _, rfl, rfl, _, rfl, ?_⟩
      rw [decide_eq_true i1]
      exact iteF (fin _ rfl)
theorem good_Hop_init (T : Txt K mg) : Good P w K mg base 2 (He.ma K (He.ga K "Hop") "__init__") [] (sp_Hop_init K) := by
  obtain ⟨fd, F⟩ := T.d_Hop_init
  obtain ⟨ds, r, b⟩ := F.binds1 (ps := ["self", "many", "on"]) 3 1 (by simp) (by rfl) fun _ _ _ _ _ _ _ us its hl hi => match us, its, hl, hi with | [_, _, _], [_], _, _ => ⟨_, rfl, rfl⟩
  exact ⟨⟨fd, _, ds, ok_Hop_init T F, b, r⟩, F.kp⟩
end
end HB


namespace HB
open PySem PySem.Spec PyProof.Rows L2
local macro_rules | `(tactic| walk_at "ne") => `(tactic| first | assumption | (apply Ne.symm; assumption) | exact ne_of_none (by assumption) (by assumption) | exact ne_new (by assumption) (by assumption) | (intro q; cases q; done))
local macro_rules | `(tactic| walk_at "hp") => `(tactic| first
  | assumption
  | exact upd_same
  | (refine upd_keep ?_ (by assumption); walk_at "hp")
  | (refine upd_far (by walk_at "ne") ?_; walk_at "hp")
  | (refine Same.get (by assumption) ?_; walk_at "hp")
  | (refine Kp.get (by assumption) ?_ (notin1 (by walk_at "ne")); walk_at "hp"))
local macro_rules | `(tactic| walk_at "same") => `(tactic| first
  | assumption
  | exact Same.refl _
  | (refine Same.new ?_ (by assumption); walk_at "same")
  | (refine Same.trans ?_ (by assumption); walk_at "same"))
/-- one row of a reading -/
local macro_rules | `(tactic| walk_at "r1") => `(tactic| first
  | refine ⟨_, rfl, ?_⟩
  | refine ⟨_, _, rfl, rfl, ?_⟩
  | refine ⟨rfl, ?_⟩
  | refine ⟨_, _, _, _, _, rfl, (by walk_at "hp"), (by assumption), (by assumption), rfl, ?_⟩
  | refine ⟨sz_ (by decide), fun _ _ => ?_⟩)
local macro_rules | `(tactic| walk_at "rd") => `(tactic| repeat walk_at "r1")
section
variable {P : Program} {w : World} {K : PySem.W.Frag} {mg : Str → Option Value} {base : Heap}
/-! ### the state that a step works on -/
structure Ad where
  b : Addr
  bx : Addr
  nl : Addr
  s : Addr
  sx : Addr
  kl : Addr
  gl : Addr
  pl : Addr
structure Nd (A : Ad) : Prop where
  nk : A.nl ≠ A.kl
  ng : A.nl ≠ A.gl
  np : A.nl ≠ A.pl
  kg : A.kl ≠ A.gl
  kp : A.kl ≠ A.pl
  gp : A.gl ≠ A.pl
structure Wd (K : PySem.W.Frag) (A : Ad) (H : Hp) (v : Six) (cs : List Int) (lv : List Lv) (ps : List V) : Prop where
  box : BoxI K H A.b A.nl A.bx
  num : H A.nl = some (.lst v.vals)
  sto : NotI K H A.s A.sx A.kl A.gl A.pl
  cel : CelI H A.kl A.gl cs lv
  put : H A.pl = some (.lst ps)
section
variable {A : Ad} {H H' : Hp} {v v' : Six} {cs cs' : List Int} {lv : List Lv} {ps ps' : List V}
theorem Wd.same (W : Wd K A H v cs lv ps) (h : Same H H') : Wd K A H' v cs lv ps := ⟨h _ _ W.box, h _ _ W.num, h _ _ W.sto, ⟨h _ _ W.cel.k, h _ _ W.cel.g, W.cel.len⟩, h _ _ W.put⟩
theorem Wd.given (W : Wd K A H v cs lv ps) (n : Nd A) (k : Kp [A.nl] H H') (e : H' A.nl = some (.lst v'.vals)) : Wd K A H' v' cs lv ps :=
  ⟨k _ _ (notin1 (ne_of W.box W.num (by intro z; cases z))) W.box, e, k _ _ (notin1 (ne_of W.sto W.num (by intro z; cases z))) W.sto, ⟨k _ _ (notin1 (Ne.symm n.nk)) W.cel.k, k _ _ (notin1 (Ne.symm n.ng)) W.cel.g, W.cel.len⟩, k _ _ (notin1 (Ne.symm n.np)) W.put⟩
theorem notin2 {a b c : Addr} (h1 : a ≠ b) (h2 : a ≠ c) : a ∉ [b, c] := by simp [h1, h2]
theorem Wd.putn (W : Wd K A H v cs lv ps) (n : Nd A) (k : Kp [A.kl, A.pl] H H') (e : H' A.kl = some (.lst (ivs cs'))) (e2 : H' A.pl = some (.lst ps')) (hl : cs'.length = cs.length) : Wd K A H' v cs' lv ps' :=
  ⟨k _ _ (notin2 (ne_of W.box W.cel.k (by intro z; cases z)) (ne_of W.box W.put (by intro z; cases z))) W.box, k _ _ (notin2 n.nk n.np) W.num, k _ _ (notin2 (ne_of W.sto W.cel.k (by intro z; cases z)) (ne_of W.sto W.put (by intro z; cases z))) W.sto,
    ⟨e, k _ _ (notin2 (Ne.symm n.kg) n.gp) W.cel.g, hl.trans W.cel.len⟩, e2⟩
theorem ChI.nil : ChI H [] [] := ⟨rfl, fun i t e h => by simp at h⟩
theorem ChI.snoc {ts : List Addr} {ch : Ch} {t : Addr} {e : Int × Int × Int} (c : ChI H ts ch) (h : H t = some (.tup [.int e.1, .int e.2.1, .int e.2.2])) : ChI H (ts ++ [t]) (ch ++ [e]) := by
  refine ⟨by rw [List.length_append, List.length_append, c.1]; rfl, fun i t' e' h1 h2 => ?_⟩
  by_cases hi : i < ts.length
  · rw [List.getElem?_append_left hi] at h1
    rw [List.getElem?_append_left (by have := c.1; omega)] at h2
    exact c.2 i t' e' h1 h2
  · have hi' : i < (ts ++ [t]).length := (List.getElem?_eq_some_iff.mp h1).1
    rw [List.length_append, List.length_singleton] at hi'
    have e1 : i = ts.length := by omega
    have e2 : i = ch.length := by have := c.1; omega
    rw [e1, List.getElem?_append_right (Nat.le_refl _), Nat.sub_self] at h1
    rw [e2, List.getElem?_append_right (Nat.le_refl _), Nat.sub_self] at h2
    cases h1
    cases h2
    exact h
theorem ChI.kp {ts : List Addr} {ch : Ch} {S : List Addr} (c : ChI H ts ch) (k : Kp S H H') (hS : ∀ a ∈ S, ∃ xs, H a = some (.lst xs)) : ChI H' ts ch := by
  refine ⟨c.1, fun i t e h1 h2 => ?_⟩
  have q := c.2 i t e h1 h2
  refine k t _ (fun z => ?_) q
  obtain ⟨xs, hx⟩ := hS t z
  rw [q] at hx
  cases hx
end
theorem dI_t {i j : Int} (h : i = j) : decide (V.int i = V.int j) = true := decide_eq_true (by rw [h])
theorem dI_f {i j : Int} (h : i ≠ j) : decide (V.int i = V.int j) = false := decide_eq_false fun z => h (V.int.inj z)
theorem dn_of (n : Int) : (if decide (V.int n = V.int 0) = true then (1 : Int) else 0) = dn n := by
  unfold dn
  by_cases h : n = 0
  · rw [dI_t h, if_pos rfl, if_pos h]
  · rw [dI_f h, if_neg h]
    rfl
def sp_lessen (K : PySem.W.Frag) : Sp := fun vs H Q _ => ∃ (b : Addr) (m : Int), vs = [.ref b, .int m] ∧ ∃ nl bx v, BoxI K H b nl bx ∧ H nl = some (.lst (Six.vals v)) ∧ inC (v.left - m) = true ∧
  ∀ H', Kp [nl] H H' → H' nl = some (.lst (v.put .left (v.left - m)).vals) → Q (.int (dn (v.left - m))) H'
def nm_lessen : List Str := ["boxes", "many", "left"]
theorem sc_lessen : FnScope nm_lessen ["boxes", "many"] (defScope s_lessen) := ⟨rfl, rfl, rfl, by decide +kernel, rfl, by decide +kernel, by decide +kernel⟩
theorem ok_lessen (T : Txt K mg) {f : Addr} {fd : FuncData} {dv : List V} {kw : List (Str × V)} (F : FunD K "lessen" "lessen" (defArgs s_lessen) (defBody s_lessen) (defScope s_lessen) dv kw f fd) : FnOk P w K mg base (CXr P w) 5 f fd ["boxes", "many"] (sp_lessen K) := by
  refine F.ok sc_lessen (fun vs H Q E h => ?_) (fun cdv A outer s H vs Q E hr h => ?_)
  · obtain ⟨b, m, rfl, _⟩ := h
    rfl
  · obtain ⟨b, m, rfl, h⟩ := h
    refine ⟨_, (pss_cons (ps_set (i := 2) sc_lessen.nd rfl (Or.inl rfl) (pe_op op_sub (pe_methG (pv 0) T.c_Boxes T.m_Boxes_holds (good_Boxes_holds T) (hr.mono (by decide)) hx_cx (pa_cons pe_str pa_nil)) (pv 1))) (pss_cons (ps_expr (pe_methG (pv 0) T.c_Boxes T.m_Boxes_give (good_Boxes_give T) (hr.mono (by decide)) hx_cx (pa_cons pe_str (pa_cons (pv 2) pa_nil)))) (pss_one (ps_ret (pe_callTy call_int1 (by rfl) T.f_int (by decide +kernel) (pa_cons (pe_cmpR op_eq (pv 2) pe_int (nomark _)) pa_nil)))))), ?_⟩
    obtain ⟨nl, bx, v, hb, hn, hf, k⟩ := h
    refine ⟨_, rfl, b, bx, _, rfl, hb, rfl, b, .left, rfl, nl, bx, v, hb, hn, _, rfl, _, _, rfl, rfl, ?_⟩
    refine ⟨_, rfl, b, bx, _, rfl, hb, rfl, _, rfl, b, .left, _, rfl, nl, bx, v, hb, hn, fun _ H1 k1 e1 => ?_, fun z => ?_⟩
    · refine ⟨_, rfl, rfl, .inr ⟨_, rfl, ?_⟩⟩
      have q := k H1 k1 e1
      rw [← dn_of] at q
      exact q
    · exact absurd (hf.symm.trans z) (by decide)
theorem good_lessen (T : Txt K mg) : Good P w K mg base 5 (He.ga K "lessen") [] (sp_lessen K) := by
  obtain ⟨fd, F⟩ := T.d_lessen
  exact ⟨⟨fd, _, [], ok_lessen T F, F.bindsN fun _ _ _ _ _ _ us hl => match us, hl with | [_, _], _ => rfl, .nil⟩, F.kp⟩
def mvM (v : Six) (bs : List Bx) : Six := bs.foldl (fun v x => v.put x (v.get x + v.way)) v
def sp_go_on (K : PySem.W.Frag) : Sp := fun vs H Q _ => ∃ (b l : Addr), vs = [.ref b, .ref l] ∧ ∃ nl bx v bs, BoxI K H b nl bx ∧ H nl = some (.lst (Six.vals v)) ∧ H l = some (.lst (bs.map boxV)) ∧ l ≠ nl ∧
  (∀ (i : Nat) (x : Bx), bs[i]? = some x → fitsB x ((mvM v (bs.take i)).get x + (mvM v (bs.take i)).way) = true) ∧ inC ((mvM v bs).left - 1) = true ∧
  ∀ H', Kp [nl] H H' → H' nl = some (.lst ((mvM v bs).put .left ((mvM v bs).left - 1)).vals) → Q (.int (dn ((mvM v bs).left - 1))) H'
def nm_go_on : List Str := ["boxes", "names", "box"]
theorem sc_go_on : FnScope nm_go_on ["boxes", "names"] (defScope s_go_on) := ⟨rfl, rfl, rfl, by decide +kernel, rfl, by decide +kernel, by decide +kernel⟩
theorem ok_go_on (T : Txt K mg) {f : Addr} {fd : FuncData} {dv : List V} {kw : List (Str × V)} (F : FunD K "go_on" "go_on" (defArgs s_go_on) (defBody s_go_on) (defScope s_go_on) dv kw f fd) : FnOk P w K mg base (CXr P w) 6 f fd ["boxes", "names"] (sp_go_on K) := by
  refine F.ok sc_go_on (fun vs H Q E h => ?_) (fun cdv A outer s H vs Q E hr h => ?_)
  · obtain ⟨b, l, rfl, _⟩ := h
    rfl
  · obtain ⟨b, l, rfl, h⟩ := h
    refine ⟨_, (pss_cons (ps_for po_cx rfl (pi_list (pv 1)) (pg_name (i := 2) sc_go_on.nd rfl (Or.inl rfl)) (pss_one (ps_expr (pe_methG (pv 0) T.c_Boxes T.m_Boxes_give (good_Boxes_give T) (hr.mono (by decide)) hx_cx (pa_cons (pv 2) (pa_cons (pe_op op_add (pe_methG (pv 0) T.c_Boxes T.m_Boxes_holds (good_Boxes_holds T) (hr.mono (by decide)) hx_cx (pa_cons (pv 2) pa_nil)) (pe_methG (pv 0) T.c_Boxes T.m_Boxes_holds (good_Boxes_holds T) (hr.mono (by decide)) hx_cx (pa_cons pe_str pa_nil))) pa_nil)))))) (pss_one (ps_ret (pe_callG (good_lessen T) (hr.mono (by decide)) T.g_lessen hx_cx (pa_cons (pv 0) (pa_cons pe_int pa_nil)))))), ?_⟩
    obtain ⟨nl, bx, v, bs, hb, hn, hl, nln, hf, h1, k⟩ := h
    have nbn : b ≠ nl := ne_of hb hn (by intro z; cases z)
    refine ⟨_, rfl, l, rfl, ⟨_, SqL.of hl⟩, for_list (K := K) (a := l) (xs := bs.map boxV) (fun i σ H1 => (∃ u : Option V, σ = [some (.ref b), some (.ref l), u]) ∧ Kp [nl] H H1 ∧ H1 nl = some (.lst (mvM v (bs.take i)).vals)) ⟨⟨_, rfl⟩, Kp.refl, hn⟩ (fun i σ H1 _ q => SqL.of (q.2.1 _ _ (notin1 nln) hl)) ?_ fun σ H1 q => ?_⟩
    · rintro i x σ H1 hi ⟨⟨u, rfl⟩, q1, q2⟩
      rw [List.getElem?_map] at hi
      cases e : bs[i]? with
      | none =>
        rw [e] at hi
        cases hi
      | some x =>
        rw [e] at hi
        cases hi
        have hb1 := q1 _ _ (notin1 nbn) hb
        refine ⟨_, rfl, b, bx, _, rfl, hb1, rfl, _, rfl, _, rfl, b, bx, _, rfl, hb1, rfl, _, rfl, b, x, rfl, nl, bx, _, hb1, q2, ?_⟩
        refine ⟨_, rfl, b, bx, _, rfl, hb1, rfl, b, .way, rfl, nl, bx, _, hb1, q2, _, _, rfl, rfl, ?_⟩
        refine ⟨b, x, _, rfl, nl, bx, _, hb1, q2, fun _ H2 k2 e2 => ⟨⟨_, rfl⟩, q1.trans k2, ?_⟩, fun z => ?_⟩
        · rw [e2, take_succ' e]
          unfold mvM
          rw [List.foldl_append]
          rfl
        · exact absurd ((hf i x e).symm.trans z) (by decide)
    · obtain ⟨⟨u, rfl⟩, q1, q2⟩ := q
      rw [List.take_of_length_le (by simp)] at q2
      refine ⟨_, rfl, b, _, rfl, nl, bx, _, q1 _ _ (notin1 nbn) hb, q2, h1, fun H2 k2 e2 => ?_⟩
      exact k H2 (q1.trans k2) e2
theorem good_go_on (T : Txt K mg) : Good P w K mg base 6 (He.ga K "go_on") [] (sp_go_on K) := by
  obtain ⟨fd, F⟩ := T.d_go_on
  exact ⟨⟨fd, _, [], ok_go_on T F, F.bindsN fun _ _ _ _ _ _ us hl => match us, hl with | [_, _], _ => rfl, .nil⟩, F.kp⟩
def sp_check (K : PySem.W.Frag) : Sp := fun vs H Q E => ∃ (s l1 l2 : Addr), vs = [.ref s, .ref l1, .ref l2] ∧ ∃ sx kl gl pl cs lv xs ys, NotI K H s sx kl gl pl ∧ CelI H kl gl cs lv ∧ H l1 = some (.lst (ivs xs)) ∧ H l2 = some (.lst (ivs ys)) ∧
  ((∀ c ∈ xs, mayM lv true c = true) → (∀ c ∈ ys, mayM lv false c = true) → Q .non H) ∧ (¬ ((∀ c ∈ xs, mayM lv true c = true) ∧ ∀ c ∈ ys, mayM lv false c = true) → ∀ d H', Same H H' → E (.ref (He.ga K "Stop")) d H')
def nm_check : List Str := ["store", "looks", "puts", "cell"]
theorem sc_check : FnScope nm_check ["store", "looks", "puts"] (defScope s_check) := ⟨rfl, rfl, rfl, by decide +kernel, rfl, by decide +kernel, by decide +kernel⟩
theorem ok_check (T : Txt K mg) {f : Addr} {fd : FuncData} {dv : List V} {kw : List (Str × V)} (F : FunD K "check" "check" (defArgs s_check) (defBody s_check) (defScope s_check) dv kw f fd) : FnOk P w K mg base (CXr P w) 3 f fd ["store", "looks", "puts"] (sp_check K) := by
  refine F.ok sc_check (fun vs H Q E h => ?_) (fun cdv A outer s H vs Q E hr h => ?_)
  · obtain ⟨s, l1, l2, rfl, _⟩ := h
    rfl
  · obtain ⟨s, l1, l2, rfl, h⟩ := h
    refine ⟨_, (pss_cons (ps_for po_cx rfl (pi_list (pv 1)) (pg_name (i := 3) sc_check.nd rfl (Or.inl rfl)) (pss_one (ps_if (pt_not (pt_val (pe_methG (pv 0) T.c_Noted T.m_Noted_may (good_Noted_may T) (hr.mono (by decide)) hx_cx (pa_cons pe_str (pa_cons (pv 3) pa_nil))))) (pss_one (ps_raiseX T.o_Stop T.oi_Stop (good_Stop_init T) (hr.mono (by decide)) T.g_Stop (pa_cons pe_str (pa_cons (pv 3) pa_nil)) tk_cx)) pss_nil))) (pss_one (ps_for po_cx rfl (pi_list (pv 2)) (pg_name (i := 3) sc_check.nd rfl (Or.inl rfl)) (pss_one (ps_if (pt_not (pt_val (pe_methG (pv 0) T.c_Noted T.m_Noted_may (good_Noted_may T) (hr.mono (by decide)) hx_cx (pa_cons pe_str (pa_cons (pv 3) pa_nil))))) (pss_one (ps_raiseX T.o_Stop T.oi_Stop (good_Stop_init T) (hr.mono (by decide)) T.g_Stop (pa_cons pe_str (pa_cons (pv 3) pa_nil)) tk_cx)) pss_nil))))), ?_⟩
    obtain ⟨sx, kl, gl, pl, cs, lv, xs, ys, hs, hc, h1, h2, ky, kn⟩ := h
    refine ⟨_, rfl, l1, rfl, ⟨_, SqL.of h1⟩, for_list (K := K) (a := l1) (xs := ivs xs) (fun i σ H1 => (∃ u : Option V, σ = [some (.ref s), some (.ref l1), some (.ref l2), u]) ∧ H1 = H ∧ ∀ c ∈ xs.take i, mayM lv true c = true) ⟨⟨_, rfl⟩, rfl, by simp⟩ (fun i σ H1 _ q => by rw [q.2.1]; exact SqL.of h1) ?_ ?_⟩
    · rintro i x σ H1 hi ⟨⟨u, rfl⟩, rfl, q⟩
      obtain ⟨c, ec, rfl⟩ := ivs_get hi
      refine ⟨_, rfl, s, sx, _, rfl, hs, rfl, _, rfl, ?_⟩
      refine ⟨s, true, c, rfl, kl, gl, _, lv, stoI_N T hs, hc.k, hc.g, (by rw [List.length_map]; exact hc.len), ?_⟩
      refine ⟨_, rfl, ?_⟩
      cases hm : mayM lv true c with
      | true =>
        refine iteF ⟨⟨_, rfl⟩, rfl, fun c' hc' => ?_⟩
        rw [take_succ' ec] at hc'
        rcases List.mem_append.mp hc' with z | z
        · exact q c' z
        · rw [List.mem_singleton.mp z]
          exact hm
      | false =>
        refine iteT ⟨_, rfl, exc2_rd fun d H2 h2 _ _ => kn (fun z => ?_) (some d) H2 h2⟩
        have := z.1 c (List.mem_of_getElem? ec)
        rw [hm] at this
        cases this
    · rintro σ H1 ⟨⟨u, rfl⟩, rfl, q⟩
      rw [List.take_of_length_le (by simp)] at q
      refine ⟨_, rfl, l2, rfl, ⟨_, SqL.of h2⟩, for_list (K := K) (a := l2) (xs := ivs ys) (fun i σ H2 => (∃ u : Option V, σ = [some (.ref s), some (.ref l1), some (.ref l2), u]) ∧ H2 = H1 ∧ ∀ c ∈ ys.take i, mayM lv false c = true) ⟨⟨_, rfl⟩, rfl, by simp⟩ (fun i σ H2 _ q => by rw [q.2.1]; exact SqL.of h2) ?_ ?_⟩
      · rintro i x σ H2 hi ⟨⟨u, rfl⟩, rfl, q'⟩
        obtain ⟨c, ec, rfl⟩ := ivs_get hi
        refine ⟨_, rfl, s, sx, _, rfl, hs, rfl, _, rfl, ?_⟩
        refine ⟨s, false, c, rfl, kl, gl, _, lv, stoI_N T hs, hc.k, hc.g, (by rw [List.length_map]; exact hc.len), ?_⟩
        refine ⟨_, rfl, ?_⟩
        cases hm : mayM lv false c with
        | true =>
          refine iteF ⟨⟨_, rfl⟩, rfl, fun c' hc' => ?_⟩
          rw [take_succ' ec] at hc'
          rcases List.mem_append.mp hc' with z | z
          · exact q' c' z
          · rw [List.mem_singleton.mp z]
            exact hm
        | false =>
          refine iteT ⟨_, rfl, exc2_rd fun d H3 h3 _ _ => kn (fun z => ?_) (some d) H3 h3⟩
          have := z.2 c (List.mem_of_getElem? ec)
          rw [hm] at this
          cases this
      · rintro σ H2 ⟨⟨u, rfl⟩, rfl, q'⟩
        rw [List.take_of_length_le (by simp)] at q'
        exact ky q q'
theorem good_check (T : Txt K mg) : Good P w K mg base 3 (He.ga K "check") [] (sp_check K) := by
  obtain ⟨fd, F⟩ := T.d_check
  exact ⟨⟨fd, _, [], ok_check T F, F.bindsN fun _ _ _ _ _ _ us hl => match us, hl with | [_, _, _], _ => rfl, .nil⟩, F.kp⟩
end
end HB


namespace HB
open PySem PySem.Spec PyProof.Rows L2
local macro_rules | `(tactic| walk_at "ne") => `(tactic| first | assumption | (apply Ne.symm; assumption) | exact ne_of_none (by assumption) (by assumption) | exact ne_new (by assumption) (by assumption) | (intro q; cases q; done))
local macro_rules | `(tactic| walk_at "hp") => `(tactic| first
  | assumption
  | exact upd_same
  | (refine upd_keep ?_ (by assumption); walk_at "hp")
  | (refine upd_far (by walk_at "ne") ?_; walk_at "hp")
  | (refine Same.get (by assumption) ?_; walk_at "hp")
  | (refine Kp.get (by assumption) ?_ (notin1 (by walk_at "ne")); walk_at "hp"))
local macro_rules | `(tactic| walk_at "same") => `(tactic| first
  | assumption
  | exact Same.refl _
  | (refine Same.new ?_ (by assumption); walk_at "same")
  | (refine Same.trans ?_ (by assumption); walk_at "same"))
/-- one row of a reading -/
local macro_rules | `(tactic| walk_at "r1") => `(tactic| first
  | refine ⟨_, rfl, ?_⟩
  | refine ⟨_, _, rfl, rfl, ?_⟩
  | refine ⟨rfl, ?_⟩
  | refine ⟨_, _, _, _, _, rfl, (by walk_at "hp"), (by assumption), (by assumption), rfl, ?_⟩
  | refine ⟨sz_ (by decide), fun _ _ => ?_⟩)
local macro_rules | `(tactic| walk_at "rd") => `(tactic| repeat walk_at "r1")
section
variable {P : Program} {w : World} {K : PySem.W.Frag} {mg : Str → Option Value} {base : Heap}
/-! ### the steps of the deeds -/
def clsN : Spc → Str
  | .lng l => l.cls
  | .set _ _ => "Set"
  | .add _ _ => "Add"
  | .take _ _ => "Take"
  | .read _ => "Read"
  | .write _ => "Write"
  | .hop _ _ => "Hop"
def fldS : Spc → Fs
  | .lng _ => []
  | .set b n => [("box", .str b.nm), ("number", .int n)]
  | .add b n => [("box", .str b.nm), ("number", .int n)]
  | .take b c => [("box", .str b.nm), ("other", .str c.nm)]
  | .read b => [("box", .str b.nm)]
  | .write b => [("box", .str b.nm)]
  | .hop m on => [("many", .int m), ("on", onV on)]
/-- what a step of the deed d is asked, and what it gives: the mirror's step -/
def sp_step (K : PySem.W.Frag) (d : Spc) : Sp := fun vs H Q E => ∃ (a b s : Addr), vs = [.ref a, .ref b, .ref s] ∧ ∃ (A : Ad) (dx : Addr) (v : Six) (cs : List Int) (lv : List Lv), A.b = b ∧ A.s = s ∧ Nd A ∧ H a = some (.ins (He.ga K (clsN d)) dx (fldS d)) ∧ Wd K A H v cs lv [] ∧ v.ok ∧ cs.length ≤ 60 ∧
  (∀ k v' cs' ch, stepM d v cs lv = some (k, v', cs', ch) → ∀ ts H', Kp [A.nl, A.kl, A.pl] H H' → Wd K A H' v' cs' lv (ts.map V.ref) → ChI H' ts ch → Q (.int k) H') ∧
  (stepM d v cs lv = none → ∀ cls d' H', (cls = .ref (He.ga K "Stop") ∨ cls = .ref (He.ga K "NoFit")) → Same H H' → E cls d' H')
theorem kp1 {A : Ad} {H H' : Hp} (k : Kp [A.nl] H H') : Kp [A.nl, A.kl, A.pl] H H' := k.mono (by simp)
theorem kp2 {A : Ad} {H H' : Hp} (k : Kp [A.kl, A.pl] H H') : Kp [A.nl, A.kl, A.pl] H H' := k.mono (by intro b hb; simp at hb ⊢; rcases hb with h | h <;> simp [h])
theorem neg_of {b : Bool} (h : b = false) : ¬ b = true := by rw [h]; decide
section
variable {xb xc : Bx} {xn : Int} {xo : Option Int}
def nm_Set_step : List Str := ["self", "boxes", "store"]
theorem sc_Set_step : FnScope nm_Set_step ["self", "boxes", "store"] (defScope s_Set_step) := ⟨rfl, rfl, rfl, by decide +kernel, rfl, by decide +kernel, by decide +kernel⟩
theorem ok_Set_step (T : Txt K mg) {f : Addr} {fd : FuncData} {dv : List V} {kw : List (Str × V)} (F : FunD K "step" "Set.step" (defArgs s_Set_step) (defBody s_Set_step) (defScope s_Set_step) dv kw f fd) : FnOk P w K mg base (CXr P w) 5 f fd ["self", "boxes", "store"] (sp_step K (.set xb xn)) := by
  refine F.ok sc_Set_step (fun vs H Q E h => ?_) (fun cdv A outer s H vs Q E hr h => ?_)
  · obtain ⟨a, b, s, rfl, _⟩ := h
    rfl
  · obtain ⟨a, b, s, rfl, h⟩ := h
    refine ⟨_, (pss_cons (ps_expr (pe_methG (pv 1) T.c_Boxes T.m_Boxes_give (good_Boxes_give T) (hr.mono (by decide)) hx_cx (pa_cons (pe_fld (pv 0) rfl) (pa_cons (pe_fld (pv 0) rfl) pa_nil)))) (pss_one (ps_ret pe_int))), ?_⟩
    obtain ⟨A, dx, v, cs, lv, rfl, rfl, nd, ha, w, ok, h60, ky, kn⟩ := h
    refine ⟨_, rfl, A.b, A.bx, _, rfl, w.box, rfl, _, rfl, a, _, dx, _, _, rfl, ha, T.c_Set, T.n_Set_box, rfl, _, rfl, a, _, dx, _, _, rfl, ha, T.c_Set, T.n_Set_number, rfl, A.b, xb, xn, rfl, A.nl, A.bx, v, w.box, w.num, fun hf H1 k1 e1 => ?_, fun hf d H1 h1 => kn (if_neg (neg_of hf)) _ d H1 (.inr rfl) h1⟩
    exact ky _ _ _ _ (if_pos hf) [] H1 (kp1 k1) (w.given nd k1 e1) ChI.nil
theorem good_Set_step (T : Txt K mg) : Good P w K mg base 5 (He.ma K (He.ga K "Set") "step") [] (sp_step K (.set xb xn)) := by
  obtain ⟨fd, F⟩ := T.d_Set_step
  exact ⟨⟨fd, _, [], ok_Set_step T F, F.bindsN fun _ _ _ _ _ _ us hl => match us, hl with | [_, _, _], _ => rfl, .nil⟩, F.kp⟩
def nm_Add_step : List Str := ["self", "boxes", "store"]
theorem sc_Add_step : FnScope nm_Add_step ["self", "boxes", "store"] (defScope s_Add_step) := ⟨rfl, rfl, rfl, by decide +kernel, rfl, by decide +kernel, by decide +kernel⟩
theorem ok_Add_step (T : Txt K mg) {f : Addr} {fd : FuncData} {dv : List V} {kw : List (Str × V)} (F : FunD K "step" "Add.step" (defArgs s_Add_step) (defBody s_Add_step) (defScope s_Add_step) dv kw f fd) : FnOk P w K mg base (CXr P w) 5 f fd ["self", "boxes", "store"] (sp_step K (.add xb xn)) := by
  refine F.ok sc_Add_step (fun vs H Q E h => ?_) (fun cdv A outer s H vs Q E hr h => ?_)
  · obtain ⟨a, b, s, rfl, _⟩ := h
    rfl
  · obtain ⟨a, b, s, rfl, h⟩ := h
    refine ⟨_, (pss_cons (ps_expr (pe_methG (pv 1) T.c_Boxes T.m_Boxes_give (good_Boxes_give T) (hr.mono (by decide)) hx_cx (pa_cons (pe_fld (pv 0) rfl) (pa_cons (pe_op op_add (pe_methG (pv 1) T.c_Boxes T.m_Boxes_holds (good_Boxes_holds T) (hr.mono (by decide)) hx_cx (pa_cons (pe_fld (pv 0) rfl) pa_nil)) (pe_fld (pv 0) rfl)) pa_nil)))) (pss_one (ps_ret pe_int))), ?_⟩
    obtain ⟨A, dx, v, cs, lv, rfl, rfl, nd, ha, w, ok, h60, ky, kn⟩ := h
    refine ⟨_, rfl, A.b, A.bx, _, rfl, w.box, rfl, _, rfl, a, _, dx, _, _, rfl, ha, T.c_Add, T.n_Add_box, rfl, ?_⟩
    refine ⟨_, rfl, A.b, A.bx, _, rfl, w.box, rfl, _, rfl, a, _, dx, _, _, rfl, ha, T.c_Add, T.n_Add_box, rfl, A.b, xb, rfl, A.nl, A.bx, v, w.box, w.num, ?_⟩
    refine ⟨_, rfl, a, _, dx, _, _, rfl, ha, T.c_Add, T.n_Add_number, rfl, _, _, rfl, rfl, ?_⟩
    refine ⟨A.b, xb, _, rfl, A.nl, A.bx, v, w.box, w.num, fun hf H1 k1 e1 => ?_, fun hf d H1 h1 => kn (if_neg (neg_of hf)) _ d H1 (.inr rfl) h1⟩
    exact ky _ _ _ _ (if_pos hf) [] H1 (kp1 k1) (w.given nd k1 e1) ChI.nil
theorem good_Add_step (T : Txt K mg) : Good P w K mg base 5 (He.ma K (He.ga K "Add") "step") [] (sp_step K (.add xb xn)) := by
  obtain ⟨fd, F⟩ := T.d_Add_step
  exact ⟨⟨fd, _, [], ok_Add_step T F, F.bindsN fun _ _ _ _ _ _ us hl => match us, hl with | [_, _, _], _ => rfl, .nil⟩, F.kp⟩
def nm_Take_step : List Str := ["self", "boxes", "store"]
theorem sc_Take_step : FnScope nm_Take_step ["self", "boxes", "store"] (defScope s_Take_step) := ⟨rfl, rfl, rfl, by decide +kernel, rfl, by decide +kernel, by decide +kernel⟩
theorem ok_Take_step (T : Txt K mg) {f : Addr} {fd : FuncData} {dv : List V} {kw : List (Str × V)} (F : FunD K "step" "Take.step" (defArgs s_Take_step) (defBody s_Take_step) (defScope s_Take_step) dv kw f fd) : FnOk P w K mg base (CXr P w) 5 f fd ["self", "boxes", "store"] (sp_step K (.take xb xc)) := by
  refine F.ok sc_Take_step (fun vs H Q E h => ?_) (fun cdv A outer s H vs Q E hr h => ?_)
  · obtain ⟨a, b, s, rfl, _⟩ := h
    rfl
  · obtain ⟨a, b, s, rfl, h⟩ := h
    refine ⟨_, (pss_cons (ps_expr (pe_methG (pv 1) T.c_Boxes T.m_Boxes_give (good_Boxes_give T) (hr.mono (by decide)) hx_cx (pa_cons (pe_fld (pv 0) rfl) (pa_cons (pe_methG (pv 1) T.c_Boxes T.m_Boxes_holds (good_Boxes_holds T) (hr.mono (by decide)) hx_cx (pa_cons (pe_fld (pv 0) rfl) pa_nil)) pa_nil)))) (pss_one (ps_ret pe_int))), ?_⟩
    obtain ⟨A, dx, v, cs, lv, rfl, rfl, nd, ha, w, ok, h60, ky, kn⟩ := h
    refine ⟨_, rfl, A.b, A.bx, _, rfl, w.box, rfl, _, rfl, a, _, dx, _, _, rfl, ha, T.c_Take, T.n_Take_box, rfl, ?_⟩
    refine ⟨_, rfl, A.b, A.bx, _, rfl, w.box, rfl, _, rfl, a, _, dx, _, _, rfl, ha, T.c_Take, T.n_Take_other, rfl, A.b, xc, rfl, A.nl, A.bx, v, w.box, w.num, ?_⟩
    refine ⟨A.b, xb, _, rfl, A.nl, A.bx, v, w.box, w.num, fun hf H1 k1 e1 => ?_, fun hf d H1 h1 => kn (if_neg (neg_of hf)) _ d H1 (.inr rfl) h1⟩
    exact ky _ _ _ _ (if_pos hf) [] H1 (kp1 k1) (w.given nd k1 e1) ChI.nil
theorem good_Take_step (T : Txt K mg) : Good P w K mg base 5 (He.ma K (He.ga K "Take") "step") [] (sp_step K (.take xb xc)) := by
  obtain ⟨fd, F⟩ := T.d_Take_step
  exact ⟨⟨fd, _, [], ok_Take_step T F, F.bindsN fun _ _ _ _ _ _ us hl => match us, hl with | [_, _, _], _ => rfl, .nil⟩, F.kp⟩
def nm_Read_step : List Str := ["self", "boxes", "store"]
theorem sc_Read_step : FnScope nm_Read_step ["self", "boxes", "store"] (defScope s_Read_step) := ⟨rfl, rfl, rfl, by decide +kernel, rfl, by decide +kernel, by decide +kernel⟩
theorem ok_Read_step (T : Txt K mg) {f : Addr} {fd : FuncData} {dv : List V} {kw : List (Str × V)} (F : FunD K "step" "Read.step" (defArgs s_Read_step) (defBody s_Read_step) (defScope s_Read_step) dv kw f fd) : FnOk P w K mg base (CXr P w) 5 f fd ["self", "boxes", "store"] (sp_step K (.read xb)) := by
  refine F.ok sc_Read_step (fun vs H Q E h => ?_) (fun cdv A outer s H vs Q E hr h => ?_)
  · obtain ⟨a, b, s, rfl, _⟩ := h
    rfl
  · obtain ⟨a, b, s, rfl, h⟩ := h
    refine ⟨_, (pss_cons (ps_expr (pe_methG (pv 1) T.c_Boxes T.m_Boxes_give (good_Boxes_give T) (hr.mono (by decide)) hx_cx (pa_cons (pe_fld (pv 0) rfl) (pa_cons (pe_methG (pv 2) T.c_Noted T.m_Noted_look (good_Noted_look T) (hr.mono (by decide)) hx_cx (pa_cons (pe_methG (pv 1) T.c_Boxes T.m_Boxes_holds (good_Boxes_holds T) (hr.mono (by decide)) hx_cx (pa_cons pe_str pa_nil)) pa_nil)) pa_nil)))) (pss_one (ps_ret pe_int))), ?_⟩
    obtain ⟨A, dx, v, cs, lv, rfl, rfl, nd, ha, w, ok, h60, ky, kn⟩ := h
    refine ⟨_, rfl, A.b, A.bx, _, rfl, w.box, rfl, _, rfl, a, _, dx, _, _, rfl, ha, T.c_Read, T.n_Read_box, rfl, ?_⟩
    refine ⟨_, rfl, A.s, A.sx, _, rfl, w.sto, rfl, _, rfl, A.b, A.bx, _, rfl, w.box, rfl, A.b, .here, rfl, A.nl, A.bx, v, w.box, w.num, ?_⟩
    refine ⟨A.s, v.here, rfl, A.sx, A.kl, A.gl, A.pl, cs, lv, w.sto, w.cel, fun hm => ?_, fun hm d H1 h1 => kn (if_neg (neg_of hm)) _ d H1 (.inl rfl) h1⟩
    refine ⟨A.b, xb, _, rfl, A.nl, A.bx, v, w.box, w.num, fun hf H1 k1 e1 => ?_, fun hf d H1 h1 => kn ((if_pos hm).trans (if_neg (neg_of hf))) _ d H1 (.inr rfl) h1⟩
    exact ky _ _ _ _ ((if_pos hm).trans (if_pos hf)) [] H1 (kp1 k1) (w.given nd k1 e1) ChI.nil
theorem good_Read_step (T : Txt K mg) : Good P w K mg base 5 (He.ma K (He.ga K "Read") "step") [] (sp_step K (.read xb)) := by
  obtain ⟨fd, F⟩ := T.d_Read_step
  exact ⟨⟨fd, _, [], ok_Read_step T F, F.bindsN fun _ _ _ _ _ _ us hl => match us, hl with | [_, _, _], _ => rfl, .nil⟩, F.kp⟩
def nm_Write_step : List Str := ["self", "boxes", "store", "number"]
theorem sc_Write_step : FnScope nm_Write_step ["self", "boxes", "store"] (defScope s_Write_step) := ⟨rfl, rfl, rfl, by decide +kernel, rfl, by decide +kernel, by decide +kernel⟩
theorem ok_Write_step (T : Txt K mg) {f : Addr} {fd : FuncData} {dv : List V} {kw : List (Str × V)} (F : FunD K "step" "Write.step" (defArgs s_Write_step) (defBody s_Write_step) (defScope s_Write_step) dv kw f fd) : FnOk P w K mg base (CXr P w) 5 f fd ["self", "boxes", "store"] (sp_step K (.write xb)) := by
  refine F.ok sc_Write_step (fun vs H Q E h => ?_) (fun cdv A outer s H vs Q E hr h => ?_)
  · obtain ⟨a, b, s, rfl, _⟩ := h
    rfl
  · obtain ⟨a, b, s, rfl, h⟩ := h
    refine ⟨_, (pss_cons (ps_set (i := 3) sc_Write_step.nd rfl (Or.inl rfl) (pe_methG (pv 1) T.c_Boxes T.m_Boxes_holds (good_Boxes_holds T) (hr.mono (by decide)) hx_cx (pa_cons (pe_fld (pv 0) rfl) pa_nil))) (pss_cons (ps_if (pt_not (pt_val (pe_callG (good_is_content T) (hr.mono (by decide)) T.g_is_content hx_cx (pa_cons (pv 3) pa_nil)))) (pss_one (ps_raiseX T.o_NoFit T.oi_NoFit (good_NoFit_init T) (hr.mono (by decide)) T.g_NoFit (pa_cons (pe_fld (pv 0) rfl) (pa_cons (pv 3) pa_nil)) tk_cx)) pss_nil) (pss_cons (ps_expr (pe_methG (pv 2) T.c_Noted T.m_Noted_put (good_Noted_put T) (hr.mono (by decide)) hx_cx (pa_cons (pe_methG (pv 1) T.c_Boxes T.m_Boxes_holds (good_Boxes_holds T) (hr.mono (by decide)) hx_cx (pa_cons pe_str pa_nil)) (pa_cons (pv 3) pa_nil)))) (pss_one (ps_ret pe_int))))), ?_⟩
    obtain ⟨A, dx, v, cs, lv, rfl, rfl, nd, ha, w, ok, h60, ky, kn⟩ := h
    refine ⟨_, rfl, A.b, A.bx, _, rfl, w.box, rfl, _, rfl, a, _, dx, _, _, rfl, ha, T.c_Write, T.n_Write_box, rfl, A.b, xb, rfl, A.nl, A.bx, v, w.box, w.num, ?_⟩
    refine ⟨_, rfl, _, rfl, _, rfl, ?_⟩
    cases hi : inC (v.get xb) with
    | false => exact iteT ⟨_, rfl, a, _, dx, _, _, rfl, ha, T.c_Write, T.n_Write_box, rfl, _, rfl, exc2_rd fun d H2 h2 _ _ => kn (if_neg (neg_of hi)) _ (some d) H2 (.inr rfl) h2⟩
    | true =>
      refine iteF ⟨_, rfl, A.s, A.sx, _, rfl, w.sto, rfl, _, rfl, A.b, A.bx, _, rfl, w.box, rfl, A.b, .there, rfl, A.nl, A.bx, v, w.box, w.num, _, rfl, ?_⟩
      refine ⟨A.s, v.there, v.get xb, rfl, A.sx, A.kl, A.gl, A.pl, cs, lv, [], w.sto, w.cel, w.put, by simp, nd.kp, fun hm t H1 ht k1 e1 e2 e3 => ?_, fun hm d H1 h1 => kn ((if_pos hi).trans (if_neg (neg_of hm))) _ d H1 (.inl rfl) h1⟩
      exact ky _ _ _ _ ((if_pos hi).trans (if_pos hm)) [t] H1 (kp2 k1) (w.putn nd k1 e1 e2 (st_len _ _ _)) (ChI.nil.snoc e3)
theorem good_Write_step (T : Txt K mg) : Good P w K mg base 5 (He.ma K (He.ga K "Write") "step") [] (sp_step K (.write xb)) := by
  obtain ⟨fd, F⟩ := T.d_Write_step
  exact ⟨⟨fd, _, [], ok_Write_step T F, F.bindsN fun _ _ _ _ _ _ us hl => match us, hl with | [_, _, _], _ => rfl, .nil⟩, F.kp⟩
theorem dV_ne {i : Int} : decide (V.int i = V.non) = false := decide_eq_false fun z => by cases z
def nm_Hop_step : List Str := ["self", "boxes", "store"]
theorem sc_Hop_step : FnScope nm_Hop_step ["self", "boxes", "store"] (defScope s_Hop_step) := ⟨rfl, rfl, rfl, by decide +kernel, rfl, by decide +kernel, by decide +kernel⟩
theorem ok_Hop_step (T : Txt K mg) {f : Addr} {fd : FuncData} {dv : List V} {kw : List (Str × V)} (F : FunD K "step" "Hop.step" (defArgs s_Hop_step) (defBody s_Hop_step) (defScope s_Hop_step) dv kw f fd) : FnOk P w K mg base (CXr P w) 3 f fd ["self", "boxes", "store"] (sp_step K (.hop xn xo)) := by
  refine F.ok sc_Hop_step (fun vs H Q E h => ?_) (fun cdv A outer s H vs Q E hr h => ?_)
  · obtain ⟨a, b, s, rfl, _⟩ := h
    rfl
  · obtain ⟨a, b, s, rfl, h⟩ := h
    refine ⟨_, (pss_cons (ps_if (PW.pt (pw_or (pt_cmpR op_isN (pe_fld (pv 0) rfl) pe_non (nomark _)) (pw_or1 (pt_cmpR op_eq (pe_methG (pv 1) T.c_Boxes T.m_Boxes_holds (good_Boxes_holds T) (hr.mono (by decide)) hx_cx (pa_cons pe_str pa_nil)) (pe_fld (pv 0) rfl) (nomark _))))) (pss_one (ps_ret (pe_op op_add pe_int (pe_fld (pv 0) rfl)))) pss_nil) (pss_one (ps_ret pe_int))), ?_⟩
    obtain ⟨A, dx, v, cs, lv, rfl, rfl, nd, ha, w, ok, h60, ky, kn⟩ := h
    refine ⟨_, rfl, a, _, dx, _, _, rfl, ha, T.c_Hop, T.n_Hop_on, rfl, rfl, _, rfl, ?_⟩
    rcases xo with _ | o
    · refine iteT (iteT ⟨_, rfl, a, _, dx, _, _, rfl, ha, T.c_Hop, T.n_Hop_many, rfl, _, _, rfl, rfl, ?_⟩)
      refine ky _ _ _ _ ?_ [] H Kp.refl w ChI.nil
      show some _ = some _
      rw [if_pos (.inl rfl)]
    · refine iteF ⟨_, rfl, A.b, A.bx, _, rfl, w.box, rfl, A.b, .met, rfl, A.nl, A.bx, v, w.box, w.num, _, rfl, a, _, dx, _, _, rfl, ha, T.c_Hop, T.n_Hop_on, rfl, rfl, _, rfl, ?_⟩
      by_cases e : v.met = o
      · rw [show decide (V.int (v.get .met) = onV (some o)) = true from dI_t e]
        refine iteT ⟨_, rfl, a, _, dx, _, _, rfl, ha, T.c_Hop, T.n_Hop_many, rfl, _, _, rfl, rfl, ?_⟩
        refine ky _ _ _ _ ?_ [] H Kp.refl w ChI.nil
        show some _ = some _
        rw [if_pos (.inr (by rw [e]))]
      · rw [show decide (V.int (v.get .met) = onV (some o)) = false from dI_f e]
        refine iteF ?_
        refine ky _ _ _ _ ?_ [] H Kp.refl w ChI.nil
        show some _ = some _
        rw [if_neg (fun z => z.elim (fun q => by cases q) fun q => e (Option.some.inj q).symm)]
theorem good_Hop_step (T : Txt K mg) : Good P w K mg base 3 (He.ma K (He.ga K "Hop") "step") [] (sp_step K (.hop xn xo)) := by
  obtain ⟨fd, F⟩ := T.d_Hop_step
  exact ⟨⟨fd, _, [], ok_Hop_step T F, F.bindsN fun _ _ _ _ _ _ us hl => match us, hl with | [_, _, _], _ => rfl, .nil⟩, F.kp⟩
end
end
end HB


namespace HB
open PySem PySem.Spec PyProof.Rows L2
local macro_rules | `(tactic| walk_at "ne") => `(tactic| first | assumption | (apply Ne.symm; assumption) | exact ne_of_none (by assumption) (by assumption) | exact ne_new (by assumption) (by assumption) | (intro q; cases q; done))
local macro_rules | `(tactic| walk_at "hp") => `(tactic| first
  | assumption
  | exact upd_same
  | (refine upd_keep ?_ (by assumption); walk_at "hp")
  | (refine upd_far (by walk_at "ne") ?_; walk_at "hp")
  | (refine Same.get (by assumption) ?_; walk_at "hp")
  | (refine Kp.get (by assumption) ?_ (notin1 (by walk_at "ne")); walk_at "hp"))
local macro_rules | `(tactic| walk_at "same") => `(tactic| first
  | assumption
  | exact Same.refl _
  | (refine Same.new ?_ (by assumption); walk_at "same")
  | (refine Same.trans ?_ (by assumption); walk_at "same"))
/-- one row of a reading -/
local macro_rules | `(tactic| walk_at "r1") => `(tactic| first
  | refine ⟨_, rfl, ?_⟩
  | refine ⟨_, _, rfl, rfl, ?_⟩
  | refine ⟨rfl, ?_⟩
  | refine ⟨_, _, _, _, _, rfl, (by walk_at "hp"), (by assumption), (by assumption), rfl, ?_⟩
  | refine ⟨sz_ (by decide), fun _ _ => ?_⟩)
local macro_rules | `(tactic| walk_at "rd") => `(tactic| repeat walk_at "r1")
section
variable {P : Program} {w : World} {K : PySem.W.Frag} {mg : Str → Option Value} {base : Heap}
theorem ok_left {v : Six} (h : v.ok) : 0 ≤ v.left ∧ v.left ≤ 1000000000 := by
  have z := h .left
  unfold fitsB inC at z
  simp only [Six.get, Bool.and_eq_true] at z
  exact ⟨of_decide_eq_true z.1, of_decide_eq_true z.2⟩
theorem ok_way {v : Six} (h : v.ok) : v.way = 1 ∨ v.way = -1 := by
  have z := h .way
  simp only [fitsB, Six.get, Bool.or_eq_true] at z
  exact z.imp of_decide_eq_true of_decide_eq_true
theorem fit_here {n : Int} (h1 : -1000000000 ≤ n) (h2 : n ≤ 1000000000) : fitsB .here n = true := by
  simp only [fitsB, Bool.and_eq_true, decide_eq_true_eq]
  exact ⟨h1, h2⟩
theorem fit_there {n : Int} (h1 : -1000000000 ≤ n) (h2 : n ≤ 1000000000) : fitsB .there n = true := fit_here h1 h2
theorem inC_of {n : Int} (h1 : 0 ≤ n) (h2 : n ≤ 1000000000) : inC n = true := by
  simp only [inC, Bool.and_eq_true, decide_eq_true_eq]
  exact ⟨h1, h2⟩
theorem near {lv : List Lv} {b : Bool} {c w : Int} {cs : List Int} (m : mayM lv b c = true) (hl : cs.length = lv.length) (h60 : cs.length ≤ 60) (hw : w = 1 ∨ w = -1) : -1000000000 ≤ c + w ∧ c + w ≤ 1000000000 := by
  obtain ⟨m0, m1⟩ := mayM_lt m
  rcases hw with e | e <;> subst e <;> omega
theorem go2 {v : Six} (h1 : fitsB .here (v.here + v.way) = true) (h2 : fitsB .there (v.there + v.way) = true) : ∀ (i : Nat) (x : Bx), ([.here, .there] : List Bx)[i]? = some x → fitsB x ((mvM v (([.here, .there] : List Bx).take i)).get x + (mvM v (([.here, .there] : List Bx).take i)).way) = true
  | 0, x, e => by
    cases e
    exact h1
  | 1, x, e => by
    cases e
    exact h2
  | n + 2, x, e => by cases e
theorem go1h {v : Six} (h1 : fitsB .here (v.here + v.way) = true) : ∀ (i : Nat) (x : Bx), ([.here] : List Bx)[i]? = some x → fitsB x ((mvM v (([.here] : List Bx).take i)).get x + (mvM v (([.here] : List Bx).take i)).way) = true
  | 0, x, e => by
    cases e
    exact h1
  | n + 1, x, e => by cases e
theorem go1t {v : Six} (h1 : fitsB .there (v.there + v.way) = true) : ∀ (i : Nat) (x : Bx), ([.there] : List Bx)[i]? = some x → fitsB x ((mvM v (([.there] : List Bx).take i)).get x + (mvM v (([.there] : List Bx).take i)).way) = true
  | 0, x, e => by
    cases e
    exact h1
  | n + 1, x, e => by cases e
theorem ab {a b : Bool} (h : a = true) (h' : b = true) : (a && b) = true := by rw [h, h']; rfl
theorem nab {a b : Bool} (h : ¬ (a = true ∧ b = true)) : ¬ (a && b) = true := fun z => h (Bool.and_eq_true_iff.mp z)
theorem one_ {lv : List Lv} {b : Bool} {c : Int} (h : mayM lv b c = true) : ∀ x ∈ [c], mayM lv b x = true := fun x hx => by rw [List.mem_singleton.mp hx]; exact h
theorem tf {a : Bool} {C : Prop} (h : a = true) (h' : a = false) : C := by rw [h] at h'; cases h'
theorem tne {H : Hp} {t l : Addr} {xs ys : List V} (h : H t = some (.tup xs)) (h' : H l = some (.lst ys)) : t ∉ [l] := notin1 (ne_of h h' (by intro z; cases z))
def nm_Copy_step : List Str := ["self", "boxes", "store", "here", "there"]
theorem sc_Copy_step : FnScope nm_Copy_step ["self", "boxes", "store"] (defScope s_Copy_step) := ⟨rfl, rfl, rfl, by decide +kernel, rfl, by decide +kernel, by decide +kernel⟩
theorem ok_Copy_step (T : Txt K mg) {f : Addr} {fd : FuncData} {dv : List V} {kw : List (Str × V)} (F : FunD K "step" "Copy.step" (defArgs s_Copy_step) (defBody s_Copy_step) (defScope s_Copy_step) dv kw f fd) : FnOk P w K mg base (CXr P w) 7 f fd ["self", "boxes", "store"] (sp_step K (.lng .copy)) := by
  refine F.ok sc_Copy_step (fun vs H Q E h => ?_) (fun cdv A outer s H vs Q E hr h => ?_)
  · obtain ⟨a, b, s, rfl, _⟩ := h
    rfl
  · obtain ⟨a, b, s, rfl, h⟩ := h
    refine ⟨_, (pss_cons (ps_if (pt_cmpR op_eq (pe_methG (pv 1) T.c_Boxes T.m_Boxes_holds (good_Boxes_holds T) (hr.mono (by decide)) hx_cx (pa_cons pe_str pa_nil)) pe_int (nomark _)) (pss_one (ps_ret pe_int)) pss_nil) (pss_cons (ps_set (i := 3) sc_Copy_step.nd rfl (Or.inl rfl) (pe_methG (pv 1) T.c_Boxes T.m_Boxes_holds (good_Boxes_holds T) (hr.mono (by decide)) hx_cx (pa_cons pe_str pa_nil))) (pss_cons (ps_set (i := 4) sc_Copy_step.nd rfl (Or.inl rfl) (pe_methG (pv 1) T.c_Boxes T.m_Boxes_holds (good_Boxes_holds T) (hr.mono (by decide)) hx_cx (pa_cons pe_str pa_nil))) (pss_cons (ps_expr (pe_callG (good_check T) (hr.mono (by decide)) T.g_check hx_cx (pa_cons (pv 2) (pa_cons (pe_lst (pa_cons (pv 3) pa_nil)) (pa_cons (pe_lst (pa_cons (pv 4) pa_nil)) pa_nil))))) (pss_cons (ps_expr (pe_methG (pv 2) T.c_Noted T.m_Noted_put (good_Noted_put T) (hr.mono (by decide)) hx_cx (pa_cons (pv 4) (pa_cons (pe_methG (pv 2) T.c_Noted T.m_Noted_look (good_Noted_look T) (hr.mono (by decide)) hx_cx (pa_cons (pv 3) pa_nil)) pa_nil)))) (pss_one (ps_ret (pe_callG (good_go_on T) (hr.mono (by decide)) T.g_go_on hx_cx (pa_cons (pv 1) (pa_cons (pe_lst (pa_cons pe_str (pa_cons pe_str pa_nil))) pa_nil)))))))))), ?_⟩
    obtain ⟨A, dx, v, cs, lv, rfl, rfl, nd, ha, w, ok, h60, ky, kn⟩ := h
    obtain ⟨l0, l1⟩ := ok_left ok
    refine ⟨_, rfl, A.b, A.bx, _, rfl, w.box, rfl, A.b, .left, rfl, A.nl, A.bx, v, w.box, w.num, rfl, _, rfl, ?_⟩
    by_cases h0 : v.left = 0
    · rw [show decide (V.int (v.get .left) = V.int 0) = true from dI_t h0]
      exact iteT (ky _ _ _ _ (if_pos h0) [] H Kp.refl w ChI.nil)
    · rw [show decide (V.int (v.get .left) = V.int 0) = false from dI_f h0]
      refine iteF ⟨_, rfl, A.b, A.bx, _, rfl, w.box, rfl, A.b, .here, rfl, A.nl, A.bx, v, w.box, w.num, _, rfl, A.b, A.bx, _, rfl, w.box, rfl, A.b, .there, rfl, A.nl, A.bx, v, w.box, w.num, ?_⟩
      refine ⟨_, rfl, _, rfl, sz_ (by simp), fun p hp => ?_⟩
      refine ⟨_, rfl, sz_ (by simp), fun q hq => ?_⟩
      have s1 := Same.new (o := .lst [.int v.there]) (Same.new (o := .lst [.int v.here]) (Same.refl H) hp) hq
      have w1 := w.same s1
      refine ⟨A.s, p, q, rfl, A.sx, A.kl, A.gl, A.pl, cs, lv, [v.here], [v.there], w1.sto, w1.cel, upd_keep upd_same hq, upd_same, fun m1 m2 => ?_, fun nn d H2 h2 => kn ((if_neg h0).trans (if_neg (nab fun z => nn ⟨one_ z.1, one_ z.2⟩))) _ d H2 (.inl rfl) (s1.trans h2)⟩
      have ma := m1 v.here (by simp)
      have mb := m2 v.there (by simp)
      refine ⟨_, rfl, A.s, A.sx, _, rfl, w1.sto, rfl, _, rfl, _, rfl, A.s, A.sx, _, rfl, w1.sto, rfl, _, rfl, A.s, v.here, rfl, A.sx, A.kl, A.gl, A.pl, cs, lv, w1.sto, w1.cel, fun _ => ?_, fun z => tf ma z⟩
      refine ⟨A.s, v.there, _, rfl, A.sx, A.kl, A.gl, A.pl, cs, lv, [], w1.sto, w1.cel, w1.put, by simp, nd.kp, fun _ t H2 ht k2 e1 e2 e3 => ?_, fun z => tf mb z⟩
      have w2 := w1.putn nd k2 e1 e2 (st_len _ _ _)
      refine ⟨_, rfl, sz_ (by simp), fun l hl => ?_⟩
      have s3 := Same.new (o := .lst [.str "here", .str "there"]) (Same.refl H2) hl
      have w3 := w2.same s3
      have na := near ma w.cel.len h60 (ok_way ok)
      have nb := near mb w.cel.len h60 (ok_way ok)
      refine ⟨A.b, l, rfl, A.nl, A.bx, v, [.here, .there], w3.box, w3.num, upd_same, ne_new w2.num hl, go2 (fit_here na.1 na.2) (fit_there nb.1 nb.2), inC_of (by show 0 ≤ v.left - 1; omega) (by show v.left - 1 ≤ _; omega), fun H4 k4 e4 => ?_⟩
      have e5 := upd_keep (u := .lst [.str "here", .str "there"]) e3 hl
      exact ky (dn (v.left - 1)) _ _ _ ((if_neg h0).trans (if_pos (ab ma mb))) [t] H4 ((Kp.same s1).trans ((kp2 k2).trans ((Kp.same s3).trans (kp1 k4)))) (w3.given nd k4 e4) (ChI.nil.snoc (k4 _ _ (tne e5 w3.num) e5))
theorem good_Copy_step (T : Txt K mg) : Good P w K mg base 7 (He.ma K (He.ga K "Copy") "step") [] (sp_step K (.lng .copy)) := by
  obtain ⟨fd, F⟩ := T.d_Copy_step
  exact ⟨⟨fd, _, [], ok_Copy_step T F, F.bindsN fun _ _ _ _ _ _ us hl => match us, hl with | [_, _, _], _ => rfl, .nil⟩, F.kp⟩
def nm_Fill_step : List Str := ["self", "boxes", "store"]
theorem sc_Fill_step : FnScope nm_Fill_step ["self", "boxes", "store"] (defScope s_Fill_step) := ⟨rfl, rfl, rfl, by decide +kernel, rfl, by decide +kernel, by decide +kernel⟩
theorem ok_Fill_step (T : Txt K mg) {f : Addr} {fd : FuncData} {dv : List V} {kw : List (Str × V)} (F : FunD K "step" "Fill.step" (defArgs s_Fill_step) (defBody s_Fill_step) (defScope s_Fill_step) dv kw f fd) : FnOk P w K mg base (CXr P w) 7 f fd ["self", "boxes", "store"] (sp_step K (.lng .fill)) := by
  refine F.ok sc_Fill_step (fun vs H Q E h => ?_) (fun cdv A outer s H vs Q E hr h => ?_)
  · obtain ⟨a, b, s, rfl, _⟩ := h
    rfl
  · obtain ⟨a, b, s, rfl, h⟩ := h
    refine ⟨_, (pss_cons (ps_if (pt_cmpR op_eq (pe_methG (pv 1) T.c_Boxes T.m_Boxes_holds (good_Boxes_holds T) (hr.mono (by decide)) hx_cx (pa_cons pe_str pa_nil)) pe_int (nomark _)) (pss_one (ps_ret pe_int)) pss_nil) (pss_cons (ps_expr (pe_methG (pv 2) T.c_Noted T.m_Noted_put (good_Noted_put T) (hr.mono (by decide)) hx_cx (pa_cons (pe_methG (pv 1) T.c_Boxes T.m_Boxes_holds (good_Boxes_holds T) (hr.mono (by decide)) hx_cx (pa_cons pe_str pa_nil)) (pa_cons (pe_methG (pv 1) T.c_Boxes T.m_Boxes_holds (good_Boxes_holds T) (hr.mono (by decide)) hx_cx (pa_cons pe_str pa_nil)) pa_nil)))) (pss_one (ps_ret (pe_callG (good_go_on T) (hr.mono (by decide)) T.g_go_on hx_cx (pa_cons (pv 1) (pa_cons (pe_lst (pa_cons pe_str pa_nil)) pa_nil))))))), ?_⟩
    obtain ⟨A, dx, v, cs, lv, rfl, rfl, nd, ha, w, ok, h60, ky, kn⟩ := h
    obtain ⟨l0, l1⟩ := ok_left ok
    refine ⟨_, rfl, A.b, A.bx, _, rfl, w.box, rfl, A.b, .left, rfl, A.nl, A.bx, v, w.box, w.num, rfl, _, rfl, ?_⟩
    by_cases h0 : v.left = 0
    · rw [show decide (V.int (v.get .left) = V.int 0) = true from dI_t h0]
      exact iteT (ky _ _ _ _ (if_pos h0) [] H Kp.refl w ChI.nil)
    · rw [show decide (V.int (v.get .left) = V.int 0) = false from dI_f h0]
      refine iteF ⟨_, rfl, A.s, A.sx, _, rfl, w.sto, rfl, _, rfl, A.b, A.bx, _, rfl, w.box, rfl, A.b, .there, rfl, A.nl, A.bx, v, w.box, w.num, _, rfl, A.b, A.bx, _, rfl, w.box, rfl, A.b, .sign, rfl, A.nl, A.bx, v, w.box, w.num, ?_⟩
      refine ⟨A.s, v.there, v.sign, rfl, A.sx, A.kl, A.gl, A.pl, cs, lv, [], w.sto, w.cel, w.put, by simp, nd.kp, fun mb t H2 ht k2 e1 e2 e3 => ?_, fun z d H2 h2 => kn ((if_neg h0).trans (if_neg (neg_of z))) _ d H2 (.inl rfl) h2⟩
      have w2 := w.putn nd k2 e1 e2 (st_len _ _ _)
      refine ⟨_, rfl, sz_ (by simp), fun l hl => ?_⟩
      have s3 := Same.new (o := .lst [.str "there"]) (Same.refl H2) hl
      have w3 := w2.same s3
      have nb := near mb w.cel.len h60 (ok_way ok)
      refine ⟨A.b, l, rfl, A.nl, A.bx, v, [.there], w3.box, w3.num, upd_same, ne_new w2.num hl, go1t (fit_there nb.1 nb.2), inC_of (by show 0 ≤ v.left - 1; omega) (by show v.left - 1 ≤ _; omega), fun H4 k4 e4 => ?_⟩
      have e5 := upd_keep (u := .lst [.str "there"]) e3 hl
      exact ky (dn (v.left - 1)) _ _ _ ((if_neg h0).trans (if_pos mb)) [t] H4 ((kp2 k2).trans ((Kp.same s3).trans (kp1 k4))) (w3.given nd k4 e4) (ChI.nil.snoc (k4 _ _ (tne e5 w3.num) e5))
theorem good_Fill_step (T : Txt K mg) : Good P w K mg base 7 (He.ma K (He.ga K "Fill") "step") [] (sp_step K (.lng .fill)) := by
  obtain ⟨fd, F⟩ := T.d_Fill_step
  exact ⟨⟨fd, _, [], ok_Fill_step T F, F.bindsN fun _ _ _ _ _ _ us hl => match us, hl with | [_, _, _], _ => rfl, .nil⟩, F.kp⟩
def nm_Seek_step : List Str := ["self", "boxes", "store"]
theorem sc_Seek_step : FnScope nm_Seek_step ["self", "boxes", "store"] (defScope s_Seek_step) := ⟨rfl, rfl, rfl, by decide +kernel, rfl, by decide +kernel, by decide +kernel⟩
theorem ok_Seek_step (T : Txt K mg) {f : Addr} {fd : FuncData} {dv : List V} {kw : List (Str × V)} (F : FunD K "step" "Seek.step" (defArgs s_Seek_step) (defBody s_Seek_step) (defScope s_Seek_step) dv kw f fd) : FnOk P w K mg base (CXr P w) 7 f fd ["self", "boxes", "store"] (sp_step K (.lng .seek)) := by
  refine F.ok sc_Seek_step (fun vs H Q E h => ?_) (fun cdv A outer s H vs Q E hr h => ?_)
  · obtain ⟨a, b, s, rfl, _⟩ := h
    rfl
  · obtain ⟨a, b, s, rfl, h⟩ := h
    refine ⟨_, (pss_cons (ps_if (pt_cmpR op_eq (pe_methG (pv 1) T.c_Boxes T.m_Boxes_holds (good_Boxes_holds T) (hr.mono (by decide)) hx_cx (pa_cons pe_str pa_nil)) pe_int (nomark _)) (pss_cons (ps_expr (pe_methG (pv 1) T.c_Boxes T.m_Boxes_give (good_Boxes_give T) (hr.mono (by decide)) hx_cx (pa_cons pe_str (pa_cons pe_int pa_nil)))) (pss_one (ps_ret pe_int))) pss_nil) (pss_cons (ps_if (pt_cmpR op_eq (pe_methG (pv 2) T.c_Noted T.m_Noted_look (good_Noted_look T) (hr.mono (by decide)) hx_cx (pa_cons (pe_methG (pv 1) T.c_Boxes T.m_Boxes_holds (good_Boxes_holds T) (hr.mono (by decide)) hx_cx (pa_cons pe_str pa_nil)) pa_nil)) (pe_methG (pv 1) T.c_Boxes T.m_Boxes_holds (good_Boxes_holds T) (hr.mono (by decide)) hx_cx (pa_cons pe_str pa_nil)) (nomark _)) (pss_cons (ps_expr (pe_methG (pv 1) T.c_Boxes T.m_Boxes_give (good_Boxes_give T) (hr.mono (by decide)) hx_cx (pa_cons pe_str (pa_cons pe_int pa_nil)))) (pss_one (ps_ret pe_int))) pss_nil) (pss_cons (ps_expr (pe_methG (pv 1) T.c_Boxes T.m_Boxes_give (good_Boxes_give T) (hr.mono (by decide)) hx_cx (pa_cons pe_str (pa_cons pe_int pa_nil)))) (pss_one (ps_ret (pe_callG (good_go_on T) (hr.mono (by decide)) T.g_go_on hx_cx (pa_cons (pv 1) (pa_cons (pe_lst (pa_cons pe_str pa_nil)) pa_nil)))))))), ?_⟩
    obtain ⟨A, dx, v, cs, lv, rfl, rfl, nd, ha, w, ok, h60, ky, kn⟩ := h
    obtain ⟨l0, l1⟩ := ok_left ok
    refine ⟨_, rfl, A.b, A.bx, _, rfl, w.box, rfl, A.b, .left, rfl, A.nl, A.bx, v, w.box, w.num, rfl, _, rfl, ?_⟩
    by_cases h0 : v.left = 0
    · rw [show decide (V.int (v.get .left) = V.int 0) = true from dI_t h0]
      exact iteT ⟨_, rfl, A.b, A.bx, _, rfl, w.box, rfl, A.b, .met, _, rfl, A.nl, A.bx, v, w.box, w.num, fun _ H1 k1 e1 => ky _ _ _ _ (if_pos h0) [] H1 (kp1 k1) (w.given nd k1 e1) ChI.nil, fun z => tf rfl z⟩
    · rw [show decide (V.int (v.get .left) = V.int 0) = false from dI_f h0]
      refine iteF ⟨_, rfl, A.s, A.sx, _, rfl, w.sto, rfl, _, rfl, A.b, A.bx, _, rfl, w.box, rfl, A.b, .here, rfl, A.nl, A.bx, v, w.box, w.num, A.s, v.here, rfl, A.sx, A.kl, A.gl, A.pl, cs, lv, w.sto, w.cel, fun ma => ?_, fun z d H2 h2 => kn ((if_neg h0).trans (if_neg (neg_of z))) _ d H2 (.inl rfl) h2⟩
      refine ⟨_, rfl, A.b, A.bx, _, rfl, w.box, rfl, A.b, .sign, rfl, A.nl, A.bx, v, w.box, w.num, rfl, _, rfl, ?_⟩
      by_cases hs : at_ cs v.here = v.sign
      · rw [show decide (V.int (at_ cs v.here) = V.int (v.get .sign)) = true from dI_t hs]
        exact iteT ⟨_, rfl, A.b, A.bx, _, rfl, w.box, rfl, A.b, .met, _, rfl, A.nl, A.bx, v, w.box, w.num, fun _ H1 k1 e1 => ky _ _ _ _ ((if_neg h0).trans ((if_pos ma).trans (if_pos hs))) [] H1 (kp1 k1) (w.given nd k1 e1) ChI.nil, fun z => tf rfl z⟩
      · rw [show decide (V.int (at_ cs v.here) = V.int (v.get .sign)) = false from dI_f hs]
        refine iteF ⟨_, rfl, A.b, A.bx, _, rfl, w.box, rfl, A.b, .met, _, rfl, A.nl, A.bx, v, w.box, w.num, fun _ H1 k1 e1 => ?_, fun z => tf rfl z⟩
        have w1 := w.given nd k1 e1
        refine ⟨_, rfl, sz_ (by simp), fun l hl => ?_⟩
        have s3 := Same.new (o := .lst [.str "here"]) (Same.refl H1) hl
        have w3 := w1.same s3
        have na := near ma w.cel.len h60 (ok_way ok)
        refine ⟨A.b, l, rfl, A.nl, A.bx, v.put .met 0, [.here], w3.box, w3.num, upd_same, ne_new w1.num hl, go1h (fit_here na.1 na.2), inC_of (by show 0 ≤ v.left - 1; omega) (by show v.left - 1 ≤ _; omega), fun H4 k4 e4 => ?_⟩
        exact ky (dn (v.left - 1)) _ _ _ ((if_neg h0).trans ((if_pos ma).trans (if_neg hs))) [] H4 ((kp1 k1).trans ((Kp.same s3).trans (kp1 k4))) (w3.given nd k4 e4) ChI.nil
theorem good_Seek_step (T : Txt K mg) : Good P w K mg base 7 (He.ma K (He.ga K "Seek") "step") [] (sp_step K (.lng .seek)) := by
  obtain ⟨fd, F⟩ := T.d_Seek_step
  exact ⟨⟨fd, _, [], ok_Seek_step T F, F.bindsN fun _ _ _ _ _ _ us hl => match us, hl with | [_, _, _], _ => rfl, .nil⟩, F.kp⟩
def nm_Match_step : List Str := ["self", "boxes", "store", "one", "other"]
theorem sc_Match_step : FnScope nm_Match_step ["self", "boxes", "store"] (defScope s_Match_step) := ⟨rfl, rfl, rfl, by decide +kernel, rfl, by decide +kernel, by decide +kernel⟩
theorem ok_Match_step (T : Txt K mg) {f : Addr} {fd : FuncData} {dv : List V} {kw : List (Str × V)} (F : FunD K "step" "Match.step" (defArgs s_Match_step) (defBody s_Match_step) (defScope s_Match_step) dv kw f fd) : FnOk P w K mg base (CXr P w) 7 f fd ["self", "boxes", "store"] (sp_step K (.lng .match_)) := by
  refine F.ok sc_Match_step (fun vs H Q E h => ?_) (fun cdv A outer s H vs Q E hr h => ?_)
  · obtain ⟨a, b, s, rfl, _⟩ := h
    rfl
  · obtain ⟨a, b, s, rfl, h⟩ := h
    refine ⟨_, (pss_cons (ps_if (pt_cmpR op_eq (pe_methG (pv 1) T.c_Boxes T.m_Boxes_holds (good_Boxes_holds T) (hr.mono (by decide)) hx_cx (pa_cons pe_str pa_nil)) pe_int (nomark _)) (pss_cons (ps_expr (pe_methG (pv 1) T.c_Boxes T.m_Boxes_give (good_Boxes_give T) (hr.mono (by decide)) hx_cx (pa_cons pe_str (pa_cons pe_int pa_nil)))) (pss_one (ps_ret pe_int))) pss_nil) (pss_cons (ps_set (i := 3) sc_Match_step.nd rfl (Or.inl rfl) (pe_methG (pv 2) T.c_Noted T.m_Noted_look (good_Noted_look T) (hr.mono (by decide)) hx_cx (pa_cons (pe_methG (pv 1) T.c_Boxes T.m_Boxes_holds (good_Boxes_holds T) (hr.mono (by decide)) hx_cx (pa_cons pe_str pa_nil)) pa_nil))) (pss_cons (ps_set (i := 4) sc_Match_step.nd rfl (Or.inl rfl) (pe_methG (pv 2) T.c_Noted T.m_Noted_look (good_Noted_look T) (hr.mono (by decide)) hx_cx (pa_cons (pe_methG (pv 1) T.c_Boxes T.m_Boxes_holds (good_Boxes_holds T) (hr.mono (by decide)) hx_cx (pa_cons pe_str pa_nil)) pa_nil))) (pss_cons (ps_if (pt_cmpR op_ne (pv 3) (pv 4) (nomark _)) (pss_cons (ps_expr (pe_methG (pv 1) T.c_Boxes T.m_Boxes_give (good_Boxes_give T) (hr.mono (by decide)) hx_cx (pa_cons pe_str (pa_cons pe_int pa_nil)))) (pss_one (ps_ret pe_int))) pss_nil) (pss_cons (ps_expr (pe_methG (pv 1) T.c_Boxes T.m_Boxes_give (good_Boxes_give T) (hr.mono (by decide)) hx_cx (pa_cons pe_str (pa_cons pe_int pa_nil)))) (pss_one (ps_ret (pe_callG (good_go_on T) (hr.mono (by decide)) T.g_go_on hx_cx (pa_cons (pv 1) (pa_cons (pe_lst (pa_cons pe_str (pa_cons pe_str pa_nil))) pa_nil)))))))))), ?_⟩
    obtain ⟨A, dx, v, cs, lv, rfl, rfl, nd, ha, w, ok, h60, ky, kn⟩ := h
    obtain ⟨l0, l1⟩ := ok_left ok
    refine ⟨_, rfl, A.b, A.bx, _, rfl, w.box, rfl, A.b, .left, rfl, A.nl, A.bx, v, w.box, w.num, rfl, _, rfl, ?_⟩
    by_cases h0 : v.left = 0
    · rw [show decide (V.int (v.get .left) = V.int 0) = true from dI_t h0]
      exact iteT ⟨_, rfl, A.b, A.bx, _, rfl, w.box, rfl, A.b, .met, _, rfl, A.nl, A.bx, v, w.box, w.num, fun _ H1 k1 e1 => ky _ _ _ _ (if_pos h0) [] H1 (kp1 k1) (w.given nd k1 e1) ChI.nil, fun z => tf rfl z⟩
    · rw [show decide (V.int (v.get .left) = V.int 0) = false from dI_f h0]
      refine iteF ⟨_, rfl, A.s, A.sx, _, rfl, w.sto, rfl, _, rfl, A.b, A.bx, _, rfl, w.box, rfl, A.b, .here, rfl, A.nl, A.bx, v, w.box, w.num, A.s, v.here, rfl, A.sx, A.kl, A.gl, A.pl, cs, lv, w.sto, w.cel, fun ma => ?_, fun z d H2 h2 => kn ((if_neg h0).trans (if_neg (nab fun q => tf q.1 z))) _ d H2 (.inl rfl) h2⟩
      refine ⟨_, rfl, A.s, A.sx, _, rfl, w.sto, rfl, _, rfl, A.b, A.bx, _, rfl, w.box, rfl, A.b, .there, rfl, A.nl, A.bx, v, w.box, w.num, A.s, v.there, rfl, A.sx, A.kl, A.gl, A.pl, cs, lv, w.sto, w.cel, fun mb => ?_, fun z d H2 h2 => kn ((if_neg h0).trans (if_neg (nab fun q => tf q.2 z))) _ d H2 (.inl rfl) h2⟩
      refine ⟨_, rfl, _, rfl, rfl, _, rfl, ?_⟩
      by_cases hs : at_ cs v.here = at_ cs v.there
      · rw [dI_t hs]
        refine iteF ⟨_, rfl, A.b, A.bx, _, rfl, w.box, rfl, A.b, .met, _, rfl, A.nl, A.bx, v, w.box, w.num, fun _ H1 k1 e1 => ?_, fun z => tf rfl z⟩
        have w1 := w.given nd k1 e1
        refine ⟨_, rfl, sz_ (by simp), fun l hl => ?_⟩
        have s3 := Same.new (o := .lst [.str "here", .str "there"]) (Same.refl H1) hl
        have w3 := w1.same s3
        have na := near ma w.cel.len h60 (ok_way ok)
        have nb := near mb w.cel.len h60 (ok_way ok)
        refine ⟨A.b, l, rfl, A.nl, A.bx, v.put .met 1, [.here, .there], w3.box, w3.num, upd_same, ne_new w1.num hl, go2 (fit_here na.1 na.2) (fit_there nb.1 nb.2), inC_of (by show 0 ≤ v.left - 1; omega) (by show v.left - 1 ≤ _; omega), fun H4 k4 e4 => ?_⟩
        exact ky (dn (v.left - 1)) _ _ _ ((if_neg h0).trans ((if_pos (ab ma mb)).trans (if_pos hs))) [] H4 ((kp1 k1).trans ((Kp.same s3).trans (kp1 k4))) (w3.given nd k4 e4) ChI.nil
      · rw [dI_f hs]
        exact iteT ⟨_, rfl, A.b, A.bx, _, rfl, w.box, rfl, A.b, .met, _, rfl, A.nl, A.bx, v, w.box, w.num, fun _ H1 k1 e1 => ky _ _ _ _ ((if_neg h0).trans ((if_pos (ab ma mb)).trans (if_neg hs))) [] H1 (kp1 k1) (w.given nd k1 e1) ChI.nil, fun z => tf rfl z⟩
theorem good_Match_step (T : Txt K mg) : Good P w K mg base 7 (He.ma K (He.ga K "Match") "step") [] (sp_step K (.lng .match_)) := by
  obtain ⟨fd, F⟩ := T.d_Match_step
  exact ⟨⟨fd, _, [], ok_Match_step T F, F.bindsN fun _ _ _ _ _ _ us hl => match us, hl with | [_, _, _], _ => rfl, .nil⟩, F.kp⟩
end
end HB


namespace HB
open PySem PySem.Spec PyProof.Rows L2
local macro_rules | `(tactic| walk_at "ne") => `(tactic| first | assumption | (apply Ne.symm; assumption) | exact ne_of_none (by assumption) (by assumption) | exact ne_new (by assumption) (by assumption) | (intro q; cases q; done))
local macro_rules | `(tactic| walk_at "hp") => `(tactic| first
  | assumption
  | exact upd_same
  | (refine upd_keep ?_ (by assumption); walk_at "hp")
  | (refine upd_far (by walk_at "ne") ?_; walk_at "hp")
  | (refine Same.get (by assumption) ?_; walk_at "hp")
  | (refine Kp.get (by assumption) ?_ (notin1 (by walk_at "ne")); walk_at "hp"))
local macro_rules | `(tactic| walk_at "same") => `(tactic| first
  | assumption
  | exact Same.refl _
  | (refine Same.new ?_ (by assumption); walk_at "same")
  | (refine Same.trans ?_ (by assumption); walk_at "same"))
/-- one row of a reading -/
local macro_rules | `(tactic| walk_at "r1") => `(tactic| first
  | refine ⟨_, rfl, ?_⟩
  | refine ⟨_, _, rfl, rfl, ?_⟩
  | refine ⟨rfl, ?_⟩
  | refine ⟨_, _, _, _, _, rfl, (by walk_at "hp"), (by assumption), (by assumption), rfl, ?_⟩
  | refine ⟨sz_ (by decide), fun _ _ => ?_⟩)
local macro_rules | `(tactic| walk_at "rd") => `(tactic| repeat walk_at "r1")
section
variable {P : Program} {w : World} {K : PySem.W.Frag} {mg : Str → Option Value} {base : Heap}
theorem at_st_ne {cs : List Int} {c d v : Int} (hc : 0 ≤ c) (hd : 0 ≤ d) (h : c ≠ d) : at_ (st_ cs c v) d = at_ cs d := by
  unfold at_ st_
  have : c.toNat ≠ d.toNat := by omega
  simp [List.getD, List.getElem?_set, this]
theorem two_ {lv : List Lv} {b : Bool} {c d : Int} (h : mayM lv b c = true) (h' : mayM lv b d = true) : ∀ x ∈ [c, d], mayM lv b x = true := fun x hx => by
  simp only [List.mem_cons, List.not_mem_nil, or_false] at hx
  rcases hx with e | e <;> rw [e] <;> assumption
def nm_Shift_step : List Str := ["self", "boxes", "store", "here", "there", "far"]
theorem sc_Shift_step : FnScope nm_Shift_step ["self", "boxes", "store"] (defScope s_Shift_step) := ⟨rfl, rfl, rfl, by decide +kernel, rfl, by decide +kernel, by decide +kernel⟩
theorem ok_Shift_step (T : Txt K mg) {f : Addr} {fd : FuncData} {dv : List V} {kw : List (Str × V)} (F : FunD K "step" "Shift.step" (defArgs s_Shift_step) (defBody s_Shift_step) (defScope s_Shift_step) dv kw f fd) : FnOk P w K mg base (CXr P w) 6 f fd ["self", "boxes", "store"] (sp_step K (.lng .shift)) := by
  refine F.ok sc_Shift_step (fun vs H Q E h => ?_) (fun cdv A outer s H vs Q E hr h => ?_)
  · obtain ⟨a, b, s, rfl, _⟩ := h
    rfl
  · obtain ⟨a, b, s, rfl, h⟩ := h
    refine ⟨_, (pss_cons (ps_if (pt_cmpR op_eq (pe_methG (pv 1) T.c_Boxes T.m_Boxes_holds (good_Boxes_holds T) (hr.mono (by decide)) hx_cx (pa_cons pe_str pa_nil)) pe_int (nomark _)) (pss_one (ps_ret pe_int)) pss_nil) (pss_cons (ps_set (i := 3) sc_Shift_step.nd rfl (Or.inl rfl) (pe_methG (pv 1) T.c_Boxes T.m_Boxes_holds (good_Boxes_holds T) (hr.mono (by decide)) hx_cx (pa_cons pe_str pa_nil))) (pss_cons (ps_set (i := 4) sc_Shift_step.nd rfl (Or.inl rfl) (pe_methG (pv 1) T.c_Boxes T.m_Boxes_holds (good_Boxes_holds T) (hr.mono (by decide)) hx_cx (pa_cons pe_str pa_nil))) (pss_cons (ps_set (i := 5) sc_Shift_step.nd rfl (Or.inl rfl) pe_int) (pss_cons (ps_if (pt_cmpR op_gt (pv 4) (pv 3) (nomark _)) (pss_one (ps_set (i := 5) sc_Shift_step.nd rfl (Or.inl rfl) (pe_op op_sub (pe_methG (pv 1) T.c_Boxes T.m_Boxes_holds (good_Boxes_holds T) (hr.mono (by decide)) hx_cx (pa_cons pe_str pa_nil)) pe_int))) pss_nil) (pss_cons (ps_expr (pe_callG (good_check T) (hr.mono (by decide)) T.g_check hx_cx (pa_cons (pv 2) (pa_cons (pe_lst (pa_cons (pe_op op_add (pv 3) (pv 5)) pa_nil)) (pa_cons (pe_lst (pa_cons (pe_op op_add (pv 4) (pv 5)) pa_nil)) pa_nil))))) (pss_cons (ps_expr (pe_methG (pv 2) T.c_Noted T.m_Noted_put (good_Noted_put T) (hr.mono (by decide)) hx_cx (pa_cons (pe_op op_add (pv 4) (pv 5)) (pa_cons (pe_methG (pv 2) T.c_Noted T.m_Noted_look (good_Noted_look T) (hr.mono (by decide)) hx_cx (pa_cons (pe_op op_add (pv 3) (pv 5)) pa_nil)) pa_nil)))) (pss_cons (ps_if (pt_cmpR op_le (pv 4) (pv 3) (nomark _)) (pss_cons (ps_expr (pe_methG (pv 1) T.c_Boxes T.m_Boxes_give (good_Boxes_give T) (hr.mono (by decide)) hx_cx (pa_cons pe_str (pa_cons (pe_op op_add (pv 3) pe_int) pa_nil)))) (pss_one (ps_expr (pe_methG (pv 1) T.c_Boxes T.m_Boxes_give (good_Boxes_give T) (hr.mono (by decide)) hx_cx (pa_cons pe_str (pa_cons (pe_op op_add (pv 4) pe_int) pa_nil)))))) pss_nil) (pss_one (ps_ret (pe_callG (good_lessen T) (hr.mono (by decide)) T.g_lessen hx_cx (pa_cons (pv 1) (pa_cons pe_int pa_nil))))))))))))), ?_⟩
    obtain ⟨A, dx, v, cs, lv, rfl, rfl, nd, ha, w, ok, h60, ky, kn⟩ := h
    obtain ⟨l0, l1⟩ := ok_left ok
    refine ⟨_, rfl, A.b, A.bx, _, rfl, w.box, rfl, A.b, .left, rfl, A.nl, A.bx, v, w.box, w.num, rfl, _, rfl, ?_⟩
    by_cases h0 : v.left = 0
    · rw [show decide (V.int (v.get .left) = V.int 0) = true from dI_t h0]
      exact iteT (ky _ _ _ _ (if_pos h0) [] H Kp.refl w ChI.nil)
    · rw [show decide (V.int (v.get .left) = V.int 0) = false from dI_f h0]
      refine iteF ⟨_, rfl, A.b, A.bx, _, rfl, w.box, rfl, A.b, .here, rfl, A.nl, A.bx, v, w.box, w.num, _, rfl, A.b, A.bx, _, rfl, w.box, rfl, A.b, .there, rfl, A.nl, A.bx, v, w.box, w.num, ?_⟩
      refine ⟨_, rfl, _, rfl, _, _, rfl, rfl, _, rfl, ?_⟩
      by_cases c : v.there > v.here
      · -- the far end first: here and there stay
        rw [show decide (v.get .here < v.get .there) = true from decide_eq_true c]
        have ef : (if v.there > v.here then v.left - 1 else 0) = v.left - 1 := if_pos c
        refine iteT ⟨_, rfl, A.b, A.bx, _, rfl, w.box, rfl, A.b, .left, rfl, A.nl, A.bx, v, w.box, w.num, _, _, rfl, rfl, ?_⟩
        refine ⟨_, rfl, _, rfl, _, rfl, _, _, rfl, rfl, sz_ (by simp), fun p hp => ?_⟩
        refine ⟨_, rfl, _, rfl, _, _, rfl, rfl, sz_ (by simp), fun q hq => ?_⟩
        have s1 := Same.new (o := .lst [.int (v.there + (v.left - 1))]) (Same.new (o := .lst [.int (v.here + (v.left - 1))]) (Same.refl H) hp) hq
        have w1 := w.same s1
        have h5 : ¬ v.there ≤ v.here := by omega
        have un : ∀ {r}, (if mayM lv true (v.here + (v.left - 1)) && mayM lv false (v.there + (v.left - 1)) then some (dn (v.left - 1), { v with left := v.left - 1 }, st_ cs (v.there + (v.left - 1)) (at_ cs (v.here + (v.left - 1))), [(v.there + (v.left - 1), at_ cs (v.there + (v.left - 1)), at_ cs (v.here + (v.left - 1)))]) else none) = r → stepM (.lng .shift) v cs lv = r := fun {r} hr => by
          rw [← hr]
          show (if v.left = 0 then _ else _) = _
          rw [if_neg h0]
          simp only [ef, if_neg h5]
        refine ⟨A.s, p, q, rfl, A.sx, A.kl, A.gl, A.pl, cs, lv, [v.here + (v.left - 1)], [v.there + (v.left - 1)], w1.sto, w1.cel, upd_keep upd_same hq, upd_same, fun m1 m2 => ?_, fun nn d H2 h2 => kn (un (if_neg (nab fun z => nn ⟨one_ z.1, one_ z.2⟩))) _ d H2 (.inl rfl) (s1.trans h2)⟩
        have ma := m1 _ (List.mem_singleton.mpr rfl)
        have mb := m2 _ (List.mem_singleton.mpr rfl)
        refine ⟨_, rfl, A.s, A.sx, _, rfl, w1.sto, rfl, _, rfl, _, rfl, _, _, rfl, rfl, ?_⟩
        refine ⟨_, rfl, A.s, A.sx, _, rfl, w1.sto, rfl, _, rfl, _, rfl, _, _, rfl, rfl, A.s, _, rfl, A.sx, A.kl, A.gl, A.pl, cs, lv, w1.sto, w1.cel, fun _ => ?_, fun z => tf ma z⟩
        refine ⟨A.s, _, _, rfl, A.sx, A.kl, A.gl, A.pl, cs, lv, [], w1.sto, w1.cel, w1.put, by simp, nd.kp, fun _ t H2 ht k2 e1 e2 e3 => ?_, fun z => tf mb z⟩
        have w2 := w1.putn nd k2 e1 e2 (st_len _ _ _)
        refine ⟨_, rfl, _, rfl, _, _, rfl, rfl, _, rfl, ?_⟩
        rw [show decide (v.get .there ≤ v.get .here) = false from decide_eq_false (by show ¬ v.there ≤ v.here; omega)]
        refine iteF ⟨_, rfl, A.b, _, rfl, A.nl, A.bx, v, w2.box, w2.num, inC_of (by omega) (by omega), fun H4 k4 e4 => ?_⟩
        exact ky (dn (v.left - 1)) _ _ _ (un (if_pos (ab ma mb))) [t] H4 ((Kp.same s1).trans ((kp2 k2).trans (kp1 k4))) (w2.given nd k4 e4) (ChI.nil.snoc (k4 _ _ (tne e3 w2.num) e3))
      · rw [show decide (v.get .here < v.get .there) = false from decide_eq_false c]
        have ef : (if v.there > v.here then v.left - 1 else 0) = 0 := if_neg c
        refine iteF ?_
        refine ⟨_, rfl, _, rfl, _, rfl, _, _, rfl, rfl, sz_ (by simp), fun p hp => ?_⟩
        refine ⟨_, rfl, _, rfl, _, _, rfl, rfl, sz_ (by simp), fun q hq => ?_⟩
        have s1 := Same.new (o := .lst [.int (v.there + 0)]) (Same.new (o := .lst [.int (v.here + 0)]) (Same.refl H) hp) hq
        have w1 := w.same s1
        have h5 : v.there ≤ v.here := by omega
        have un : ∀ {r}, (if mayM lv true (v.here + 0) && mayM lv false (v.there + 0) then some (dn (v.left - 1), { v with here := v.here + 1, there := v.there + 1, left := v.left - 1 }, st_ cs (v.there + 0) (at_ cs (v.here + 0)), [(v.there + 0, at_ cs (v.there + 0), at_ cs (v.here + 0))]) else none) = r → stepM (.lng .shift) v cs lv = r := fun {r} hr => by
          rw [← hr]
          show (if v.left = 0 then _ else _) = _
          rw [if_neg h0]
          simp only [ef, if_pos h5]
        refine ⟨A.s, p, q, rfl, A.sx, A.kl, A.gl, A.pl, cs, lv, [v.here + 0], [v.there + 0], w1.sto, w1.cel, upd_keep upd_same hq, upd_same, fun m1 m2 => ?_, fun nn d H2 h2 => kn (un (if_neg (nab fun z => nn ⟨one_ z.1, one_ z.2⟩))) _ d H2 (.inl rfl) (s1.trans h2)⟩
        have ma := m1 _ (List.mem_singleton.mpr rfl)
        have mb := m2 _ (List.mem_singleton.mpr rfl)
        have la := mayM_lt ma
        have lb := mayM_lt mb
        have len := w.cel.len
        refine ⟨_, rfl, A.s, A.sx, _, rfl, w1.sto, rfl, _, rfl, _, rfl, _, _, rfl, rfl, ?_⟩
        refine ⟨_, rfl, A.s, A.sx, _, rfl, w1.sto, rfl, _, rfl, _, rfl, _, _, rfl, rfl, A.s, _, rfl, A.sx, A.kl, A.gl, A.pl, cs, lv, w1.sto, w1.cel, fun _ => ?_, fun z => tf ma z⟩
        refine ⟨A.s, _, _, rfl, A.sx, A.kl, A.gl, A.pl, cs, lv, [], w1.sto, w1.cel, w1.put, by simp, nd.kp, fun _ t H2 ht k2 e1 e2 e3 => ?_, fun z => tf mb z⟩
        have w2 := w1.putn nd k2 e1 e2 (st_len _ _ _)
        refine ⟨_, rfl, _, rfl, _, _, rfl, rfl, _, rfl, ?_⟩
        rw [show decide (v.get .there ≤ v.get .here) = true from decide_eq_true h5]
        refine iteT ⟨_, rfl, A.b, A.bx, _, rfl, w2.box, rfl, _, rfl, _, _, rfl, rfl, A.b, .here, _, rfl, A.nl, A.bx, v, w2.box, w2.num, fun _ H3 k3 e3' => ?_, fun z => tf (fit_here (by show _ ≤ v.here + 1; omega) (by show v.here + 1 ≤ _; omega)) z⟩
        have w3 := w2.given nd k3 e3'
        refine ⟨_, rfl, A.b, A.bx, _, rfl, w3.box, rfl, _, rfl, _, _, rfl, rfl, A.b, .there, _, rfl, A.nl, A.bx, _, w3.box, w3.num, fun _ H4 k4 e4 => ?_, fun z => tf (fit_there (by show _ ≤ v.there + 1; omega) (by show v.there + 1 ≤ _; omega)) z⟩
        have w4 := w3.given nd k4 e4
        refine ⟨_, rfl, A.b, _, rfl, A.nl, A.bx, _, w4.box, w4.num, inC_of (by show 0 ≤ v.left - 1; omega) (by show v.left - 1 ≤ _; omega), fun H5 k5 e5 => ?_⟩
        have t3 := k3 _ _ (tne e3 w2.num) e3
        have t4 := k4 _ _ (tne t3 w3.num) t3
        exact ky (dn (v.left - 1)) _ _ _ (un (if_pos (ab ma mb))) [t] H5 ((Kp.same s1).trans ((kp2 k2).trans ((kp1 k3).trans ((kp1 k4).trans (kp1 k5))))) (w4.given nd k5 e5) (ChI.nil.snoc (k5 _ _ (tne t4 w4.num) t4))
theorem good_Shift_step (T : Txt K mg) : Good P w K mg base 6 (He.ma K (He.ga K "Shift") "step") [] (sp_step K (.lng .shift)) := by
  obtain ⟨fd, F⟩ := T.d_Shift_step
  exact ⟨⟨fd, _, [], ok_Shift_step T F, F.bindsN fun _ _ _ _ _ _ us hl => match us, hl with | [_, _, _], _ => rfl, .nil⟩, F.kp⟩
def nm_Turn_step : List Str := ["self", "boxes", "store", "here", "left", "other", "content"]
theorem sc_Turn_step : FnScope nm_Turn_step ["self", "boxes", "store"] (defScope s_Turn_step) := ⟨rfl, rfl, rfl, by decide +kernel, rfl, by decide +kernel, by decide +kernel⟩
theorem ok_Turn_step (T : Txt K mg) {f : Addr} {fd : FuncData} {dv : List V} {kw : List (Str × V)} (F : FunD K "step" "Turn.step" (defArgs s_Turn_step) (defBody s_Turn_step) (defScope s_Turn_step) dv kw f fd) : FnOk P w K mg base (CXr P w) 6 f fd ["self", "boxes", "store"] (sp_step K (.lng .turn)) := by
  refine F.ok sc_Turn_step (fun vs H Q E h => ?_) (fun cdv A outer s H vs Q E hr h => ?_)
  · obtain ⟨a, b, s, rfl, _⟩ := h
    rfl
  · obtain ⟨a, b, s, rfl, h⟩ := h
    refine ⟨_, (pss_cons (ps_if (pt_cmpR op_eq (pe_methG (pv 1) T.c_Boxes T.m_Boxes_holds (good_Boxes_holds T) (hr.mono (by decide)) hx_cx (pa_cons pe_str pa_nil)) pe_int (nomark _)) (pss_one (ps_ret pe_int)) pss_nil) (pss_cons (ps_set (i := 3) sc_Turn_step.nd rfl (Or.inl rfl) (pe_methG (pv 1) T.c_Boxes T.m_Boxes_holds (good_Boxes_holds T) (hr.mono (by decide)) hx_cx (pa_cons pe_str pa_nil))) (pss_cons (ps_set (i := 4) sc_Turn_step.nd rfl (Or.inl rfl) (pe_methG (pv 1) T.c_Boxes T.m_Boxes_holds (good_Boxes_holds T) (hr.mono (by decide)) hx_cx (pa_cons pe_str pa_nil))) (pss_cons (ps_if (pt_cmpR op_eq (pv 4) pe_int (nomark _)) (pss_one (ps_ret (pe_callG (good_lessen T) (hr.mono (by decide)) T.g_lessen hx_cx (pa_cons (pv 1) (pa_cons pe_int pa_nil))))) pss_nil) (pss_cons (ps_set (i := 5) sc_Turn_step.nd rfl (Or.inl rfl) (pe_op op_sub (pe_op op_add (pv 3) (pv 4)) pe_int)) (pss_cons (ps_expr (pe_callG (good_check T) (hr.mono (by decide)) T.g_check hx_cx (pa_cons (pv 2) (pa_cons (pe_lst (pa_cons (pv 3) (pa_cons (pv 5) pa_nil))) (pa_cons (pe_lst (pa_cons (pv 3) (pa_cons (pv 5) pa_nil))) pa_nil))))) (pss_cons (ps_set (i := 6) sc_Turn_step.nd rfl (Or.inl rfl) (pe_methG (pv 2) T.c_Noted T.m_Noted_look (good_Noted_look T) (hr.mono (by decide)) hx_cx (pa_cons (pv 3) pa_nil))) (pss_cons (ps_expr (pe_methG (pv 2) T.c_Noted T.m_Noted_put (good_Noted_put T) (hr.mono (by decide)) hx_cx (pa_cons (pv 3) (pa_cons (pe_methG (pv 2) T.c_Noted T.m_Noted_look (good_Noted_look T) (hr.mono (by decide)) hx_cx (pa_cons (pv 5) pa_nil)) pa_nil)))) (pss_cons (ps_expr (pe_methG (pv 2) T.c_Noted T.m_Noted_put (good_Noted_put T) (hr.mono (by decide)) hx_cx (pa_cons (pv 5) (pa_cons (pv 6) pa_nil)))) (pss_cons (ps_expr (pe_methG (pv 1) T.c_Boxes T.m_Boxes_give (good_Boxes_give T) (hr.mono (by decide)) hx_cx (pa_cons pe_str (pa_cons (pe_op op_add (pv 3) pe_int) pa_nil)))) (pss_one (ps_ret (pe_callG (good_lessen T) (hr.mono (by decide)) T.g_lessen hx_cx (pa_cons (pv 1) (pa_cons pe_int pa_nil))))))))))))))), ?_⟩
    obtain ⟨A, dx, v, cs, lv, rfl, rfl, nd, ha, w, ok, h60, ky, kn⟩ := h
    obtain ⟨l0, l1⟩ := ok_left ok
    refine ⟨_, rfl, A.b, A.bx, _, rfl, w.box, rfl, A.b, .left, rfl, A.nl, A.bx, v, w.box, w.num, rfl, _, rfl, ?_⟩
    by_cases h0 : v.left = 0
    · rw [show decide (V.int (v.get .left) = V.int 0) = true from dI_t h0]
      exact iteT (ky _ _ _ _ (if_pos h0) [] H Kp.refl w ChI.nil)
    · rw [show decide (V.int (v.get .left) = V.int 0) = false from dI_f h0]
      refine iteF ⟨_, rfl, A.b, A.bx, _, rfl, w.box, rfl, A.b, .here, rfl, A.nl, A.bx, v, w.box, w.num, _, rfl, A.b, A.bx, _, rfl, w.box, rfl, A.b, .left, rfl, A.nl, A.bx, v, w.box, w.num, _, rfl, rfl, _, rfl, ?_⟩
      by_cases h1 : v.left = 1
      · rw [show decide (V.int (v.get .left) = V.int 1) = true from dI_t h1]
        refine iteT ⟨_, rfl, A.b, _, rfl, A.nl, A.bx, v, w.box, w.num, inC_of (by omega) (by omega), fun H4 k4 e4 => ?_⟩
        have e0 : v.left - 1 = 0 := by omega
        rw [e0] at e4 ⊢
        exact ky _ _ _ _ ((if_neg h0).trans (if_pos h1)) [] H4 (kp1 k4) (w.given nd k4 e4) ChI.nil
      · rw [show decide (V.int (v.get .left) = V.int 1) = false from dI_f h1]
        refine iteF ⟨_, rfl, _, rfl, _, _, rfl, rfl, _, _, rfl, rfl, ?_⟩
        refine ⟨_, rfl, _, rfl, _, rfl, sz_ (by simp), fun p hp => ?_⟩
        refine ⟨_, rfl, _, rfl, sz_ (by simp), fun q hq => ?_⟩
        obtain ⟨o, eo⟩ : ∃ o, o = v.here + v.left - 1 := ⟨_, rfl⟩
        have s1 := Same.new (o := .lst [.int v.here, .int (v.here + v.left - 1)]) (Same.new (o := .lst [.int v.here, .int (v.here + v.left - 1)]) (Same.refl H) hp) hq
        have w1 := w.same s1
        refine ⟨A.s, p, q, rfl, A.sx, A.kl, A.gl, A.pl, cs, lv, [v.here, v.here + v.left - 1], [v.here, v.here + v.left - 1], w1.sto, w1.cel, upd_keep upd_same hq, upd_same, fun m1 m2 => ?_,
          fun nn d H2 h2 => kn ((if_neg h0).trans ((if_neg h1).trans (if_neg (nab fun z => nn ⟨two_ (Bool.and_eq_true_iff.mp z.1).1 (Bool.and_eq_true_iff.mp z.1).2, two_ (Bool.and_eq_true_iff.mp z.2).1 (Bool.and_eq_true_iff.mp z.2).2⟩)))) _ d H2 (.inl rfl) (s1.trans h2)⟩
        have ma := m1 v.here (by simp)
        have mb := m1 (v.here + v.left - 1) (by simp)
        have mc := m2 v.here (by simp)
        have md := m2 (v.here + v.left - 1) (by simp)
        have la := mayM_lt ma
        have len := w.cel.len
        refine ⟨_, rfl, A.s, A.sx, _, rfl, w1.sto, rfl, _, rfl, A.s, _, rfl, A.sx, A.kl, A.gl, A.pl, cs, lv, w1.sto, w1.cel, fun _ => ?_, fun z => tf ma z⟩
        refine ⟨_, rfl, A.s, A.sx, _, rfl, w1.sto, rfl, _, rfl, _, rfl, A.s, A.sx, _, rfl, w1.sto, rfl, _, rfl, A.s, _, rfl, A.sx, A.kl, A.gl, A.pl, cs, lv, w1.sto, w1.cel, fun _ => ?_, fun z => tf mb z⟩
        refine ⟨A.s, _, _, rfl, A.sx, A.kl, A.gl, A.pl, cs, lv, [], w1.sto, w1.cel, w1.put, by simp, nd.kp, fun _ t H2 ht k2 e1 e2 e3 => ?_, fun z => tf mc z⟩
        have w2 := w1.putn nd k2 e1 e2 (st_len _ _ _)
        refine ⟨_, rfl, A.s, A.sx, _, rfl, w2.sto, rfl, _, rfl, _, rfl, A.s, _, _, rfl, A.sx, A.kl, A.gl, A.pl, _, lv, _, w2.sto, w2.cel, w2.put, by simp, nd.kp, fun _ t' H3 ht' k3 f1 f2 f3 => ?_, fun z => tf md z⟩
        have w3 := w2.putn (ps' := ([t, t'] : List Addr).map V.ref) nd k3 f1 f2 (st_len _ _ _)
        refine ⟨_, rfl, A.b, A.bx, _, rfl, w3.box, rfl, _, rfl, _, _, rfl, rfl, A.b, .here, _, rfl, A.nl, A.bx, v, w3.box, w3.num, fun _ H4 k4 e4 => ?_, fun z => tf (fit_here (by show _ ≤ v.here + 1; omega) (by show v.here + 1 ≤ _; omega)) z⟩
        have w4 := w3.given nd k4 e4
        refine ⟨_, rfl, A.b, _, rfl, A.nl, A.bx, _, w4.box, w4.num, inC_of (by show 0 ≤ v.left - 2; omega) (by show v.left - 2 ≤ _; omega), fun H5 k5 e5 => ?_⟩
        have ae : at_ (st_ cs v.here (at_ cs (v.here + v.left - 1))) (v.here + v.left - 1) = at_ cs (v.here + v.left - 1) := at_st_ne la.1 (by omega) (by omega)
        have f3 : H3 t' = some (.tup [.int (v.here + v.left - 1), .int (at_ cs (v.here + v.left - 1)), .int (at_ cs v.here)]) := by
          rw [show V.int (at_ cs (v.here + v.left - 1)) = V.int (at_ (st_ cs v.here (at_ cs (v.here + v.left - 1))) (v.here + v.left - 1)) from congrArg V.int ae.symm]
          exact f3
        have t3 : H3 t = some (.tup [.int v.here, .int (at_ cs v.here), .int (at_ cs (v.here + v.left - 1))]) := k3 _ _ (notin2 (ne_of e3 w2.cel.k (by intro z; cases z)) (ne_of e3 w2.put (by intro z; cases z))) e3
        have t4 := k4 _ _ (tne t3 w3.num) t3
        have t5 := k5 _ _ (tne t4 w4.num) t4
        have u4 := k4 _ _ (tne f3 w3.num) f3
        have u5 := k5 _ _ (tne u4 w4.num) u4
        exact ky (dn (v.left - 2)) _ _ _ ((if_neg h0).trans ((if_neg h1).trans (if_pos (ab (ab ma mb) (ab mc md))))) [t, t'] H5 ((Kp.same s1).trans ((kp2 k2).trans ((kp2 k3).trans ((kp1 k4).trans (kp1 k5))))) (w4.given nd k5 e5)
          ((ChI.nil.snoc (e := (v.here, at_ cs v.here, at_ cs (v.here + v.left - 1))) t5).snoc (e := (v.here + v.left - 1, at_ cs (v.here + v.left - 1), at_ cs v.here)) u5)
theorem good_Turn_step (T : Txt K mg) : Good P w K mg base 6 (He.ma K (He.ga K "Turn") "step") [] (sp_step K (.lng .turn)) := by
  obtain ⟨fd, F⟩ := T.d_Turn_step
  exact ⟨⟨fd, _, [], ok_Turn_step T F, F.bindsN fun _ _ _ _ _ _ us hl => match us, hl with | [_, _, _], _ => rfl, .nil⟩, F.kp⟩
end
end HB


namespace HB
open PySem PySem.Spec PyProof.Rows L2
local macro_rules | `(tactic| walk_at "ne") => `(tactic| first | assumption | (apply Ne.symm; assumption) | exact ne_of_none (by assumption) (by assumption) | exact ne_new (by assumption) (by assumption) | (intro q; cases q; done))
local macro_rules | `(tactic| walk_at "hp") => `(tactic| first
  | assumption
  | exact upd_same
  | (refine upd_keep ?_ (by assumption); walk_at "hp")
  | (refine upd_far (by walk_at "ne") ?_; walk_at "hp")
  | (refine Same.get (by assumption) ?_; walk_at "hp")
  | (refine Kp.get (by assumption) ?_ (notin1 (by walk_at "ne")); walk_at "hp"))
local macro_rules | `(tactic| walk_at "same") => `(tactic| first
  | assumption
  | exact Same.refl _
  | (refine Same.new ?_ (by assumption); walk_at "same")
  | (refine Same.trans ?_ (by assumption); walk_at "same"))
/-- one row of a reading -/
local macro_rules | `(tactic| walk_at "r1") => `(tactic| first
  | refine ⟨_, rfl, ?_⟩
  | refine ⟨_, _, rfl, rfl, ?_⟩
  | refine ⟨rfl, ?_⟩
  | refine ⟨_, _, _, _, _, rfl, (by walk_at "hp"), (by assumption), (by assumption), rfl, ?_⟩
  | refine ⟨sz_ (by decide), fun _ _ => ?_⟩)
local macro_rules | `(tactic| walk_at "rd") => `(tactic| repeat walk_at "r1")
section
variable {P : Program} {w : World} {K : PySem.W.Frag} {mg : Str → Option Value} {base : Heap}
/-! ### machines -/
abbrev DeI (K : PySem.W.Frag) (H : Hp) (d : Spc) (a : Addr) : Prop := ∃ dx, H a = some (.ins (He.ga K (clsN d)) dx (fldS d))
def DsI (K : PySem.W.Frag) (H : Hp) (rs : List Addr) (sp : List Spc) : Prop := rs.length = sp.length ∧ ∀ (i : Nat) (a : Addr) (d : Spc), rs[i]? = some a → sp[i]? = some d → DeI K H d a
theorem DsI.same {H H' : Hp} {rs : List Addr} {sp : List Spc} (D : DsI K H rs sp) (s : Same H H') : DsI K H' rs sp := ⟨D.1, fun i a d h1 h2 => let ⟨dx, e⟩ := D.2 i a d h1 h2; ⟨dx, s _ _ e⟩⟩
theorem DsI.at {H : Hp} {rs : List Addr} {sp : List Spc} (D : DsI K H rs sp) {i : Nat} {a : Addr} (h : rs[i]? = some a) : ∃ d, sp[i]? = some d ∧ DeI K H d a := by
  have hi := (List.getElem?_eq_some_iff.mp h).1
  have hi' : i < sp.length := by rw [← D.1]; exact hi
  exact ⟨sp[i], by simp, D.2 i a _ h (by simp)⟩
theorem isaD (T : Txt K mg) (d : Spc) : IsaC K (He.ga K (clsN d)) (He.ga K "Deed") ∧ Cls K (He.ga K (clsN d)) := by
  cases d with
  | lng l => cases l <;> first | exact ⟨T.isa_Copy, T.c_Copy⟩ | exact ⟨T.isa_Fill, T.c_Fill⟩ | exact ⟨T.isa_Seek, T.c_Seek⟩ | exact ⟨T.isa_Match, T.c_Match⟩ | exact ⟨T.isa_Shift, T.c_Shift⟩ | exact ⟨T.isa_Turn, T.c_Turn⟩
  | set b n => exact ⟨T.isa_Set, T.c_Set⟩
  | add b n => exact ⟨T.isa_Add, T.c_Add⟩
  | take b c => exact ⟨T.isa_Take, T.c_Take⟩
  | read b => exact ⟨T.isa_Read, T.c_Read⟩
  | write b => exact ⟨T.isa_Write, T.c_Write⟩
  | hop m o => exact ⟨T.isa_Hop, T.c_Hop⟩
theorem refs_get {rs : List Addr} {i : Nat} {y : V} (h : (rs.map V.ref)[i]? = some y) : ∃ a, rs[i]? = some a ∧ y = V.ref a := by
  rw [List.getElem?_map] at h
  cases e : rs[i]? with
  | none =>
    rw [e] at h
    cases h
  | some c =>
    rw [e] at h
    exact ⟨c, rfl, (Option.some.inj h).symm⟩
def sp_need_rows (K : PySem.W.Frag) : Sp := fun vs H Q _ => ∃ (l : Addr), vs = [.ref l] ∧ ∃ rs sp, H l = some (.lst (rs.map V.ref)) ∧ DsI K H rs sp ∧ 1 ≤ sp.length ∧ sp.length ≤ 24 ∧ ∀ H', Same H H' → Q .non H'
def nm_need_rows : List Str := ["rows", "at", "thing"]
theorem sc_need_rows : FnScope nm_need_rows ["rows"] (defScope s_need_rows) := ⟨rfl, rfl, rfl, by decide +kernel, rfl, by decide +kernel, by decide +kernel⟩
theorem ok_need_rows (T : Txt K mg) {f : Addr} {fd : FuncData} {dv : List V} {kw : List (Str × V)} (F : FunD K "need_rows" "need_rows" (defArgs s_need_rows) (defBody s_need_rows) (defScope s_need_rows) dv kw f fd) : FnOk P w K mg base (CXr P w) 1 f fd ["rows"] (sp_need_rows K) := by
  refine F.ok sc_need_rows (fun vs H Q E h => ?_) (fun cdv A outer s H vs Q E hr h => ?_)
  · obtain ⟨l, rfl, _⟩ := h
    rfl
  · obtain ⟨l, rfl, h⟩ := h
    refine ⟨_, (pss_cons (ps_if (PW.pt (pw_or (pt_not (pt_val (pe_callB call_isi (by rfl) T.f_isinstance (by decide +kernel) (pa_cons (pv 0) (pa_cons (pe_ty (n := "list") T.f_list (by decide +kernel)) pa_nil))))) (pw_or1 (pt_not (pt_chain op_le op_le pe_int (pe_callB call_len_seq (by rfl) T.f_len PySem.boot_len (pa_cons (pv 0) pa_nil)) (pe_gI T.i_MOST_ROWS)))))) (pss_one ps_never) pss_nil) (pss_one (ps_for po_cx rfl (pi_enum (by rfl) T.f_enumerate (pa_cons (pv 0) pa_nil)) (pg_tup rfl (pgs_cons (pg_name (i := 1) sc_need_rows.nd rfl (Or.inl rfl)) (pgs_cons (pg_name (i := 2) sc_need_rows.nd rfl (Or.inl rfl)) pgs_nil))) (pss_one (ps_if (pt_not (pt_val (pe_callB call_isi (by rfl) T.f_isinstance (by decide +kernel) (pa_cons (pv 2) (pa_cons (pe_gR T.g_Deed) pa_nil))))) (pss_one ps_never) pss_nil))))), ?_⟩
    obtain ⟨rs, sp, hc, D, h1, h2, k⟩ := h
    have hl : (((rs.map V.ref).length : Nat) : Int) = sp.length := by rw [List.length_map, D.1]
    refine ⟨_, rfl, _, _, _, _, true, rfl, .ty _, .base (.lst hc), rfl, true, rfl, ?_⟩
    refine ⟨_, rfl, _, _, rfl, .inl (SqL.of hc), _, _, rfl, rfl, _, rfl, ?_⟩
    rw [decide_eq_true (by rw [hl]; omega)]
    refine iteT ?_
    refine ⟨_, _, rfl, rfl, _, rfl, ?_⟩
    rw [decide_eq_true (by rw [hl]; omega)]
    refine iteF ?_
    refine ⟨_, rfl, _, rs.map V.ref, rfl, SqL.of hc, for_it (walk_enum (xs := rs.map V.ref)) (fun i σ H1 => (∃ v1 v2 : Option V, σ = [some (.ref l), v1, v2]) ∧ Same H H1) ⟨⟨_, _, rfl⟩, Same.refl _⟩ (fun i σ H1 _ q => SqL.of (q.2 _ _ hc)) ?_ fun σ H1 q => ?_⟩
    · rintro i x σ H1 H2 hi ⟨⟨v1, v2, rfl⟩, q1⟩ ⟨t, x', y', rfl, ht, rfl, ex, ey⟩
      cases ex
      obtain ⟨a, ea, rfl⟩ := refs_get ey
      obtain ⟨d, ed, dx, e⟩ := D.at ea
      obtain ⟨I, C⟩ := isaD T d
      refine ⟨t, _, rfl, SqT.of upd_same, rfl, _, _, rfl, _, _, rfl, rfl, ?_⟩
      refine ⟨_, rfl, _, _, _, _, true, rfl, .own _, .base (.ins (upd_keep (q1 _ _ e) ht) C I.ha I.hn I.htk I.hm), I.me, true, rfl, ?_⟩
      exact iteF ⟨⟨_, _, rfl⟩, Same.new q1 ht⟩
    · obtain ⟨⟨v1, v2, rfl⟩, q1⟩ := q
      exact k _ q1
theorem good_need_rows (T : Txt K mg) : Good P w K mg base 1 (He.ga K "need_rows") [] (sp_need_rows K) := by
  obtain ⟨fd, F⟩ := T.d_need_rows
  exact ⟨⟨fd, _, [], ok_need_rows T F, F.bindsN fun _ _ _ _ _ _ us hl => match us, hl with | [_], _ => rfl, .nil⟩, F.kp⟩
structure Md where
  m : Addr
  mx : Addr
  dl : Addr
  el : Addr
  rs : List Addr
  A : Ad
def wF (M : Md) (at' : Int) : Fs := [("deeds", .ref M.dl), ("store", .ref M.A.s), ("boxes", .ref M.A.b), ("spot", .int at'), ("entries", .ref M.el)]
structure Ndm (M : Md) : Prop where
  a : Nd M.A
  dn : M.dl ≠ M.A.nl
  dk : M.dl ≠ M.A.kl
  dg : M.dl ≠ M.A.gl
  dp : M.dl ≠ M.A.pl
  de : M.dl ≠ M.el
  en : M.el ≠ M.A.nl
  ek : M.el ≠ M.A.kl
  eg : M.el ≠ M.A.gl
  ep : M.el ≠ M.A.pl
structure MI (K : PySem.W.Frag) (M : Md) (H : Hp) (sp : List Spc) (at' : Int) (v : Six) (cs : List Int) (lv : List Lv) (ps : List V) (es : List Addr) : Prop where
  mac : H M.m = some (.ins (He.ga K "Watched") M.mx (wF M at'))
  dl : H M.dl = some (.lst (M.rs.map V.ref))
  ds : DsI K H M.rs sp
  wd : Wd K M.A H v cs lv ps
  el : H M.el = some (.lst (es.map V.ref))
theorem fldS_w {d : Spc} {M : Md} {i : Int} : fldS d ≠ wF M i := fun z => by
  have z' := congrArg List.length z
  cases d <;> cases z'
theorem fldS_n {d : Spc} {a b c : Addr} : fldS d ≠ nF a b c := fun z => by
  have z' := congrArg List.length z
  cases d <;> cases z'
theorem ins_fs {C C' dx dx' : Addr} {fs fs' : Fs} (h : fs ≠ fs') : (HO.ins C dx fs) ≠ .ins C' dx' fs' := fun z => h (by cases z; rfl)
theorem len_ne {fs fs' : Fs} (h : fs.length ≠ fs'.length) : fs ≠ fs' := fun z => h (by rw [z])
section
variable {M : Md} {H H' : Hp} {sp : List Spc} {at' at2 : Int} {v v' : Six} {cs cs' : List Int} {lv lv' : List Lv} {ps ps' : List V} {es es' : List Addr}
theorem ref_m {a : Addr} {C dx : Addr} {fs : Fs} (h : H a = some (.ins C dx fs)) {b : Addr} {xs : List V} (h' : H b = some (.lst xs)) : a ≠ b := ne_of h h' (by intro z; cases z)
/-- the mutable ones, but puts -/
def Md.mu (M : Md) : List Addr := [M.m, M.A.s, M.A.nl, M.A.kl, M.A.gl, M.el]
theorem MI.rs_no (W : MI K M H sp at' v cs lv ps es) {r : Addr} (h : r ∈ M.rs) : r ∉ M.A.pl :: M.mu := by
  obtain ⟨i, hi⟩ := List.mem_iff_getElem?.mp h
  obtain ⟨d, _, dx, e⟩ := W.ds.at hi
  unfold Md.mu
  simp only [List.mem_cons, List.not_mem_nil, or_false, not_or]
  exact ⟨ref_m e W.wd.put, ne_of e W.mac (ins_fs fldS_w), ne_of e W.wd.sto (ins_fs fldS_n), ref_m e W.wd.num, ref_m e W.wd.cel.k, ref_m e W.wd.cel.g, ref_m e W.el⟩
theorem MI.dl_no (W : MI K M H sp at' v cs lv ps es) (n : Ndm M) : M.dl ∉ M.A.pl :: M.mu := by
  unfold Md.mu
  simp only [List.mem_cons, List.not_mem_nil, or_false, not_or]
  exact ⟨n.dp, Ne.symm (ref_m W.mac W.dl), Ne.symm (ref_m W.wd.sto W.dl), n.dn, n.dk, n.dg, n.de⟩
theorem MI.keep {S : List Addr} (W : MI K M H sp at' v cs lv ps es) (n : Ndm M) (k : Kp S H H') (hS : ∀ a ∈ S, a ∈ M.A.pl :: M.mu) (hm : H' M.m = some (.ins (He.ga K "Watched") M.mx (wF M at2)))
    (w' : Wd K M.A H' v' cs' lv' ps') (e' : H' M.el = some (.lst (es'.map V.ref))) : MI K M H' sp at2 v' cs' lv' ps' es' :=
  ⟨hm, k _ _ (fun z => W.dl_no n (hS _ z)) W.dl, ⟨W.ds.1, fun i a d h1 h2 => let ⟨dx, e⟩ := W.ds.2 i a d h1 h2; ⟨dx, k _ _ (fun z => W.rs_no (List.mem_of_getElem? h1) (hS _ z)) e⟩⟩, w', e'⟩
theorem MI.same (W : MI K M H sp at' v cs lv ps es) (s : Same H H') : MI K M H' sp at' v cs lv ps es := ⟨s _ _ W.mac, s _ _ W.dl, W.ds.same s, W.wd.same s, s _ _ W.el⟩
theorem MI.m_s (W : MI K M H sp at' v cs lv ps es) : M.m ≠ M.A.s := ne_of W.mac W.wd.sto (ins_fs (len_ne (by show (5 : Nat) ≠ 3; decide)))
theorem MI.m_b (W : MI K M H sp at' v cs lv ps es) : M.m ≠ M.A.b := ne_of W.mac W.wd.box (ins_fs (len_ne (by show (5 : Nat) ≠ 1; decide)))
theorem MI.s_b (W : MI K M H sp at' v cs lv ps es) : M.A.s ≠ M.A.b := ne_of W.wd.sto W.wd.box (ins_fs (len_ne (by show (3 : Nat) ≠ 1; decide)))
/-- another spot -/
theorem MI.spot (W : MI K M H sp at' v cs lv ps es) (n : Ndm M) (e : H' = upd H M.m (.ins (He.ga K "Watched") M.mx (wF M at2))) : MI K M H' sp at2 v cs lv ps es := by
  have far : ∀ {b o}, H b = some o → M.m ≠ b → H' b = some o := fun {b o} h n => by
    rw [e, upd_ne (Ne.symm n)]
    exact h
  refine W.keep (S := [M.m]) n ?_ (by intro a h; unfold Md.mu; simp at h; simp [h]) (by rw [e]; exact upd_same) ?_ (far W.el (ref_m W.mac W.el))
  · rw [e]
    exact Kp.refl.set (by simp)
  · exact ⟨far W.wd.box W.m_b, far W.wd.num (ref_m W.mac W.wd.num), far W.wd.sto W.m_s, ⟨far W.wd.cel.k (ref_m W.mac W.wd.cel.k), far W.wd.cel.g (ref_m W.mac W.wd.cel.g), W.wd.cel.len⟩, far W.wd.put (ref_m W.mac W.wd.put)⟩
theorem MI.stepped (W : MI K M H sp at' v cs lv ps es) (n : Ndm M) (k : Kp [M.A.nl, M.A.kl, M.A.pl] H H') (w' : Wd K M.A H' v' cs' lv' ps') : MI K M H' sp at' v' cs' lv' ps' es := by
  refine W.keep n k (by intro a h; unfold Md.mu; simp at h ⊢; rcases h with h | h | h <;> simp [h]) (k _ _ ?_ W.mac) w' (k _ _ ?_ W.el)
  · simp only [List.mem_cons, List.not_mem_nil, or_false, not_or]
    exact ⟨ref_m W.mac W.wd.num, ref_m W.mac W.wd.cel.k, ref_m W.mac W.wd.put⟩
  · simp only [List.mem_cons, List.not_mem_nil, or_false, not_or]
    exact ⟨n.en, n.ek, n.ep⟩
end
theorem ChI.nt {H H' : Hp} {ts : List Addr} {ch : Ch} {S : List Addr} (c : ChI H ts ch) (k : Kp S H H') (hS : ∀ a ∈ S, ∀ xs, H a ≠ some (.tup xs)) : ChI H' ts ch :=
  ⟨c.1, fun i t e h1 h2 => have q := c.2 i t e h1 h2; k t _ (fun z => hS t z _ q) q⟩
def sp_is_done (K : PySem.W.Frag) : Sp := fun vs H Q _ => ∃ (m : Addr), vs = [.ref m] ∧ ∃ (M : Md) (sp : List Spc) (at' : Int) (v : Six) (cs : List Int) (lv : List Lv) (ps : List V) (es : List Addr), M.m = m ∧ MI K M H sp at' v cs lv ps es ∧ Q (.bl (decide (at' = (sp.length : Int)))) H
theorem dV_int {i j : Int} : decide (V.int i = V.int j) = decide (i = j) := decide_eq_decide.mpr ⟨fun z => V.int.inj z, fun z => by rw [z]⟩
def nm_Machine_is_done : List Str := ["self"]
theorem sc_Machine_is_done : FnScope nm_Machine_is_done ["self"] (defScope s_Machine_is_done) := ⟨rfl, rfl, rfl, by decide +kernel, rfl, by decide +kernel, by decide +kernel⟩
theorem ok_Machine_is_done (T : Txt K mg) {f : Addr} {fd : FuncData} {dv : List V} {kw : List (Str × V)} (F : FunD K "is_done" "Machine.is_done" (defArgs s_Machine_is_done) (defBody s_Machine_is_done) (defScope s_Machine_is_done) dv kw f fd) : FnOk P w K mg base (CXr P w) 1 f fd ["self"] (sp_is_done K) := by
  refine F.ok sc_Machine_is_done (fun vs H Q E h => ?_) (fun cdv A outer s H vs Q E hr h => ?_)
  · obtain ⟨m, rfl, _⟩ := h
    rfl
  · obtain ⟨m, rfl, h⟩ := h
    refine ⟨_, (pss_one (ps_ret (pe_cmpR op_eq (pe_fld (pv 0) rfl) (pe_callB call_len_seq (by rfl) T.f_len PySem.boot_len (pa_cons (pe_fld (pv 0) rfl) pa_nil)) (nomark _)))), ?_⟩
    obtain ⟨M, sp, at', v, cs, lv, ps, es, rfl, W, k⟩ := h
    refine ⟨_, rfl, M.m, _, M.mx, _, _, rfl, W.mac, T.c_Watched, T.n_Watched_spot, rfl, ?_⟩
    refine ⟨_, rfl, M.m, _, M.mx, _, _, rfl, W.mac, T.c_Watched, T.n_Watched_deeds, rfl, _, _, rfl, .inl (SqL.of W.dl), rfl, ?_⟩
    show Q (.bl (decide (V.int at' = V.int (((M.rs.map V.ref).length : Nat) : Int)))) H
    rw [dV_int, List.length_map, W.ds.1]
    exact k
theorem good_Watched_is_done (T : Txt K mg) : Good P w K mg base 1 (He.ma K (He.ga K "Watched") "is_done") [] (sp_is_done K) := by
  obtain ⟨fd, F⟩ := T.d_Watched_is_done
  exact ⟨⟨fd, _, [], ok_Machine_is_done T F, F.bindsN fun _ _ _ _ _ _ us hl => match us, hl with | [_], _ => rfl, .nil⟩, F.kp⟩
theorem stepG (T : Txt K mg) (d : Spc) : ∃ f, Meth K (He.ga K (clsN d)) "step" f ∧ Good P w K mg base 7 f [] (sp_step K d) ∧ (fldS d).lookup ("step" : Str) = none := by
  cases d with
  | lng l => cases l with
    | copy => exact ⟨_, T.m_Copy_step, (good_Copy_step T).mono (by decide), rfl⟩
    | fill => exact ⟨_, T.m_Fill_step, (good_Fill_step T).mono (by decide), rfl⟩
    | seek => exact ⟨_, T.m_Seek_step, (good_Seek_step T).mono (by decide), rfl⟩
    | match_ => exact ⟨_, T.m_Match_step, (good_Match_step T).mono (by decide), rfl⟩
    | shift => exact ⟨_, T.m_Shift_step, (good_Shift_step T).mono (by decide), rfl⟩
    | turn => exact ⟨_, T.m_Turn_step, (good_Turn_step T).mono (by decide), rfl⟩
  | set b n => exact ⟨_, T.m_Set_step, (good_Set_step T).mono (by decide), rfl⟩
  | add b n => exact ⟨_, T.m_Add_step, (good_Add_step T).mono (by decide), rfl⟩
  | take b c => exact ⟨_, T.m_Take_step, (good_Take_step T).mono (by decide), rfl⟩
  | read b => exact ⟨_, T.m_Read_step, (good_Read_step T).mono (by decide), rfl⟩
  | write b => exact ⟨_, T.m_Write_step, (good_Write_step T).mono (by decide), rfl⟩
  | hop m o => exact ⟨_, T.m_Hop_step, (good_Hop_step T).mono (by decide), rfl⟩
def minM (i j : Int) : Int := if j < i then j else i
def sp_Machine_step (K : PySem.W.Frag) : Sp := fun vs H Q _ => ∃ (m : Addr), vs = [.ref m] ∧ ∃ (M : Md) (sp : List Spc) (at' : Int) (v : Six) (cs : List Int) (lv : List Lv) (es : List Addr), M.m = m ∧ Ndm M ∧ MI K M H sp at' v cs lv [] es ∧ v.ok ∧ cs.length ≤ 60 ∧ 0 ≤ at' ∧ at' ≤ (sp.length : Int) ∧
  (at' = (sp.length : Int) → Q (.str "end") H) ∧ ∀ d, sp[at'.toNat]? = some d →
    (stepM d v cs lv = none → ∀ H', Same H H' → Q (.str "stop") H') ∧
    ∀ k v' cs' ch, stepM d v cs lv = some (k, v', cs', ch) → ∀ ts H', Kp (M.A.pl :: M.mu) H H' → MI K M H' sp (minM (at' + k) sp.length) v' cs' lv (ts.map V.ref) es → ChI H' ts ch → Q (.str "on") H'
theorem exm2 (T : Txt K mg) {cls : Value} (h : cls = .ref (He.ga K "Stop") ∨ cls = .ref (He.ga K "NoFit")) : PySem.W.exmAny K cls [.ref (He.ga K "Stop"), .ref (He.ga K "NoFit")] = some true := by
  unfold PySem.W.exmAny PySem.W.exmAny PySem.W.exmAny
  rcases h with h | h <;> subst h
  · rw [T.x_Stop_Stop, T.x_Stop_NoFit]
    rfl
  · rw [T.x_NoFit_Stop, T.x_NoFit_NoFit]
    rfl
def nm_Machine_step : List Str := ["self", "further"]
theorem sc_Machine_step : FnScope nm_Machine_step ["self"] (defScope s_Machine_step) := ⟨rfl, rfl, rfl, by decide +kernel, rfl, by decide +kernel, by decide +kernel⟩
theorem ok_Machine_step (T : Txt K mg) {f : Addr} {fd : FuncData} {dv : List V} {kw : List (Str × V)} (F : FunD K "step" "Machine.step" (defArgs s_Machine_step) (defBody s_Machine_step) (defScope s_Machine_step) dv kw f fd) : FnOk P w K mg base (CXr P w) 8 f fd ["self"] (sp_Machine_step K) := by
  refine F.ok sc_Machine_step (fun vs H Q E h => ?_) (fun cdv A outer s H vs Q E hr h => ?_)
  · obtain ⟨m, rfl, _⟩ := h
    rfl
  · obtain ⟨m, rfl, h⟩ := h
    refine ⟨_, (pss_cons (ps_if (pt_val (pe_methG0 (pv 0) T.c_Watched T.m_Watched_is_done (good_Watched_is_done T) (hr.mono (by decide)) hx_cx)) (pss_one (ps_ret pe_str)) pss_nil) (pss_cons (ps_try_two (tb := fun W => tAsg (tMethVS P w K mg base "step" 7 (WE W) (tOp (rIxL K) (tFld K (tVar 0) "deeds") (tFld K (tVar 0) "spot")) (tCons (tFld K (tVar 0) "boxes") (tCons (tFld K (tVar 0) "store") tNil))) (gName 1)) (ts := fun _ _ _ => tRet (tC (.str "stop"))) rfl rfl ⟨rfl, by decide, .inl T.g_Stop⟩ ⟨rfl, by decide, .inl T.g_NoFit⟩ (fun W pn xe tk => (pss_one (ps_set (i := 1) sc_Machine_step.nd rfl (Or.inl rfl) (pe_methVS (k := 7) (pe_ix ix_list (pe_fld (pv 0) rfl) (pe_fld (pv 0) rfl) (fun _ _ => rfl)) (hr.mono (by decide)) (fun σ => L2N.passAt tk σ) (pa_cons (pe_fld (pv 0) rfl) (pa_cons (pe_fld (pv 0) rfl) pa_nil)))))) (fun a oe cls d pn => (pss_one (ps_ret pe_str)))) (pss_cons (ps_fld (pv 0) (pe_callB (call_min2 rfl) (by rfl) T.f_min (by decide +kernel) (pa_cons (pe_op op_add (pe_fld (pv 0) rfl) (pv 1)) (pa_cons (pe_callB call_len_seq (by rfl) T.f_len PySem.boot_len (pa_cons (pe_fld (pv 0) rfl) pa_nil)) pa_nil))) rfl) (pss_one (ps_ret pe_str))))), ?_⟩
    obtain ⟨M, sp, at', v, cs, lv, es, rfl, nd, W, ok, h60, h0, hn, ke, kd⟩ := h
    refine ⟨_, rfl, M.m, M.mx, _, rfl, W.mac, rfl, M.m, rfl, M, sp, at', v, cs, lv, [], es, rfl, W, ?_⟩
    refine ⟨_, rfl, ?_⟩
    by_cases he : at' = (sp.length : Int)
    · rw [decide_eq_true he]
      exact iteT (ke he)
    · rw [decide_eq_false he]
      have hi : at'.toNat < M.rs.length := by rw [W.ds.1]; omega
      obtain ⟨r, er⟩ : ∃ r, M.rs[at'.toNat]? = some r := ⟨M.rs[at'.toNat], by simp⟩
      obtain ⟨d, ed, dx, ha⟩ := W.ds.at er
      obtain ⟨f', hm, G, hl⟩ := stepG (P := P) (w := w) (base := base) T d
      obtain ⟨kn, ky⟩ := kd d ed
      have ei : atI (M.rs.map V.ref) at' = some (.ref r) := by
        obtain ⟨n, hn⟩ := Int.eq_ofNat_of_zero_le h0
        rw [hn] at er ⊢
        refine atI_nat ?_
        rw [List.getElem?_map, show M.rs[n]? = some r from by simpa using er]
        rfl
      refine iteF ⟨_, rfl, M.m, _, M.mx, _, _, rfl, W.mac, T.c_Watched, T.n_Watched_deeds, rfl, _, rfl, M.m, _, M.mx, _, _, rfl, W.mac, T.c_Watched, T.n_Watched_spot, rfl, M.dl, _, at', .ref r, rfl, rfl, SqL.of W.dl, ei, ?_⟩
      refine ⟨r, _, dx, _, f', _, rfl, ha, hl, (isaD T d).2, hm, G, _, rfl, M.m, _, M.mx, _, _, rfl, W.mac, T.c_Watched, T.n_Watched_boxes, rfl, _, rfl, M.m, _, M.mx, _, _, rfl, W.mac, T.c_Watched, T.n_Watched_store, rfl, ?_⟩
      refine ⟨r, M.A.b, M.A.s, rfl, M.A, dx, v, cs, lv, rfl, rfl, nd.a, ha, W.wd, ok, h60, fun k v' cs' ch hs ts H1 k1 w1 c1 => ?_, fun hs cls d' H1 hc s1 => ⟨exm2 T hc, fun _ _ => kn hs H1 s1⟩⟩
      have W1 := W.stepped nd k1 w1
      refine ⟨_, rfl, M.m, _, M.mx, _, _, rfl, W1.mac, T.c_Watched, T.n_Watched_spot, rfl, _, rfl, _, _, rfl, rfl, ?_⟩
      refine ⟨_, rfl, M.m, _, M.mx, _, _, rfl, W1.mac, T.c_Watched, T.n_Watched_deeds, rfl, _, _, rfl, .inl (SqL.of W1.dl), _, _, rfl, ?_⟩
      refine ⟨_, rfl, M.m, _, M.mx, _, rfl, W1.mac, T.c_Watched, T.n_Watched_spot, by show (5 : Nat) < 1000; decide, ?_⟩
      have el : (((M.rs.map V.ref).length : Nat) : Int) = sp.length := by rw [List.length_map, W.ds.1]
      rw [el]
      refine ky k v' cs' ch hs ts _ ?_ (W1.spot nd rfl) ?_
      · exact (k1.mono (by intro a h; unfold Md.mu; simp at h ⊢; rcases h with h | h | h <;> simp [h])).set (by unfold Md.mu; simp)
      · exact c1.nt (S := [M.m]) (fun b o nb e => by rw [upd_ne (by simpa using nb)]; exact e) (fun a h xs z => by
          rw [List.mem_singleton.mp h, W1.mac] at z
          cases z)
theorem good_Machine_step (T : Txt K mg) : Good P w K mg base 8 (He.ma K (He.ga K "Machine") "step") [] (sp_Machine_step K) := by
  obtain ⟨fd, F⟩ := T.d_Machine_step
  exact ⟨⟨fd, _, [], ok_Machine_step T F, F.bindsN fun _ _ _ _ _ _ us hl => match us, hl with | [_], _ => rfl, .nil⟩, F.kp⟩
end
end HB


namespace HB
open PySem PySem.Spec PyProof.Rows L2
local macro_rules | `(tactic| walk_at "ne") => `(tactic| first | assumption | (apply Ne.symm; assumption) | exact ne_of_none (by assumption) (by assumption) | exact ne_new (by assumption) (by assumption) | (intro q; cases q; done))
local macro_rules | `(tactic| walk_at "hp") => `(tactic| first
  | assumption
  | exact upd_same
  | (refine upd_keep ?_ (by assumption); walk_at "hp")
  | (refine upd_far (by walk_at "ne") ?_; walk_at "hp")
  | (refine Same.get (by assumption) ?_; walk_at "hp")
  | (refine Kp.get (by assumption) ?_ (notin1 (by walk_at "ne")); walk_at "hp"))
local macro_rules | `(tactic| walk_at "same") => `(tactic| first
  | assumption
  | exact Same.refl _
  | (refine Same.new ?_ (by assumption); walk_at "same")
  | (refine Same.trans ?_ (by assumption); walk_at "same"))
/-- one row of a reading -/
local macro_rules | `(tactic| walk_at "r1") => `(tactic| first
  | refine ⟨_, rfl, ?_⟩
  | refine ⟨_, _, rfl, rfl, ?_⟩
  | refine ⟨rfl, ?_⟩
  | refine ⟨_, _, _, _, _, rfl, (by walk_at "hp"), (by assumption), (by assumption), rfl, ?_⟩
  | refine ⟨sz_ (by decide), fun _ _ => ?_⟩)
local macro_rules | `(tactic| walk_at "rd") => `(tactic| repeat walk_at "r1")
section
variable {P : Program} {w : World} {K : PySem.W.Frag} {mg : Str → Option Value} {base : Heap}
/-! ### the log -/
abbrev En := Int × Six × Ch
structure EnI (S : List Addr) (H : Hp) (e : Addr) (x : En) : Prop where
  ex : ∃ (bt cl : Addr) (ts : List Addr), H e = some (.tup [.int x.1, .ref bt, .ref cl]) ∧ H bt = some (.tup x.2.1.vals) ∧ H cl = some (.lst (ts.map V.ref)) ∧ cl ∉ S ∧ ChI H ts x.2.2
def LogI (S : List Addr) (H : Hp) (es : List Addr) (log : List En) : Prop := es.length = log.length ∧ ∀ (i : Nat) (e : Addr) (x : En), es[i]? = some e → log[i]? = some x → EnI S H e x
def NT (S : List Addr) (H : Hp) : Prop := ∀ a ∈ S, ∃ o, H a = some o ∧ ∀ xs, o ≠ .tup xs
theorem NT.no {S : List Addr} {H : Hp} (n : NT S H) : ∀ a ∈ S, ∀ xs, H a ≠ some (.tup xs) := fun a h xs z => by
  obtain ⟨o, e, k⟩ := n a h
  rw [e] at z
  cases z
  exact k xs rfl
theorem NT.nw {S : List Addr} {H : Hp} (n : NT S H) {p : Addr} (h : H p = none) : p ∉ S := fun z => by
  obtain ⟨o, e, k⟩ := n p z
  rw [h] at e
  cases e
section
variable {S R : List Addr} {H H' : Hp} {es : List Addr} {log : List En} {e : Addr} {x : En}
theorem EnI.kp (E : EnI S H e x) (n : NT S H) (k : Kp R H H') (hR : ∀ a ∈ R, a ∈ S) : EnI S H' e x := by
  obtain ⟨bt, cl, ts, h1, h2, h3, h4, h5⟩ := E.ex
  have kS : Kp S H H' := k.mono hR
  refine ⟨bt, cl, ts, kS _ _ (fun z => n.no _ z _ h1) h1, kS _ _ (fun z => n.no _ z _ h2) h2, kS _ _ h4 h3, h4, h5.nt kS n.no⟩
theorem LogI.kp (L : LogI S H es log) (n : NT S H) (k : Kp R H H') (hR : ∀ a ∈ R, a ∈ S) : LogI S H' es log := ⟨L.1, fun i e x h1 h2 => (L.2 i e x h1 h2).kp n k hR⟩
theorem LogI.same (L : LogI S H es log) (n : NT S H) (k : Same H H') : LogI S H' es log := L.kp (R := []) n (Kp.same k) (by simp)
theorem LogI.snoc (L : LogI S H es log) (E : EnI S H e x) : LogI S H (es ++ [e]) (log ++ [x]) := by
  refine ⟨by rw [List.length_append, List.length_append, L.1]; rfl, fun i t' e' h1 h2 => ?_⟩
  by_cases hi : i < es.length
  · rw [List.getElem?_append_left hi] at h1
    rw [List.getElem?_append_left (by have := L.1; omega)] at h2
    exact L.2 i t' e' h1 h2
  · have hi' : i < (es ++ [e]).length := (List.getElem?_eq_some_iff.mp h1).1
    rw [List.length_append, List.length_singleton] at hi'
    have e1 : i = es.length := by omega
    have e2 : i = log.length := by have := L.1; omega
    rw [e1, List.getElem?_append_right (Nat.le_refl _), Nat.sub_self] at h1
    rw [e2, List.getElem?_append_right (Nat.le_refl _), Nat.sub_self] at h2
    cases h1
    cases h2
    exact E
theorem LogI.pop (L : LogI S H (es ++ [e]) (log ++ [x])) : LogI S H es log ∧ EnI S H e x := by
  have hl : es.length = log.length := by
    have := L.1
    rw [List.length_append, List.length_append, List.length_singleton, List.length_singleton] at this
    omega
  refine ⟨⟨hl, fun i t' e' h1 h2 => L.2 i t' e' ?_ ?_⟩, L.2 es.length e x ?_ ?_⟩
  · rw [List.getElem?_append_left (List.getElem?_eq_some_iff.mp h1).1]
    exact h1
  · rw [List.getElem?_append_left (List.getElem?_eq_some_iff.mp h2).1]
    exact h2
  · rw [List.getElem?_append_right (Nat.le_refl _), Nat.sub_self]
    rfl
  · rw [hl, List.getElem?_append_right (Nat.le_refl _), Nat.sub_self]
    rfl
theorem NT.kp (n : NT S H) (k : Kp R H H') (h : ∀ a ∈ R, a ∈ S → ∃ o, H' a = some o ∧ ∀ xs, o ≠ .tup xs) : NT S H' := fun a ha => by
  by_cases z : a ∈ R
  · exact h a z ha
  · obtain ⟨o, e, q⟩ := n a ha
    exact ⟨o, k _ _ z e, q⟩
theorem NT.same (n : NT S H) (k : Same H H') : NT S H' := fun a ha => let ⟨o, e, q⟩ := n a ha; ⟨o, k _ _ e, q⟩
end
section
variable {M : Md} {H H' : Hp} {sp : List Spc} {at' at2 : Int} {v v' : Six} {cs cs' : List Int} {lv lv' : List Lv} {ps ps' : List V} {es es' : List Addr}
theorem MI.nt (W : MI K M H sp at' v cs lv ps es) : NT M.mu H := fun a h => by
  unfold Md.mu at h
  simp only [List.mem_cons, List.not_mem_nil, or_false] at h
  rcases h with e | e | e | e | e | e <;> subst e
  · exact ⟨_, W.mac, fun xs z => by cases z⟩
  · exact ⟨_, W.wd.sto, fun xs z => by cases z⟩
  · exact ⟨_, W.wd.num, fun xs z => by cases z⟩
  · exact ⟨_, W.wd.cel.k, fun xs z => by cases z⟩
  · exact ⟨_, W.wd.cel.g, fun xs z => by cases z⟩
  · exact ⟨_, W.el, fun xs z => by cases z⟩
end
/-- what the state of a machine is, by values -/
structure MS where
  at' : Int
  v : Six
  cs : List Int
  lv : List Lv
  log : List En
def goM (sp : List Spc) (t : MS) : Str × MS := if t.at' = (sp.length : Int) then ("end", t) else match sp[t.at'.toNat]? with
  | none => ("end", t)
  | some d => match stepM d t.v t.cs t.lv with
    | none => ("stop", t)
    | some (k, v', cs', ch) => ("on", { at' := minM (t.at' + k) sp.length, v := v', cs := cs', lv := t.lv, log := t.log ++ [(t.at', t.v, ch)] })
/-- a machine that stands -/
structure MchI (K : PySem.W.Frag) (M : Md) (S : List Addr) (H : Hp) (sp : List Spc) (t : MS) : Prop where
  nd : Ndm M
  ex : ∃ ps es, MI K M H sp t.at' t.v t.cs t.lv ps es ∧ LogI S H es t.log
  sub : ∀ a ∈ M.mu, a ∈ S
  nt : NT S H
structure MSok (sp : List Spc) (t : MS) : Prop where
  a0 : 0 ≤ t.at'
  a1 : t.at' ≤ (sp.length : Int)
  ok : t.v.ok
  c1 : 1 ≤ t.cs.length
  c60 : t.cs.length ≤ 60
  len : t.lv.length = t.cs.length
  log : ∀ x ∈ t.log, (0 ≤ x.1 ∧ x.1 ≤ (sp.length : Int)) ∧ x.2.1.ok ∧ ∀ e ∈ x.2.2, 0 ≤ e.1 ∧ e.1 < (t.cs.length : Int)
def sp_Watched_step (K : PySem.W.Frag) : Sp := fun vs H Q _ => ∃ (m : Addr), vs = [.ref m] ∧ ∃ (M : Md) (S : List Addr) (sp : List Spc) (t : MS), M.m = m ∧ MchI K M S H sp t ∧ MSok sp t ∧ t.log.length ≤ 10000 ∧
  ∀ pl H', H pl = none → Kp M.mu H H' → MchI K { M with A := { M.A with pl := pl } } S H' sp (goM sp t).2 → Q (.str (goM sp t).1) H'
def nm_Watched_step : List Str := ["self", "row", "boxes", "told"]
theorem sc_Watched_step : FnScope nm_Watched_step ["self"] (defScope s_Watched_step) := ⟨rfl, rfl, rfl, by decide +kernel, rfl, by decide +kernel, by decide +kernel⟩
theorem ok_Watched_step (T : Txt K mg) {f : Addr} {fd : FuncData} {dv : List V} {kw : List (Str × V)} (F : FunD K "step" "Watched.step" (defArgs s_Watched_step) (defBody s_Watched_step) (defScope s_Watched_step) dv kw f fd) : FnOk P w K mg base (CXr P w) 9 f fd ["self"] (sp_Watched_step K) := by
  refine F.ok sc_Watched_step (fun vs H Q E h => ?_) (fun cdv A outer s H vs Q E hr h => ?_)
  · obtain ⟨m, rfl, _⟩ := h
    rfl
  · obtain ⟨m, rfl, h⟩ := h
    refine ⟨_, (pss_cons (ps_set (i := 1) sc_Watched_step.nd rfl (Or.inl rfl) (pe_fld (pv 0) rfl)) (pss_cons (ps_set (i := 2) sc_Watched_step.nd rfl (Or.inl rfl) (pe_methG0 (pe_fld (pv 0) rfl) T.c_Boxes T.m_Boxes_told (good_Boxes_told T) (hr.mono (by decide)) hx_cx)) (pss_cons (ps_fld (pe_fld (pv 0) rfl) (pe_lst pa_nil) rfl) (pss_cons (ps_set (i := 3) sc_Watched_step.nd rfl (Or.inl rfl) (pe_callC T.g_Machine T.cm_Machine_step (good_Machine_step T) (hr.mono (by decide)) hx_cx (pa_cons (pv 0) pa_nil))) (pss_cons (ps_if (pt_cmpR op_eq (pv 3) pe_str (nomark _)) (pss_one (ps_expr (pe_bm PySem.F.plainAttrs_list PySem.F.slot_list_append PySem.F.type_list_append mt_append (pe_fld (pv 0) rfl) (pa_cons (pe_tup (pa_cons (pv 1) (pa_cons (pv 2) (pa_cons (pe_fld (pe_fld (pv 0) rfl) rfl) pa_nil)))) pa_nil)))) pss_nil) (pss_one (ps_ret (pv 3)))))))), ?_⟩
    obtain ⟨M, S, sp, t, rfl, ⟨nd, ⟨ps, es, W, L⟩, sub, nt⟩, ok, l1, k⟩ := h
    refine ⟨_, rfl, M.m, _, M.mx, _, _, rfl, W.mac, T.c_Watched, T.n_Watched_spot, rfl, ?_⟩
    refine ⟨_, rfl, M.m, _, M.mx, _, _, rfl, W.mac, T.c_Watched, T.n_Watched_boxes, rfl, M.A.b, M.A.bx, _, rfl, W.wd.box, rfl, M.A.b, rfl, M.A.nl, M.A.bx, _, W.wd.box, W.wd.num, fun bt hbt => ?_⟩
    have s1 := Same.new (o := .tup t.v.vals) (Same.refl H) hbt
    have W1 := W.same s1
    refine ⟨by show 0 ≤ sizeLine; exact Nat.zero_le _, fun pl hpl => ?_⟩
    have s2 := Same.new (o := .lst []) s1 hpl
    have W2 := W.same s2
    refine ⟨_, rfl, M.m, _, M.mx, _, _, rfl, W2.mac, T.c_Watched, T.n_Watched_store, rfl, M.A.s, _, M.A.sx, _, rfl, W2.wd.sto, T.c_Noted, T.n_Noted_puts, by show (3 : Nat) < 1000; decide, ?_⟩
    have hpl0 : H pl = none := s1.free hpl
    have e3 : putF "puts" (.ref pl) (nF M.A.kl M.A.gl M.A.pl) = nF M.A.kl M.A.gl pl := rfl
    rw [e3]
    obtain ⟨M', hM'⟩ : ∃ M' : Md, M' = { M with A := { M.A with pl := pl } } := ⟨_, rfl⟩
    have nd' : Ndm M' := by
      rw [hM']
      exact ⟨⟨nd.a.nk, nd.a.ng, ne_of_none W.wd.num hpl0, nd.a.kg, ne_of_none W.wd.cel.k hpl0, ne_of_none W.wd.cel.g hpl0⟩, nd.dn, nd.dk, nd.dg, ne_of_none W.dl hpl0, nd.de, nd.en, nd.ek, nd.eg, ne_of_none W.el hpl0⟩
    obtain ⟨H3, hH3⟩ : ∃ H3, H3 = upd (upd (upd H bt (.tup t.v.vals)) pl (.lst [])) M.A.s (.ins (He.ga K "Noted") M.A.sx (nF M.A.kl M.A.gl pl)) := ⟨_, rfl⟩
    rw [← hH3]
    have far : ∀ {b o}, H b = some o → M.A.s ≠ b → H3 b = some o := fun {b o} h n => by
      rw [hH3, upd_ne (Ne.symm n)]
      exact s2 _ _ h
    have nspl : M.A.s ≠ pl := ne_of_none W.wd.sto hpl0
    have k3 : Kp [M.A.s] H H3 := fun b o nb e => far e (fun z => nb (by simp [z]))
    have w3 : Wd K M'.A H3 t.v t.cs t.lv [] := by
      rw [hM']
      refine ⟨far W.wd.box W.s_b, far W.wd.num (ref_m W.wd.sto W.wd.num), ?_, ⟨far W.wd.cel.k (ref_m W.wd.sto W.wd.cel.k), far W.wd.cel.g (ref_m W.wd.sto W.wd.cel.g), W.wd.cel.len⟩, ?_⟩
      · rw [hH3]
        exact upd_same
      · rw [hH3, upd_ne (Ne.symm nspl), upd_same]
    have W3 : MI K M' H3 sp t.at' t.v t.cs t.lv [] es := by
      have W3' := W.keep (at2 := t.at') (es' := es) nd k3 (by intro a h; unfold Md.mu; simp at h; simp [h]) (far W.mac (Ne.symm W.m_s)) (v' := t.v) (cs' := t.cs) (lv' := t.lv) (ps' := [])
      rw [hM'] at w3 ⊢
      exact ⟨far W.mac (Ne.symm W.m_s), far W.dl (ref_m W.wd.sto W.dl), ⟨W.ds.1, fun i a d h1 h2 => let ⟨dx, e⟩ := W.ds.2 i a d h1 h2; ⟨dx, far e (fun z => W.rs_no (List.mem_of_getElem? h1) (by rw [← z]; unfold Md.mu; simp))⟩⟩, w3, far W.el (ref_m W.wd.sto W.el)⟩
    have hbt3 : H3 bt = some (.tup t.v.vals) := by
      rw [hH3, upd_ne (fun z => ?_), upd_keep upd_same hpl]
      rw [z, W.wd.sto] at hbt
      cases hbt
    have mu' : M'.mu = M.mu := by rw [hM']; rfl
    have km3 : Kp M.mu H H3 := k3.mono (by intro a h; unfold Md.mu; simp at h; simp [h])
    have L3 := L.kp nt k3 (by intro a h; simp at h; rw [h]; exact sub _ (by unfold Md.mu; simp))
    have nt3 : NT S H3 := nt.kp k3 (by
      intro a h _
      rw [List.mem_singleton.mp h]
      exact ⟨_, by rw [hH3]; exact upd_same, fun xs z => by cases z⟩)
    have npl : pl ∉ S := nt.nw hpl0
    have sub' : ∀ a ∈ M'.mu, a ∈ S := by rw [mu']; exact sub
    have Mm : M'.m = M.m := by rw [hM']
    have mch3 : MchI K { M with A := { M.A with pl := pl } } S H3 sp t := by
      rw [← hM']
      exact ⟨nd', ⟨[], es, W3, L3⟩, sub', nt3⟩
    refine ⟨_, rfl, M.m, rfl, M', sp, t.at', t.v, t.cs, t.lv, es, Mm, nd', W3, ok.ok, ok.c60, ok.a0, ok.a1, fun he => ?_, fun d ed => ⟨fun hs H4 s4 => ?_, fun kk v' cs' ch hs ts H4 k4 W4 c4 => ?_⟩⟩
    · have g : goM sp t = (("end" : Str), t) := if_pos he
      have q := k pl H3 hpl0 km3 (by rw [g]; exact mch3)
      rw [g] at q
      exact ⟨_, rfl, rfl, _, rfl, iteF ⟨_, rfl, q⟩⟩
    · have he : t.at' ≠ (sp.length : Int) := fun z => by
        have := (List.getElem?_eq_some_iff.mp ed).1
        have := ok.a0
        omega
      have g : goM sp t = (("stop" : Str), t) := by
        unfold goM
        rw [if_neg he, ed]
        simp only [hs]
      have q := k pl H4 hpl0 (km3.trans (Kp.same s4)) (by
        rw [g, ← hM']
        exact ⟨nd', ⟨[], es, W3.same s4, L3.same nt3 s4⟩, sub', nt3.same s4⟩)
      rw [g] at q
      exact ⟨_, rfl, rfl, _, rfl, iteF ⟨_, rfl, q⟩⟩
    · have he : t.at' ≠ (sp.length : Int) := fun z => by
        have := (List.getElem?_eq_some_iff.mp ed).1
        have := ok.a0
        omega
      have g : goM sp t = (("on" : Str), { at' := minM (t.at' + kk) sp.length, v := v', cs := cs', lv := t.lv, log := t.log ++ [(t.at', t.v, ch)] }) := by
        unfold goM
        rw [if_neg he, ed]
        simp only [hs]
      have m4 := W4.mac
      rw [Mm] at m4
      have l4 := W4.el
      have st4 := W4.wd.sto
      have m4' : H4 M.m = some (.ins (He.ga K "Watched") M.mx (wF M (minM (t.at' + kk) sp.length))) := by rw [hM'] at m4; exact m4
      have l4' : H4 M.el = some (.lst (es.map V.ref)) := by rw [hM'] at l4; exact l4
      have st4' : H4 M.A.s = some (.ins (He.ga K "Noted") M.A.sx (nF M.A.kl M.A.gl pl)) := by rw [hM'] at st4; exact st4
      have bt4 : H4 bt = some (.tup t.v.vals) := by
        refine k4 _ _ (fun z => ?_) hbt3
        rw [mu'] at z
        rcases List.mem_cons.mp z with q | q
        · rw [hM'] at q
          rw [q, hH3, upd_ne (Ne.symm nspl), upd_same] at hbt3
          cases hbt3
        · exact nt3.no bt (sub _ q) _ hbt3
      refine ⟨_, rfl, rfl, _, rfl, iteT ?_⟩
      refine ⟨_, rfl, M.m, _, M.mx, _, _, rfl, m4', T.c_Watched, T.n_Watched_entries, rfl, .inl ⟨rfl, es.map V.ref, SqL.of l4'⟩, ?_⟩
      refine ⟨_, rfl, _, rfl, _, rfl, M.m, _, M.mx, _, _, rfl, m4', T.c_Watched, T.n_Watched_store, rfl, M.A.s, _, M.A.sx, _, _, rfl, st4', T.c_Noted, T.n_Noted_puts, rfl, ?_⟩
      refine ⟨sz_ (by simp), fun e he4 => ?_⟩
      have s5 := Same.new (o := .tup [.int t.at', .ref bt, .ref pl]) (Same.refl H4) he4
      have W5 := W4.same s5
      have l5 := W5.el
      have le : es.length = t.log.length := L.1
      have l5' : (upd H4 e (.tup [.int t.at', .ref bt, .ref pl])) M.el = some (.lst (es.map V.ref)) := by rw [hM'] at l5; exact l5
      refine ⟨M.el, _, _, rfl, rfl, l5', by rw [List.length_map]; exact Nat.lt_of_le_of_lt (show es.length ≤ 10000 by omega) (by decide), ?_⟩
      obtain ⟨H6, hH6⟩ : ∃ H6, H6 = upd (upd H4 e (.tup [.int t.at', .ref bt, .ref pl])) M.el (.lst (es.map V.ref ++ [.ref e])) := ⟨_, rfl⟩
      have M'el : M'.el = M.el := by rw [hM']
      have M'pl : M'.A.pl = pl := by rw [hM']
      have en : e ≠ M.el := fun z => by
        rw [z, ← M'el, W4.el] at he4
        cases he4
      have far6 : ∀ {b o}, H4 b = some o → b ≠ M.el → H6 b = some o := fun {b o} h n => by
        rw [hH6, upd_ne n]
        exact s5 _ _ h
      have w6 : Wd K M'.A H6 v' cs' t.lv (ts.map V.ref) := by
        have w5 := W5.wd
        have o : ∀ {b o}, (upd H4 e (.tup [.int t.at', .ref bt, .ref pl])) b = some o → b ≠ M.el → H6 b = some o := fun {b o} h n => by
          rw [hH6, upd_ne n]
          exact h
        refine ⟨o w5.box (ref_m w5.box l5 |> fun z => by rw [← M'el]; exact z), o w5.num (by rw [← M'el]; exact Ne.symm nd'.en), o w5.sto (by rw [← M'el]; exact ref_m w5.sto l5), ⟨o w5.cel.k (by rw [← M'el]; exact Ne.symm nd'.ek), o w5.cel.g (by rw [← M'el]; exact Ne.symm nd'.eg), w5.cel.len⟩, o w5.put (by rw [← M'el]; exact Ne.symm nd'.ep)⟩
      have e6 : H6 M'.el = some (.lst ((es ++ [e]).map V.ref)) := by
        rw [hH6, M'el, upd_same, List.map_append]
        rfl
      have W6 : MI K M' H6 sp (minM (t.at' + kk) sp.length) v' cs' t.lv (ts.map V.ref) (es ++ [e]) := by
        refine W5.keep (S := [M'.el]) nd' ?_ (by intro a h; unfold Md.mu; simp at h; simp [h]) ?_ w6 e6
        · rw [hH6, M'el]
          exact Kp.refl.set (by simp)
        · rw [hH6, upd_ne (by rw [← M'el]; exact ref_m W5.mac l5)]
          exact W5.mac
      have km6 : Kp M.mu H H6 := fun b o nb hb => by
        have b3 := km3 b o nb hb
        have b4 : H4 b = some o := k4 b o (by
          rw [mu', M'pl]
          exact fun z => (List.mem_cons.mp z).elim (fun q => ne_of_none hb hpl0 q) nb) b3
        exact far6 b4 (fun z => nb (by rw [z]; unfold Md.mu; simp))
      have L6 := L.kp nt km6 sub
      have nt6 : NT S H6 := nt.kp km6 (fun a h _ => W6.nt a (by rw [mu']; exact h))
      have E6 : EnI S H6 e (t.at', t.v, ch) := by
        refine ⟨bt, pl, ts, ?_, far6 bt4 (fun z => ?_), by have := w6.put; rw [M'pl] at this; exact this, npl, ?_⟩
        · rw [hH6, upd_ne en, upd_same]
        · rw [z, ← M'el, W4.el] at bt4
          cases bt4
        · have c5 : ChI (upd H4 e (.tup [.int t.at', .ref bt, .ref pl])) ts ch := c4.nt (S := []) (Kp.same s5) (by simp)
          refine c5.nt (S := [M.el]) ?_ (fun a h xs z => ?_)
          · rw [hH6]
            exact Kp.refl.set (by simp)
          · rw [List.mem_singleton.mp h, ← M'el, l5] at z
            cases z
      have q := k pl H6 hpl0 km6 (by
        rw [g, ← hM']
        exact ⟨nd', ⟨_, _, W6, L6.snoc E6⟩, sub', nt6⟩)
      rw [g, hH6] at q
      exact ⟨_, rfl, q⟩
theorem good_Watched_step (T : Txt K mg) : Good P w K mg base 9 (He.ma K (He.ga K "Watched") "step") [] (sp_Watched_step K) := by
  obtain ⟨fd, F⟩ := T.d_Watched_step
  exact ⟨⟨fd, _, [], ok_Watched_step T F, F.bindsN fun _ _ _ _ _ _ us hl => match us, hl with | [_], _ => rfl, .nil⟩, F.kp⟩
end
end HB


/-! iterators that end, an exception handled or not -/
namespace HB
open PySem PySem.Spec PyProof.Rows L2
/-- nothing is handled, or it is x1, whose context is None -/
def HA (A : Around) (x1 : Addr) (h : Heap) : Prop := A.handled = none ∨ HotX.HotAt A x1 h
theorem HA.at {A : Around} {x1 : Addr} {h h' : Heap} (x : HA A x1 h) (k : ∀ o, h.get? x1 = some o → h'.get? x1 = some o) : HA A x1 h' := by
  rcases x with x | ⟨hh, o, vs, e, d, c⟩
  · exact .inl x
  · exact .inr ⟨hh, o, vs, k _ e, d, c⟩
theorem HA.ne {A : Around} {x1 it : Addr} {h : Heap} {o : Obj} (x : HA A x1 h) (ho : h.get? it = some o) (hd : ∀ vs, o.data = .fields vs → vs[2]? ≠ some .none) : A.handled = none ∨ it ≠ x1 := by
  rcases x with x | ⟨hh, o1, vs, e, d, c⟩
  · exact .inl x
  · refine .inr fun z => ?_
    rw [z, e] at ho
    cases ho
    exact hd vs d c
theorem HA.but {A : Around} {x1 it : Addr} {h h' : Heap} {o : Obj} (x : HA A x1 h) (ho : h.get? it = some o) (hd : ∀ vs, o.data = .fields vs → vs[2]? ≠ some .none) (k : ∀ b u, b ≠ it → h.get? b = some u → h'.get? b = some u) : HA A x1 h' := by
  rcases x.ne ho hd with q | q
  · exact .inl q
  · exact x.at fun o e => k _ _ (Ne.symm q) e
section
variable {prog : Program} {w : World} {A : Around} {E : Value → Shared → Prop} {s : Shared} {x1 : Addr}
theorem stop_rule {α : Type} {Q : α → Shared → Prop} (x : HA A x1 s.heap)
    (k : ∀ a h', (∀ b o, s.heap.get? b = some o → h'.get? b = some o) → ({ s with heap := h' } : Shared).TypeIs (.ref a) "StopIteration" → E (.ref a) { s with heap := h' }) :
    wpAny (model prog w) A (newExc (.type "StopIteration") [] >>= fun e => (raiseNew e : Sem α)) Q E s := by
  refine wpAny_bind ?_
  simp only [newExc, newTuple]
  refine wpAny_bind (wpAny_newObj_type ?_ (by size_fits))
  refine wpAny_bind (m := firstArgMember _ _) (wpAny_of_eq (a := Value.none) (by first | rfl | (simp only [firstArgMember]; rfl)) ?_)
  refine wpAny_newObj_type ?_ (by size_fits)
  rcases x with x | ⟨hh, o1, vs1, h1, d1, c1⟩
  · simp only [raiseNew]
    refine wpAny_bind (wpAny_handled ?_)
    rw [x]
    exact wpAny_bind (wpAny_pure (wpAny_throw (k _ _ (fun b o e => Heap.get?_push_of_some _ (Heap.get?_push_of_some _ e)) ⟨_, Heap.get?_push_size _ rfl, rfl⟩)))
  · refine HotX.raiseNew_hot ⟨hh, o1, vs1, Heap.get?_push_of_some _ (Heap.get?_push_of_some _ h1), d1, c1⟩ (Nat.ne_of_lt (Heap.lt_size (Heap.get?_push_of_some _ h1))) (Heap.get?_push_size _ rfl) rfl (by first | (simp; done) | (simp; omega) | (simp only [Array.size_append]; simp; omega)) ?_
    refine k _ _ (fun b o e => ?_) ⟨_, Heap.get?_update_self _ (Heap.get?_push_size _ rfl) rfl, rfl⟩
    rw [Heap.get?_update_other _ _ (Nat.ne_of_gt (Heap.lt_size (Heap.get?_push_of_some _ e)))]
    exact Heap.get?_push_of_some _ (Heap.get?_push_of_some _ e)
theorem two_ne {a b : Value} : ∀ vs : Array Value, (Data.fields #[a, b] : Data) = .fields vs → vs[2]? ≠ some .none := fun vs h => by
  cases h
  simp
theorem list_endE {it l : Addr} {i : Nat} {items} {Q : Option Value → Shared → Prop} (x : HA A x1 s.heap)
    (hit : s.heap.IsListIter it l i) (hl : s.heap.IsList l items) (hx : items[i]? = none)
    (hQ : ∀ h', Heap.ExtBut it s.heap h' → Q none { s with heap := h' }) : wpAny (model prog w) A (pyNext (.ref it)) Q E s := by
  obtain ⟨o, ho, hc, hd⟩ := id hit
  obtain ⟨ol, hol, _, nl, hdl⟩ := hl
  unfold pyNext
  refine wpAny_bind (wpAny_attempt (wpAny_callSpecial?_slot (name := Str.ofString "__next__") hit.typeIs slot_listiter_next
    (wpAny_call_entry slot_listiter_next hit.typeIs entry_listiter_next ?_ (args_listiter_next _))))
  show wpAny _ _ (field (.ref it) 0 >>= _) _ _ s
  refine wpAny_bind (wpAny_field ho hd (x := .ref l) rfl ?_)
  show wpAny _ _ (if (Value.ref l == Value.none) = true then _ else _) _ _ s
  rw [if_neg (show ¬ ((Value.ref l == Value.none) = true) from Bool.false_ne_true)]
  show wpAny _ _ (field (.ref it) 1 >>= _) _ _ s
  refine wpAny_bind (wpAny_field ho hd (x := .int i 0) rfl ?_)
  show wpAny _ _ (seqItems? (.ref l) >>= _) _ _ s
  refine wpAny_bind (wpAny_seqItems hol hdl ?_)
  simp only [Int.toNat_natCast, hx]
  refine wpAny_bind (wpAny_rule (wpAny_bind (wpAny_setField ho hd (by simp) ?_)))
  refine stop_rule (A := A.in1) (x1 := x1) (x.but ho (by rw [hd]; exact two_ne) fun b u hb e => (Heap.get?_update_other _ _ (Ne.symm hb)).trans e) fun a h' k c => ?_
  refine wpAny_bind (wpAny_isInstance (T := "StopIteration") (b := true) c isSubtype_stop ?_)
  exact wpAny_pure (hQ _ fun b o hb e => k b o ((Heap.get?_update_other _ _ (Ne.symm hb)).trans e))
theorem tup_endE {it t : Addr} {i : Nat} {items} {Q : Option Value → Shared → Prop} (x : HA A x1 s.heap)
    (hit : IsTupIter s.heap it t i) (ht : IsTup s.heap t items) (hx : items[i]? = none)
    (hQ : ∀ h', Heap.ExtBut it s.heap h' → Q none { s with heap := h' }) : wpAny (model prog w) A (pyNext (.ref it)) Q E s := by
  obtain ⟨o, ho, hc, hd⟩ := id hit
  obtain ⟨ol, hol, _, nl, hdl⟩ := ht
  unfold pyNext
  refine wpAny_bind (wpAny_attempt (wpAny_callSpecial?_slot (name := Str.ofString "__next__") hit.typeIs slot_tupleiter_next
    (wpAny_call_entry slot_tupleiter_next hit.typeIs entry_tupleiter_next ?_ (args_tupleiter_next _))))
  show wpAny _ _ (field (.ref it) 0 >>= _) _ _ s
  refine wpAny_bind (wpAny_field ho hd (x := .ref t) rfl ?_)
  show wpAny _ _ (if (Value.ref t == Value.none) = true then _ else _) _ _ s
  rw [if_neg (show ¬ ((Value.ref t == Value.none) = true) from Bool.false_ne_true)]
  show wpAny _ _ (field (.ref it) 1 >>= _) _ _ s
  refine wpAny_bind (wpAny_field ho hd (x := .int i 0) rfl ?_)
  show wpAny _ _ (seqItems? (.ref t) >>= _) _ _ s
  refine wpAny_bind (wpAny_seqItems hol hdl ?_)
  simp only [Int.toNat_natCast, hx]
  refine wpAny_bind (wpAny_rule (wpAny_bind (wpAny_setField ho hd (by simp) ?_)))
  refine stop_rule (A := A.in1) (x1 := x1) (x.but ho (by rw [hd]; exact two_ne) fun b u hb e => (Heap.get?_update_other _ _ (Ne.symm hb)).trans e) fun a h' k c => ?_
  refine wpAny_bind (wpAny_isInstance (T := "StopIteration") (b := true) c isSubtype_stop ?_)
  exact wpAny_pure (hQ _ fun b o hb e => k b o ((Heap.get?_update_other _ _ (Ne.symm hb)).trans e))
theorem vals_endE {K : Type} [DecidableEq K] {knd : PySem.KeyKind prog w K} {it d : Addr} {i ep : Nat} {kvs : List (K × Value)} {Q : Option Value → Shared → Prop} (x : HA A x1 s.heap) (hit : s.heap.IsValIter it d i kvs.length ep)
    (hm : s.heap.DictAt knd d kvs ep) (hx : kvs[i]? = none)
    (hQ : ∀ h', Heap.ExtBut it s.heap h' → Q none { s with heap := h' }) : wpAny (model prog w) A (pyNext (.ref it)) Q E s := by
  obtain ⟨o, ho, hc, hd⟩ := id hit
  obtain ⟨od, es, hod, hcd, hdd, hk, hp, hn⟩ := id hm
  unfold pyNext
  refine wpAny_bind (wpAny_attempt (wpAny_callSpecial?_slot (name := Str.ofString "__next__") hit.typeIs F.slot_dict_valueiterator_next
    (wpAny_call_entry F.slot_dict_valueiterator_next hit.typeIs F.entry_dict_valueiterator_next ?_ (F.args_dict_valueiterator_next_1 _))))
  refine wpAny_bind (wpAny_pure ?_)
  refine wpAny_bind ?_
  refine wpAny_bind ?_
  first | refine wpAny_bind (wpAny_typeNameOfWhole_valiter hit.typeIs (wpAny_pure ?_)) | refine wpAny_bind (wpAny_typeNameOf_valiter hit.typeIs (wpAny_pure ?_))
  refine wpAny_bind (wpAny_fieldsOf ho hd ?_)
  have hown : Builtin.Dict_items.ownsTuple "dict_valueiterator" = false := by decide
  simp only [hown, Bool.false_eq_true, if_false]
  show wpAny _ _ (if (Value.ref d == Value.none) = true then _ else _) _ _ s
  rw [if_neg (show ¬ ((Value.ref d == Value.none) = true) from Bool.false_ne_true)]
  refine wpAny_bind (wpAny_pure ?_)
  refine wpAny_bind (wpAny_dictEntries hod hdd ?_)
  have hsz : es.size = kvs.length := by rw [← hp.length]; simp
  rw [if_neg (by rw [hsz]; simp)]
  refine wpAny_bind (wpAny_pure ?_)
  refine wpAny_bind (wpAny_dictEpoch hod hdd ?_)
  rw [if_neg (by simp)]
  refine wpAny_pure ?_
  have hge : es.size ≤ i := by rw [hsz]; simpa using hx
  simp only [show ¬ ((i : Int) < 0) from by omega, if_false, Int.toNat_natCast, Array.getElem?_eq_none hge]
  refine wpAny_bind ?_
  first | refine wpAny_bind (wpAny_typeNameOfWhole_valiter hit.typeIs (wpAny_pure ?_)) | refine wpAny_bind (wpAny_typeNameOf_valiter hit.typeIs (wpAny_pure ?_))
  show wpAny _ _ (setField (.ref it) 0 .none >>= _) _ _ s
  refine wpAny_bind (wpAny_setField ho hd (by simp) ?_)
  refine stop_rule (A := A.in1) (x1 := x1) (x.but ho (by rw [hd]; intro vs h; cases h; simp) fun b u hb e => (Heap.get?_update_other _ _ (Ne.symm hb)).trans e) fun a h' k c => ?_
  refine wpAny_bind (wpAny_isInstance (T := "StopIteration") (b := true) c isSubtype_stop ?_)
  exact wpAny_pure (hQ _ fun b o hb e => k b o ((Heap.get?_update_other _ _ (Ne.symm hb)).trans e))
end
end HB

/-! tuple(d.values()), a, b = t, [..]: an exception handled or not -/
namespace HB
open PySem PySem.Spec PyProof.Rows L2
section
variable {prog : Program} {w : World} {A : Around} {E : Value → Shared → Prop} {s : Shared} {x1 : Addr}
theorem val_ne {a b c d : Value} (h : c ≠ .none) : ∀ vs : Array Value, (Data.fields #[a, b, c, d] : Data) = .fields vs → vs[2]? ≠ some .none := fun vs e z => by
  cases e
  have z' : some c = some Value.none := z
  exact h (Option.some.inj z')
theorem walksVals {K : Type} [DecidableEq K] {knd : PySem.KeyKind prog w K} (x : HA A x1 s.heap) (I d : Addr) (hne : d ≠ I) (kvs : List (K × Value)) (ep : Nat) :
    Walks prog w A I [I, d, x1] [I] kvs.length (fun i v => ∃ k, kvs[i]? = some (k, v)) (fun i h => h.IsValIter I d i kvs.length ep ∧ h.DictAt knd d kvs ep ∧ HA A x1 h) where
  sub := fun b hb => by simp at hb; simp [hb]
  frame := fun _ _ _ st hk => ⟨st.1.at fun o e => hk I (by simp) o e, st.2.1.at' fun o e => hk d (by simp) o e, st.2.2.at fun o e => hk x1 (by simp) o e⟩
  item := fun i s Q E hi st hQ => by
    obtain ⟨⟨k, y⟩, hx⟩ : ∃ p, kvs[i]? = some p := ⟨kvs[i], by simp [hi]⟩
    refine wpAny_pyNext_values_item st.1 st.2.1 hx fun h' hit' hs' => ?_
    obtain ⟨o, ho, hc, hd⟩ := id st.1
    exact hQ y h' s.toks ⟨k, hx⟩ ⟨hit', st.2.1.extBut hs'.extBut hne, st.2.2.but ho (by rw [hd]; exact val_ne (by simp)) fun b u hb e => hs'.extBut b u hb e⟩ fun b o hb e => hs'.extBut b o (fun h => hb (by simp [h])) e
  done := fun s Q E st hQ => vals_endE st.2.2 st.1 st.2.1 (by simp) fun h' he' => hQ h' s.toks fun b o hb e => he' b o (fun h => hb (by simp [h])) e
  self := fun _ _ _ _ st hQ => wpAny_pyIter_valiter st.1 hQ
theorem collect_vals {K : Type} [DecidableEq K] {knd : PySem.KeyKind prog w K} {r d : Addr} {kvs : List (K × Value)} {ep : Nat} {Q : List Value → Shared → Prop} (x : HA A x1 s.heap) (hv : s.heap.IsValuesView r d) (hm : s.heap.DictAt knd d kvs ep) (hn : kvs.length ≤ sizeLine)
    (hx1 : A.handled = none ∨ x1 < s.heap.objs.size)
    (hQ : ∀ (h' : Heap) (tk : Nat) (acc : Array Value), (∀ b o, s.heap.get? b = some o → h'.get? b = some o) → ItemsOf (fun i v => ∃ k, kvs[i]? = some (k, v)) acc kvs.length → Q acc.toList { s with heap := h', toks := tk }) :
    wpAny (model prog w) A (collect (.ref r)) Q E s := by
  have hd : d < s.heap.objs.size := hm.lt_size
  have hr : r < s.heap.objs.size := let ⟨_, ho, _⟩ := hv; Heap.lt_size ho
  unfold collect
  refine wpAny_bind (wpAny_runValue (codeAny_builtin F.entry_proto_collect ?_))
  rw [Around.under_plainId F.plain_proto_collect _]
  show wpAny _ A.in1 (newList [] >>= fun l => again (.builtin "list.__iadd__" ⟨[l, .ref r], []⟩)) _ _ s
  refine wpAny_bind (wpAny_newObj_type ?_)
  refine wpAny_pure ⟨plainId_quiet F.plain_list_iadd _, codeAny_builtin F.entry_list_iadd ?_⟩
  rw [Around.under_plainId F.plain_list_iadd _]
  show wpAny _ A.in1 (Builtin.List.listExtendWith (.ref s.heap.objs.size) (.ref r) (.ref s.heap.objs.size)) _ _ _
  obtain ⟨S, hS0⟩ : ∃ S, s.heap.objs.size = S := ⟨_, rfl⟩
  rw [hS0] at hd hr hx1
  rw [hS0]
  have hS : (s.heap.push { cls := .type "list", data := .seq ([] : List Value).toArray }).get? S = some { cls := .type "list", data := .seq #[] 0 } := by rw [← hS0]; exact Heap.get?_push_size _ rfl
  obtain ⟨h1, hh1⟩ : ∃ h1, s.heap.push { cls := .type "list", data := .seq ([] : List Value).toArray } = h1 := ⟨_, rfl⟩
  rw [hh1] at hS
  rw [hh1]
  have k1 : ∀ b o, s.heap.get? b = some o → h1.get? b = some o := fun b o e => by rw [← hh1]; exact Heap.get?_push_of_some _ e
  have v1 : h1.IsValuesView r d := let ⟨o, ho, z⟩ := hv; ⟨o, k1 _ _ ho, z⟩
  have m1 : h1.DictAt knd d kvs ep := hm.at' fun o e => k1 _ _ e
  have x1' : HA A x1 h1 := x.at fun o e => k1 _ _ e
  have hs1 : h1.objs.size = S + 1 := by rw [← hh1, Heap.size_push, hS0]
  have W := walksVals (A := A.in1) (s := { s with heap := h1 }) (prog := prog) (knd := knd) (x1 := x1) x1' h1.objs.size d (by rw [hs1]; exact Nat.ne_of_lt (Nat.lt_succ_of_lt hd)) kvs ep
  have hSf : S ∉ [h1.objs.size, d, x1] ∨ A.handled = none := by
    rcases hx1 with q | q
    · exact .inr q
    · left
      simp only [List.mem_cons, List.not_mem_nil, or_false, not_or]
      rw [hs1]
      exact ⟨Nat.ne_of_lt (Nat.lt_succ_self S), Nat.ne_of_gt hd, Nat.ne_of_gt q⟩
  -- where nothing is handled x1 does not matter
  obtain ⟨y1, W, hSf, st0⟩ : ∃ y1, Walks prog w A.in1 h1.objs.size [h1.objs.size, d, y1] [h1.objs.size] kvs.length (fun i v => ∃ k, kvs[i]? = some (k, v)) (fun i h => h.IsValIter h1.objs.size d i kvs.length ep ∧ h.DictAt knd d kvs ep ∧ HA A.in1 y1 h) ∧ S ∉ [h1.objs.size, d, y1] ∧ HA A.in1 y1 h1 := by
    rcases hSf with q | q
    · exact ⟨x1, W, q, x1'⟩
    · refine ⟨d, walksVals (A := A.in1) (s := { s with heap := h1 }) (prog := prog) (knd := knd) (x1 := d) (.inl q) h1.objs.size d (by rw [hs1]; exact Nat.ne_of_lt (Nat.lt_succ_of_lt hd)) kvs ep, ?_, .inl q⟩
      simp only [List.mem_cons, List.not_mem_nil, or_false, not_or]
      rw [hs1]
      exact ⟨Nat.ne_of_lt (Nat.lt_succ_self S), Nat.ne_of_gt hd, Nat.ne_of_gt hd⟩
  have key : ∀ (h : Heap) (c₁ tk : Nat), (∀ b o, b ≠ S → h1.get? b = some o → h.get? b = some o) → (h.IsValIter h1.objs.size d 0 kvs.length ep ∧ h.DictAt knd d kvs ep ∧ HA A.in1 y1 h) →
      h.get? S = some { cls := .type "list", data := .seq #[] c₁ } → codeAny (model prog w) A (.builtin "list.extend.loop" ⟨[.ref S, .ref h1.objs.size, .ref S], []⟩)
        (fun rr s' => rr = .ok (.ret (.ref S)) ∧ ∃ (h' : Heap) (tk : Nat) (acc : Array Value) (c' : Nat), s' = { s with heap := h', toks := tk } ∧ (∀ b o, s.heap.get? b = some o → h'.get? b = some o) ∧ h'.get? S = some { cls := .type "list", dict := none, data := .seq acc c', slots := #[] } ∧ ItemsOf (fun i v => ∃ k, kvs[i]? = some (k, v)) acc kvs.length)
        { s with heap := h, toks := tk } := by
    intro h c₁ tk hk st hS₁
    refine codeAny_extend_loopS W.toS hn S hSf (.ref S) kvs.length 0 _ #[] c₁ rfl (Nat.zero_le _) st hS₁ (ItemsOf.nil _) fun s' acc' c' hmv hS' hacc => ?_
    rw [Moved.eq_with hmv]
    refine ⟨rfl, s'.heap, s'.toks, acc', c', rfl, fun b o e => ?_, hS', hacc⟩
    have hb : b < S := by rw [← hS0]; exact Heap.lt_size e
    refine hmv.heap b o (fun hmem => ?_) (hk b o (Nat.ne_of_lt hb) (k1 _ _ e))
    rcases List.mem_cons.mp hmem with e' | hmem
    · exact absurd e' (Nat.ne_of_lt hb)
    · rw [List.mem_singleton.mp hmem, hs1] at hb
      exact absurd hb (Nat.not_lt.mpr (Nat.le_succ S))
  refine wpAny_mono (M := model prog w) (A := A.in1) (Q := fun fin s' => match fin with
      | .done f => (fun rr s' => rr = .ok (.ret (.ref S)) ∧ ∃ (h' : Heap) (tk : Nat) (acc : Array Value) (c' : Nat), s' = { s with heap := h', toks := tk } ∧ (∀ b o, s.heap.get? b = some o → h'.get? b = some o) ∧ h'.get? S = some { cls := .type "list", dict := none, data := .seq acc c', slots := #[] } ∧ ItemsOf (fun i v => ∃ k, kvs[i]? = some (k, v)) acc kvs.length) (.ok f : Result) s'
      | .again c' => c'.quiet = true ∧ codeAny (model prog w) A c' (fun rr s' => rr = .ok (.ret (.ref S)) ∧ ∃ (h' : Heap) (tk : Nat) (acc : Array Value) (c' : Nat), s' = { s with heap := h', toks := tk } ∧ (∀ b o, s.heap.get? b = some o → h'.get? b = some o) ∧ h'.get? S = some { cls := .type "list", dict := none, data := .seq acc c', slots := #[] } ∧ ItemsOf (fun i v => ∃ k, kvs[i]? = some (k, v)) acc kvs.length) s')
      (E := fun _ _ => False) ?_ (fun fin s' h => ?_) (fun e s' h => h.elim)
  · unfold Builtin.List.listExtendWith
    refine wpAny_bind (wpAny_typeOf (T := "dict_values") v1.typeIs ?_)
    have hSr : Builtin.List.listSameRef (.ref S) (.ref r) = false := beq_eq_false_iff_ne.mpr (fun z => Nat.ne_of_gt hr z)
    simp only [hSr, show (Value.type "dict_values" == Value.type "list") = false by decide, show (Value.type "dict_values" == Value.type "tuple") = false by decide, Bool.or_false, Bool.false_eq_true, if_false]
    refine wpAny_bind (wpAny_pyIter_values v1 m1 ?_)
    have hS₁ := Heap.get?_push_of_some ({ cls := .type "dict_valueiterator", data := .fields #[.ref d, .int 0 0, .int kvs.length 0, .int ep 0] } : Obj) hS
    have i1 : (h1.push { cls := .type "dict_valueiterator", data := .fields #[.ref d, .int 0 0, .int kvs.length 0, .int ep 0] }).IsValIter h1.objs.size d 0 kvs.length ep := ⟨_, Heap.get?_push_size _ rfl, rfl, rfl⟩
    have st1 : (h1.push { cls := .type "dict_valueiterator", data := .fields #[.ref d, .int 0 0, .int kvs.length 0, .int ep 0] }).IsValIter h1.objs.size d 0 kvs.length ep ∧ (h1.push { cls := .type "dict_valueiterator", data := .fields #[.ref d, .int 0 0, .int kvs.length 0, .int ep 0] }).DictAt knd d kvs ep ∧ HA A.in1 y1 (h1.push { cls := .type "dict_valueiterator", data := .fields #[.ref d, .int 0 0, .int kvs.length 0, .int ep 0] }) :=
      ⟨i1, m1.push _, st0.at fun o e => Heap.get?_push_of_some _ e⟩
    refine wpAny_bind (wpAny_holding (PySem.W.kdl_hint_values (s := { s with heap := h1.push { cls := .type "dict_valueiterator", data := .fields #[.ref d, .int 0 0, .int kvs.length 0, .int ep 0] } }) (let ⟨o, ho, z⟩ := v1; ⟨o, Heap.get?_push_of_some _ ho, z.1⟩) ?_))
    refine wpAny_ite_split (fun _ => ?_) (fun _ => wpAny_pure ⟨plainId_quiet PySem.F.plain_extend_loop _, key _ _ _ (fun b o _ e => Heap.get?_push_of_some _ e) st1 hS₁⟩)
    refine wpAny_bind (wpAny_rule ?_)
    refine wpAny_bind ?_
    show wpAny _ _ (updateSeq S (·.push .none) >>= fun _ => updateSeq S (·.pop)) _ _ _
    refine wpAny_bind (wpAny_updateSeq hS₁ rfl ?_)
    have hS₂ := Heap.get?_update_self (Obj.mapSeq (·.push Value.none)) hS₁ rfl
    refine wpAny_updateSeq (hz := by seq_fits) hS₂ rfl ?_
    have hS₃ := Heap.get?_update_self (Obj.mapSeq (·.pop)) hS₂ rfl
    refine wpAny_pure ⟨plainId_quiet PySem.F.plain_extend_loop _, key _ _ _ (fun b o hb e => ?_) ?_ hS₃⟩
    · exact (Heap.get?_update_other _ _ (Ne.symm hb)).trans ((Heap.get?_update_other _ _ (Ne.symm hb)).trans (Heap.get?_push_of_some _ e))
    · refine W.frame 0 _ _ st1 fun b hb o e => ?_
      have hbS : b ≠ S := fun h => hSf (h ▸ hb)
      exact (Heap.get?_update_other _ _ (Ne.symm hbS)).trans ((Heap.get?_update_other _ _ (Ne.symm hbS)).trans e)
  · cases fin with
    | done f =>
      obtain ⟨e, h', tk, acc, c', rfl, hk, hS', hi⟩ := h
      cases e
      show wpAny _ A (load S >>= _) _ _ _
      exact wpAny_bind (wpAny_load hS' (wpAny_pure (hQ h' tk acc hk hi)))
    | again c' =>
      refine ⟨h.1, codeAny_mono h.2 fun rr s'' hr' => ?_⟩
      obtain ⟨rfl, h', tk, acc, c', rfl, hk, hS', hi⟩ := hr'
      show wpAny _ A (load S >>= _) _ _ _
      exact wpAny_bind (wpAny_load hS' (wpAny_pure (hQ h' tk acc hk hi)))
end
end HB

/-! the rules for a context where nothing is handled, or the one exception -/
namespace HB
open PySem PySem.Spec PyProof.Rows L2
def HotK (X : Cx) : Prop := X.calm = true ∨ L2H.HotC X
theorem HotK.at {X : Cx} {pins : List (Addr × Obj)} {σ : L2.St} {H : Hp} {s : Shared} (c : HotK X) (I : Inv X pins σ H s) : ∃ x1, HA X.A x1 s.heap ∧ (X.A.handled = none ∨ x1 < s.heap.objs.size) := by
  rcases c with c | c
  · exact ⟨0, .inl (I.ok.hd c), .inl (I.ok.hd c)⟩
  · obtain ⟨x1, h⟩ := c.at I
    obtain ⟨_, o, vs, e, _, _⟩ := id h
    exact ⟨x1, .inr h, .inr (Heap.lt_size e)⟩
section
variable {prog : Program} {w : World} {A : Around} {E : Value → Shared → Prop} {s : Shared} {x1 : Addr}
theorem call_tuple_vals {K : Type} [DecidableEq K] {knd : PySem.KeyKind prog w K} {r d : Addr} {kvs : List (K × Value)} {ep : Nat} {Q : Value → Shared → Prop} (x : HA A x1 s.heap) (hv : s.heap.IsValuesView r d) (hm : s.heap.DictAt knd d kvs ep) (hn : kvs.length ≤ sizeLine)
    (hx1 : A.handled = none ∨ x1 < s.heap.objs.size)
    (hQ : ∀ (h' : Heap) (tk : Nat) (acc : Array Value), (∀ b o, s.heap.get? b = some o → h'.get? b = some o) → ItemsOf (fun i v => ∃ k, kvs[i]? = some (k, v)) acc kvs.length → Q (.ref h'.objs.size) { s with heap := h'.push { cls := .type "tuple", data := .seq acc }, toks := tk }) :
    wpAny (model prog w) A (call (.type "tuple") [.ref r]) Q E s := by
  refine callType_codes (Q₁ := fun obj s₁ => s₁.TypeIs obj "tuple" ∧ Q obj s₁) F.called_tuple (F.typeCall_tuple_1 _) F.entry_object_init ?_ fun obj s₁ h₁ =>
    ⟨h₁.1, F.args_object_init_2 obj _, object_init_meets F.called_tuple.init.lookup F.called_tuple.made (by decide) prog w A.in1 _ s₁ ⟨h₁.1, rfl, h₁.2⟩⟩
  refine codeAny_of_tree ?_
  show wpAny _ A.in1.in1 (do checkBuiltinCall "tuple.__new__" ⟨[.type "tuple", .ref r], []⟩; again (.builtin "tuple.__new__" ⟨[.type "tuple", .ref r], []⟩)) _ _ s
  refine wpAny_bind (wpAny_of_eq (F.newCall_tuple_1 _) (wpAny_pure ⟨plainId_quiet F.plain_tuple_new _, codeAny_builtin F.entry_tuple_new ?_⟩))
  rw [Around.under_plainId F.plain_tuple_new _]
  have hsub := sub_tuple_self
  have hinit := init_tuple_lookup
  have hmh := madeHere_tuple
  have hTI : s.TypeIs (.ref r) "dict_values" := hv.typeIs
  have cv := fun (Q : List Value → Shared → Prop) (E : Value → Shared → Prop) q => collect_vals (A := A.in1.in1) (E := E) (Q := Q) x hv hm hn hx1 q
  wp_walk using wpAny_typeOf hTI, cv
  intro h' tk acc hk hacc
  show wpAny _ _ (Builtin.Tuple.tupleExact acc.toList.toArray >>= fun v => ret v) _ _ _
  unfold Builtin.Tuple.tupleExact
  refine wpAny_bind (wpAny_newObj_type ?_ (by show acc.toList.toArray.size ≤ sizeLine; simp only [Array.toArray_toList]; rw [hacc.1]; exact hn))
  refine wpAny_pure ?_
  have e : acc.toList.toArray = acc := by simp
  rw [e]
  exact ⟨⟨_, Heap.get?_push_size _ rfl, rfl⟩, hQ h' tk acc hk hacc⟩
end
def tTupVals (td : TE) : TE := fun σ H Q => td σ H fun x H1 => ∃ a kvs, x = V.ref a ∧ H1 a = some (.dK kvs) ∧ ∀ p, H1 p = none → Q (.ref p) (upd H1 p (.tup (kvs.map (·.2))))
theorem pe_tupVals {X : Cx} {o : Expr} {p pos apos mpos : Pos} {td : TE} (hc : HotK X) (hd : PE X o td) (hg : Gl X "tuple" := by rfl) (hm : X.mg "tuple" = none) (hbase : attributeBase o "values" X.env (eval o X.env) = eval o X.env := by rfl) (hline : (apos.endLine == mpos.line) = true := by rfl)
    (na : starEach [Expr.Call (.Attribute o "values" apos) [] [] mpos] X.env = (false, eval (Expr.Call (.Attribute o "values" apos) [] [] mpos) X.env) :: starEach [] X.env := by rfl) :
    PE X (.Call (.Name "tuple" p) [.Call (.Attribute o "values" apos) [] [] mpos] [] pos) (tTupVals td) := by
  refine ⟨fun pins s σ H Q I h => ?_⟩
  refine Call_ (ld_blt I hg hm boot_tuple (PyProof.Rows.callWith_type1 (args_cons (wpAny_Call_method0_late hbase hline (thn (hd.run pins s σ H _ I h) fun v s1 ⟨x, H1, I1, r1, a, kvs, ex, ha, q⟩ => ?_)) na) na))
  subst ex
  obtain rfl : v = Value.ref a := r1
  obtain ⟨hz, hsys, vs, rel, dof⟩ := dk_of I1.hok ha
  obtain ⟨ep, dat⟩ := dof.dictAt
  obtain ⟨ob, es, ho, ex, hdat, hko, hpr, hnd⟩ := id dat
  refine ⟨"dict", "dict.values", F.plainAttrs_dict, F.slot_dict_values, F.type_dict_values, ⟨ob, ho, ex.1⟩, fun b e => ?_, Calls.callWith_builtin rfl (PySem.evalArgs_none ?_)⟩
  · cases e
    exact ⟨ob, ho, ex.2.1⟩
  refine call_meetsIn F.slot_dict_values ⟨ob, ho, ex.1⟩ F.entry_dict_values (F.args_dict_values_1 _) (meets_dict_values (mixKind X.prog X.w) a hsys) ⟨⟨vs, dof⟩, ?_⟩
  refine args_nil ?_
  have k1 : ∀ b u, s1.heap.get? b = some u → (s1.heap.push { cls := .type "dict_values", data := .fields #[.ref a] }).get? b = some u := fun b u e => Heap.get?_push_of_some _ e
  have I2 : Inv X pins σ H1 { s1 with heap := s1.heap.push { cls := .type "dict_values", data := .fields #[.ref a] } } := I1.kept (t' := s1.toks) k1
  obtain ⟨x1, hA, hx1⟩ := hc.at I2
  have hl : kvs.length = vs.length := KV.length rel
  refine call_tuple_vals hA ⟨_, Heap.get?_push_size _ rfl, rfl, rfl⟩ (dat.keep k1) (by rw [← hl]; exact hz) hx1 fun h' tk acc hk hacc => ?_
  have I3 : Inv X pins σ H1 { s1 with heap := h', toks := tk } := I1.kept (t' := tk) fun b u e => hk b u (k1 b u e)
  have hv : Vals (kvs.map (·.2)) acc.toList := by
    refine vals_of_at ((List.length_map (f := Prod.snd) (as := kvs)).trans (hl.trans (hacc.1.symm.trans (Array.length_toList (xs := acc)).symm))) fun j y u h1 h2 => ?_
    obtain ⟨k, hk2⟩ := hacc.2 j u (by rw [← Array.getElem?_toList]; exact h2)
    obtain ⟨y', h3, h4⟩ := KV.at' rel hk2
    rw [List.getElem?_map, h3] at h1
    cases h1
    exact h4
  refine ⟨.ref h'.objs.size, upd H1 h'.objs.size (.tup (kvs.map (·.2))), I3.laid (t' := tk) (fun c o e => Heap.get?_push_of_some _ e) (Nat.le_refl _) (show ObjOk X.prog X.w _ _ _ (.tup (kvs.map (·.2))) from ⟨by rw [List.length_map]; exact hz, acc.toList, hv, ?_⟩), rfl, q _ (I3.hok.fresh (Nat.le_refl _))⟩
  rw [Array.toArray_toList]
  exact IsTup.new _ _
/-! (a, b, ..) = a tuple of that length -/
section
variable {prog : Program} {w : World} {A : Around} {E : Value → Shared → Prop} {s : Shared} {x1 : Addr}
theorem assign_tupE {env : Env} {elts : List Expr} {k1} {pos : Pos} {t : Addr} {items : Array Value} {Q : Unit → Shared → Prop} (x : HA A x1 s.heap) (hx1 : A.handled = none ∨ x1 < s.heap.objs.size) (ht : IsTup s.heap t items)
    (hn : (assignEach elts env).length = items.size) (hstar : (assignEach elts env).findIdx? (·.1) = none)
    (h : ∀ h', Heap.ExtBut s.heap.objs.size s.heap h' → wpAny (model prog w) A (assignInOrder ((assignEach elts env).map (·.2)) items.toList) Q E { s with heap := h' }) :
    wpAny (model prog w) A (assign (.Tuple elts k1 pos) env (.ref t)) Q E s := by
  rw [assign_Tuple]
  refine wpAny_bind (wpAny_standAt ?_)
  unfold unpack
  rw [hn, hstar]
  refine wpAny_bind (wpAny_holding ?_)
  have hlt : t ≠ s.heap.objs.size := by obtain ⟨o, ho, _⟩ := ht; exact Nat.ne_of_lt (Heap.lt_size ho)
  unfold unpackItems
  refine wpAny_bind ?_
  unfold notIterableAtAll
  refine wpAny_bind (wpAny_specialOf ht.typeIs slot_tuple_iter.lookup ?_)
  refine wpAny_pure ?_
  simp only [Bool.false_eq_true, if_false]
  refine wpAny_bind (wpAny_holding (iter_tuple ht ?_))
  refine wpAny_bind (wpAny_holding (draw_tuple hlt items.size 0 _ _ ⟨_, Heap.get?_push_size _ rfl, rfl, rfl⟩ (ht.push _) (by omega) fun h₁ hit₁ hs₁ => ?_))
  have hall : List.take items.size (List.drop 0 items.toList) = items.toList := by
    rw [List.drop_zero]; exact List.take_of_length_le (by simp)
  rw [hall]
  rw [if_neg (by simp)]
  have ht₁ : IsTup h₁ t items := (ht.push _).extBut hs₁.extBut hlt
  have x' : HA A x1 h₁ := by
    rcases hx1 with q | q
    · exact .inl q
    · exact x.at fun o e => hs₁.extBut x1 o (Nat.ne_of_lt q) (Heap.get?_push_of_some _ e)
  refine wpAny_bind (wpAny_holding (tup_endE (s := { s with heap := h₁ }) x' hit₁ ht₁ (by simp) fun h₂ he₂ => ?_))
  simp only [Option.isSome_none, Bool.false_eq_true, if_false]
  exact wpAny_pure (h h₂ fun b o hb e => he₂ b o hb (hs₁.extBut b o hb (Heap.get?_push_of_some _ e)))
end
theorem pg_tupE {X : Cx} {es : List Expr} {k : Nat} {pos : Pos} {t : TGs} {n : Nat} (hc : HotK X) (h : PGs X es t)
    (hn : (assignEach es X.env).length = n := by rfl) (hst : (assignEach es X.env).findIdx? (·.1) = none := by rfl) : PG X (.Tuple es k pos) (gTup X.K n t) := by
  refine ⟨fun pins s σ H v u Q I r hw => ?_⟩
  obtain ⟨a, xs, e1, hq, hl, hw⟩ := hw
  subst e1
  cases r
  obtain ⟨its, rv, ht, hz⟩ := I.tuple hq
  obtain ⟨x1, hA, hx1⟩ := hc.at I
  refine assign_tupE hA hx1 ht (by simp [hn, ← hl, rv.length]) hst fun h' hx => ?_
  have I1 : Inv X pins σ H { s with heap := h' } := I.kept (t' := s.toks) fun b o e => hx b o (Nat.ne_of_lt (Heap.lt_size e)) e
  exact h.run pins _ σ H xs _ Q I1 (by simpa using rv) hw
/-! a list, walked -/
theorem turn_listH {P : Program} {w : World} {K : PySem.W.Frag} {tg : Expr} (a it : Addr) : L2H.TurnH P w K tg (Itl K a) [it] it (fun i h => h.IsListIter it a i) where
  mem := by simp
  obj := fun i h st b hb => by
    have e : b = it := by simpa using hb
    subst e
    obtain ⟨o, e, c, d⟩ := st
    exact ⟨o, e, fun v z => by rw [d] at z; cases z⟩
  keep := fun i h h' st k => st.at fun o e => k it (by simp) o e
  item := by
    intro X hP hw hK hc i pins s σ H E I hf st hg
    subst hP hw hK
    obtain ⟨xs, x, hq, hx⟩ := hg
    obtain ⟨its, rv, p, hz⟩ := I.list hq
    obtain ⟨u, hu, ru⟩ := rv.get hx
    obtain ⟨f0, f1, f2, f3, f4, f5⟩ := hf it (by simp)
    refine wpAny_pyNext_list_item st p.isList (x := u) (by simpa using hu) fun h' st' sb => ?_
    have I1 : Inv X pins σ H { s with heap := h' } := I.turned (t' := s.toks) (fun b o hb e => (sb.2 b hb).trans e) f0 f1 f3 f4 f5
    obtain ⟨o, e, c, d⟩ := id st'
    exact ⟨u, rfl, go_of (s := { s with heap := h' }) e c d (by decide) ⟨x, H, I1, ru, ⟨rfl, fun ys hy => by rw [I.list_inj hy hq]; exact hx⟩, st', fun b hb => (hf b hb).1⟩⟩
  done := by
    intro X hP hw hK hc i pins s σ H E I hf st hg
    subst hP hw hK
    obtain ⟨xs, hq, hx⟩ := hg
    obtain ⟨its, rv, p, hz⟩ := I.list hq
    obtain ⟨f0, f1, f2, f3, f4, f5⟩ := hf it (by simp)
    have hl := rv.length
    obtain ⟨x1, hot⟩ := hc.at I
    exact list_endE (.inr hot) st p.isList (by simp; omega) fun h' eb => ⟨rfl, I.turned (t' := s.toks) (fun b o hb e => eb b o hb e) f0 f1 f3 f4 f5⟩
  self := fun _ _ _ _ _ st h => wpAny_pyIter_listiter st h
theorem pi_listH {X : Cx} {tg l : Expr} {tl : TE} (hl : PE X l tl) : L2H.PIH X tg l (iList X.K tl) := by
  refine ⟨fun pins s σ H R I h => ?_⟩
  refine thn (hl.run pins s σ H _ I h) fun v s1 ⟨x, H1, I1, r1, q1⟩ => ?_
  obtain ⟨a, e, ⟨xs, hq⟩, q⟩ := q1
  subst e
  cases r1
  obtain ⟨its, rv, p, hz⟩ := I1.list hq
  refine wpAny_pyIter_list p.isList ?_
  refine ⟨s1.heap.objs.size, [s1.heap.objs.size], _, _, H1, rfl, I1.kept (t' := s1.toks) fun b o e => Heap.get?_push_of_some _ e, turn_listH a _, ⟨_, Heap.get?_push_size _ rfl, rfl, rfl⟩, fun b hb => ?_, q⟩
  have e : b = s1.heap.objs.size := by simpa using hb
  subst e
  exact I1.fpOk (Nat.le_refl _) (I1.hok.fresh (Nat.le_refl _))
end HB

/-! [elt for target in iter] while an exception is handled -/
namespace HB
open PySem PySem.Spec PyProof.Rows L2
/-- the block's context, the handled exception kept in sight -/
abbrev blkH (X : Cx) (s : Shared) (H : Hp) (scope : Scope) (cenv : Env) (fp : List Addr) (p : Addr × Obj) : Cx := (X.blk s H scope cenv fp).tr [p] (fun _ _ => False)
theorem pe_lcH {X : Cx} {p : Addr × Obj} {elt tg iter : Expr} {scope : Scope} {own : List (Str × Nat)} {pos : Pos} {wi : TI} {g : TG} {te : TE} (hot : L2H.Hot1 X.A p) (hp : p ∈ X.pn) (hN : X.N.Nodup) (hi : L2H.PIH X tg iter wi) (ok : BlkOk X.N X.env.scope scope own)
    (hg : ∀ (s : Shared) (H : Hp) (C : Addr) (cl : List (Str × Addr)) (fp : List Addr), PG (blkH X s H scope (compEnvC scope cl C X.env) fp p) tg g)
    (he : ∀ (s : Shared) (H : Hp) (C : Addr) (cl : List (Str × Addr)) (fp : List Addr), PE (blkH X s H scope (compEnvC scope cl C X.env) fp p) elt te) (hs : ∀ x, foldedSetIterable iter X.env x = pure x := by intro _; rfl) :
    PE X (.ListComp elt [⟨tg, iter, [], 0⟩] scope pos) (tLc wi g tYes te (own.map (·.2))) := by
  refine ⟨fun pins s σ H Q I h => ?_⟩
  rw [eval_ListComp]
  have hfree : ∀ y ∈ scope.names, y.2 = .free → ∃ c, X.env.cells.lookup y.1 = some c := fun y hy e => by
    rcases ok.free y hy e with k | k
    · exact I.ok.has _ (.inl k)
    · exact I.ok.has _ (.inr k)
  refine wpAny_comprehension_free rfl hs (closure_ok hfree) ok.kind (fun y hy e => by rw [ok.uniq y hy, e])
    (thn (hi.run pins s σ H _ I h) fun xv s1 hx => thn hx fun itv s2 h2 => ?_)
  obtain ⟨it, fp, tn, J, H2, e, I2, T, st2, f2, q⟩ := h2
  subst e
  refine wpAny_newObj_type (newEnv_comp ?_) (by show 0 ≤ sizeLine; decide)
  generalize hD : s2.heap.objs.size = D
  have hDn : H2 D = none := I2.hok.fresh (Nat.le_of_eq hD)
  obtain ⟨W, ⟨m0, w0⟩, turn⟩ := q D hDn
  generalize hs3 : ({ s2 with heap := s2.heap.push { cls := .type "list", data := .seq ([] : List Value).toArray } } : Shared) = s3
  have I3 : Inv X pins σ (upd H2 D (.lst [])) s3 := by
    rw [← hs3]
    refine I2.laid (t' := s2.toks) (fun b o e => Heap.get?_push_of_some _ e) (Nat.le_of_eq hD) ⟨Nat.zero_le _, [], 0, .nil, ?_⟩
    rw [← hD]
    exact Heap.get?_push_size _ rfl
  have h3 : s3.heap = s2.heap.push { cls := .type "list", data := .seq ([] : List Value).toArray } := by rw [← hs3]
  have sz : ∀ b ∈ fp, b < s2.heap.objs.size := fun b hb => by
    obtain ⟨o, e, _⟩ := T.obj _ _ st2 b hb
    exact Heap.lt_size e
  -- the handled exception
  obtain ⟨P1, P2, P3, P4, P5⟩ := I3.pin p (List.mem_append_left _ hp)
  have P6 : p.1 ∉ frs X.stack := fun hm => (List.mem_cons.mp (I3.stkSub p.1 hm)).elim P3 P4
  have f3 : ∀ b ∈ fp, FpOk X pins (upd H2 D (.lst [])) b ∧ b < s3.heap.objs.size := fun b hb => by
    have hlt := sz b hb
    refine ⟨⟨?_, (f2 b hb).2⟩, by rw [h3, Heap.size_push]; exact Nat.lt_succ_of_lt hlt⟩
    rw [upd_ne (by rw [← hD]; exact Nat.ne_of_lt hlt)]
    exact (f2 b hb).1
  have P7 : ∀ b ∈ fp, p.1 ≠ b := fun b hb => (f2 b hb).2.2.2.2.2 p (List.mem_append_left _ hp)
  have P8 : p.1 ∉ fp := fun z => P7 p.1 z rfl
  have st3 : tn 0 s3.heap := T.keep _ _ _ st2 fun b _ o e => by rw [h3]; exact Heap.get?_push_of_some _ e
  have I4 := block_start I3 ok hN f3
  have pg := hg s3 (upd H2 D (.lst [])) s3.heap.objs.size (cellsFrom (s3.heap.objs.size + 1) scope.names (cloFrom X.env.cells scope.names [])) fp
  have pe := he s3 (upd H2 D (.lst [])) s3.heap.objs.size (cellsFrom (s3.heap.objs.size + 1) scope.names (cloFrom X.env.cells scope.names [])) fp
  show codeAny _ _ (.compStart (.ListComp elt [⟨tg, iter, [], 0⟩] scope pos) 0 (.ref it) (.ref D) (compEnvC scope (cellsFrom (s3.heap.objs.size + 1) scope.names (cloFrom X.env.cells scope.names [])) s3.heap.objs.size X.env)) (compPost (model X.prog X.w) X.A X.xe none (EP X pins σ Q) (.ref D) s3.heap.objs.size) { s3 with heap := pushCells (s3.heap.push { cls := .type "dict", data := .dict #[] }) scope.names }
  have nfp : ∀ b ∈ fp, (upd H2 D (.lst [])) b = none := fun b hb => (f3 b hb).1.1
  generalize hce : compEnvC scope (cellsFrom (s3.heap.objs.size + 1) scope.names (cloFrom X.env.cells scope.names [])) s3.heap.objs.size X.env = ce at I4 pg pe ⊢
  have cL : ce.locals = s3.heap.objs.size := by subst hce; rfl
  generalize hH3 : upd H2 D (.lst []) = H3 at I3 I4 pg pe w0 nfp f3 P2
  generalize hs4 : ({ s3 with heap := pushCells (s3.heap.push { cls := .type "dict", data := .dict #[] }) scope.names } : Shared) = s4 at I4 ⊢
  have st4 : tn 0 s4.heap := T.keep _ _ _ st3 fun b _ o e => by rw [← hs4]; exact pushCells_keeps _ _ _ _ (Heap.get?_push_of_some _ e)
  -- in sight
  have toH : ∀ {pn' : List (Addr × Obj)} {σ' : L2.St} {H' : Hp} {s' : Shared}, Inv (X.blk s3 H3 scope ce fp) pn' σ' H' s' → Inv (blkH X s3 H3 scope ce fp p) pn' σ' H' s' := fun {pn' σ' H' s'} J' => by
    refine ⟨J'.ok.toTry _ _, J'.os, J'.bare, J'.base, J'.loc, J'.cell, J'.free, J'.freeC, fun r hr => ?_, J'.hok, J'.len⟩
    have hr' : r ∈ p :: pn' := hr
    rcases List.mem_cons.mp hr' with z | z
    · rw [z]
      refine ⟨J'.base.keep p.1 p.2 P1 P2 P6 P8, J'.base.free p.1 p.2 P1 P2 P8, ?_, P6, P5⟩
      show p.1 ≠ ce.locals
      rw [cL]
      exact Nat.ne_of_lt (Heap.lt_size P1)
    · exact J'.pin r (List.mem_append_right _ z)
  have ofH : ∀ {pn' : List (Addr × Obj)} {σ' : L2.St} {H' : Hp} {s' : Shared}, (X.blk s3 H3 scope ce fp).Ok → Inv (blkH X s3 H3 scope ce fp p) pn' σ' H' s' → Inv (X.blk s3 H3 scope ce fp) pn' σ' H' s' := fun {pn' σ' H' s'} okB J' =>
    ⟨okB, J'.os, J'.bare, J'.base, J'.loc, J'.cell, J'.free, J'.freeC, fun r hr => J'.pin r (List.mem_append_right _ (by
      have hr' : r ∈ ([] : List (Addr × Obj)) ++ pn' := hr
      simpa using hr')), J'.hok, J'.len⟩
  have okB := I4.ok
  have hotB : L2H.HotC (blkH X s3 H3 scope ce fp p) := ⟨p, hot, List.mem_singleton.mpr rfl⟩
  have stat : ∀ {σ' : L2.St} {H' : Hp} {s' : Shared}, Inv (X.blk s3 H3 scope ce fp) [] σ' H' s' → (∀ b ∈ fp, H' b = none) → ∀ b ∈ fp, FpOk (blkH X s3 H3 scope ce fp p) [] H' b := fun {σ' H' s'} I' hn b hb =>
    ⟨hn b hb, (I'.ok.exf b hb).1, I'.ok.exfs b hb, .inl hb, fun x c e => (I'.ok.exf b hb).2 x c e, fun r hr => by
      have hr' : r = p := by simpa using (show r ∈ [p] ++ ([] : List (Addr × Obj)) from hr)
      rw [hr']
      exact P7 b hb⟩
  have hRR : ∀ s' m H', Inv X pins σ H' s' → Q (.ref D) H' → s'.heap.Ns s3.heap.objs.size m → FpOk X pins H' s3.heap.objs.size → compPost (model X.prog X.w) X.A X.xe none (EP X pins σ Q) (.ref D) s3.heap.objs.size (.ok .next) s' := fun s' m H' I' q hn f => ⟨m, hn, fun h'' sb => by
    obtain ⟨f0, f1, f2, f3, f4, f5⟩ := f
    exact ⟨.ref D, H', I'.turned (t' := s'.toks) (fun b o hb e => (sb.2 b hb).trans e) f0 f1 f3 f4 f5, rfl, q⟩⟩
  have loop : codeAny (model X.prog X.w) X.A (.compLoop (.ListComp elt [⟨tg, iter, [], 0⟩] scope pos) 0 (.ref it) (.ref D) ce) (compPost (model X.prog X.w) X.A X.xe none (EP X pins σ Q) (.ref D) s3.heap.objs.size) s4 := by
    refine compLoop_any (fun n s' => ∃ i H', Inv (X.blk s3 H3 scope ce fp) [] (wipe σ (own.map (·.2))) H' s' ∧ tn i s'.heap ∧ (∀ b ∈ fp, H' b = none) ∧ W i n H') ?_ m0 ⟨0, H3, I4, st4, nfp, w0⟩
    rintro n s5 ⟨i, H5, I5, st5, n5, w5⟩
    rcases turn i n H5 w5 with ⟨stop, qq⟩ | ⟨go, Nx, hNx, step⟩
    · have td := T.done (blkH X s3 H3 scope ce fp p) rfl rfl rfl hotB i [] s5 _ H5 (fun _ _ => False) (toH I5) (stat I5 n5) st5 stop
      refine thnF td fun r s6 ⟨hr, I6'⟩ => ?_
      subst hr
      have I6 := ofH okB I6'
      have I7 : Inv X pins σ H5 s6 := I3.call' (ch := fp) I6.os I6.base I6.hok I6.bare fun b hb => ⟨(f3 b hb).1.2.2.2.1, (f3 b hb).1.2.1, (f3 b hb).1.2.2.2.2.1, (f3 b hb).1.2.2.2.2.2⟩
      have nC : H5 s3.heap.objs.size = none := by
        have z : H5 ce.locals = none := I6.free
        rw [cL] at z
        exact z
      obtain ⟨m, hn, _⟩ := I6.loc
      have hn : s6.heap.Ns ce.locals m := hn
      rw [cL] at hn
      exact hRR s6 m H5 I7 qq hn (I3.fpOk (Nat.le_refl _) nC)
    · have ti := T.item (blkH X s3 H3 scope ce fp p) rfl rfl rfl hotB i [] s5 _ H5 (fun _ _ => False) (toH I5) (stat I5 n5) st5 go
      refine thnF ti fun r s6 ⟨u, hr, h6⟩ => ?_
      subst hr
      refine thnF h6 fun _ s7 ⟨x, H7, I7, r7, y7, st7, n7⟩ => ?_
      have I7' := I7.pinned (stat (ofH okB I7) n7) (T.obj _ _ st7)
      refine thnF (pg.run _ s7 _ H7 x u _ I7' r7 (step x H7 y7)) fun _ s8 ⟨σ8, H8, I8, hw8, q8⟩ => ?_
      refine thnF ((pts_nil (X := blkH X s3 H3 scope ce fp p)).run _ s8 σ8 H8 _ I8 q8) fun b s9 ⟨H9, I9, q9⟩ => ?_
      have fin : ∀ {s' : Shared} {H' : Hp}, Inv (blkH X s3 H3 scope ce fp p) ([] ++ pinsAt fp s7.heap) σ8 H' s' → Nx H' → ∃ m, m < n ∧ ∃ i H', Inv (X.blk s3 H3 scope ce fp) [] (wipe σ (own.map (·.2))) H' s' ∧ tn i s'.heap ∧ (∀ b ∈ fp, H' b = none) ∧ W i m H' := fun {s' H'} I' nx => by
        obtain ⟨m', hm, w'⟩ := hNx H' nx
        have pin' : ∀ b ∈ fp, ∀ o, s7.heap.get? b = some o → s'.heap.get? b = some o ∧ H' b = none := fun b hb o e =>
          let z := I'.pin (b, o) (List.mem_append_right _ (List.mem_append_right _ (mem_pinsAt hb e)))
          ⟨z.1, z.2.1⟩
        have hl : (wipe σ (own.map (·.2))).length = σ8.length := by rw [← hw8, wipe_length]
        refine ⟨m', hm, i + 1, H', (ofH okB (I'.unpinned (pins := []))).weak hl (fun j v e => ?_), T.keep _ _ _ st7 fun b hb o e => (pin' b hb o e).1, fun b hb => ?_, w'⟩
        · rw [← hw8] at e
          exact (wipe_some e).1
        · obtain ⟨o, e, _⟩ := T.obj _ _ st7 b hb
          exact (pin' b hb o e).2
      cases b with
      | false =>
        simp only [Bool.false_eq_true, if_false] at q9 ⊢
        exact fin I9 q9
      | true =>
        simp only [if_true] at q9 ⊢
        refine thnF (pe.run _ s9 σ8 H9 _ I9 q9) fun z s10 ⟨yv, H10, I10, r10, acc, hD10, hz10, nx⟩ => ?_
        exact app_ok (X := blkH X s3 H3 scope ce fp p) I10 hD10 hz10 r10 fun s11 I11 => fin I11 nx
  exact codeAny_compStart_list loop (T.self X.A 0 _ _ _ st4 loop)
end HB

/-! defs that are called while an exception is handled -/
namespace HB
open PySem PySem.Spec PyProof.Rows L2
abbrev cxHr (P : Program) (w : World) := L2H.cxH (CXr P w) P w
theorem hx0 {X : Cx} : ∀ σ, PassesAt (CXr X.prog X.w) X σ E0 := fun _ _ _ _ _ _ _ h => by
  obtain ⟨_, _, _, _, _, _, _, _, _, _, _, _, z⟩ := h
  exact z.elim
structure GoodH (P : Program) (w : World) (K : PySem.W.Frag) (mg : Str → Option Value) (base : Heap) (k : Nat) (f : Addr) (sp : Sp) : Prop where
  ex : ∃ (fd : FuncData) (ps : List Str), L2H.FnH P w K mg base (CXr P w) k f fd ps sp ∧ Binds K fd ps []
  kp : PySem.W.keepIn K (.ref f) = true
theorem funD_okH {P : Program} {w : World} {K : PySem.W.Frag} {mg : Str → Option Value} {base : Heap} {x qual : Str} {params : Arguments} {body : List Stmt} {scope : Scope} {dvs : List V} {kws : List (Str × V)} {f : Addr} {fd : FuncData} {CX : CXT} {N ps : List Str} {k : Nat} {sp : Sp} (F : FunD K x qual params body scope dvs kws f fd) (S : FnScope N ps scope) (len : ∀ vs H Q E, sp vs H Q E → vs.length = ps.length)
    (hbody : ∀ (cdv : Value) (A : Around) (outer : List Env) (s : Shared) (H : Hp) (vs : List V) (Q : VK) (E : XK) (p : Addr × Obj), L2H.Hot1 A p → L2H.RoomH k (A.deeper (envOfC qual scope s.heap.objs.size f cdv)) → sp vs H Q E →
      ∃ t, PSs (L2H.cxH CX P w K mg base N qual scope f cdv A outer s H E p) body t ∧ t { nx := fun _ H' => Q .non H', rt := Q } (start N vs) H) : L2H.FnH P w K mg base CX (k + 1) f fd ps sp := by
  obtain ⟨oc, od, dV, kV, doc, pm, an, cdv, ct, osl, rfl, lk, hcd, _, _⟩ := F.ex
  exact L2H.fn_ofH lk hcd S len fun A outer s H vs Q E p hot hr hsp => hbody cdv A outer s H vs Q E p hot hr hsp
theorem huH {k : Nat} {A : Around} (hr : L2H.RoomH k A) : A.units + 1 < cLine := by have := hr.un; omega
theorem huH65 {k : Nat} {A : Around} (hr : L2H.RoomH k A) : A.units + 65 < cLine := by have := hr.un; omega
theorem hu65 {k : Nat} {A : Around} (hr : Room k A) : A.units + 65 < cLine := huH65 (L2H.roomH_of hr)
theorem hotc {P : Program} {w : World} {K : PySem.W.Frag} {mg : Str → Option Value} {base : Heap} {N : List Str} {qual : Str} {scope : Scope} {f : Addr} {cd : Value} {A : Around} {outer : List Env} {s : Shared} {H : Hp} {E : XK} {p : Addr × Obj} (h : L2H.Hot1 A p) :
    L2H.HotC (L2H.cxH (CXr P w) P w K mg base N qual scope f cd A outer s H E p) := ⟨p, ⟨h.1, h.2⟩, List.mem_singleton.mpr rfl⟩
section
variable {X : Cx} {k : Nat} {f C : Addr} {sp : Sp} {x m : Str} {p pos apos : Pos} {e o : Expr} {es : List Expr} {ta : TE} {t : TA}
theorem pe_callGH (G : GoodH X.prog X.w X.K X.mg X.base k f sp) (hr : L2H.RoomH k X.A) (hc : L2H.HotC X) (hm : X.mg x = some (.ref f)) (ha : PA X (e :: es) t) (hg : Gl X x := by rfl) (hdb : (x == ("__debug__" : Str)) = false := by decide)
    (he : starEach (e :: es) X.env = (false, eval e X.env) :: starEach es X.env := by rfl) (hpl : (backTo pos (starEach es X.env)).any (·.1) = false := by rfl) :
    PE X (.Call (.Name x p) (e :: es) [] pos) (tCall sp [] E0 t) := by
  obtain ⟨⟨fd, ps, F, b⟩, kp⟩ := G
  refine ⟨fun pins s σ H Q I h => ?_⟩
  refine wpAny_Call_Name_kw (ld_glob I hg hm ?_ hdb)
  refine PySem.W.callWith_K (h₀ := X.base) I.ok.mod.kin kp (thn (ha.run pos pins s σ H _ I h) fun us s1 ⟨vs, H1, I1, r, q⟩ => ⟨I1.kIn, ?_⟩) he hpl
  have q : sp (vs ++ []) H1 Q E0 := q
  rw [List.append_nil] at q
  exact L2H.run_fnH (E := fun _ => E0) F hr hc b (hx0 σ) I1 r q
theorem pe_methGH0 {pl : Sem Bool} (he : PE X o ta) (c : Cls X.K C) (hm : Meth X.K C m f) (G : GoodH X.prog X.w X.K X.mg X.base k f sp) (hr : L2H.RoomH k X.A) (hc : L2H.HotC X)
    (ht : eval (.Call (.Attribute o m apos) [] [] pos) X.env = (do
      let ov ← eval o X.env
      standAt apos.atName
      let (f, first) ← holding [ov] (getMethod ov m pl)
      callWith pos f first (backTo pos (starEach [] X.env)) (backToKw pos (keywordEach [] X.env))) := by rfl) :
    PE X (.Call (.Attribute o m apos) [] [] pos) (tMeth C m sp [] E0 ta tNil) := by
  obtain ⟨⟨fd, ps, F, b⟩, kp⟩ := G
  refine ⟨fun pins s σ H Q I h => ?_⟩
  refine PySem.W.methodCall_KW (pl := pl) (thn (he.run pins s σ H _ I h) fun u s1 ⟨x, H1, I1, rx, a, dx, fs, ex, ea, l, q⟩ => ?_) ht
  subst ex
  obtain rfl : u = Value.ref a := rx
  refine getmeth_ok I1 ea c hm l ?_
  exact PySem.W.callWith_K0 (first := [.ref a]) I1.kIn hm.kp (L2H.run_fnH (E := fun _ => E0) (us := [.ref a]) (vs := [.ref a]) F hr hc b (hx0 σ) I1 (.cons rfl .nil) q)
end
end HB

namespace HB
open PySem PySem.Spec PyProof.Rows L2
local macro_rules | `(tactic| walk_at "ne") => `(tactic| first | assumption | (apply Ne.symm; assumption) | exact ne_of_none (by assumption) (by assumption) | exact ne_new (by assumption) (by assumption) | (intro q; cases q; done))
local macro_rules | `(tactic| walk_at "hp") => `(tactic| first
  | assumption
  | exact upd_same
  | (refine upd_keep ?_ (by assumption); walk_at "hp")
  | (refine upd_far (by walk_at "ne") ?_; walk_at "hp")
  | (refine Same.get (by assumption) ?_; walk_at "hp")
  | (refine Kp.get (by assumption) ?_ (notin1 (by walk_at "ne")); walk_at "hp"))
local macro_rules | `(tactic| walk_at "same") => `(tactic| first
  | assumption
  | exact Same.refl _
  | (refine Same.new ?_ (by assumption); walk_at "same")
  | (refine Same.trans ?_ (by assumption); walk_at "same"))
/-- one row of a reading -/
local macro_rules | `(tactic| walk_at "r1") => `(tactic| first
  | refine ⟨_, rfl, ?_⟩
  | refine ⟨_, _, rfl, rfl, ?_⟩
  | refine ⟨rfl, ?_⟩
  | refine ⟨_, _, _, _, _, rfl, (by walk_at "hp"), (by assumption), (by assumption), rfl, ?_⟩
  | refine ⟨sz_ (by decide), fun _ _ => ?_⟩)
local macro_rules | `(tactic| walk_at "rd") => `(tactic| repeat walk_at "r1")
section
variable {P : Program} {w : World} {K : PySem.W.Frag} {mg : Str → Option Value} {base : Heap}
/-! ### what a machine tells -/
theorem okH_Boxes_told (T : Txt K mg) {f : Addr} {fd : FuncData} {dv : List V} {kw : List (Str × V)} (F : FunD K "told" "Boxes.told" (defArgs s_Boxes_told) (defBody s_Boxes_told) (defScope s_Boxes_told) dv kw f fd) : L2H.FnH P w K mg base (CXr P w) 1 f fd ["self"] (sp_Boxes_told K) := by
  refine funD_okH F sc_Boxes_told (fun vs H Q E h => ?_) (fun cdv A outer s H vs Q E p hot hr h => ?_)
  · obtain ⟨b, rfl, _⟩ := h
    rfl
  · obtain ⟨b, rfl, h⟩ := h
    have hc : L2H.HotC (cxHr P w K mg base nm_Boxes_told "Boxes.told" (defScope s_Boxes_told) f cdv A outer s H E p) := hotc hot
    refine ⟨_, (pss_one (ps_ret (pe_callTy call_tuple_of (by rfl) T.f_tuple (by decide +kernel) (pa_cons (pe_fld (pv 0) rfl) pa_nil)))), ?_⟩
    obtain ⟨nl, dx, s, hb, hn, k⟩ := h
    exact ⟨_, rfl, b, _, dx, _, _, rfl, hb, T.c_Boxes, T.n_Boxes_numbers, rfl, _, _, rfl, .inl ⟨SqL.of hn, k⟩⟩
theorem goodH_Boxes_told (T : Txt K mg) : GoodH P w K mg base 1 (He.ma K (He.ga K "Boxes") "told") (sp_Boxes_told K) := by
  obtain ⟨fd, F⟩ := T.d_Boxes_told
  exact ⟨⟨fd, _, okH_Boxes_told T F, F.bindsN fun _ _ _ _ _ _ us hl => match us, hl with | [_], _ => rfl⟩, F.kp⟩
theorem okH_Store_told (T : Txt K mg) {f : Addr} {fd : FuncData} {dv : List V} {kw : List (Str × V)} (F : FunD K "told" "Store.told" (defArgs s_Store_told) (defBody s_Store_told) (defScope s_Store_told) dv kw f fd) : L2H.FnH P w K mg base (CXr P w) 1 f fd ["self"] (sp_Store_told K) := by
  refine funD_okH F sc_Store_told (fun vs H Q E h => ?_) (fun cdv A outer s H vs Q E p hot hr h => ?_)
  · obtain ⟨a, rfl, _⟩ := h
    rfl
  · obtain ⟨a, rfl, h⟩ := h
    have hc : L2H.HotC (cxHr P w K mg base nm_Store_told "Store.told" (defScope s_Store_told) f cdv A outer s H E p) := hotc hot
    refine ⟨_, (pss_one (ps_ret (pe_callTy (T := "list") call_list_of (by rfl) T.f_list (by decide +kernel) (pa_cons (pe_fld (pv 0) rfl) pa_nil)))), ?_⟩
    obtain ⟨kl, gl, xs, ⟨C, dx, fs, ha, cl, n1, n2, l1, l2⟩, hk, k⟩ := h
    exact ⟨_, rfl, a, C, dx, _, _, rfl, ha, cl, n1, l1, _, _, rfl, .inl (SqL.of hk), k⟩
theorem goodH_Noted_told (T : Txt K mg) : GoodH P w K mg base 1 (He.ma K (He.ga K "Noted") "told") (sp_Store_told K) := by
  obtain ⟨fd, F⟩ := T.d_Noted_told
  exact ⟨⟨fd, _, okH_Store_told T F, F.bindsN fun _ _ _ _ _ _ us hl => match us, hl with | [_], _ => rfl⟩, F.kp⟩
theorem okH_Store_leaves (T : Txt K mg) {f : Addr} {fd : FuncData} {dv : List V} {kw : List (Str × V)} (F : FunD K "leaves" "Store.leaves" (defArgs s_Store_leaves) (defBody s_Store_leaves) (defScope s_Store_leaves) dv kw f fd) : L2H.FnH P w K mg base (CXr P w) 1 f fd ["self"] (sp_Store_leaves K) := by
  refine funD_okH F sc_Store_leaves (fun vs H Q E h => ?_) (fun cdv A outer s H vs Q E p hot hr h => ?_)
  · obtain ⟨a, rfl, _⟩ := h
    rfl
  · obtain ⟨a, rfl, h⟩ := h
    have hc : L2H.HotC (cxHr P w K mg base nm_Store_leaves "Store.leaves" (defScope s_Store_leaves) f cdv A outer s H E p) := hotc hot
    refine ⟨_, (pss_one (ps_ret (pe_callTy (T := "list") call_list_of (by rfl) T.f_list (by decide +kernel) (pa_cons (pe_fld (pv 0) rfl) pa_nil)))), ?_⟩
    obtain ⟨kl, gl, xs, ⟨C, dx, fs, ha, cl, n1, n2, l1, l2⟩, hk, k⟩ := h
    exact ⟨_, rfl, a, C, dx, _, _, rfl, ha, cl, n2, l2, _, _, rfl, .inl (SqL.of hk), k⟩
theorem goodH_Noted_leaves (T : Txt K mg) : GoodH P w K mg base 1 (He.ma K (He.ga K "Noted") "leaves") (sp_Store_leaves K) := by
  obtain ⟨fd, F⟩ := T.d_Noted_leaves
  exact ⟨⟨fd, _, okH_Store_leaves T F, F.bindsN fun _ _ _ _ _ _ us hl => match us, hl with | [_], _ => rfl⟩, F.kp⟩
def sp_state (K : PySem.W.Frag) : Sp := fun vs H Q _ => ∃ (m : Addr), vs = [.ref m] ∧ ∃ (M : Md) (sp : List Spc) (at' : Int) (v : Six) (cs : List Int) (lv : List Lv) (ps : List V) (es : List Addr), M.m = m ∧ MI K M H sp at' v cs lv ps es ∧
  ∀ p bt l H', H p = none → Same H H' → H' p = some (.tup [.int at', .ref bt, .ref l]) → H' bt = some (.tup v.vals) → H' l = some (.lst (ivs cs)) → Q (.ref p) H'
def nm_Machine_state : List Str := ["self"]
theorem sc_Machine_state : FnScope nm_Machine_state ["self"] (defScope s_Machine_state) := ⟨rfl, rfl, rfl, by decide +kernel, rfl, by decide +kernel, by decide +kernel⟩
theorem ok_Machine_state (T : Txt K mg) {f : Addr} {fd : FuncData} {dv : List V} {kw : List (Str × V)} (F : FunD K "state" "Machine.state" (defArgs s_Machine_state) (defBody s_Machine_state) (defScope s_Machine_state) dv kw f fd) : FnOk P w K mg base (CXr P w) 2 f fd ["self"] (sp_state K) := by
  refine F.ok sc_Machine_state (fun vs H Q E h => ?_) (fun cdv A outer s H vs Q E hr h => ?_)
  · obtain ⟨m, rfl, _⟩ := h
    rfl
  · obtain ⟨m, rfl, h⟩ := h
    refine ⟨_, (pss_one (ps_ret (pe_tup (pa_cons (pe_fld (pv 0) rfl) (pa_cons (pe_methG0 (pe_fld (pv 0) rfl) T.c_Boxes T.m_Boxes_told (good_Boxes_told T) (hr.mono (by decide)) hx_cx) (pa_cons (pe_methG0 (pe_fld (pv 0) rfl) T.c_Noted T.m_Noted_told (good_Noted_told T) (hr.mono (by decide)) hx_cx) pa_nil)))))), ?_⟩
    obtain ⟨M, sp, at', v, cs, lv, ps, es, rfl, W, k⟩ := h
    refine ⟨_, rfl, M.m, _, M.mx, _, _, rfl, W.mac, T.c_Watched, T.n_Watched_spot, rfl, ?_⟩
    refine ⟨_, rfl, M.m, _, M.mx, _, _, rfl, W.mac, T.c_Watched, T.n_Watched_boxes, rfl, M.A.b, M.A.bx, _, rfl, W.wd.box, rfl, M.A.b, rfl, M.A.nl, M.A.bx, _, W.wd.box, W.wd.num, fun bt hbt => ?_⟩
    have s1 := Same.new (o := .tup v.vals) (Same.refl H) hbt
    have W1 := W.same s1
    refine ⟨_, rfl, M.m, _, M.mx, _, _, rfl, W1.mac, T.c_Watched, T.n_Watched_store, rfl, M.A.s, M.A.sx, _, rfl, W1.wd.sto, rfl, M.A.s, rfl, M.A.kl, M.A.gl, _, stoI_N T W1.wd.sto, W1.wd.cel.k, fun l hl => ?_⟩
    have s2 := Same.new (o := .lst (ivs cs)) s1 hl
    refine ⟨sz_ (by simp), fun p hp => ?_⟩
    have s3 := Same.new (o := .tup [.int at', .ref bt, .ref l]) s2 hp
    exact k p bt l _ (s2.free hp) s3 upd_same (upd_keep (upd_keep upd_same hl) hp) (upd_keep upd_same hp)
theorem okH_Machine_state (T : Txt K mg) {f : Addr} {fd : FuncData} {dv : List V} {kw : List (Str × V)} (F : FunD K "state" "Machine.state" (defArgs s_Machine_state) (defBody s_Machine_state) (defScope s_Machine_state) dv kw f fd) : L2H.FnH P w K mg base (CXr P w) 2 f fd ["self"] (sp_state K) := by
  refine funD_okH F sc_Machine_state (fun vs H Q E h => ?_) (fun cdv A outer s H vs Q E p hot hr h => ?_)
  · obtain ⟨m, rfl, _⟩ := h
    rfl
  · obtain ⟨m, rfl, h⟩ := h
    have hc : L2H.HotC (cxHr P w K mg base nm_Machine_state "Machine.state" (defScope s_Machine_state) f cdv A outer s H E p) := hotc hot
    refine ⟨_, (pss_one (ps_ret (pe_tup (pa_cons (pe_fld (pv 0) rfl) (pa_cons (pe_methGH0 (pe_fld (pv 0) rfl) T.c_Boxes T.m_Boxes_told (goodH_Boxes_told T) (hr.mono (by decide)) hc) (pa_cons (pe_methGH0 (pe_fld (pv 0) rfl) T.c_Noted T.m_Noted_told (goodH_Noted_told T) (hr.mono (by decide)) hc) pa_nil)))))), ?_⟩
    obtain ⟨M, sp, at', v, cs, lv, ps, es, rfl, W, k⟩ := h
    refine ⟨_, rfl, M.m, _, M.mx, _, _, rfl, W.mac, T.c_Watched, T.n_Watched_spot, rfl, ?_⟩
    refine ⟨_, rfl, M.m, _, M.mx, _, _, rfl, W.mac, T.c_Watched, T.n_Watched_boxes, rfl, M.A.b, M.A.bx, _, rfl, W.wd.box, rfl, M.A.b, rfl, M.A.nl, M.A.bx, _, W.wd.box, W.wd.num, fun bt hbt => ?_⟩
    have s1 := Same.new (o := .tup v.vals) (Same.refl H) hbt
    have W1 := W.same s1
    refine ⟨_, rfl, M.m, _, M.mx, _, _, rfl, W1.mac, T.c_Watched, T.n_Watched_store, rfl, M.A.s, M.A.sx, _, rfl, W1.wd.sto, rfl, M.A.s, rfl, M.A.kl, M.A.gl, _, stoI_N T W1.wd.sto, W1.wd.cel.k, fun l hl => ?_⟩
    have s2 := Same.new (o := .lst (ivs cs)) s1 hl
    refine ⟨sz_ (by simp), fun p hp => ?_⟩
    have s3 := Same.new (o := .tup [.int at', .ref bt, .ref l]) s2 hp
    exact k p bt l _ (s2.free hp) s3 upd_same (upd_keep (upd_keep upd_same hl) hp) (upd_keep upd_same hp)
theorem good_Watched_state (T : Txt K mg) : Good P w K mg base 2 (He.ma K (He.ga K "Watched") "state") [] (sp_state K) := by
  obtain ⟨fd, F⟩ := T.d_Watched_state
  exact ⟨⟨fd, _, [], ok_Machine_state T F, F.bindsN fun _ _ _ _ _ _ us hl => match us, hl with | [_], _ => rfl, .nil⟩, F.kp⟩
theorem goodH_Watched_state (T : Txt K mg) : GoodH P w K mg base 2 (He.ma K (He.ga K "Watched") "state") (sp_state K) := by
  obtain ⟨fd, F⟩ := T.d_Watched_state
  exact ⟨⟨fd, _, okH_Machine_state T F, F.bindsN fun _ _ _ _ _ _ us hl => match us, hl with | [_], _ => rfl⟩, F.kp⟩
def sp_leaves (K : PySem.W.Frag) : Sp := fun vs H Q _ => ∃ (m : Addr), vs = [.ref m] ∧ ∃ (M : Md) (sp : List Spc) (at' : Int) (v : Six) (cs : List Int) (lv : List Lv) (ps : List V) (es : List Addr), M.m = m ∧ MI K M H sp at' v cs lv ps es ∧
  ∀ l, H l = none → Q (.ref l) (upd H l (.lst (lvs lv)))
def nm_Machine_leaves : List Str := ["self"]
theorem sc_Machine_leaves : FnScope nm_Machine_leaves ["self"] (defScope s_Machine_leaves) := ⟨rfl, rfl, rfl, by decide +kernel, rfl, by decide +kernel, by decide +kernel⟩
theorem ok_Machine_leaves (T : Txt K mg) {f : Addr} {fd : FuncData} {dv : List V} {kw : List (Str × V)} (F : FunD K "leaves" "Machine.leaves" (defArgs s_Machine_leaves) (defBody s_Machine_leaves) (defScope s_Machine_leaves) dv kw f fd) : FnOk P w K mg base (CXr P w) 2 f fd ["self"] (sp_leaves K) := by
  refine F.ok sc_Machine_leaves (fun vs H Q E h => ?_) (fun cdv A outer s H vs Q E hr h => ?_)
  · obtain ⟨m, rfl, _⟩ := h
    rfl
  · obtain ⟨m, rfl, h⟩ := h
    refine ⟨_, (pss_one (ps_ret (pe_methG0 (pe_fld (pv 0) rfl) T.c_Noted T.m_Noted_leaves (good_Noted_leaves T) (hr.mono (by decide)) hx_cx))), ?_⟩
    obtain ⟨M, sp, at', v, cs, lv, ps, es, rfl, W, k⟩ := h
    exact ⟨_, rfl, M.m, _, M.mx, _, _, rfl, W.mac, T.c_Watched, T.n_Watched_store, rfl, M.A.s, M.A.sx, _, rfl, W.wd.sto, rfl, M.A.s, rfl, M.A.kl, M.A.gl, _, stoI_N T W.wd.sto, W.wd.cel.g, k⟩
theorem okH_Machine_leaves (T : Txt K mg) {f : Addr} {fd : FuncData} {dv : List V} {kw : List (Str × V)} (F : FunD K "leaves" "Machine.leaves" (defArgs s_Machine_leaves) (defBody s_Machine_leaves) (defScope s_Machine_leaves) dv kw f fd) : L2H.FnH P w K mg base (CXr P w) 2 f fd ["self"] (sp_leaves K) := by
  refine funD_okH F sc_Machine_leaves (fun vs H Q E h => ?_) (fun cdv A outer s H vs Q E p hot hr h => ?_)
  · obtain ⟨m, rfl, _⟩ := h
    rfl
  · obtain ⟨m, rfl, h⟩ := h
    have hc : L2H.HotC (cxHr P w K mg base nm_Machine_leaves "Machine.leaves" (defScope s_Machine_leaves) f cdv A outer s H E p) := hotc hot
    refine ⟨_, (pss_one (ps_ret (pe_methGH0 (pe_fld (pv 0) rfl) T.c_Noted T.m_Noted_leaves (goodH_Noted_leaves T) (hr.mono (by decide)) hc))), ?_⟩
    obtain ⟨M, sp, at', v, cs, lv, ps, es, rfl, W, k⟩ := h
    exact ⟨_, rfl, M.m, _, M.mx, _, _, rfl, W.mac, T.c_Watched, T.n_Watched_store, rfl, M.A.s, M.A.sx, _, rfl, W.wd.sto, rfl, M.A.s, rfl, M.A.kl, M.A.gl, _, stoI_N T W.wd.sto, W.wd.cel.g, k⟩
theorem good_Watched_leaves (T : Txt K mg) : Good P w K mg base 2 (He.ma K (He.ga K "Watched") "leaves") [] (sp_leaves K) := by
  obtain ⟨fd, F⟩ := T.d_Watched_leaves
  exact ⟨⟨fd, _, [], ok_Machine_leaves T F, F.bindsN fun _ _ _ _ _ _ us hl => match us, hl with | [_], _ => rfl, .nil⟩, F.kp⟩
theorem goodH_Watched_leaves (T : Txt K mg) : GoodH P w K mg base 2 (He.ma K (He.ga K "Watched") "leaves") (sp_leaves K) := by
  obtain ⟨fd, F⟩ := T.d_Watched_leaves
  exact ⟨⟨fd, _, okH_Machine_leaves T F, F.bindsN fun _ _ _ _ _ _ us hl => match us, hl with | [_], _ => rfl⟩, F.kp⟩
def sp_leave (K : PySem.W.Frag) : Sp := fun vs H Q E => ∃ (m : Addr) (lo : Int) (be : Option Int) (z : Str), vs = [.ref m, .int lo, onV be, .str z] ∧ ∃ (M : Md) (sp : List Spc) (at' : Int) (v : Six) (cs : List Int) (lv : List Lv) (ps : List V) (es : List Addr), M.m = m ∧ MI K M H sp at' v cs lv ps es ∧ cs.length ≤ 60 ∧
  ((∃ (j : Int) (l : Lv), be = some j ∧ z = l.nm ∧ 0 ≤ lo ∧ lo ≤ j ∧ j ≤ lv.length ∧ ∀ H', Kp [M.A.gl] H H' → H' M.A.gl = some (.lst (lvs (lvSet lv lo.toNat j.toNat l))) → Q .non H') ∨
  ((be = none ∨ (∃ j, be = some j ∧ ¬ (0 ≤ lo ∧ lo ≤ j ∧ j ≤ lv.length)) ∨ (∃ j, be = some j ∧ (0 ≤ lo ∧ lo ≤ j ∧ j ≤ lv.length) ∧ ∀ l : Lv, z ≠ l.nm)) ∧
    ∀ d H', Same H H' → H' d = some (.xd [("word", .str z), ("behind", onV be), ("low", .int lo)]) → E (.ref (He.ga K "NoLeave")) (some d) H'))
def nm_Machine_leave : List Str := ["self", "low", "behind", "word"]
theorem sc_Machine_leave : FnScope nm_Machine_leave ["self", "low", "behind", "word"] (defScope s_Machine_leave) := ⟨rfl, rfl, rfl, by decide +kernel, rfl, by decide +kernel, by decide +kernel⟩
theorem ok_Machine_leave (T : Txt K mg) {f : Addr} {fd : FuncData} {dv : List V} {kw : List (Str × V)} (F : FunD K "leave" "Machine.leave" (defArgs s_Machine_leave) (defBody s_Machine_leave) (defScope s_Machine_leave) dv kw f fd) : FnOk P w K mg base (CXr P w) 4 f fd ["self", "low", "behind", "word"] (sp_leave K) := by
  refine F.ok sc_Machine_leave (fun vs H Q E h => ?_) (fun cdv A outer s H vs Q E hr h => ?_)
  · obtain ⟨m, lo, be, z, rfl, _⟩ := h
    rfl
  · obtain ⟨m, lo, be, z, rfl, h⟩ := h
    refine ⟨_, (pss_one (ps_expr (pe_methG (pe_fld (pv 0) rfl) T.c_Noted T.m_Noted_leave (good_Noted_leave T) (hr.mono (by decide)) hx_cx (pa_cons (pv 1) (pa_cons (pv 2) (pa_cons (pv 3) pa_nil)))))), ?_⟩
    obtain ⟨M, sp, at', v, cs, lv, ps, es, rfl, W, h60, k⟩ := h
    have len := W.wd.cel.len
    refine ⟨_, rfl, M.m, _, M.mx, _, _, rfl, W.mac, T.c_Watched, T.n_Watched_store, rfl, M.A.s, M.A.sx, _, rfl, W.wd.sto, rfl, _, rfl, _, rfl, _, rfl, M.A.s, lo, be, z, rfl, M.A.kl, M.A.gl, _, lv, stoI_N T W.wd.sto, W.wd.cel.k, W.wd.cel.g, by rw [List.length_map]; exact len, by omega, k⟩
theorem good_Watched_leave (T : Txt K mg) : Good P w K mg base 4 (He.ma K (He.ga K "Watched") "leave") [] (sp_leave K) := by
  obtain ⟨fd, F⟩ := T.d_Watched_leave
  exact ⟨⟨fd, _, [], ok_Machine_leave T F, F.bindsN fun _ _ _ _ _ _ us hl => match us, hl with | [_, _, _, _], _ => rfl, .nil⟩, F.kp⟩
def sp_log (K : PySem.W.Frag) : Sp := fun vs H Q _ => ∃ (m : Addr), vs = [.ref m] ∧ ∃ (M : Md) (S : List Addr) (sp : List Spc) (t : MS) (ps : List V) (es : List Addr), M.m = m ∧ MI K M H sp t.at' t.v t.cs t.lv ps es ∧ LogI S H es t.log ∧ NT S H ∧ t.log.length ≤ 10000 ∧ (∀ x ∈ t.log, x.2.2.length ≤ 2) ∧
  ∀ p es' H', H p = none → Same H H' → H' p = some (.lst (es'.map V.ref)) → LogI [] H' es' t.log → Q (.ref p) H'
def rLstO (K : PySem.W.Frag) : List V → Hp → VK → Prop := fun xs H Q => ∃ p ys, xs = [V.ref p] ∧ (SqL K H p ys ∨ SqT K H p ys) ∧ ∀ l, H l = none → Q (.ref l) (upd H l (.lst ys))
theorem EnI.lse {S : List Addr} {H : Hp} {e : Addr} {x : En} (E : EnI S H e x) : EnI [] H e x := by
  obtain ⟨bt, cl, ts, h1, h2, h3, h4, h5⟩ := E.ex
  exact ⟨bt, cl, ts, h1, h2, h3, by simp, h5⟩
def nm_Watched_log : List Str := ["self", "row", "boxes", "changes"]
theorem sc_Watched_log : FnScope nm_Watched_log ["self"] (defScope s_Watched_log) := ⟨rfl, rfl, rfl, by decide +kernel, rfl, by decide +kernel, by decide +kernel⟩
theorem ok_Watched_log (T : Txt K mg) {f : Addr} {fd : FuncData} {dv : List V} {kw : List (Str × V)} (F : FunD K "log" "Watched.log" (defArgs s_Watched_log) (defBody s_Watched_log) (defScope s_Watched_log) dv kw f fd) : FnOk P w K mg base (CXr P w) 1 f fd ["self"] (sp_log K) := by
  refine F.ok sc_Watched_log (fun vs H Q E h => ?_) (fun cdv A outer s H vs Q E hr h => ?_)
  · obtain ⟨m, rfl, _⟩ := h
    rfl
  · obtain ⟨m, rfl, h⟩ := h
    refine ⟨_, (pss_one (ps_ret (pe_lc (own := [("row", 1), ("boxes", 2), ("changes", 3)]) (g := gTup K 3 (gCons (gName 1) (gCons (gName 2) (gCons (gName 3) gNil)))) (te := tTup (tCons (tVar 1) (tCons (tVar 2) (tCons (tCB (rLstO K) (tCons (tVar 3) tNil)) tNil)))) (tt := tYes) rfl sc_Watched_log.nd (pi_list (pe_fld (pv 0) rfl)) (blkOk_by (N := nm_Watched_log) (sc := defScope s_Watched_log) (by decide +kernel)) (fun _ _ _ _ _ => (pg_tup rfl (pgs_cons (pg_name (i := 1) sc_Watched_log.nd rfl (Or.inl rfl)) (pgs_cons (pg_name (i := 2) sc_Watched_log.nd rfl (Or.inl rfl)) (pgs_cons (pg_name (i := 3) sc_Watched_log.nd rfl (Or.inl rfl)) pgs_nil))))) (fun _ _ _ _ _ => pts_nil) (fun _ _ _ _ _ => (pe_tup (pa_cons (pv 1) (pa_cons (pv 2) (pa_cons (pe_callTy (T := "list") call_list_of (by rfl) T.f_list (by decide +kernel) (pa_cons (pv 3) pa_nil)) pa_nil)))))))), ?_⟩
    obtain ⟨M, S, sp, t, ps, es, rfl, W, L, nt, l1, l2, k⟩ := h
    have le : es.length = t.log.length := L.1
    refine ⟨_, rfl, M.m, _, M.mx, _, _, rfl, W.mac, T.c_Watched, T.n_Watched_entries, rfl, M.el, rfl, ⟨_, SqL.of W.el⟩, fun D hD => ?_⟩
    refine lc_list (xs := es.map V.ref) (fun i H1 => ∃ es', Same H H1 ∧ H1 D = some (.lst (es'.map V.ref)) ∧ LogI [D] H1 es' (t.log.take i)) ⟨[], Same.new (Same.refl H) hD, upd_same, rfl, fun i e x h1 h2 => by simp at h1⟩ (fun i H1 _ q => ?_) ?_ ?_
    · obtain ⟨es', q1, q2, q3⟩ := q
      exact SqL.of (q1 _ _ W.el)
    · rintro i x H1 hi ⟨es', q1, q2, q3⟩
      obtain ⟨e, ee, rfl⟩ := refs_get hi
      obtain ⟨y, ey⟩ : ∃ y, t.log[i]? = some y := ⟨t.log[i]'(by have := (List.getElem?_eq_some_iff.mp ee).1; omega), by simp⟩
      obtain ⟨bt, cl, ts, h1, h2, h3, h4, h5⟩ := (L.2 i e y ee ey).ex
      refine ⟨e, _, rfl, SqT.of (q1 _ _ h1), rfl, _, _, rfl, _, _, rfl, _, _, rfl, rfl, rfl, ?_⟩
      refine ⟨_, rfl, _, rfl, _, rfl, _, _, rfl, .inl (SqL.of (q1 _ _ h3)), fun cl' hcl => ?_⟩
      refine ⟨sz_ (by simp), fun e' he' => ?_⟩
      have s1 := Same.new (o := .lst (ts.map V.ref)) (Same.refl H1) hcl
      have s2 := Same.new (o := .tup [.int y.1, .ref bt, .ref cl']) s1 he'
      have d2 := s2 _ _ q2
      have nD : ∀ {b o}, H b = some o → b ≠ D := fun {b o} e z => ne_of_none e hD z
      have le' : es'.length = (t.log.take i).length := q3.1
      refine ⟨es'.map V.ref, d2, by rw [List.length_map, le', List.length_take]; exact Nat.lt_of_le_of_lt (show min i t.log.length ≤ 10000 by omega) (by decide), es' ++ [e'], ?_, ?_, ?_⟩
      · exact fun b o h => by
          rw [upd_ne (nD h)]
          exact s2 _ _ (q1 _ _ h)
      · rw [upd_same, List.map_append]
        rfl
      · rw [take_succ' ey]
        have up : ∀ {b : Addr} {o : HO}, b ≠ D → (upd (upd H1 cl' (.lst (ts.map V.ref))) e' (.tup [.int y.1, .ref bt, .ref cl'])) b = some o → (upd (upd (upd H1 cl' (.lst (ts.map V.ref))) e' (.tup [.int y.1, .ref bt, .ref cl'])) D (.lst (es'.map V.ref ++ [.ref e']))) b = some o := fun {b o} n h => by
          rw [upd_ne n]
          exact h
        have nt1 : NT [D] H1 := fun a ha => by
          rw [List.mem_singleton.mp ha]
          exact ⟨_, q2, fun xs z => by cases z⟩
        have kD : Kp [D] H1 (upd (upd (upd H1 cl' (.lst (ts.map V.ref))) e' (.tup [.int y.1, .ref bt, .ref cl'])) D (.lst (es'.map V.ref ++ [.ref e']))) := (Kp.same s2).set (by simp)
        have L3 := q3.kp nt1 kD (fun a h => h)
        have sH : Same H (upd (upd (upd H1 cl' (.lst (ts.map V.ref))) e' (.tup [.int y.1, .ref bt, .ref cl'])) D (.lst (es'.map V.ref ++ [.ref e']))) := fun b o h => up (nD h) (s2 _ _ (q1 _ _ h))
        have ncD : cl' ≠ D := Ne.symm (ne_of_none q2 hcl)
        have neD : e' ≠ D := Ne.symm (ne_of_none (upd_keep q2 hcl) he')
        exact L3.snoc ⟨bt, cl', ts, up neD upd_same, sH _ _ h2, up ncD (upd_keep upd_same he'), notin1 ncD, h5.nt (S := []) (Kp.same sH) (by simp)⟩
    · rintro H1 ⟨es', q1, q2, q3⟩
      rw [List.length_map, le, List.take_length] at q3
      exact k D es' H1 hD q1 q2 ⟨q3.1, fun i e x h1 h2 => (q3.2 i e x h1 h2).lse⟩
theorem okH_Watched_log (T : Txt K mg) {f : Addr} {fd : FuncData} {dv : List V} {kw : List (Str × V)} (F : FunD K "log" "Watched.log" (defArgs s_Watched_log) (defBody s_Watched_log) (defScope s_Watched_log) dv kw f fd) : L2H.FnH P w K mg base (CXr P w) 1 f fd ["self"] (sp_log K) := by
  refine funD_okH F sc_Watched_log (fun vs H Q E h => ?_) (fun cdv A outer s H vs Q E p hot hr h => ?_)
  · obtain ⟨m, rfl, _⟩ := h
    rfl
  · obtain ⟨m, rfl, h⟩ := h
    have hc : L2H.HotC (cxHr P w K mg base nm_Watched_log "Watched.log" (defScope s_Watched_log) f cdv A outer s H E p) := hotc hot
    refine ⟨_, (pss_one (ps_ret (pe_lcH (own := [("row", 1), ("boxes", 2), ("changes", 3)]) (g := gTup K 3 (gCons (gName 1) (gCons (gName 2) (gCons (gName 3) gNil)))) (te := tTup (tCons (tVar 1) (tCons (tVar 2) (tCons (tCB (rLstO K) (tCons (tVar 3) tNil)) tNil)))) (p := p) ⟨hot.1, hot.2⟩ (List.mem_singleton.mpr rfl) sc_Watched_log.nd (pi_listH (pe_fld (pv 0) rfl)) (blkOk_by (N := nm_Watched_log) (sc := defScope s_Watched_log) (by decide +kernel)) (fun _ _ _ _ _ => (pg_tupE (.inr ⟨p, ⟨hot.1, hot.2⟩, List.mem_singleton.mpr rfl⟩) (pgs_cons (pg_name (i := 1) sc_Watched_log.nd rfl (Or.inl rfl)) (pgs_cons (pg_name (i := 2) sc_Watched_log.nd rfl (Or.inl rfl)) (pgs_cons (pg_name (i := 3) sc_Watched_log.nd rfl (Or.inl rfl)) pgs_nil))))) (fun _ _ _ _ _ => (pe_tup (pa_cons (pv 1) (pa_cons (pv 2) (pa_cons (pe_callTy (T := "list") call_list_of (by rfl) T.f_list (by decide +kernel) (pa_cons (pv 3) pa_nil)) pa_nil)))))))), ?_⟩
    obtain ⟨M, S, sp, t, ps, es, rfl, W, L, nt, l1, l2, k⟩ := h
    have le : es.length = t.log.length := L.1
    refine ⟨_, rfl, M.m, _, M.mx, _, _, rfl, W.mac, T.c_Watched, T.n_Watched_entries, rfl, M.el, rfl, ⟨_, SqL.of W.el⟩, fun D hD => ?_⟩
    refine lc_list (xs := es.map V.ref) (fun i H1 => ∃ es', Same H H1 ∧ H1 D = some (.lst (es'.map V.ref)) ∧ LogI [D] H1 es' (t.log.take i)) ⟨[], Same.new (Same.refl H) hD, upd_same, rfl, fun i e x h1 h2 => by simp at h1⟩ (fun i H1 _ q => ?_) ?_ ?_
    · obtain ⟨es', q1, q2, q3⟩ := q
      exact SqL.of (q1 _ _ W.el)
    · rintro i x H1 hi ⟨es', q1, q2, q3⟩
      obtain ⟨e, ee, rfl⟩ := refs_get hi
      obtain ⟨y, ey⟩ : ∃ y, t.log[i]? = some y := ⟨t.log[i]'(by have := (List.getElem?_eq_some_iff.mp ee).1; omega), by simp⟩
      obtain ⟨bt, cl, ts, h1, h2, h3, h4, h5⟩ := (L.2 i e y ee ey).ex
      refine ⟨e, _, rfl, SqT.of (q1 _ _ h1), rfl, _, _, rfl, _, _, rfl, _, _, rfl, rfl, rfl, ?_⟩
      refine ⟨_, rfl, _, rfl, _, rfl, _, _, rfl, .inl (SqL.of (q1 _ _ h3)), fun cl' hcl => ?_⟩
      refine ⟨sz_ (by simp), fun e' he' => ?_⟩
      have s1 := Same.new (o := .lst (ts.map V.ref)) (Same.refl H1) hcl
      have s2 := Same.new (o := .tup [.int y.1, .ref bt, .ref cl']) s1 he'
      have d2 := s2 _ _ q2
      have nD : ∀ {b o}, H b = some o → b ≠ D := fun {b o} e z => ne_of_none e hD z
      have le' : es'.length = (t.log.take i).length := q3.1
      refine ⟨es'.map V.ref, d2, by rw [List.length_map, le', List.length_take]; exact Nat.lt_of_le_of_lt (show min i t.log.length ≤ 10000 by omega) (by decide), es' ++ [e'], ?_, ?_, ?_⟩
      · exact fun b o h => by
          rw [upd_ne (nD h)]
          exact s2 _ _ (q1 _ _ h)
      · rw [upd_same, List.map_append]
        rfl
      · rw [take_succ' ey]
        have up : ∀ {b : Addr} {o : HO}, b ≠ D → (upd (upd H1 cl' (.lst (ts.map V.ref))) e' (.tup [.int y.1, .ref bt, .ref cl'])) b = some o → (upd (upd (upd H1 cl' (.lst (ts.map V.ref))) e' (.tup [.int y.1, .ref bt, .ref cl'])) D (.lst (es'.map V.ref ++ [.ref e']))) b = some o := fun {b o} n h => by
          rw [upd_ne n]
          exact h
        have nt1 : NT [D] H1 := fun a ha => by
          rw [List.mem_singleton.mp ha]
          exact ⟨_, q2, fun xs z => by cases z⟩
        have kD : Kp [D] H1 (upd (upd (upd H1 cl' (.lst (ts.map V.ref))) e' (.tup [.int y.1, .ref bt, .ref cl'])) D (.lst (es'.map V.ref ++ [.ref e']))) := (Kp.same s2).set (by simp)
        have L3 := q3.kp nt1 kD (fun a h => h)
        have sH : Same H (upd (upd (upd H1 cl' (.lst (ts.map V.ref))) e' (.tup [.int y.1, .ref bt, .ref cl'])) D (.lst (es'.map V.ref ++ [.ref e']))) := fun b o h => up (nD h) (s2 _ _ (q1 _ _ h))
        have ncD : cl' ≠ D := Ne.symm (ne_of_none q2 hcl)
        have neD : e' ≠ D := Ne.symm (ne_of_none (upd_keep q2 hcl) he')
        exact L3.snoc ⟨bt, cl', ts, up neD upd_same, sH _ _ h2, up ncD (upd_keep upd_same he'), notin1 ncD, h5.nt (S := []) (Kp.same sH) (by simp)⟩
    · rintro H1 ⟨es', q1, q2, q3⟩
      rw [List.length_map, le, List.take_length] at q3
      exact k D es' H1 hD q1 q2 ⟨q3.1, fun i e x h1 h2 => (q3.2 i e x h1 h2).lse⟩
theorem good_Watched_log (T : Txt K mg) : Good P w K mg base 1 (He.ma K (He.ga K "Watched") "log") [] (sp_log K) := by
  obtain ⟨fd, F⟩ := T.d_Watched_log
  exact ⟨⟨fd, _, [], ok_Watched_log T F, F.bindsN fun _ _ _ _ _ _ us hl => match us, hl with | [_], _ => rfl, .nil⟩, F.kp⟩
theorem goodH_Watched_log (T : Txt K mg) : GoodH P w K mg base 1 (He.ma K (He.ga K "Watched") "log") (sp_log K) := by
  obtain ⟨fd, F⟩ := T.d_Watched_log
  exact ⟨⟨fd, _, okH_Watched_log T F, F.bindsN fun _ _ _ _ _ _ us hl => match us, hl with | [_], _ => rfl⟩, F.kp⟩
end
end HB


namespace HB
open PySem PySem.Spec PyProof.Rows L2
local macro_rules | `(tactic| walk_at "ne") => `(tactic| first | assumption | (apply Ne.symm; assumption) | exact ne_of_none (by assumption) (by assumption) | exact ne_new (by assumption) (by assumption) | (intro q; cases q; done))
local macro_rules | `(tactic| walk_at "hp") => `(tactic| first
  | assumption
  | exact upd_same
  | (refine upd_keep ?_ (by assumption); walk_at "hp")
  | (refine upd_far (by walk_at "ne") ?_; walk_at "hp")
  | (refine Same.get (by assumption) ?_; walk_at "hp")
  | (refine Kp.get (by assumption) ?_ (notin1 (by walk_at "ne")); walk_at "hp"))
local macro_rules | `(tactic| walk_at "same") => `(tactic| first
  | assumption
  | exact Same.refl _
  | (refine Same.new ?_ (by assumption); walk_at "same")
  | (refine Same.trans ?_ (by assumption); walk_at "same"))
/-- one row of a reading -/
local macro_rules | `(tactic| walk_at "r1") => `(tactic| first
  | refine ⟨_, rfl, ?_⟩
  | refine ⟨_, _, rfl, rfl, ?_⟩
  | refine ⟨rfl, ?_⟩
  | refine ⟨_, _, _, _, _, rfl, (by walk_at "hp"), (by assumption), (by assumption), rfl, ?_⟩
  | refine ⟨sz_ (by decide), fun _ _ => ?_⟩)
local macro_rules | `(tactic| walk_at "rd") => `(tactic| repeat walk_at "r1")
section
variable {P : Program} {w : World} {K : PySem.W.Frag} {mg : Str → Option Value} {base : Heap}
/-! ### back -/
def back1 (t : MS) : MS := match t.log.getLast? with
  | none => t
  | some x => { at' := x.1, v := x.2.1, cs := undoM t.cs x.2.2, lv := t.lv, log := t.log.dropLast }
def backM : Nat → MS → MS
  | 0, t => t
  | n + 1, t => back1 (backM n t)
theorem undo_len : ∀ (ch : Ch) (cs : List Int), (ch.foldl (fun cs e => st_ cs e.1 e.2.1) cs).length = cs.length
  | [], _ => rfl
  | e :: ch, cs => by
    rw [List.foldl_cons, undo_len ch, st_len]
theorem undoM_len (cs : List Int) (ch : Ch) : (undoM cs ch).length = cs.length := undo_len _ _
theorem last_split {α : Type} {l : List α} {x : α} (h : l.getLast? = some x) : l = l.dropLast ++ [x] := by
  have hn : l ≠ [] := fun z => by rw [z] at h; cases h
  have e := List.dropLast_concat_getLast hn
  rw [List.getLast?_eq_some_getLast hn] at h
  cases h
  exact e.symm
theorem back1_ok {sp : List Spc} {t : MS} (ok : MSok sp t) : MSok sp (back1 t) := by
  unfold back1
  cases e : t.log.getLast? with
  | none => exact ok
  | some x =>
    have hx : x ∈ t.log := List.mem_of_getLast? e
    obtain ⟨⟨h1, h2⟩, h3, h4⟩ := ok.log x hx
    refine ⟨h1, h2, h3, ?_, ?_, ?_, fun y hy => ?_⟩
    · show 1 ≤ (undoM _ _).length
      rw [undoM_len]
      exact ok.c1
    · show (undoM _ _).length ≤ 60
      rw [undoM_len]
      exact ok.c60
    · show t.lv.length = (undoM _ _).length
      rw [undoM_len]
      exact ok.len
    · obtain ⟨g1, g2, g3⟩ := ok.log y (List.dropLast_subset _ hy)
      refine ⟨g1, g2, fun e' he' => ?_⟩
      show 0 ≤ e'.1 ∧ e'.1 < ((undoM t.cs x.2.2).length : Int)
      rw [undoM_len]
      exact g3 e' he'
theorem backM_ok {sp : List Spc} {t : MS} (ok : MSok sp t) : ∀ n, MSok sp (backM n t)
  | 0 => ok
  | n + 1 => back1_ok (backM_ok ok n)
theorem back1_len (t : MS) : (back1 t).log.length = t.log.length - 1 := by
  unfold back1
  cases e : t.log.getLast? with
  | none =>
    rw [List.getLast?_eq_none_iff.mp e]
    rfl
  | some x => exact List.length_dropLast
theorem backM_len (t : MS) : ∀ n, (backM n t).log.length = t.log.length - n
  | 0 => rfl
  | n + 1 => by
    show (back1 (backM n t)).log.length = _
    rw [back1_len, backM_len t n]
    omega
def sp_back (K : PySem.W.Frag) : Sp := fun vs H Q _ => ∃ (m : Addr) (n : Int), vs = [.ref m, .int n] ∧ ∃ (M : Md) (S : List Addr) (sp : List Spc) (t : MS), M.m = m ∧ MchI K M S H sp t ∧ MSok sp t ∧ t.log.length ≤ 10000 ∧ 0 ≤ n ∧ n ≤ (t.log.length : Int) ∧
  ∀ H', Kp M.mu H H' → MchI K M S H' sp (backM n.toNat t) → Q .non H'
theorem map_last {es : List Addr} {e : Addr} : ((es ++ [e]).map V.ref)[((es ++ [e]).map V.ref).length - 1]? = some (.ref e) := by
  simp
theorem map_drop {es : List Addr} {e : Addr} : ((es ++ [e]).map V.ref).dropLast = es.map V.ref := by
  rw [List.map_append]
  exact List.dropLast_concat
theorem six_mix6 (s t : Six) : Six.mix 6 s t = s := rfl
def nm_Watched_back : List Str := ["self", "many", "k", "row", "boxes", "changes", "box", "number"]
theorem sc_Watched_back : FnScope nm_Watched_back ["self", "many"] (defScope s_Watched_back) := ⟨rfl, rfl, rfl, by decide +kernel, rfl, by decide +kernel, by decide +kernel⟩
theorem ok_Watched_back (T : Txt K mg) {f : Addr} {fd : FuncData} {dv : List V} {kw : List (Str × V)} (F : FunD K "back" "Watched.back" (defArgs s_Watched_back) (defBody s_Watched_back) (defScope s_Watched_back) dv kw f fd) : FnOk P w K mg base (CXr P w) 5 f fd ["self", "many"] (sp_back K) := by
  refine F.ok sc_Watched_back (fun vs H Q E h => ?_) (fun cdv A outer s H vs Q E hr h => ?_)
  · obtain ⟨m, n, rfl, _⟩ := h
    rfl
  · obtain ⟨m, n, rfl, h⟩ := h
    refine ⟨_, (pss_cons (ps_if (PW.pt (pw_or (pt_not (pt_val (pe_callG (good_is_whole T) (hr.mono (by decide)) T.g_is_whole hx_cx (pa_cons (pv 1) pa_nil)))) (pw_or1 (pt_not (pt_chain op_le op_le pe_int (pv 1) (pe_callB call_len_seq (by rfl) T.f_len PySem.boot_len (pa_cons (pe_fld (pv 0) rfl) pa_nil))))))) (pss_one ps_never) pss_nil) (pss_one (ps_for po_cx rfl (pi_range1 rfl T.f_range (pa_cons (pv 1) pa_nil)) (pg_name (i := 2) sc_Watched_back.nd rfl (Or.inl rfl)) (pss_cons (ps_asg (pe_bm0 PySem.F.plainAttrs_list PySem.F.slot_list_pop PySem.F.type_list_pop mt_pop (pe_fld (pv 0) rfl)) (pg_tup rfl (pgs_cons (pg_name (i := 3) sc_Watched_back.nd rfl (Or.inl rfl)) (pgs_cons (pg_name (i := 4) sc_Watched_back.nd rfl (Or.inl rfl)) (pgs_cons (pg_name (i := 5) sc_Watched_back.nd rfl (Or.inl rfl)) pgs_nil))))) (pss_cons (ps_fld (pv 0) (pv 3) rfl) (pss_cons (ps_for po_cx rfl (pi_zipK .t .t (by rfl) T.f_zip (pa_cons (pe_gR T.g_BOXES) (pa_cons (pv 4) pa_nil))) (pg_tup rfl (pgs_cons (pg_name (i := 6) sc_Watched_back.nd rfl (Or.inl rfl)) (pgs_cons (pg_name (i := 7) sc_Watched_back.nd rfl (Or.inl rfl)) pgs_nil))) (pss_one (ps_expr (pe_methG (pe_fld (pv 0) rfl) T.c_Boxes T.m_Boxes_give (good_Boxes_give T) (hr.mono (by decide)) hx_cx (pa_cons (pv 6) (pa_cons (pv 7) pa_nil)))))) (pss_one (ps_expr (pe_methG (pe_fld (pv 0) rfl) T.c_Noted T.m_Noted_put_back (good_Noted_put_back T) (hr.mono (by decide)) hx_cx (pa_cons (pv 5) pa_nil)))))))))), ?_⟩
    obtain ⟨M, S, sp, t, rfl, mch, ok, l1, n0, n1, k⟩ := h
    have mch0 := mch
    obtain ⟨nd, ⟨ps, es, W, L⟩, sub, nt⟩ := mch
    have le : (((es.map V.ref).length : Nat) : Int) = t.log.length := by rw [List.length_map, L.1]
    refine ⟨_, rfl, _, rfl, true, rfl, _, rfl, ?_⟩
    refine ⟨_, rfl, _, _, rfl, rfl, _, rfl, ?_⟩
    rw [decide_eq_true n0]
    refine iteT ?_
    refine ⟨_, rfl, M.m, _, M.mx, _, _, rfl, W.mac, T.c_Watched, T.n_Watched_entries, rfl, _, _, rfl, .inl (SqL.of W.el), _, _, rfl, rfl, _, rfl, ?_⟩
    rw [decide_eq_true (by rw [le]; exact n1)]
    refine iteF ?_
    refine ⟨_, rfl, n, rfl, by omega, by omega, for_range (lo := 0) (n := n.toNat) (fun i σ H1 => (∃ v1 v2 v3 v4 v5 v6 : Option V, σ = [some (.ref M.m), some (.int n), v1, v2, v3, v4, v5, v6]) ∧ Kp M.mu H H1 ∧ MchI K M S H1 sp (backM i t)) ⟨⟨_, _, _, _, _, _, rfl⟩, Kp.refl, mch0⟩ ?_ ?_⟩
    · rintro i σ H1 hi ⟨⟨v1, v2, v3, v4, v5, v6, rfl⟩, q1, ⟨_, ⟨ps1, es1, W1, L1⟩, _, nt1⟩⟩
      have ok1 := backM_ok ok i
      have len1 := backM_len t i
      obtain ⟨x, ex⟩ : ∃ x, (backM i t).log.getLast? = some x := by
        cases e : (backM i t).log.getLast? with
        | none =>
          have := List.getLast?_eq_none_iff.mp e
          rw [this] at len1
          simp at len1
          omega
        | some x => exact ⟨x, rfl⟩
      have eb : backM (i + 1) t = { at' := x.1, v := x.2.1, cs := undoM (backM i t).cs x.2.2, lv := (backM i t).lv, log := (backM i t).log.dropLast } := by
        show back1 (backM i t) = _
        unfold back1
        rw [ex]
      rw [eb]
      have esp := last_split ex
      have hx : x ∈ (backM i t).log := List.mem_of_getLast? ex
      obtain ⟨⟨x1, x2⟩, x3, x4⟩ := ok1.log x hx
      generalize backM i t = u at *
      obtain ⟨es2, e, rfl⟩ : ∃ es2 e, es1 = es2 ++ [e] := by
        have hl := L1.1
        rw [esp, List.length_append, List.length_singleton] at hl
        have hn : es1 ≠ [] := fun z => by rw [z] at hl; simp at hl
        exact ⟨_, _, (List.dropLast_concat_getLast hn).symm⟩
      rw [esp] at L1
      obtain ⟨L2, E⟩ := L1.pop
      obtain ⟨bt, cl, ts, h1, h2, h3, h4, h5⟩ := E.ex
      refine ⟨_, rfl, M.m, _, M.mx, _, _, rfl, W1.mac, T.c_Watched, T.n_Watched_entries, rfl, .inl ⟨rfl, _, SqL.of W1.el⟩, M.el, _, _, rfl, rfl, W1.el, map_last, ?_⟩
      rw [map_drop]
      -- the entry is gone
      have n2 : Kp [M.el] H1 (upd H1 M.el (.lst (es2.map V.ref))) := Kp.refl.set (by simp)
      have e2 : (upd H1 M.el (.lst (es2.map V.ref))) M.el = some (.lst (es2.map V.ref)) := upd_same
      have W2 : MI K M (upd H1 M.el (.lst (es2.map V.ref))) sp u.at' u.v u.cs u.lv ps1 es2 := by
        have o : ∀ {b o}, H1 b = some o → b ≠ M.el → (upd H1 M.el (.lst (es2.map V.ref))) b = some o := fun {b o} h n => (upd_ne n).trans h
        have w := W1.wd
        exact W1.keep nd n2 (by intro a h; unfold Md.mu; simp at h; simp [h]) (o W1.mac (ref_m W1.mac W1.el)) ⟨o w.box (ref_m w.box W1.el), o w.num (Ne.symm nd.en), o w.sto (ref_m w.sto W1.el), ⟨o w.cel.k (Ne.symm nd.ek), o w.cel.g (Ne.symm nd.eg), w.cel.len⟩, o w.put (Ne.symm nd.ep)⟩ e2
      have km2 : Kp M.mu H1 (upd H1 M.el (.lst (es2.map V.ref))) := n2.mono (by intro a h; unfold Md.mu; simp at h; simp [h])
      have at2 : ∀ {b xs}, H1 b = some (.tup xs) → (upd H1 M.el (.lst (es2.map V.ref))) b = some (.tup xs) := fun {b xs} h => n2 _ _ (notin1 (ne_of h W1.el (by intro z; cases z))) h
      generalize hH2 : upd H1 M.el (.lst (es2.map V.ref)) = H2 at *
      refine ⟨e, _, rfl, SqT.of (at2 h1), rfl, _, _, rfl, _, _, rfl, _, _, rfl, rfl, ?_⟩
      refine ⟨_, rfl, _, rfl, M.m, _, M.mx, _, rfl, W2.mac, T.c_Watched, T.n_Watched_spot, by show (5 : Nat) < 1000; decide, ?_⟩
      have W3 := W2.spot (at2 := x.1) nd rfl
      have k3 : Kp [M.m] H2 (upd H2 M.m (.ins (He.ga K "Watched") M.mx (wF M x.1))) := Kp.refl.set (by simp)
      have k3m : Kp M.mu H2 (upd H2 M.m (.ins (He.ga K "Watched") M.mx (wF M x.1))) := k3.mono (by intro a h; unfold Md.mu; simp at h; simp [h])
      have bt3 : (upd H2 M.m (.ins (He.ga K "Watched") M.mx (wF M x.1))) bt = some (.tup x.2.1.vals) := k3 _ _ (notin1 (ne_of (at2 h2) W2.mac (by intro z; cases z))) (at2 h2)
      have es3 : putF "spot" (.int x.1) (wF M u.at') = wF M x.1 := rfl
      rw [es3]
      generalize upd H2 M.m (.ins (He.ga K "Watched") M.mx (wF M x.1)) = H3 at *
      refine ⟨_, rfl, _, _, boxesV, x.2.1.vals, rfl, T.t_BOXES _, SqT.of bt3, for_it (walkK (xs := boxesV) (ys := x.2.1.vals) rfl) (fun j σ H4 => (∃ v1 v2 : Option V, σ = [some (.ref M.m), some (.int n), some (.int (0 + (i : Nat))), some (.int x.1), some (.ref bt), some (.ref cl), v1, v2]) ∧
        Kp M.mu H3 H4 ∧ MI K M H4 sp x.1 (Six.mix j x.2.1 u.v) u.cs u.lv ps1 es2) ⟨⟨_, _, rfl⟩, Kp.refl, W3⟩ (fun j σ H4 _ q => ⟨T.t_BOXES _, SqT.of (q.2.1 _ _ (fun z => W3.nt.no _ z _ bt3) bt3)⟩) ?_ ?_⟩
      · rintro j y σ H4 H5 hj ⟨⟨v1, v2, rfl⟩, r1, W4⟩ ⟨t', x', y', rfl, ht, rfl, ey1, ey2⟩
        obtain ⟨c, rfl, rfl, rfl⟩ := pair_ix ey1 ey2
        have W5 := W4.same (Same.new (o := .tup [.str c.nm, .int (x.2.1.get c)]) (Same.refl H4) ht)
        refine ⟨t', _, rfl, SqT.of upd_same, rfl, _, _, rfl, _, _, rfl, rfl, ?_⟩
        refine ⟨_, rfl, M.m, _, M.mx, _, _, rfl, W5.mac, T.c_Watched, T.n_Watched_boxes, rfl, M.A.b, M.A.bx, _, rfl, W5.wd.box, rfl, _, rfl, _, rfl, M.A.b, c, _, rfl, M.A.nl, M.A.bx, _, W5.wd.box, W5.wd.num, fun _ H6 k6 l6 => ?_, fun z => tf (x3 c) z⟩
        refine ⟨⟨_, _, rfl⟩, (r1.trans (Kp.same (Same.new (Same.refl H4) ht))).trans (k6.mono (by intro a h; unfold Md.mu; simp at h; simp [h])), ?_⟩
        rw [mix_step]
        exact W5.stepped nd (kp1 k6) (W5.wd.given nd.a k6 l6)
      · rintro σ H4 ⟨⟨v1, v2, rfl⟩, r1, W4⟩
        have W4 : MI K M H4 sp x.1 x.2.1 u.cs u.lv ps1 es2 := W4
        have cl2 : H4 cl = some (.lst (ts.map V.ref)) := by
          refine (k3m.trans r1) _ _ (fun z => h4 (sub _ z)) ?_
          exact km2 _ _ (fun z => h4 (sub _ z)) h3
        have c2 : ChI H4 ts x.2.2 := h5.nt ((km2.trans k3m).trans r1) (fun a h => nt1.no a (sub _ h))
        refine ⟨_, rfl, M.m, _, M.mx, _, _, rfl, W4.mac, T.c_Watched, T.n_Watched_store, rfl, M.A.s, M.A.sx, _, rfl, W4.wd.sto, rfl, _, rfl, M.A.s, cl, rfl, M.A.sx, M.A.kl, M.A.gl, M.A.pl, u.cs, ts, x.2.2, W4.wd.sto, W4.wd.cel.k, cl2, c2, x4, fun H5 k5 l5 => ?_⟩
        have w5 : Wd K M.A H5 x.2.1 (undoM u.cs x.2.2) u.lv ps1 := W4.wd.putn nd.a (k5.mono (by simp)) l5 (k5 _ _ (notin1 (Ne.symm nd.a.kp)) W4.wd.put) (undoM_len _ _)
        have W5 := W4.stepped nd (k5.mono (by simp)) w5
        have kk : Kp M.mu H1 H5 := ((km2.trans k3m).trans r1).trans (k5.mono (by intro a h; unfold Md.mu; simp at h; simp [h]))
        refine ⟨⟨_, _, _, _, _, _, rfl⟩, q1.trans kk, nd, ⟨ps1, es2, W5, ?_⟩, sub, nt1.kp kk fun a h _ => W5.nt a h⟩
        exact L2.kp nt1 kk sub
    · rintro σ H1 ⟨⟨v1, v2, v3, v4, v5, v6, rfl⟩, q1, q2⟩
      exact k H1 q1 q2
theorem good_Watched_back (T : Txt K mg) : Good P w K mg base 5 (He.ma K (He.ga K "Watched") "back") [] (sp_back K) := by
  obtain ⟨fd, F⟩ := T.d_Watched_back
  exact ⟨⟨fd, _, [], ok_Watched_back T F, F.bindsN fun _ _ _ _ _ _ us hl => match us, hl with | [_, _], _ => rfl, .nil⟩, F.kp⟩
end
end HB


namespace HB
open PySem PySem.Spec PyProof.Rows L2
local macro_rules | `(tactic| walk_at "ne") => `(tactic| first | assumption | (apply Ne.symm; assumption) | exact ne_of_none (by assumption) (by assumption) | exact ne_new (by assumption) (by assumption) | (intro q; cases q; done))
local macro_rules | `(tactic| walk_at "hp") => `(tactic| first
  | assumption
  | exact upd_same
  | (refine upd_keep ?_ (by assumption); walk_at "hp")
  | (refine upd_far (by walk_at "ne") ?_; walk_at "hp")
  | (refine Same.get (by assumption) ?_; walk_at "hp")
  | (refine Kp.get (by assumption) ?_ (notin1 (by walk_at "ne")); walk_at "hp"))
local macro_rules | `(tactic| walk_at "same") => `(tactic| first
  | assumption
  | exact Same.refl _
  | (refine Same.new ?_ (by assumption); walk_at "same")
  | (refine Same.trans ?_ (by assumption); walk_at "same"))
/-- one row of a reading -/
local macro_rules | `(tactic| walk_at "r1") => `(tactic| first
  | refine ⟨_, rfl, ?_⟩
  | refine ⟨_, _, rfl, rfl, ?_⟩
  | refine ⟨rfl, ?_⟩
  | refine ⟨_, _, _, _, _, rfl, (by walk_at "hp"), (by assumption), (by assumption), rfl, ?_⟩
  | refine ⟨sz_ (by decide), fun _ _ => ?_⟩)
local macro_rules | `(tactic| walk_at "rd") => `(tactic| repeat walk_at "r1")
section
variable {P : Program} {w : World} {K : PySem.W.Frag} {mg : Str → Option Value} {base : Heap}
/-! ### a machine is made -/
def sp_Machine_init (K : PySem.W.Frag) : Sp := fun vs H Q _ => ∃ (m l s0 b0 : Addr) (at' : Int), vs = [.ref m, .ref l, .ref s0, .ref b0, .int at'] ∧ ∃ mx rs sp dx kl gl cs lv nl bx v, H m = some (.ins (He.ga K "Watched") mx []) ∧ H l = some (.lst (rs.map V.ref)) ∧ DsI K H rs sp ∧ 1 ≤ sp.length ∧ sp.length ≤ 24 ∧
  H s0 = some (.ins (He.ga K "Store") dx (sF kl gl)) ∧ CelI H kl gl cs lv ∧ 1 ≤ cs.length ∧ cs.length ≤ 60 ∧ (∀ c ∈ cs, inC c = true) ∧ BoxI K H b0 nl bx ∧ H nl = some (.lst (Six.vals v)) ∧ v.ok ∧ 0 ≤ at' ∧ at' ≤ (sp.length : Int) ∧
  ∀ dl s' b' nl' bx' H', H dl = none → H nl' = none → H b' = none → dl ≠ nl' → Kp [m] H H' → H' m = some (.ins (He.ga K "Watched") mx [("deeds", .ref dl), ("store", .ref s'), ("boxes", .ref b'), ("spot", .int at')]) → H' dl = some (.lst (rs.map V.ref)) → BoxI K H' b' nl' bx' → H' nl' = some (.lst (Six.vals v)) → Q .non H'
def nm_Machine_init : List Str := ["self", "rows", "store", "boxes", "at"]
theorem sc_Machine_init : FnScope nm_Machine_init ["self", "rows", "store", "boxes", "at"] (defScope s_Machine_init) := ⟨rfl, rfl, rfl, by decide +kernel, rfl, by decide +kernel, by decide +kernel⟩
theorem ok_Machine_init (T : Txt K mg) {f : Addr} {fd : FuncData} {dv : List V} {kw : List (Str × V)} (F : FunD K "__init__" "Machine.__init__" (defArgs s_Machine_init) (defBody s_Machine_init) (defScope s_Machine_init) dv kw f fd) : FnOk P w K mg base (CXr P w) 7 f fd ["self", "rows", "store", "boxes", "at"] (sp_Machine_init K) := by
  refine F.ok sc_Machine_init (fun vs H Q E h => ?_) (fun cdv A outer s H vs Q E hr h => ?_)
  · obtain ⟨m, l, s0, b0, at', rfl, _⟩ := h
    rfl
  · obtain ⟨m, l, s0, b0, at', rfl, h⟩ := h
    refine ⟨_, (pss_cons (ps_expr (pe_callG (good_need_rows T) (hr.mono (by decide)) T.g_need_rows hx_cx (pa_cons (pv 1) pa_nil))) (pss_cons (ps_if (PW.pt (pw_or (pt_not (pt_val (pe_callG (good_is_whole T) (hr.mono (by decide)) T.g_is_whole hx_cx (pa_cons (pv 4) pa_nil)))) (pw_or1 (pt_not (pt_chain op_le op_le pe_int (pv 4) (pe_callB call_len_seq (by rfl) T.f_len PySem.boot_len (pa_cons (pv 1) pa_nil))))))) (pss_one ps_never) pss_nil) (pss_cons (ps_fld (pv 0) (pe_callTy (T := "list") call_list_of (by rfl) T.f_list (by decide +kernel) (pa_cons (pv 1) pa_nil)) rfl) (pss_cons (ps_fld (pv 0) (pe_methG0 (pv 2) T.c_Store T.m_Store_copied (good_Store_copied T) (hr.mono (by decide)) hx_cx) rfl) (pss_cons (ps_fld (pv 0) (pe_methG0 (pv 3) T.c_Boxes T.m_Boxes_copied (good_Boxes_copied T) (hr.mono (by decide)) hx_cx) rfl) (pss_one (ps_fld (pv 0) (pv 4) rfl))))))), ?_⟩
    obtain ⟨mx, rs, sp, dx, kl, gl, cs, lv, nl, bx, v, hm, hl, D, n1, n2, hs, hc, c1, c2, hin, hb, hn, ok, a0, a1, k⟩ := h
    have ll : (((rs.map V.ref).length : Nat) : Int) = sp.length := by rw [List.length_map, D.1]
    refine ⟨_, rfl, l, rfl, rs, sp, hl, D, n1, n2, fun H1 s1 => ?_⟩
    refine ⟨_, rfl, _, rfl, true, rfl, _, rfl, ?_⟩
    refine ⟨_, rfl, _, _, rfl, rfl, _, rfl, ?_⟩
    rw [decide_eq_true a0]
    refine iteT ?_
    refine ⟨_, rfl, _, _, rfl, .inl (SqL.of (s1 _ _ hl)), _, _, rfl, rfl, _, rfl, ?_⟩
    rw [decide_eq_true (by rw [ll]; exact a1)]
    refine iteF ?_
    refine ⟨_, rfl, l, _, rfl, .inl (SqL.of (s1 _ _ hl)), fun dl hdl => ?_⟩
    have s2 := Same.new (o := .lst (rs.map V.ref)) s1 hdl
    refine ⟨_, rfl, m, _, mx, [], rfl, s2 _ _ hm, T.c_Watched, T.n_Watched_deeds, by simp, ?_⟩
    have k2 : Kp [m] H (upd (upd H1 dl (.lst (rs.map V.ref))) m (.ins (He.ga K "Watched") mx [("deeds", .ref dl)])) := (Kp.same s2).set (by simp)
    have nmd : m ≠ dl := ne_of_none (s1 _ _ hm) hdl
    have d2 : upd (upd H1 dl (.lst (rs.map V.ref))) m (.ins (He.ga K "Watched") mx [("deeds", .ref dl)]) dl = some (.lst (rs.map V.ref)) := upd_far (Ne.symm nmd) upd_same
    have m2 : upd (upd H1 dl (.lst (rs.map V.ref))) m (.ins (He.ga K "Watched") mx [("deeds", .ref dl)]) m = some (.ins (He.ga K "Watched") mx [("deeds", .ref dl)]) := upd_same
    have nms : m ≠ s0 := ne_of hm hs (ins_fs (len_ne (by show (0 : Nat) ≠ 2; decide)))
    have nmb : m ≠ b0 := ne_of hm hb (ins_fs (len_ne (by show (0 : Nat) ≠ 1; decide)))
    have hdl0 := s1.free hdl
    have p2 : putF "deeds" (.ref dl) ([] : Fs) = ([("deeds", .ref dl)] : Fs) := rfl
    rw [p2]
    generalize upd (upd H1 dl (.lst (rs.map V.ref))) m (.ins (He.ga K "Watched") mx [("deeds", .ref dl)]) = H2 at *
    have f2 : ∀ {b o}, H b = some o → m ≠ b → H2 b = some o := fun {b o} h n => k2 _ _ (notin1 (Ne.symm n)) h
    refine ⟨_, rfl, s0, dx, _, rfl, f2 hs nms, rfl, s0, rfl, dx, kl, gl, cs, lv, f2 hs nms, ⟨f2 hc.k (ref_m hm hc.k), f2 hc.g (ref_m hm hc.g), hc.len⟩, c1, c2, hin, fun s' H3 hs' s3 => ?_⟩
    refine ⟨_, rfl, m, _, mx, _, rfl, s3 _ _ m2, T.c_Watched, T.n_Watched_store, by show (1 : Nat) < 1000; decide, ?_⟩
    have p3 : putF "store" (.ref s') ([("deeds", .ref dl)] : Fs) = ([("deeds", .ref dl), ("store", .ref s')] : Fs) := rfl
    rw [p3]
    have k3 : Kp [m] H2 (upd H3 m (.ins (He.ga K "Watched") mx [("deeds", .ref dl), ("store", .ref s')])) := (Kp.same s3).set (by simp)
    have m3 : upd H3 m (.ins (He.ga K "Watched") mx [("deeds", .ref dl), ("store", .ref s')]) m = some (.ins (He.ga K "Watched") mx [("deeds", .ref dl), ("store", .ref s')]) := upd_same
    generalize upd H3 m (.ins (He.ga K "Watched") mx [("deeds", .ref dl), ("store", .ref s')]) = H4 at *
    have f4 : ∀ {b o}, H b = some o → m ≠ b → H4 b = some o := fun {b o} h n => k3 _ _ (notin1 (Ne.symm n)) (f2 h n)
    refine ⟨_, rfl, b0, bx, _, rfl, f4 hb nmb, rfl, b0, rfl, nl, bx, v, f4 hb nmb, f4 hn (ref_m hm hn), ok, fun b' nl' bx' H5 hb' hnl' nbn s5 i5 l5 => ?_⟩
    have m5 := s5 _ _ m3
    have none4 : ∀ {a}, H4 a = none → H a = none := fun {a} h => by
      cases e : H a with
      | none => rfl
      | some o =>
        have nma : m ≠ a := fun z => by rw [← z, m3] at h; cases h
        rw [f4 e nma] at h
        cases h
    have d4 : H4 dl = some (.lst (rs.map V.ref)) := k3 _ _ (notin1 (Ne.symm nmd)) d2
    refine ⟨_, rfl, m, _, mx, _, rfl, m5, T.c_Watched, T.n_Watched_boxes, by show (2 : Nat) < 1000; decide, ?_⟩
    have p5 : putF "boxes" (.ref b') ([("deeds", .ref dl), ("store", .ref s')] : Fs) = ([("deeds", .ref dl), ("store", .ref s'), ("boxes", .ref b')] : Fs) := rfl
    rw [p5]
    refine ⟨_, rfl, _, rfl, m, _, mx, _, rfl, upd_same, T.c_Watched, T.n_Watched_spot, by show (3 : Nat) < 1000; decide, ?_⟩
    have nmb' : m ≠ b' := ne_of_none m3 hb'
    have nmn' : m ≠ nl' := ne_of_none m3 hnl'
    refine k dl s' b' nl' bx' _ hdl0 (none4 hnl') (none4 hb') (ne_of_none d4 hnl') ?_ upd_same ?_ ?_ ?_
    · exact ((((k2.trans k3).trans (Kp.same s5)).set (by simp)).set (by simp))
    · exact upd_far (Ne.symm nmd) (upd_far (Ne.symm nmd) (s5 _ _ d4))
    · exact upd_far (Ne.symm nmb') (upd_far (Ne.symm nmb') i5)
    · exact upd_far (Ne.symm nmn') (upd_far (Ne.symm nmn') l5)
theorem good_Machine_init (T : Txt K mg) : Good P w K mg base 7 (He.ma K (He.ga K "Machine") "__init__") [] (sp_Machine_init K) := by
  obtain ⟨fd, F⟩ := T.d_Machine_init
  obtain ⟨ds, r, b⟩ := F.binds1 (ps := ["self", "rows", "store", "boxes", "at"]) 5 1 (by simp) (by rfl) fun _ _ _ _ _ _ _ us its hl hi => match us, its, hl, hi with | [_, _, _, _, _], [_], _, _ => ⟨_, rfl, rfl⟩
  exact ⟨⟨fd, _, ds, ok_Machine_init T F, b, r⟩, F.kp⟩
structure Fresh (M : Md) (H : Hp) : Prop where
  f : ∀ a ∈ [M.dl, M.A.s, M.A.b, M.A.nl, M.A.kl, M.A.gl, M.A.pl, M.el], H a = none
def sp_Watched_init (K : PySem.W.Frag) : Sp := fun vs H Q _ => ∃ (m l s0 b0 : Addr) (at' : Int), vs = [.ref m, .ref l, .ref s0, .ref b0, .int at'] ∧ ∃ mx rs sp dx kl gl cs lv nl bx v, H m = some (.ins (He.ga K "Watched") mx []) ∧ H l = some (.lst (rs.map V.ref)) ∧ DsI K H rs sp ∧ 1 ≤ sp.length ∧ sp.length ≤ 24 ∧
  H s0 = some (.ins (He.ga K "Store") dx (sF kl gl)) ∧ CelI H kl gl cs lv ∧ 1 ≤ cs.length ∧ cs.length ≤ 60 ∧ (∀ c ∈ cs, inC c = true) ∧ BoxI K H b0 nl bx ∧ H nl = some (.lst (Six.vals v)) ∧ v.ok ∧ 0 ≤ at' ∧ at' ≤ (sp.length : Int) ∧ (∀ (i : Nat) (a : Addr), rs[i]? = some a → m ≠ a) ∧
  ∀ M H', M.m = m → Fresh M H → Kp [m] H H' → Ndm M → MI K M H' sp at' v cs lv [] [] → Q .non H'
def nm_Watched_init : List Str := ["self", "rows", "store", "boxes", "at"]
theorem sc_Watched_init : FnScope nm_Watched_init ["self", "rows", "store", "boxes", "at"] (defScope s_Watched_init) := ⟨rfl, rfl, rfl, by decide +kernel, rfl, by decide +kernel, by decide +kernel⟩
theorem ok_Watched_init (T : Txt K mg) {f : Addr} {fd : FuncData} {dv : List V} {kw : List (Str × V)} (F : FunD K "__init__" "Watched.__init__" (defArgs s_Watched_init) (defBody s_Watched_init) (defScope s_Watched_init) dv kw f fd) : FnOk P w K mg base (CXr P w) 9 f fd ["self", "rows", "store", "boxes", "at"] (sp_Watched_init K) := by
  refine F.ok sc_Watched_init (fun vs H Q E h => ?_) (fun cdv A outer s H vs Q E hr h => ?_)
  · obtain ⟨m, l, s0, b0, at', rfl, _⟩ := h
    rfl
  · obtain ⟨m, l, s0, b0, at', rfl, h⟩ := h
    refine ⟨_, (pss_cons (ps_expr (pe_callC T.g_Machine T.cm_Machine_init (good_Machine_init T) (hr.mono (by decide)) hx_cx (pa_cons (pv 0) (pa_cons (pv 1) (pa_cons (pv 2) (pa_cons (pv 3) (pa_cons (pv 4) pa_nil))))))) (pss_cons (ps_fld (pv 0) (pe_makeG T.k_Noted (good_Noted_init T) (hr.mono (by decide)) T.g_Noted hx_cx (pa_cons (pe_methG0 (pv 2) T.c_Store T.m_Store_told (good_Store_told T) (hr.mono (by decide)) hx_cx) (pa_cons (pe_methG0 (pv 2) T.c_Store T.m_Store_leaves (good_Store_leaves T) (hr.mono (by decide)) hx_cx) pa_nil))) rfl) (pss_one (ps_fld (pv 0) (pe_lst pa_nil) rfl)))), ?_⟩
    obtain ⟨mx, rs, sp, dx, kl, gl, cs, lv, nl, bx, v, hm, hl, D, n1, n2, hs, hc, c1, c2, hin, hb, hn, ok, a0, a1, hmr, k⟩ := h
    refine ⟨_, rfl, _, rfl, _, rfl, _, rfl, _, rfl, m, l, s0, b0, at', rfl, mx, rs, sp, dx, kl, gl, cs, lv, nl, bx, v, hm, hl, D, n1, n2, hs, hc, c1, c2, hin, hb, hn, ok, a0, a1, fun dl s' b' nl' bx' H1 fd fn fb ndn k1 m1 d1 i1 l1 => ?_⟩
    have nms : m ≠ s0 := ne_of hm hs (ins_fs (len_ne (by show (0 : Nat) ≠ 2; decide)))
    have f1 : ∀ {b o}, H b = some o → m ≠ b → H1 b = some o := fun {b o} h n => k1 _ _ (notin1 (Ne.symm n)) h
    have none1 : ∀ {a}, H1 a = none → H a = none := fun {a} h => by
      cases e : H a with
      | none => rfl
      | some o =>
        have nma : m ≠ a := fun z => by rw [← z, m1] at h; cases h
        rw [f1 e nma] at h
        cases h
    have hs1 := f1 hs nms
    refine ⟨_, rfl, s0, dx, _, rfl, hs1, rfl, s0, rfl, kl, gl, _, stoI_S T hs1, f1 hc.k (ref_m hm hc.k), fun t1 ht1 => ?_⟩
    have s1 := Same.new (o := .lst (ivs cs)) (Same.refl H1) ht1
    refine ⟨_, rfl, s0, dx, _, rfl, s1 _ _ hs1, rfl, s0, rfl, kl, gl, _, stoI_S T (s1 _ _ hs1), s1 _ _ (f1 hc.g (ref_m hm hc.g)), fun t2 ht2 => ?_⟩
    have s2 := Same.new (o := .lst (lvs lv)) s1 ht2
    have e1 : (upd (upd H1 t1 (.lst (ivs cs))) t2 (.lst (lvs lv))) t1 = some (.lst (ivs cs)) := upd_keep upd_same ht2
    have e2 : (upd (upd H1 t1 (.lst (ivs cs))) t2 (.lst (lvs lv))) t2 = some (.lst (lvs lv)) := upd_same
    generalize upd (upd H1 t1 (.lst (ivs cs))) t2 (.lst (lvs lv)) = H2 at *
    intro sn sx hsn hsx nsx
    have s3 : Same H2 (upd (upd H2 sx (.own sn)) sn (.ins (He.ga K "Noted") sx [])) := fun c o e => by
      rw [upd_ne (ne_of_none e hsn), upd_ne (ne_of_none e hsx)]
      exact e
    have e3 : (upd (upd H2 sx (.own sn)) sn (.ins (He.ga K "Noted") sx [])) sn = some (.ins (He.ga K "Noted") sx []) := upd_same
    have f3 : ∀ {a}, (upd (upd H2 sx (.own sn)) sn (.ins (He.ga K "Noted") sx [])) a = none → H2 a = none := fun {a} h => s3.free h
    generalize upd (upd H2 sx (.own sn)) sn (.ins (He.ga K "Noted") sx []) = H3 at *
    refine ⟨sn, t1, t2, rfl, sx, cs, lv, e3, s3 _ _ e1, s3 _ _ e2, c1, c2, hin, fun kn gn pn H4 hkn hgn hpn n1' n2' n3' k4 i4 a4 b4 c4 => ⟨rfl, ?_⟩⟩
    have f4 : ∀ {b o}, H3 b = some o → sn ≠ b → H4 b = some o := fun {b o} h n => k4 _ _ (notin1 (Ne.symm n)) h
    have far : ∀ {b o}, H1 b = some o → H4 b = some o := fun {b o} h => f4 (s3 _ _ (s2 _ _ h)) (fun z => ne_of_none (s2 _ _ h) hsn z.symm)
    have m4 := far m1
    refine ⟨_, rfl, m, _, mx, _, rfl, m4, T.c_Watched, T.n_Watched_store, by show (4 : Nat) < 1000; decide, ?_⟩
    have p5 : putF "store" (.ref sn) ([("deeds", .ref dl), ("store", .ref s'), ("boxes", .ref b'), ("spot", .int at')] : Fs) = ([("deeds", .ref dl), ("store", .ref sn), ("boxes", .ref b'), ("spot", .int at')] : Fs) := rfl
    rw [p5]
    refine ⟨by show 0 ≤ sizeLine; exact Nat.zero_le _, fun el hel => ?_⟩
    have nmel : m ≠ el := fun z => by rw [← z, upd_same] at hel; cases hel
    have hel4 : H4 el = none := by
      rw [upd_ne (Ne.symm nmel)] at hel
      exact hel
    refine ⟨_, rfl, m, _, mx, _, rfl, upd_keep upd_same hel, T.c_Watched, T.n_Watched_entries, by show (4 : Nat) < 1000; decide, ?_⟩
    have f2 : ∀ {a}, H2 a = none → H a = none := fun {a} h => none1 (s2.free h)
    have none4 : H3 el = none := by
      cases e : H3 el with
      | none => rfl
      | some o =>
        by_cases z : sn = el
        · rw [← z, i4] at hel4
          cases hel4
        · rw [f4 e z] at hel4
          cases hel4
    have fsn : H sn = none := f2 hsn
    have fkn : H kn = none := f2 (f3 hkn)
    have fgn : H gn = none := f2 (f3 hgn)
    have fpn : H pn = none := f2 (f3 hpn)
    have fel : H el = none := f2 (f3 none4)
    have d3 : H3 dl = some (.lst (rs.map V.ref)) := s3 _ _ (s2 _ _ d1)
    have l3 : H3 nl' = some (.lst (Six.vals v)) := s3 _ _ (s2 _ _ l1)
    have nb1 : m ≠ b' := ne_of m1 i1 (ins_fs (len_ne (by show (4 : Nat) ≠ 1; decide)))
    have nsm : sn ≠ m := fun z => ne_of_none (s2 _ _ m1) hsn z.symm
    let M : Md := ⟨m, mx, dl, el, rs, ⟨b', bx', nl', sn, sx, kn, gn, pn⟩⟩
    have up : ∀ {b o fs fs'}, H4 b = some o → m ≠ b → (upd (upd (upd H4 m fs) el (.lst [])) m fs') b = some o := fun {b o fs fs'} h n => by
      rw [upd_ne (Ne.symm n), upd_ne (ne_of_none h hel4), upd_ne (Ne.symm n)]
      exact h
    refine k M _ rfl ⟨fun a ha => ?_⟩ (fun b o nb e => ?_) ⟨⟨ne_of_none l3 hkn, ne_of_none l3 hgn, ne_of_none l3 hpn, n1', n2', n3'⟩, ndn, ne_of_none d3 hkn, ne_of_none d3 hgn, ne_of_none d3 hpn, ne_of_none d3 none4, Ne.symm (ne_of_none l3 none4), Ne.symm (ne_of_none a4 hel4), Ne.symm (ne_of_none b4 hel4), Ne.symm (ne_of_none c4 hel4)⟩
      ⟨upd_same, up (far d1) (ref_m m1 d1), ⟨D.1, fun i a d h1 h2 => ?_⟩, ⟨up (far i1) nb1, up (far l1) (ref_m m1 l1), up i4 (Ne.symm nsm), ⟨up a4 (ref_m m4 a4), up b4 (ref_m m4 b4), hc.len⟩, up c4 (ref_m m4 c4)⟩, ?_⟩
    · simp only [List.mem_cons, List.not_mem_nil, or_false] at ha
      rcases ha with z | z | z | z | z | z | z | z <;> subst z <;> assumption
    · have nb' : b ≠ m := fun z => nb (by simp [z])
      exact up (far (f1 e (Ne.symm nb'))) (Ne.symm nb')
    · obtain ⟨dx', e⟩ := D.2 i a d h1 h2
      have nma : m ≠ a := hmr i a h1
      exact ⟨dx', up (far (f1 e nma)) nma⟩
    · rw [upd_ne (Ne.symm nmel), upd_same]
      rfl
theorem good_Watched_init (T : Txt K mg) : Good P w K mg base 9 (He.ma K (He.ga K "Watched") "__init__") [] (sp_Watched_init K) := by
  obtain ⟨fd, F⟩ := T.d_Watched_init
  obtain ⟨ds, r, b⟩ := F.binds1 (ps := ["self", "rows", "store", "boxes", "at"]) 5 1 (by simp) (by rfl) fun _ _ _ _ _ _ _ us its hl hi => match us, its, hl, hi with | [_, _, _, _, _], [_], _, _ => ⟨_, rfl, rfl⟩
  exact ⟨⟨fd, _, ds, ok_Watched_init T F, b, r⟩, F.kp⟩
end
end HB


namespace HB
open PySem PySem.Spec PyProof.Rows L2
local macro_rules | `(tactic| walk_at "ne") => `(tactic| first | assumption | (apply Ne.symm; assumption) | exact ne_of_none (by assumption) (by assumption) | exact ne_new (by assumption) (by assumption) | (intro q; cases q; done))
local macro_rules | `(tactic| walk_at "hp") => `(tactic| first
  | assumption
  | exact upd_same
  | (refine upd_keep ?_ (by assumption); walk_at "hp")
  | (refine upd_far (by walk_at "ne") ?_; walk_at "hp")
  | (refine Same.get (by assumption) ?_; walk_at "hp")
  | (refine Kp.get (by assumption) ?_ (notin1 (by walk_at "ne")); walk_at "hp"))
local macro_rules | `(tactic| walk_at "same") => `(tactic| first
  | assumption
  | exact Same.refl _
  | (refine Same.new ?_ (by assumption); walk_at "same")
  | (refine Same.trans ?_ (by assumption); walk_at "same"))
/-- one row of a reading -/
local macro_rules | `(tactic| walk_at "r1") => `(tactic| first
  | refine ⟨_, rfl, ?_⟩
  | refine ⟨_, _, rfl, rfl, ?_⟩
  | refine ⟨rfl, ?_⟩
  | refine ⟨_, _, _, _, _, rfl, (by walk_at "hp"), (by assumption), (by assumption), rfl, ?_⟩
  | refine ⟨sz_ (by decide), fun _ _ => ?_⟩)
local macro_rules | `(tactic| walk_at "rd") => `(tactic| repeat walk_at "r1")
section
variable {P : Program} {w : World} {K : PySem.W.Frag} {mg : Str → Option Value} {base : Heap}
/-! ### the law's draws -/
def L5 (c : Addr) (f i r n : Int) : List V := [.ref c, .int f, .int i, .int r, .int n]
structure HaI (H : Hp) (hd hc : Addr) (N : Int) : Prop where
  ex : ∃ (xs : List Int) (f i r n : Int), H hd = some (.lst (L5 hc f i r n)) ∧ H hc = some (.lst (ivs xs)) ∧ xs.length ≤ 63 ∧ (0 ≤ f ∧ f < 2147483648) ∧ 0 ≤ i ∧ 0 ≤ r ∧ 0 ≤ n ∧ n ≤ N
theorem HaI.mono {H : Hp} {hd hc : Addr} {N N' : Int} (h : HaI H hd hc N) (l : N ≤ N') : HaI H hd hc N' := by
  obtain ⟨xs, f, i, r, n, a, b, c, d, e, g, j, k⟩ := h.ex
  exact ⟨xs, f, i, r, n, a, b, c, d, e, g, j, by omega⟩
theorem HaI.same {H H' : Hp} {hd hc : Addr} {N : Int} (h : HaI H hd hc N) (s : Same H H') : HaI H' hd hc N := by
  obtain ⟨xs, f, i, r, n, a, b, c⟩ := h.ex
  exact ⟨xs, f, i, r, n, s _ _ a, s _ _ b, c⟩
theorem HaI.kp {H H' : Hp} {hd hc : Addr} {N : Int} {S : List Addr} (h : HaI H hd hc N) (k : Kp S H H') (h1 : hd ∉ S) (h2 : hc ∉ S) : HaI H' hd hc N := by
  obtain ⟨xs, f, i, r, n, a, b, c⟩ := h.ex
  exact ⟨xs, f, i, r, n, k _ _ h1 a, k _ _ h2 b, c⟩
theorem fmod_b (a : Int) {b : Int} (h : 0 < b) : 0 ≤ a.fmod b ∧ a.fmod b < b := by
  rw [Int.fmod_eq_emod_of_nonneg a (by omega)]
  exact ⟨Int.emod_nonneg a (by omega), Int.emod_lt_of_pos a h⟩
theorem fdiv_nn {a b : Int} (ha : 0 ≤ a) (h : 0 < b) : 0 ≤ a.fdiv b := by
  rw [Int.fdiv_eq_ediv_of_nonneg a (by omega)]
  exact Int.ediv_nonneg ha (by omega)
def sp_hand (K : PySem.W.Frag) : Sp := fun vs H Q _ => ∃ (l : Addr), vs = [.ref l] ∧ ∃ xs, SqL K H l (ivs xs) ∧ ∀ hd hc H', H hd = none → H hc = none → Same H H' → HaI H' hd hc 0 → Q (.ref hd) H'
theorem cut63 (xs : List Int) : ∃ ys : List Int, cutV (ivs xs) none (some 63) = ivs ys ∧ ys.length ≤ 63 := by
  unfold cutV
  refine ⟨(xs.drop (HT.sIx (ivs xs).length 0 none)).take (HT.sIx (ivs xs).length (ivs xs).length (some 63) - HT.sIx (ivs xs).length 0 none), ?_, ?_⟩
  · rw [← List.map_drop, ← List.map_take]
  · rw [List.length_take]
    have : HT.sIx (ivs xs).length (ivs xs).length (some 63) ≤ 63 := by
      unfold HT.sIx
      simp
      omega
    omega
def nm_law_hand : List Str := ["_law_script", "_law_cells_here", "_law_fold", "_law_cell"]
theorem sc_law_hand : FnScope nm_law_hand ["_law_script"] (defScope s_law_hand) := ⟨rfl, rfl, rfl, by decide +kernel, rfl, by decide +kernel, by decide +kernel⟩
theorem ok_law_hand (T : Txt K mg) {f : Addr} {fd : FuncData} {dv : List V} {kw : List (Str × V)} (F : FunD K "_law_hand" "_law_hand" (defArgs s_law_hand) (defBody s_law_hand) (defScope s_law_hand) dv kw f fd) : FnOk P w K mg base (CXr P w) 1 f fd ["_law_script"] (sp_hand K) := by
  refine F.ok sc_law_hand (fun vs H Q E h => ?_) (fun cdv A outer s H vs Q E hr h => ?_)
  · obtain ⟨l, rfl, _⟩ := h
    rfl
  · obtain ⟨l, rfl, h⟩ := h
    refine ⟨_, (pss_cons (ps_set (i := 1) sc_law_hand.nd rfl (Or.inl rfl) (pe_callTy (T := "list") call_list_of (by rfl) T.f_list (by decide +kernel) (pa_cons (pe_slice sl_list (pv 0) po_none (po_some pe_int)) pa_nil))) (pss_cons (ps_set (i := 2) sc_law_hand.nd rfl (Or.inl rfl) (pe_callB call_len_seq (by rfl) T.f_len PySem.boot_len (pa_cons (pv 1) pa_nil))) (pss_cons (ps_for po_cx rfl (pi_list (pv 1)) (pg_name (i := 3) sc_law_hand.nd rfl (Or.inl rfl)) (pss_one (ps_set (i := 2) sc_law_hand.nd rfl (Or.inl rfl) (pe_op op_modN (pe_op op_add (pe_op op_add (pe_op op_mul (pv 2) pe_int) (pe_op op_modN (pv 3) pe_int)) pe_int) pe_int)))) (pss_one (ps_ret (pe_lst (pa_cons (pv 1) (pa_cons (pv 2) (pa_cons pe_int (pa_cons pe_int (pa_cons pe_int pa_nil))))))))))), ?_⟩
    obtain ⟨xs, hl, k⟩ := h
    refine ⟨_, rfl, _, rfl, l, _, rfl, hl, fun p hp => ?_⟩
    obtain ⟨ys, ey, hy⟩ := cut63 xs
    rw [ey]
    have s1 := Same.new (o := .lst (ivs ys)) (Same.refl H) hp
    refine ⟨p, _, rfl, .inl (SqL.of upd_same), fun hc hhc => ?_⟩
    have s2 := Same.new (o := .lst (ivs ys)) s1 hhc
    have hc0 := s1.free hhc
    have e2 : upd (upd H p (.lst (ivs ys))) hc (.lst (ivs ys)) hc = some (.lst (ivs ys)) := upd_same
    generalize upd (upd H p (.lst (ivs ys))) hc (.lst (ivs ys)) = H2 at *
    refine ⟨_, rfl, _, _, rfl, .inl (SqL.of e2), ?_⟩
    refine ⟨_, rfl, hc, rfl, ⟨_, SqL.of e2⟩, for_list (K := K) (a := hc) (xs := ivs ys) (fun i σ H1 => (∃ (f : Int) (v : Option V), σ = [some (.ref l), some (.ref hc), some (.int f), v] ∧ 0 ≤ f ∧ f < 2147483648) ∧ H1 = H2) ⟨⟨_, _, rfl, by simp, by simp; omega⟩, rfl⟩ (fun i σ H1 _ q => by rw [q.2]; exact SqL.of e2) ?_ ?_⟩
    · rintro i x σ H1 hi ⟨⟨f, v, rfl, f0, f1⟩, rfl⟩
      obtain ⟨c, _, rfl⟩ := ivs_get hi
      have b := fmod_b (f * 48271 + c.fmod 2147483647 + 1) (b := 2147483629) (by omega)
      exact ⟨_, rfl, _, _, rfl, rfl, .inr (by omega), _, rfl, _, _, rfl, rfl, (by show (2147483647 : Int) ≠ 0; decide), _, _, rfl, rfl, _, _, rfl, rfl, _, _, rfl, rfl, (by show (2147483629 : Int) ≠ 0; decide), ⟨_, _, rfl, b.1, by omega⟩, rfl⟩
    · rintro σ H1 ⟨⟨f, v, rfl, f0, f1⟩, rfl⟩
      refine ⟨_, rfl, _, rfl, sz_ (by simp), fun hd hhd => ?_⟩
      exact k hd hc _ (s2.free hhd) hc0 (Same.new s2 hhd) ⟨ys, f, 0, 0, 0, upd_same, upd_keep e2 hhd, hy, ⟨f0, f1⟩, by omega, by omega, by omega, by omega⟩
theorem good_law_hand (T : Txt K mg) : Good P w K mg base 1 (He.ga K "_law_hand") [] (sp_hand K) := by
  obtain ⟨fd, F⟩ := T.d__law_hand
  exact ⟨⟨fd, _, [], ok_law_hand T F, F.bindsN fun _ _ _ _ _ _ us hl => match us, hl with | [_], _ => rfl, .nil⟩, F.kp⟩
def sp_draw (K : PySem.W.Frag) : Sp := fun vs H Q _ => ∃ (hd : Addr) (m : Int), vs = [.ref hd, .int m] ∧ ∃ hc N, HaI H hd hc N ∧ hd ≠ hc ∧ N ≤ 1000000000 ∧ 1 ≤ m ∧ m ≤ 1000000 ∧ ∀ r H', 0 ≤ r → r < m → Kp [hd] H H' → HaI H' hd hc (N + 1) → Q (.int r) H'
def dT1 (K : PySem.W.Frag) : TS := tAsg (tOp (rI (fun _ j => j ≠ 0) fun i j => .int (i.fmod j)) (tOp (rI CPow fun i j => .int (i ^ j.toNat)) (tOp (rI0 fun i j => .int (i + j)) (tOp (rI (fun _ j => j ≠ 0) fun i j => .int (i.fmod j)) (tVar 3) (tC (.int 998244353))) (tOp (rI CMul fun i j => .int (i * j)) (tC (.int 7919)) (tOp (rIxL K) (tVar 0) (tC (.int 4))))) (tC (.int 5))) (tC (.int 2147483647))) (gName 4)
def dT2 (K : PySem.W.Frag) : TS := tAsg (tOp (rI (fun _ j => j ≠ 0) fun i j => .int (i.fmod j)) (tOp (rI CPow fun i j => .int (i ^ j.toNat)) (tOp (rI0 fun i j => .int (i + j)) (tOp (rI0 fun i j => .int (i + j)) (tVar 4) (tOp (rI CMul fun i j => .int (i * j)) (tC (.int 104729)) (tOp (rIxL K) (tVar 0) (tC (.int 4))))) (tOp (rIxL K) (tVar 0) (tC (.int 1)))) (tC (.int 3))) (tC (.int 2147483629))) (gName 5)
def dT3 : TS := tRet (tOp (rI (fun _ j => j ≠ 0) fun i j => .int (i.fmod j)) (tOp (rI CDivN fun i j => .int (i.fdiv j)) (tVar 5) (tC (.int 7))) (tVar 1))
theorem draw_tail {K : PySem.W.Frag} {H H2 : Hp} {Q : VK} {D : Ends} {hd hc : Addr} {m r f i' cell n N : Int} {xs : List Int} (hD : D.rt = Q) (m1 : 1 ≤ m) (hx : xs.length ≤ 63) (hf : 0 ≤ f ∧ f < 2147483648) (hr : 0 ≤ r) (hn0 : 0 ≤ n) (hn1 : n ≤ N) (hN : N ≤ 1000000000)
    (k : ∀ r H', 0 ≤ r → r < m → Kp [hd] H H' → HaI H' hd hc (N + 1) → Q (.int r) H') (i0 : 0 ≤ i') (k2 : Kp [hd] H H2) (j1 : H2 hd = some (.lst (L5 hc f i' r (n + 1)))) (j2 : H2 hc = some (.lst (ivs xs))) :
    dT1 K { D with nx := fun σ H => dT2 K { D with nx := fun σ H => dT3 D σ H } σ H } [some (.ref hd), some (.int m), some (.int r), some (.int cell), none, none] H2 := by
  subst hD
  have mne : ∀ a : Int, (fun (_ j : Int) => j ≠ 0) a m := fun a => by show m ≠ 0; omega
  have K1 : ∀ a : Int, 0 ≤ a.fmod m ∧ a.fmod m < m := fun a => fmod_b a (by omega)
  have c1 := fmod_b cell (b := 998244353) (by omega)
  refine ⟨_, rfl, _, _, rfl, rfl, (by show (998244353 : Int) ≠ 0; decide), _, rfl, _, _, 4, .int (n + 1), rfl, rfl, SqL.of j1, rfl, _, _, rfl, rfl, .inl ⟨by omega, by omega⟩, _, _, rfl, rfl, _, _, rfl, rfl, ⟨by decide, by decide, by omega⟩, _, _, rfl, rfl, (by show (2147483647 : Int) ≠ 0; decide), ?_⟩
  have pw : ∀ z : Int, (z.fmod 2147483647 + 104729 * (n + 1) + f).natAbs < 2 ^ 64 := fun z => by
    have o := fmod_b z (b := 2147483647) (by omega)
    omega
  refine ⟨_, rfl, _, rfl, _, _, 4, .int (n + 1), rfl, rfl, SqL.of j1, rfl, _, _, rfl, rfl, .inl ⟨by omega, by omega⟩, _, _, rfl, rfl, _, rfl, _, _, 1, .int f, rfl, rfl, SqL.of j1, rfl, _, _, rfl, rfl, _, _, rfl, rfl, ⟨by decide, by decide, pw _⟩, _, _, rfl, rfl, (by show (2147483629 : Int) ≠ 0; decide), ?_⟩
  refine ⟨_, rfl, _, _, rfl, rfl, ⟨by decide, by decide⟩, _, rfl, _, _, rfl, rfl, (show m ≠ 0 by omega), ?_⟩
  exact k _ _ (K1 _).1 (K1 _).2 k2 ⟨xs, f, i', r, n + 1, j1, j2, hx, hf, i0, hr, by omega, by omega⟩
def nm_law_draw : List Str := ["_law_hand_here", "_law_many", "_law_rest", "_law_cell", "_law_one", "_law_two"]
theorem sc_law_draw : FnScope nm_law_draw ["_law_hand_here", "_law_many"] (defScope s_law_draw) := ⟨rfl, rfl, rfl, by decide +kernel, rfl, by decide +kernel, by decide +kernel⟩
theorem ok_law_draw (T : Txt K mg) {f : Addr} {fd : FuncData} {dv : List V} {kw : List (Str × V)} (F : FunD K "_law_draw" "_law_draw" (defArgs s_law_draw) (defBody s_law_draw) (defScope s_law_draw) dv kw f fd) : FnOk P w K mg base (CXr P w) 1 f fd ["_law_hand_here", "_law_many"] (sp_draw K) := by
  refine F.ok sc_law_draw (fun vs H Q E h => ?_) (fun cdv A outer s H vs Q E hr h => ?_)
  · obtain ⟨hd, m, rfl, _⟩ := h
    rfl
  · obtain ⟨hd, m, rfl, h⟩ := h
    refine ⟨_, (pss_cons (ps_augS (pv 0) pe_int get_list pe_int ip_add set_list) (pss_cons (ps_set (i := 2) sc_law_draw.nd rfl (Or.inl rfl) (pe_ix ix_list (pv 0) pe_int (fun _ _ => rfl))) (pss_cons (ps_set (i := 3) sc_law_draw.nd rfl (Or.inl rfl) (pe_ix ix_list (pv 0) pe_int (fun _ _ => rfl))) (pss_cons (ps_if (pt_cmpR op_gt (pv 2) pe_int (nomark _)) (pss_cons (ps_asg (pe_op op_fdivN (pv 2) (pv 1)) (pg_sub (pv 0) pe_int set_list)) (pss_one (ps_ret (pe_op op_modN (pv 2) (pv 1))))) pss_nil) (pss_cons (ps_if (pt_cmpR op_lt (pe_ix ix_list (pv 0) pe_int (fun _ _ => rfl)) (pe_callB call_len_seq (by rfl) T.f_len PySem.boot_len (pa_cons (pe_ix ix_list (pv 0) pe_int (fun _ _ => rfl)) pa_nil)) (nomark _)) (pss_cons (ps_set (i := 3) sc_law_draw.nd rfl (Or.inl rfl) (pe_ix ix_list (pe_ix ix_list (pv 0) pe_int (fun _ _ => rfl)) (pe_ix ix_list (pv 0) pe_int (fun _ _ => rfl)) (fun _ _ => rfl))) (pss_cons (ps_augS (pv 0) pe_int get_list pe_int ip_add set_list) (pss_one (ps_if (pt_cmpR op_ge (pv 3) (pe_op op_pow pe_int pe_int) (nomark _)) (pss_cons (ps_asg (pe_op op_fdivN (pv 3) (pv 1)) (pg_sub (pv 0) pe_int set_list)) (pss_one (ps_ret (pe_op op_modN (pv 3) (pv 1))))) pss_nil)))) pss_nil) (pss_cons (ps_set (i := 4) sc_law_draw.nd rfl (Or.inl rfl) (pe_op op_modN (pe_op op_pow (pe_op op_add (pe_op op_modN (pv 3) pe_int) (pe_op op_mul pe_int (pe_ix ix_list (pv 0) pe_int (fun _ _ => rfl)))) pe_int) pe_int)) (pss_cons (ps_set (i := 5) sc_law_draw.nd rfl (Or.inl rfl) (pe_op op_modN (pe_op op_pow (pe_op op_add (pe_op op_add (pv 4) (pe_op op_mul pe_int (pe_ix ix_list (pv 0) pe_int (fun _ _ => rfl)))) (pe_ix ix_list (pv 0) pe_int (fun _ _ => rfl))) pe_int) pe_int)) (pss_one (ps_ret (pe_op op_modN (pe_op op_fdivN (pv 5) pe_int) (pv 1))))))))))), ?_⟩
    obtain ⟨hc, N, ⟨xs, f, i, r, n, h1, h2, hx, hf, hi, hr, hn0, hn1⟩, hne, hN, m1, m2, k⟩ := h
    refine ⟨_, rfl, hd, _, 4, .int n, rfl, rfl, h1, by omega, rfl, _, _, rfl, rfl, hd, _, 4, 4, rfl, rfl, h1, rfl, ?_⟩
    have e5 : (L5 hc f i r n).set 4 (.int (n + 1)) = L5 hc f i r (n + 1) := rfl
    rw [e5]
    have g1 : upd H hd (.lst (L5 hc f i r (n + 1))) hd = some (.lst (L5 hc f i r (n + 1))) := upd_same
    have g2 : upd H hd (.lst (L5 hc f i r (n + 1))) hc = some (.lst (ivs xs)) := upd_far (Ne.symm hne) h2
    have k1 : Kp [hd] H (upd H hd (.lst (L5 hc f i r (n + 1)))) := Kp.refl.set (by simp)
    generalize upd H hd (.lst (L5 hc f i r (n + 1))) = H1 at *
    refine ⟨_, rfl, _, _, 3, .int r, rfl, rfl, SqL.of g1, rfl, ?_⟩
    refine ⟨_, rfl, _, _, 1, .int f, rfl, rfl, SqL.of g1, rfl, ?_⟩
    have mdv : ∀ a : Int, CDivN a m := fun a => ⟨by omega, by omega⟩
    have mne : ∀ a : Int, (fun _ j => j ≠ 0) a m := fun a => by show m ≠ 0; omega
    have K1 : ∀ a : Int, 0 ≤ a.fmod m ∧ a.fmod m < m := fun a => fmod_b a (by omega)
    refine ⟨_, rfl, _, _, rfl, rfl, _, rfl, ?_⟩
    by_cases c : 0 < r
    · rw [show decide (0 < r) = true from decide_eq_true c]
      refine iteT ⟨_, rfl, _, rfl, _, _, rfl, rfl, mdv r, _, rfl, hd, _, 3, 3, rfl, rfl, g1, rfl, ?_⟩
      refine ⟨_, rfl, _, rfl, _, _, rfl, rfl, mne r, ?_⟩
      have d := fdiv_nn (a := r) (b := m) hr (by omega)
      exact k _ _ (K1 r).1 (K1 r).2 (k1.set (by simp)) ⟨xs, f, i, r.fdiv m, n + 1, upd_same, upd_far (Ne.symm hne) g2, hx, hf, hi, d, by omega, by omega⟩
    · rw [show decide (0 < r) = false from decide_eq_false c]
      refine iteF ?_
      refine ⟨_, rfl, _, _, 2, .int i, rfl, rfl, SqL.of g1, rfl, ?_⟩
      refine ⟨_, rfl, _, _, 0, .ref hc, rfl, rfl, SqL.of g1, rfl, _, _, rfl, .inl (SqL.of g2), _, _, rfl, rfl, _, rfl, ?_⟩
      -- what is made of cell, fold and count
      have lx : (((ivs xs).length : Nat) : Int) = xs.length := by simp
      by_cases ci : i < xs.length
      · rw [show decide (i < (((ivs xs).length : Nat) : Int)) = true from decide_eq_true (by rw [lx]; exact ci)]
        obtain ⟨cell, ec⟩ : ∃ cell, at_ xs i = cell := ⟨_, rfl⟩
        refine iteT ⟨_, rfl, _, _, 0, .ref hc, rfl, rfl, SqL.of g1, rfl, _, rfl, _, _, 2, .int i, rfl, rfl, SqL.of g1, rfl, _, _, i, _, rfl, rfl, SqL.of g2, at_ivs hi ci, ?_⟩
        rw [ec]
        refine ⟨_, rfl, hd, _, 2, .int i, rfl, rfl, g1, by omega, rfl, _, _, rfl, rfl, hd, _, 2, 2, rfl, rfl, g1, rfl, ?_⟩
        have e6 : (L5 hc f i r (n + 1)).set 2 (.int (i + 1)) = L5 hc f (i + 1) r (n + 1) := rfl
        rw [e6]
        have j1 : upd H1 hd (.lst (L5 hc f (i + 1) r (n + 1))) hd = some (.lst (L5 hc f (i + 1) r (n + 1))) := upd_same
        have j2 : upd H1 hd (.lst (L5 hc f (i + 1) r (n + 1))) hc = some (.lst (ivs xs)) := upd_far (Ne.symm hne) g2
        have k2 : Kp [hd] H (upd H1 hd (.lst (L5 hc f (i + 1) r (n + 1)))) := k1.set (by simp)
        generalize upd H1 hd (.lst (L5 hc f (i + 1) r (n + 1))) = H2 at *
        refine ⟨_, rfl, _, _, rfl, rfl, ⟨by decide, by decide, by decide⟩, _, _, rfl, rfl, _, rfl, ?_⟩
        by_cases cc : (10 : Int) ^ (18 : Int).toNat ≤ cell
        · rw [show decide ((10 : Int) ^ (18 : Int).toNat ≤ cell) = true from decide_eq_true cc]
          refine iteT ⟨_, rfl, _, rfl, _, _, rfl, rfl, mdv cell, _, rfl, hd, _, 3, 3, rfl, rfl, j1, rfl, ?_⟩
          refine ⟨_, rfl, _, rfl, _, _, rfl, rfl, mne cell, ?_⟩
          have c0 : 0 ≤ cell := Int.le_trans (by decide) cc
          have d := fdiv_nn (a := cell) (b := m) c0 (by omega)
          exact k _ _ (K1 _).1 (K1 _).2 (k2.set (by simp)) ⟨xs, f, i + 1, cell.fdiv m, n + 1, upd_same, upd_far (Ne.symm hne) j2, hx, hf, by omega, d, by omega, by omega⟩
        · rw [show decide ((10 : Int) ^ (18 : Int).toNat ≤ cell) = false from decide_eq_false cc]
          exact iteF (draw_tail rfl m1 hx hf hr hn0 hn1 hN k (by omega) k2 j1 j2)
      · rw [show decide (i < (((ivs xs).length : Nat) : Int)) = false from decide_eq_false (by rw [lx]; exact ci)]
        exact iteF (draw_tail rfl m1 hx hf hr hn0 hn1 hN k hi k1 g1 g2)
theorem good_law_draw (T : Txt K mg) : Good P w K mg base 1 (He.ga K "_law_draw") [] (sp_draw K) := by
  obtain ⟨fd, F⟩ := T.d__law_draw
  exact ⟨⟨fd, _, [], ok_law_draw T F, F.bindsN fun _ _ _ _ _ _ us hl => match us, hl with | [_, _], _ => rfl, .nil⟩, F.kp⟩
end
end HB


namespace HB
open PySem PySem.Spec PyProof.Rows L2
local macro_rules | `(tactic| walk_at "ne") => `(tactic| first | assumption | (apply Ne.symm; assumption) | exact ne_of_none (by assumption) (by assumption) | exact ne_new (by assumption) (by assumption) | (intro q; cases q; done))
local macro_rules | `(tactic| walk_at "hp") => `(tactic| first
  | assumption
  | exact upd_same
  | (refine upd_keep ?_ (by assumption); walk_at "hp")
  | (refine upd_far (by walk_at "ne") ?_; walk_at "hp")
  | (refine Same.get (by assumption) ?_; walk_at "hp")
  | (refine Kp.get (by assumption) ?_ (notin1 (by walk_at "ne")); walk_at "hp"))
local macro_rules | `(tactic| walk_at "same") => `(tactic| first
  | assumption
  | exact Same.refl _
  | (refine Same.new ?_ (by assumption); walk_at "same")
  | (refine Same.trans ?_ (by assumption); walk_at "same"))
/-- one row of a reading -/
local macro_rules | `(tactic| walk_at "r1") => `(tactic| first
  | refine ⟨_, rfl, ?_⟩
  | refine ⟨_, _, rfl, rfl, ?_⟩
  | refine ⟨rfl, ?_⟩
  | refine ⟨_, _, _, _, _, rfl, (by walk_at "hp"), (by assumption), (by assumption), rfl, ?_⟩
  | refine ⟨sz_ (by decide), fun _ _ => ?_⟩)
local macro_rules | `(tactic| walk_at "rd") => `(tactic| repeat walk_at "r1")
section
variable {P : Program} {w : World} {K : PySem.W.Frag} {mg : Str → Option Value} {base : Heap}
theorem at_memV {xs : List V} {r : Int} (h0 : 0 ≤ r) (h1 : r < xs.length) : ∃ v, v ∈ xs ∧ atI xs r = some v := by
  obtain ⟨n, rfl⟩ := Int.eq_ofNat_of_zero_le h0
  have hn : n < xs.length := by omega
  exact ⟨xs[n], List.getElem_mem hn, atI_nat (by simp)⟩
theorem at_memI {is : List Int} {r : Int} (h0 : 0 ≤ r) (h1 : r < is.length) : ∃ i, i ∈ is ∧ atI (ivs is) r = some (.int i) := by
  obtain ⟨v, hv, e⟩ := at_memV (xs := ivs is) h0 (by simpa using h1)
  obtain ⟨i, hi, rfl⟩ := List.mem_map.mp hv
  exact ⟨i, hi, e⟩
theorem ten9 : (10 : Int) ^ (9 : Int).toNat = 1000000000 := by decide
theorem ten5 : (10 : Int) ^ (5 : Int).toNat = 100000 := by decide
theorem inC_mk {i : Int} (h0 : 0 ≤ i) (h1 : i ≤ 1000000000) : inC i = true := inC_of h0 h1
def sp_content (K : PySem.W.Frag) : Sp := fun vs H Q _ => ∃ (hd : Addr), vs = [.ref hd] ∧ ∃ hc N, HaI H hd hc N ∧ hd ≠ hc ∧ N ≤ 999999900 ∧ ∀ r H', inC r = true → Kp [hd] H H' → HaI H' hd hc (N + 3) → Q (.int r) H'
def nm_law_content : List Str := ["_law_hand_here", "_law_way", "_law_few"]
theorem sc_law_content : FnScope nm_law_content ["_law_hand_here"] (defScope s_law_content) := ⟨rfl, rfl, rfl, by decide +kernel, rfl, by decide +kernel, by decide +kernel⟩
theorem ok_law_content (T : Txt K mg) {f : Addr} {fd : FuncData} {dv : List V} {kw : List (Str × V)} (F : FunD K "_law_content" "_law_content" (defArgs s_law_content) (defBody s_law_content) (defScope s_law_content) dv kw f fd) : FnOk P w K mg base (CXr P w) 2 f fd ["_law_hand_here"] (sp_content K) := by
  refine F.ok sc_law_content (fun vs H Q E h => ?_) (fun cdv A outer s H vs Q E hr h => ?_)
  · obtain ⟨hd, rfl, _⟩ := h
    rfl
  · obtain ⟨hd, rfl, h⟩ := h
    refine ⟨_, (pss_cons (ps_set (i := 1) sc_law_content.nd rfl (Or.inl rfl) (pe_callG (good_law_draw T) (hr.mono (by decide)) T.g__law_draw hx_cx (pa_cons (pv 0) (pa_cons pe_int pa_nil)))) (pss_cons (ps_set (i := 2) sc_law_content.nd rfl (Or.inl rfl) (pe_callG (good_law_draw T) (hr.mono (by decide)) T.g__law_draw hx_cx (pa_cons (pv 0) (pa_cons (pe_ix ix_list (pe_lst (pa_cons pe_int (pa_cons pe_int (pa_cons pe_int (pa_cons pe_int pa_nil))))) (pv 1) (fun _ _ => rfl)) pa_nil)))) (pss_cons (ps_if (pt_cmpR op_eq (pv 1) pe_int (nomark _)) (pss_one (ps_ret (pe_op op_sub (pe_op op_pow pe_int pe_int) (pv 2)))) pss_nil) (pss_cons (ps_if (pt_cmpR op_eq (pv 1) pe_int (nomark _)) (pss_one (ps_ret (pe_op op_modN (pe_op op_add (pe_op op_mul (pv 2) pe_int) (pe_callG (good_law_draw T) (hr.mono (by decide)) T.g__law_draw hx_cx (pa_cons (pv 0) (pa_cons pe_int pa_nil)))) (pe_op op_add (pe_op op_pow pe_int pe_int) pe_int)))) pss_nil) (pss_one (ps_ret (pv 2))))))), ?_⟩
    obtain ⟨hc, N, y0, hne, hN, k⟩ := h
    refine ⟨_, rfl, hd, _, rfl, hc, _, y0, hne, by omega, by omega, by omega, fun r1 H1 a1 b1 k1 y1 => ?_⟩
    refine ⟨_, rfl, sz_ (by simp), fun p hp => ?_⟩
    have s1 := Same.new (o := .lst (ivs [3, 2, 100, 100000])) (Same.refl H1) hp
    obtain ⟨i, hi, ei⟩ := at_memI (is := [3, 2, 100, 100000]) a1 (by simp; omega)
    have hi : 1 ≤ i ∧ i ≤ 100000 := by
      simp only [List.mem_cons, List.not_mem_nil, or_false] at hi
      omega
    refine ⟨_, rfl, p, _, r1, .int i, rfl, rfl, SqL.of upd_same, ei, hd, _, rfl, hc, _, y1.same s1, hne, by omega, by omega, by omega, fun r2 H2 a2 b2 k2 y2 => ?_⟩
    have kk : Kp [hd] H H2 := k1.trans ((Kp.same s1).trans k2)
    refine ⟨_, rfl, rfl, _, rfl, ?_⟩
    by_cases c1 : r1 = 1
    · rw [dI_t c1]
      refine iteT ⟨_, _, rfl, rfl, ⟨by decide, by decide, by decide⟩, _, rfl, _, _, rfl, rfl, ?_⟩
      rw [ten9]
      exact k _ _ (inC_mk (by omega) (by omega)) kk (y2.mono (by omega))
    · rw [dI_f c1]
      refine iteF ⟨_, rfl, rfl, _, rfl, ?_⟩
      by_cases c3 : r1 = 3
      · rw [dI_t c3]
        refine iteT ⟨_, rfl, _, _, rfl, rfl, .inr ⟨by decide, by decide⟩, _, rfl, hd, _, rfl, hc, _, y2, hne, by omega, by omega, by omega, fun r3 H3 a3 b3 k3 y3 => ?_⟩
        refine ⟨_, _, rfl, rfl, _, _, rfl, rfl, ⟨by decide, by decide, by decide⟩, _, _, rfl, rfl, _, _, rfl, rfl, (by rw [ten9]; show (1000000000 + 1 : Int) ≠ 0; decide), ?_⟩
        rw [ten9]
        have b := fmod_b (r2 * 10001 + r3) (b := 1000000000 + 1) (by omega)
        exact k _ _ (inC_mk b.1 (by omega)) (kk.trans k3) (y3.mono (by omega))
      · rw [dI_f c3]
        exact iteF ⟨_, rfl, k _ _ (inC_mk a2 (by omega)) kk (y2.mono (by omega))⟩
theorem good_law_content (T : Txt K mg) : Good P w K mg base 2 (He.ga K "_law_content") [] (sp_content K) := by
  obtain ⟨fd, F⟩ := T.d__law_content
  exact ⟨⟨fd, _, [], ok_law_content T F, F.bindsN fun _ _ _ _ _ _ us hl => match us, hl with | [_], _ => rfl, .nil⟩, F.kp⟩
def sp_spot (K : PySem.W.Frag) : Sp := fun vs H Q _ => ∃ (hd : Addr) (n : Int), vs = [.ref hd, .int n] ∧ ∃ hc N, HaI H hd hc N ∧ hd ≠ hc ∧ N ≤ 999999900 ∧ 1 ≤ n ∧ n ≤ 60 ∧ ∀ r H', -1000000000 ≤ r → r ≤ 1000000000 → Kp [hd] H H' → HaI H' hd hc (N + 5) → Q (.int r) H'
def nm_law_spot : List Str := ["_law_hand_here", "_law_many", "_law_way"]
theorem sc_law_spot : FnScope nm_law_spot ["_law_hand_here", "_law_many"] (defScope s_law_spot) := ⟨rfl, rfl, rfl, by decide +kernel, rfl, by decide +kernel, by decide +kernel⟩
theorem ok_law_spot (T : Txt K mg) {f : Addr} {fd : FuncData} {dv : List V} {kw : List (Str × V)} (F : FunD K "_law_spot" "_law_spot" (defArgs s_law_spot) (defBody s_law_spot) (defScope s_law_spot) dv kw f fd) : FnOk P w K mg base (CXr P w) 2 f fd ["_law_hand_here", "_law_many"] (sp_spot K) := by
  refine F.ok sc_law_spot (fun vs H Q E h => ?_) (fun cdv A outer s H vs Q E hr h => ?_)
  · obtain ⟨hd, n, rfl, _⟩ := h
    rfl
  · obtain ⟨hd, n, rfl, h⟩ := h
    refine ⟨_, (pss_cons (ps_set (i := 2) sc_law_spot.nd rfl (Or.inl rfl) (pe_callG (good_law_draw T) (hr.mono (by decide)) T.g__law_draw hx_cx (pa_cons (pv 0) (pa_cons pe_int pa_nil)))) (pss_cons (ps_if (pt_cmpR op_lt (pv 2) pe_int (nomark _)) (pss_one (ps_ret (pe_callG (good_law_draw T) (hr.mono (by decide)) T.g__law_draw hx_cx (pa_cons (pv 0) (pa_cons (pv 1) pa_nil))))) pss_nil) (pss_cons (ps_if (pt_cmpR op_lt (pv 2) pe_int (nomark _)) (pss_one (ps_ret (pe_ix ix_list (pe_lst (pa_cons pe_int (pa_cons (pe_op op_sub (pv 1) pe_int) pa_nil))) (pe_op op_sub (pv 2) pe_int) (fun _ _ => rfl)))) pss_nil) (pss_cons (ps_if (pt_cmpR op_eq (pv 2) pe_int (nomark _)) (pss_one (ps_ret (pe_ix ix_list (pe_lst (pa_cons (pe_op op_sub (pe_un un_neg pe_int) (pe_callG (good_law_draw T) (hr.mono (by decide)) T.g__law_draw hx_cx (pa_cons (pv 0) (pa_cons pe_int pa_nil)))) (pa_cons (pe_op op_add (pv 1) (pe_callG (good_law_draw T) (hr.mono (by decide)) T.g__law_draw hx_cx (pa_cons (pv 0) (pa_cons pe_int pa_nil)))) pa_nil))) (pe_callG (good_law_draw T) (hr.mono (by decide)) T.g__law_draw hx_cx (pa_cons (pv 0) (pa_cons pe_int pa_nil))) (fun _ _ => rfl)))) pss_nil) (pss_one (ps_ret (pe_ix ix_list (pe_lst (pa_cons (pe_op op_sub (pe_op op_pow pe_int pe_int) (pe_callG (good_law_draw T) (hr.mono (by decide)) T.g__law_draw hx_cx (pa_cons (pv 0) (pa_cons pe_int pa_nil)))) (pa_cons (pe_op op_sub (pe_callG (good_law_draw T) (hr.mono (by decide)) T.g__law_draw hx_cx (pa_cons (pv 0) (pa_cons pe_int pa_nil))) (pe_op op_pow pe_int pe_int)) (pa_cons (pe_callG (good_law_draw T) (hr.mono (by decide)) T.g__law_draw hx_cx (pa_cons (pv 0) (pa_cons (pv 1) pa_nil))) pa_nil)))) (pe_callG (good_law_draw T) (hr.mono (by decide)) T.g__law_draw hx_cx (pa_cons (pv 0) (pa_cons pe_int pa_nil))) (fun _ _ => rfl)))))))), ?_⟩
    obtain ⟨hc, N, y0, hne, hN, n1, n2, k⟩ := h
    refine ⟨_, rfl, hd, _, rfl, hc, _, y0, hne, by omega, by omega, by omega, fun r1 H1 a1 b1 k1 y1 => ?_⟩
    refine ⟨_, rfl, _, _, rfl, rfl, _, rfl, ?_⟩
    by_cases c1 : r1 < 4
    · rw [show decide (r1 < 4) = true from decide_eq_true c1]
      refine iteT ⟨_, rfl, _, rfl, hd, _, rfl, hc, _, y1, hne, by omega, by omega, by omega, fun r2 H2 a2 b2 k2 y2 => ?_⟩
      exact k _ _ (by omega) (by omega) (k1.trans k2) (y2.mono (by omega))
    · rw [show decide (r1 < 4) = false from decide_eq_false c1]
      refine iteF ⟨_, rfl, _, _, rfl, rfl, _, rfl, ?_⟩
      by_cases c2 : r1 < 6
      · rw [show decide (r1 < 6) = true from decide_eq_true c2]
        refine iteT ⟨_, rfl, _, _, rfl, rfl, sz_ (by simp), fun p hp => ?_⟩
        have s1 := Same.new (o := .lst [.int 0, .int (n - 1)]) (Same.refl H1) hp
        obtain ⟨i, hi, ei⟩ := at_memI (is := [0, n - 1]) (r := r1 - 4) (by omega) (by simp; omega)
        have hi : 0 ≤ i ∧ i ≤ 60 := by
          simp only [List.mem_cons, List.not_mem_nil, or_false] at hi
          omega
        exact ⟨_, rfl, _, _, rfl, rfl, p, _, _, .int i, rfl, rfl, SqL.of upd_same, ei, k _ _ (by omega) (by omega) (k1.trans (Kp.same s1)) ((y1.same s1).mono (by omega))⟩
      · rw [show decide (r1 < 6) = false from decide_eq_false c2]
        refine iteF ⟨_, rfl, rfl, _, rfl, ?_⟩
        by_cases c3 : r1 = 6
        · rw [dI_t c3]
          refine iteT ⟨_, rfl, _, rfl, hd, _, rfl, hc, _, y1, hne, by omega, by omega, by omega, fun r2 H2 a2 b2 k2 y2 => ?_⟩
          refine ⟨_, _, rfl, rfl, _, rfl, _, rfl, hd, _, rfl, hc, _, y2, hne, by omega, by omega, by omega, fun r3 H3 a3 b3 k3 y3 => ?_⟩
          refine ⟨_, _, rfl, rfl, sz_ (by simp), fun p hp => ?_⟩
          have s3 := Same.new (o := .lst [.int (-1 - r2), .int (n + r3)]) (Same.refl H3) hp
          refine ⟨_, rfl, hd, _, rfl, hc, _, y3.same s3, hne, by omega, by omega, by omega, fun r4 H4 a4 b4 k4 y4 => ?_⟩
          obtain ⟨i, hi, ei⟩ := at_memI (is := [-1 - r2, n + r3]) (r := r4) (by omega) (by simp; omega)
          have hi : -1000 ≤ i ∧ i ≤ 1000 := by
            simp only [List.mem_cons, List.not_mem_nil, or_false] at hi
            omega
          refine ⟨p, _, _, .int i, rfl, rfl, SqL.of (k4 _ _ (notin1 ?_) upd_same), ei, k _ _ (by omega) (by omega) (((k1.trans k2).trans (k3.trans (Kp.same s3))).trans k4) (y4.mono (by omega))⟩
          obtain ⟨_, _, _, _, _, e, _⟩ := y3.ex
          exact Ne.symm (ne_of_none e hp)
        · rw [dI_f c3]
          refine iteF ⟨_, _, rfl, rfl, ⟨by decide, by decide, by decide⟩, _, rfl, hd, _, rfl, hc, _, y1, hne, by omega, by omega, by omega, fun r2 H2 a2 b2 k2 y2 => ?_⟩
          refine ⟨_, _, rfl, rfl, _, rfl, hd, _, rfl, hc, _, y2, hne, by omega, by omega, by omega, fun r3 H3 a3 b3 k3 y3 => ?_⟩
          refine ⟨_, _, rfl, rfl, ⟨by decide, by decide, by decide⟩, _, _, rfl, rfl, _, rfl, _, rfl, hd, _, rfl, hc, _, y3, hne, by omega, by omega, by omega, fun r4 H4 a4 b4 k4 y4 => ?_⟩
          refine ⟨sz_ (by simp), fun p hp => ?_⟩
          rw [ten9]
          have s4 := Same.new (o := .lst [.int (1000000000 - r2), .int (r3 - 1000000000), .int r4]) (Same.refl H4) hp
          refine ⟨_, rfl, hd, _, rfl, hc, _, y4.same s4, hne, by omega, by omega, by omega, fun r5 H5 a5 b5 k5 y5 => ?_⟩
          obtain ⟨i, hi, ei⟩ := at_memI (is := [1000000000 - r2, r3 - 1000000000, r4]) (r := r5) (by omega) (by simp; omega)
          have hi : -1000000000 ≤ i ∧ i ≤ 1000000000 := by
            simp only [List.mem_cons, List.not_mem_nil, or_false] at hi
            omega
          refine ⟨p, _, _, .int i, rfl, rfl, SqL.of (k5 _ _ (notin1 ?_) upd_same), ei, k _ _ (by omega) (by omega) ((((k1.trans k2).trans k3).trans (k4.trans (Kp.same s4))).trans k5) (y5.mono (by omega))⟩
          obtain ⟨_, _, _, _, _, e, _⟩ := y4.ex
          exact Ne.symm (ne_of_none e hp)
theorem good_law_spot (T : Txt K mg) : Good P w K mg base 2 (He.ga K "_law_spot") [] (sp_spot K) := by
  obtain ⟨fd, F⟩ := T.d__law_spot
  exact ⟨⟨fd, _, [], ok_law_spot T F, F.bindsN fun _ _ _ _ _ _ us hl => match us, hl with | [_, _], _ => rfl, .nil⟩, F.kp⟩
end
end HB


namespace HB
open PySem PySem.Spec PyProof.Rows L2
local macro_rules | `(tactic| walk_at "ne") => `(tactic| first | assumption | (apply Ne.symm; assumption) | exact ne_of_none (by assumption) (by assumption) | exact ne_new (by assumption) (by assumption) | (intro q; cases q; done))
local macro_rules | `(tactic| walk_at "hp") => `(tactic| first
  | assumption
  | exact upd_same
  | (refine upd_keep ?_ (by assumption); walk_at "hp")
  | (refine upd_far (by walk_at "ne") ?_; walk_at "hp")
  | (refine Same.get (by assumption) ?_; walk_at "hp")
  | (refine Kp.get (by assumption) ?_ (notin1 (by walk_at "ne")); walk_at "hp"))
local macro_rules | `(tactic| walk_at "same") => `(tactic| first
  | assumption
  | exact Same.refl _
  | (refine Same.new ?_ (by assumption); walk_at "same")
  | (refine Same.trans ?_ (by assumption); walk_at "same"))
/-- one row of a reading -/
local macro_rules | `(tactic| walk_at "r1") => `(tactic| first
  | refine ⟨_, rfl, ?_⟩
  | refine ⟨_, _, rfl, rfl, ?_⟩
  | refine ⟨rfl, ?_⟩
  | refine ⟨_, _, _, _, _, rfl, (by walk_at "hp"), (by assumption), (by assumption), rfl, ?_⟩
  | refine ⟨sz_ (by decide), fun _ _ => ?_⟩)
local macro_rules | `(tactic| walk_at "rd") => `(tactic| repeat walk_at "r1")
section
variable {P : Program} {w : World} {K : PySem.W.Frag} {mg : Str → Option Value} {base : Heap}
def sp_cells (K : PySem.W.Frag) : Sp := fun vs H Q _ => ∃ (hd : Addr) (most : Int), vs = [.ref hd, .int most] ∧ ∃ hc N, HaI H hd hc N ∧ hd ≠ hc ∧ N ≤ 999999000 ∧ 1 ≤ most ∧ most ≤ 24 ∧
  ∀ p cs H', H p = none → Kp [hd] H H' → HaI H' hd hc (N + 30) → H' p = some (.lst (ivs cs)) → 1 ≤ cs.length → cs.length ≤ 24 → (∀ c ∈ cs, inC c = true) → Q (.ref p) H'
def nm_law_cells : List Str := ["_law_hand_here", "_law_most", "_law_few", "_law_k"]
theorem sc_law_cells : FnScope nm_law_cells ["_law_hand_here", "_law_most"] (defScope s_law_cells) := ⟨rfl, rfl, rfl, by decide +kernel, rfl, by decide +kernel, by decide +kernel⟩
theorem ok_law_cells (T : Txt K mg) {f : Addr} {fd : FuncData} {dv : List V} {kw : List (Str × V)} (F : FunD K "_law_cells" "_law_cells" (defArgs s_law_cells) (defBody s_law_cells) (defScope s_law_cells) dv kw f fd) : FnOk P w K mg base (CXr P w) 2 f fd ["_law_hand_here", "_law_most"] (sp_cells K) := by
  refine F.ok sc_law_cells (fun vs H Q E h => ?_) (fun cdv A outer s H vs Q E hr h => ?_)
  · obtain ⟨hd, most, rfl, _⟩ := h
    rfl
  · obtain ⟨hd, most, rfl, h⟩ := h
    refine ⟨_, (pss_cons (ps_set (i := 2) sc_law_cells.nd rfl (Or.inr rfl) (pe_ix ix_list (pe_lst (pa_cons pe_int (pa_cons (pe_op op_pow pe_int pe_int) pa_nil))) (pe_callG (good_law_draw T) (hr.mono (by decide)) T.g__law_draw hx_cx (pa_cons (pv 0) (pa_cons pe_int pa_nil))) (fun _ _ => rfl))) (pss_one (ps_ret (pe_lc (own := [("_law_k", 3)]) (g := gName 3) (tt := tYes) rfl sc_law_cells.nd (pi_range1 rfl T.f_range (pa_cons (pe_op op_add pe_int (pe_callG (good_law_draw T) (hr.mono (by decide)) T.g__law_draw hx_cx (pa_cons (pv 0) (pa_cons (pv 1) pa_nil)))) pa_nil)) (blkOk_by (N := nm_law_cells) (sc := defScope s_law_cells) (by decide +kernel)) (fun _ _ _ _ _ => (pg_name (i := 3) sc_law_cells.nd rfl (Or.inl rfl))) (fun _ _ _ _ _ => pts_nil) (fun _ _ _ _ _ => (pe_callG (good_law_draw T) (hr.mono (by decide)) T.g__law_draw passN (pa_cons (pv 0) (pa_cons (pv 2) pa_nil)))))))), ?_⟩
    obtain ⟨hc, N, y0, hne, hN, m1, m2, k⟩ := h
    obtain ⟨_, _, _, _, _, hhd, hhc, _⟩ := id y0.ex
    refine ⟨_, _, rfl, rfl, ⟨by decide, by decide, by decide⟩, sz_ (by simp), fun p hp => ?_⟩
    have s0 := Same.new (o := .lst [.int 3, .int ((10 : Int) ^ (5 : Int).toNat)]) (Same.refl H) hp
    refine ⟨_, rfl, hd, _, rfl, hc, _, y0.same s0, hne, by omega, by omega, by omega, fun r1 H1 a1 b1 k1 y1 => ?_⟩
    obtain ⟨few, hf, ef⟩ := at_memI (is := [3, (10 : Int) ^ (5 : Int).toNat]) (r := r1) (by omega) (by simp; omega)
    have hf : 1 ≤ few ∧ few ≤ 100000 := by
      simp only [List.mem_cons, List.not_mem_nil, or_false, ten5] at hf
      omega
    refine ⟨p, _, _, .int few, rfl, rfl, SqL.of (k1 _ _ (notin1 (Ne.symm (ne_of_none hhd hp))) upd_same), ef, ?_⟩
    refine ⟨_, rfl, _, rfl, hd, _, rfl, hc, _, y1, hne, by omega, by omega, by omega, fun r2 H2 a2 b2 k2 y2 => ?_⟩
    refine ⟨_, _, rfl, rfl, _, rfl, by omega, by omega, fun D hD => ?_⟩
    have kk : Kp [hd] H H2 := ((Kp.same s0).trans k1).trans k2
    obtain ⟨_, _, _, _, _, hhd2, _⟩ := id y2.ex
    have hD0 : H D = none := by
      cases e : H D with
      | none => rfl
      | some o =>
        by_cases z : D = hd
        · rw [z, hhd2] at hD
          cases hD
        · rw [kk _ _ (notin1 z) e] at hD
          cases hD
    have ndD : hd ≠ D := ne_of_none hhd2 hD
    have sD := Same.new (o := .lst []) (Same.refl H2) hD
    refine lc_range (lo := 0) (n := (1 + r2).toNat) (fun i H3 => ∃ cs : List Int, cs.length = i ∧ Kp [hd] H H3 ∧ HaI H3 hd hc (N + 2 + (i : Nat)) ∧ H3 D = some (.lst (ivs cs)) ∧ ∀ c ∈ cs, inC c = true) ⟨[], rfl, kk.trans (Kp.same sD), (y2.same sD).mono (by omega), upd_same, by simp⟩ ?_ ?_
    · rintro i H3 hi ⟨cs, e1, q1, q2, q3, q4⟩
      refine ⟨rfl, _, rfl, _, rfl, hd, _, rfl, hc, _, q2, hne, by omega, by omega, by omega, fun r4 H4 a4 b4 k4 y4 => ?_⟩
      have d4 := k4 _ _ (notin1 (Ne.symm ndD)) q3
      refine ⟨ivs cs, d4, by rw [List.length_map, e1]; exact Nat.lt_of_le_of_lt (show i ≤ 100 by omega) (by decide), cs ++ [r4], by rw [List.length_append, e1]; rfl, ?_, ?_, ?_, ?_⟩
      · intro b o nb e
        rw [upd_ne (ne_of_none e hD0)]
        exact (q1.trans k4) b o nb e
      · exact (y4.kp (S := [D]) (Kp.refl.set (by simp)) (notin1 ndD) (notin1 (ne_of_none hhc hD0))).mono (by omega)
      · rw [upd_same]
        show some (HO.lst (List.map V.int cs ++ [V.int r4])) = _
        rw [show ivs (cs ++ [r4]) = List.map V.int cs ++ [V.int r4] from List.map_append]
      · intro c hc'
        rcases List.mem_append.mp hc' with z | z
        · exact q4 c z
        · rw [List.mem_singleton.mp z]
          exact inC_mk a4 (by omega)
    · rintro H3 ⟨cs, e1, q1, q2, q3, q4⟩
      exact k D cs H3 hD0 q1 (q2.mono (by omega)) q3 (by omega) (by omega) q4
theorem good_law_cells (T : Txt K mg) : Good P w K mg base 2 (He.ga K "_law_cells") [] (sp_cells K) := by
  obtain ⟨fd, F⟩ := T.d__law_cells
  exact ⟨⟨fd, _, [], ok_law_cells T F, F.bindsN fun _ _ _ _ _ _ us hl => match us, hl with | [_, _], _ => rfl, .nil⟩, F.kp⟩
theorem HaI.hd {H : Hp} {hd hc : Addr} {N : Int} (y : HaI H hd hc N) : ∃ xs, H hd = some (.lst xs) := by
  obtain ⟨_, _, _, _, _, a, _⟩ := y.ex
  exact ⟨_, a⟩
theorem HaI.hc {H : Hp} {hd hc : Addr} {N : Int} (y : HaI H hd hc N) : ∃ xs, H hc = some (.lst xs) := by
  obtain ⟨_, _, _, _, _, _, a, _⟩ := y.ex
  exact ⟨_, a⟩
theorem HaI.nh {H : Hp} {hd hc p : Addr} {N : Int} (y : HaI H hd hc N) (h : H p = none) : hd ≠ p := by
  obtain ⟨_, e⟩ := y.hd
  exact ne_of_none e h
theorem HaI.nc {H : Hp} {hd hc p : Addr} {N : Int} (y : HaI H hd hc N) (h : H p = none) : hc ≠ p := by
  obtain ⟨_, e⟩ := y.hc
  exact ne_of_none e h
/-- what was not there ahead of a draw was not there earlier -/
theorem HaI.was {H H' : Hp} {hd hc p : Addr} {N : Int} (y : HaI H' hd hc N) (k : Kp [hd] H H') (h : H' p = none) : H p = none := by
  cases e : H p with
  | none => rfl
  | some o =>
    rw [k _ _ (notin1 (Ne.symm (y.nh h))) e] at h
    cases h
def lvOf (z : Str) (l : Lv) : Prop := z = l.nm
theorem fold_op (n : Nat) : (List.replicate n [V.str "open"]).flatten = lvs (List.replicate n .op) := rep_open n
def sp_lvs (K : PySem.W.Frag) : Sp := fun vs H Q _ => ∃ (hd : Addr) (m : Int), vs = [.ref hd, .int m] ∧ ∃ hc N, HaI H hd hc N ∧ hd ≠ hc ∧ N ≤ 999999000 ∧ 1 ≤ m ∧ m ≤ 60 ∧
  ∀ p lv H', H p = none → Kp [hd] H H' → HaI H' hd hc (N + 30) → H' p = some (.lst (lvs lv)) → (lv.length : Int) = m → Q (.ref p) H'
theorem word_lv {r : Int} (h0 : 0 ≤ r) (h1 : r < 4) : ∃ l : Lv, atI [V.str "look", V.str "shut", V.str "look", V.str "open"] r = some l.v := by
  obtain ⟨v, hv, e⟩ := at_memV (xs := [V.str "look", V.str "shut", V.str "look", V.str "open"]) h0 (by simpa using h1)
  simp only [List.mem_cons, List.not_mem_nil, or_false] at hv
  rcases hv with z | z | z | z <;> subst z
  · exact ⟨.lk, e⟩
  · exact ⟨.sh, e⟩
  · exact ⟨.lk, e⟩
  · exact ⟨.op, e⟩
def nm_law_leaves : List Str := ["_law_hand_here", "_law_many", "_law_leaves_here", "_law_k", "_law_word", "_law_low", "_law_cell"]
theorem sc_law_leaves : FnScope nm_law_leaves ["_law_hand_here", "_law_many"] (defScope s_law_leaves) := ⟨rfl, rfl, rfl, by decide +kernel, rfl, by decide +kernel, by decide +kernel⟩
theorem ok_law_leaves (T : Txt K mg) {f : Addr} {fd : FuncData} {dv : List V} {kw : List (Str × V)} (F : FunD K "_law_leaves" "_law_leaves" (defArgs s_law_leaves) (defBody s_law_leaves) (defScope s_law_leaves) dv kw f fd) : FnOk P w K mg base (CXr P w) 2 f fd ["_law_hand_here", "_law_many"] (sp_lvs K) := by
  refine F.ok sc_law_leaves (fun vs H Q E h => ?_) (fun cdv A outer s H vs Q E hr h => ?_)
  · obtain ⟨hd, m, rfl, _⟩ := h
    rfl
  · obtain ⟨hd, m, rfl, h⟩ := h
    refine ⟨_, (pss_cons (ps_set (i := 2) sc_law_leaves.nd rfl (Or.inl rfl) (pe_op op_rep (pe_lst (pa_cons pe_str pa_nil)) (pv 1))) (pss_cons (ps_for po_cx rfl (pi_range1 rfl T.f_range (pa_cons (pe_ix ix_list (pe_lst (pa_cons pe_int (pa_cons pe_int (pa_cons pe_int (pa_cons pe_int (pa_cons pe_int pa_nil)))))) (pe_callG (good_law_draw T) (hr.mono (by decide)) T.g__law_draw hx_cx (pa_cons (pv 0) (pa_cons pe_int pa_nil))) (fun _ _ => rfl)) pa_nil)) (pg_name (i := 3) sc_law_leaves.nd rfl (Or.inl rfl)) (pss_cons (ps_set (i := 4) sc_law_leaves.nd rfl (Or.inl rfl) (pe_ix ix_list (pe_lst (pa_cons pe_str (pa_cons pe_str (pa_cons pe_str (pa_cons pe_str pa_nil))))) (pe_callG (good_law_draw T) (hr.mono (by decide)) T.g__law_draw hx_cx (pa_cons (pv 0) (pa_cons pe_int pa_nil))) (fun _ _ => rfl))) (pss_cons (ps_set (i := 5) sc_law_leaves.nd rfl (Or.inl rfl) (pe_callG (good_law_draw T) (hr.mono (by decide)) T.g__law_draw hx_cx (pa_cons (pv 0) (pa_cons (pv 1) pa_nil)))) (pss_one (ps_for po_cx rfl (pi_range2 rfl T.f_range (pa_cons (pv 5) (pa_cons (pe_op op_add (pv 5) (pe_callG (good_law_draw T) (hr.mono (by decide)) T.g__law_draw hx_cx (pa_cons (pv 0) (pa_cons (pe_op op_add (pe_op op_sub (pv 1) (pv 5)) pe_int) pa_nil)))) pa_nil))) (pg_name (i := 6) sc_law_leaves.nd rfl (Or.inl rfl)) (pss_one (ps_asg (pv 4) (pg_sub (pv 2) (pv 6) set_list)))))))) (pss_one (ps_ret (pv 2))))), ?_⟩
    obtain ⟨hc, N, y0, hne, hN, m1, m2, k⟩ := h
    refine ⟨sz_ (by simp), fun q hq => ?_⟩
    have s0 := Same.new (o := .lst [.str "open"]) (Same.refl H) hq
    refine ⟨_, rfl, q, _, _, rfl, rfl, upd_same, by omega, by omega, sz_ (by simp; omega), fun p hp => ?_⟩
    rw [fold_op]
    have s1 := Same.new (o := .lst (lvs (List.replicate m.toNat .op))) s0 hp
    have p1 : upd (upd H q (.lst [.str "open"])) p (.lst (lvs (List.replicate m.toNat .op))) p = some (.lst (lvs (List.replicate m.toNat .op))) := upd_same
    have hp0 := s0.free hp
    generalize upd (upd H q (.lst [.str "open"])) p (.lst (lvs (List.replicate m.toNat .op))) = H0 at *
    refine ⟨sz_ (by simp), fun r hr => ?_⟩
    have s2 := Same.new (o := .lst [.int 0, .int 0, .int 1, .int 2, .int 4]) (Same.refl H0) hr
    refine ⟨_, rfl, hd, _, rfl, hc, _, (y0.same s1).same s2, hne, by omega, by omega, by omega, fun r1 H1 a1 b1 k1 y1 => ?_⟩
    obtain ⟨n, hn, en⟩ := at_memI (is := [0, 0, 1, 2, 4]) (r := r1) (by omega) (by simp; omega)
    have hn : 0 ≤ n ∧ n ≤ 4 := by
      simp only [List.mem_cons, List.not_mem_nil, or_false] at hn
      omega
    refine ⟨r, _, _, .int n, rfl, rfl, SqL.of (k1 _ _ (notin1 (Ne.symm ((y0.same s1).nh hr))) upd_same), en, ?_⟩
    have npd : p ≠ hd := Ne.symm (y0.nh hp0)
    have K1 : Kp [hd] H H1 := (Kp.same s1).trans ((Kp.same s2).trans k1)
    refine ⟨n, rfl, by omega, by omega, for_range (lo := 0) (n := n.toNat) (fun i σ H2 => (∃ v3 v4 v5 v6 : Option V, σ = [some (.ref hd), some (.int m), some (.ref p), v3, v4, v5, v6]) ∧ Kp [hd] H H2 ∧ HaI H2 hd hc (N + 1 + 3 * (i : Nat)) ∧ ∃ lv : List Lv, H2 p = some (.lst (lvs lv)) ∧ (lv.length : Int) = m)
      ⟨⟨_, _, _, _, rfl⟩, K1, y1.mono (by omega), _, k1 _ _ (notin1 npd) (s2 _ _ p1), by simp; omega⟩ ?_ ?_⟩
    · rintro i σ H2 hi ⟨⟨v3, v4, v5, v6, rfl⟩, q1, y2, lv, q2, q3⟩
      refine ⟨sz_ (by simp), fun u hu => ?_⟩
      have s3 := Same.new (o := .lst [.str "look", .str "shut", .str "look", .str "open"]) (Same.refl H2) hu
      refine ⟨_, rfl, hd, _, rfl, hc, _, y2.same s3, hne, by omega, by omega, by omega, fun r3 H3 a3 b3 k3 y3 => ?_⟩
      obtain ⟨l, el⟩ := word_lv a3 b3
      refine ⟨u, _, _, l.v, rfl, rfl, SqL.of (k3 _ _ (notin1 (Ne.symm (y2.nh hu))) upd_same), el, ?_⟩
      refine ⟨_, rfl, _, rfl, hd, _, rfl, hc, _, y3, hne, by omega, by omega, by omega, fun r4 H4 a4 b4 k4 y4 => ?_⟩
      refine ⟨_, rfl, _, rfl, _, rfl, _, rfl, _, rfl, _, _, rfl, rfl, _, _, rfl, rfl, hd, _, rfl, hc, _, y4, hne, by omega, by omega, by omega, fun r5 H5 a5 b5 k5 y5 => ?_⟩
      have K5 : Kp [hd] H2 H5 := (Kp.same s3).trans (k3.trans (k4.trans k5))
      have p5 := K5 _ _ (notin1 npd) q2
      refine ⟨_, _, rfl, rfl, _, _, rfl, ⟨by omega, by omega, by omega, by omega⟩, for_range (lo := r4) (n := (r4 + r5 - r4).toNat) (fun j σ H6 => (∃ v6 : Option V, σ = [some (.ref hd), some (.int m), some (.ref p), some (.int (0 + (i : Nat))), some l.v, some (.int r4), v6]) ∧ Kp [p] H5 H6 ∧ ∃ lv : List Lv, H6 p = some (.lst (lvs lv)) ∧ (lv.length : Int) = m)
        ⟨⟨_, rfl⟩, Kp.refl, lv, p5, q3⟩ ?_ ?_⟩
      · rintro j σ H6 hj ⟨⟨v6, rfl⟩, q4, lv', q5, q6⟩
        refine ⟨_, rfl, _, rfl, _, rfl, p, _, _, _, rfl, rfl, q5, ixN_int (by omega) (by rw [List.length_map]; omega), ⟨_, rfl⟩, q4.set (by simp), lv'.set (r4 + (j : Nat)).toNat l, ?_, by rw [List.length_set]; exact q6⟩
        rw [upd_same, set_lvs]
      · rintro σ H6 ⟨⟨v6, rfl⟩, q4, lv', q5, q6⟩
        refine ⟨⟨_, _, _, _, rfl⟩, ?_, ?_, lv', q5, q6⟩
        · intro b o nb e
          refine q4 _ _ (notin1 (ne_of_none e hp0)) ((q1.trans K5) b o nb e)
        · exact (y5.kp q4 (notin1 (Ne.symm npd)) (notin1 (y0.nc hp0))).mono (by omega)
    · rintro σ H2 ⟨⟨v3, v4, v5, v6, rfl⟩, q1, y2, lv, q2, q3⟩
      exact ⟨_, rfl, k p lv H2 hp0 q1 (y2.mono (by omega)) q2 q3⟩
theorem good_law_leaves (T : Txt K mg) : Good P w K mg base 2 (He.ga K "_law_leaves") [] (sp_lvs K) := by
  obtain ⟨fd, F⟩ := T.d__law_leaves
  exact ⟨⟨fd, _, [], ok_law_leaves T F, F.bindsN fun _ _ _ _ _ _ us hl => match us, hl with | [_, _], _ => rfl, .nil⟩, F.kp⟩
end
end HB


namespace HB
open PySem PySem.Spec PyProof.Rows L2
local macro_rules | `(tactic| walk_at "ne") => `(tactic| first | assumption | (apply Ne.symm; assumption) | exact ne_of_none (by assumption) (by assumption) | exact ne_new (by assumption) (by assumption) | (intro q; cases q; done))
local macro_rules | `(tactic| walk_at "hp") => `(tactic| first
  | assumption
  | exact upd_same
  | (refine upd_keep ?_ (by assumption); walk_at "hp")
  | (refine upd_far (by walk_at "ne") ?_; walk_at "hp")
  | (refine Same.get (by assumption) ?_; walk_at "hp")
  | (refine Kp.get (by assumption) ?_ (notin1 (by walk_at "ne")); walk_at "hp"))
local macro_rules | `(tactic| walk_at "same") => `(tactic| first
  | assumption
  | exact Same.refl _
  | (refine Same.new ?_ (by assumption); walk_at "same")
  | (refine Same.trans ?_ (by assumption); walk_at "same"))
/-- one row of a reading -/
local macro_rules | `(tactic| walk_at "r1") => `(tactic| first
  | refine ⟨_, rfl, ?_⟩
  | refine ⟨_, _, rfl, rfl, ?_⟩
  | refine ⟨rfl, ?_⟩
  | refine ⟨_, _, _, _, _, rfl, (by walk_at "hp"), (by assumption), (by assumption), rfl, ?_⟩
  | refine ⟨sz_ (by decide), fun _ _ => ?_⟩)
local macro_rules | `(tactic| walk_at "rd") => `(tactic| repeat walk_at "r1")
section
variable {P : Program} {w : World} {K : PySem.W.Frag} {mg : Str → Option Value} {base : Heap}
def sp_six (K : PySem.W.Frag) : Sp := fun vs H Q _ => ∃ (hd cl : Addr), vs = [.ref hd, .ref cl] ∧ ∃ hc N cs, HaI H hd hc N ∧ hd ≠ hc ∧ N ≤ 999999000 ∧ H cl = some (.lst (ivs cs)) ∧ cl ≠ hd ∧ 1 ≤ cs.length ∧ cs.length ≤ 24 ∧ (∀ c ∈ cs, inC c = true) ∧
  ∀ d v H', H d = none → Kp [hd] H H' → HaI H' hd hc (N + 40) → H' d = some (.dK (Six.kvs v)) → v.ok → Q (.ref d) H'
theorem inC_b {c : Int} (h : inC c = true) : 0 ≤ c ∧ c ≤ 1000000000 := by
  unfold inC at h
  rw [Bool.and_eq_true] at h
  exact ⟨of_decide_eq_true h.1, of_decide_eq_true h.2⟩
theorem six_ok {v : Six} (h1 : -1000000000 ≤ v.here) (h2 : v.here ≤ 1000000000) (h3 : -1000000000 ≤ v.there) (h4 : v.there ≤ 1000000000) (h5 : inC v.left = true) (h6 : v.way = 1 ∨ v.way = -1) (h7 : inC v.sign = true) (h8 : v.met = 0 ∨ v.met = 1) : v.ok := fun b => by
  cases b
  · exact fit_here h1 h2
  · exact fit_there h3 h4
  · exact h5
  · show (decide (v.way = 1) || decide (v.way = -1)) = true
    rw [Bool.or_eq_true]
    exact h6.imp decide_eq_true decide_eq_true
  · exact h7
  · show (decide (v.met = 0) || decide (v.met = 1)) = true
    rw [Bool.or_eq_true]
    exact h8.imp decide_eq_true decide_eq_true
def nm_law_six : List Str := ["_law_hand_here", "_law_cells_here", "_law_many", "_law_way", "_law_left", "_law_sign", "_law_here", "_law_there"]
theorem sc_law_six : FnScope nm_law_six ["_law_hand_here", "_law_cells_here"] (defScope s_law_six) := ⟨rfl, rfl, rfl, by decide +kernel, rfl, by decide +kernel, by decide +kernel⟩
theorem ok_law_six (T : Txt K mg) {f : Addr} {fd : FuncData} {dv : List V} {kw : List (Str × V)} (F : FunD K "_law_six" "_law_six" (defArgs s_law_six) (defBody s_law_six) (defScope s_law_six) dv kw f fd) : FnOk P w K mg base (CXr P w) 3 f fd ["_law_hand_here", "_law_cells_here"] (sp_six K) := by
  refine F.ok sc_law_six (fun vs H Q E h => ?_) (fun cdv A outer s H vs Q E hr h => ?_)
  · obtain ⟨hd, cl, rfl, _⟩ := h
    rfl
  · obtain ⟨hd, cl, rfl, h⟩ := h
    refine ⟨_, (pss_cons (ps_set (i := 2) sc_law_six.nd rfl (Or.inl rfl) (pe_callB call_len_seq (by rfl) T.f_len PySem.boot_len (pa_cons (pv 1) pa_nil))) (pss_cons (ps_set (i := 3) sc_law_six.nd rfl (Or.inl rfl) (pe_callG (good_law_draw T) (hr.mono (by decide)) T.g__law_draw hx_cx (pa_cons (pv 0) (pa_cons pe_int pa_nil)))) (pss_cons (ps_set (i := 4) sc_law_six.nd rfl (Or.inl rfl) (pe_ix ix_list (pe_lst (pa_cons (pe_callG (good_law_draw T) (hr.mono (by decide)) T.g__law_draw hx_cx (pa_cons (pv 0) (pa_cons (pe_op op_add (pv 2) pe_int) pa_nil))) (pa_cons (pe_callG (good_law_draw T) (hr.mono (by decide)) T.g__law_draw hx_cx (pa_cons (pv 0) (pa_cons pe_int pa_nil))) (pa_cons (pe_op op_add (pv 2) (pe_callG (good_law_draw T) (hr.mono (by decide)) T.g__law_draw hx_cx (pa_cons (pv 0) (pa_cons pe_int pa_nil)))) pa_nil)))) (pe_op op_modN (pv 3) pe_int) (fun _ _ => rfl))) (pss_cons (ps_if (pt_cmpR op_eq (pv 3) pe_int (nomark _)) (pss_one (ps_set (i := 4) sc_law_six.nd rfl (Or.inl rfl) (pe_op op_sub (pe_op op_pow pe_int pe_int) (pe_callG (good_law_draw T) (hr.mono (by decide)) T.g__law_draw hx_cx (pa_cons (pv 0) (pa_cons pe_int pa_nil)))))) pss_nil) (pss_cons (ps_set (i := 5) sc_law_six.nd rfl (Or.inl rfl) (pe_ix ix_list (pe_lst (pa_cons (pe_ix ix_list (pv 1) (pe_callG (good_law_draw T) (hr.mono (by decide)) T.g__law_draw hx_cx (pa_cons (pv 0) (pa_cons (pv 2) pa_nil))) (fun _ _ => rfl)) (pa_cons (pe_callG (good_law_content T) (hr.mono (by decide)) T.g__law_content hx_cx (pa_cons (pv 0) pa_nil)) pa_nil))) (pe_op op_fdivN (pe_callG (good_law_draw T) (hr.mono (by decide)) T.g__law_draw hx_cx (pa_cons (pv 0) (pa_cons pe_int pa_nil))) pe_int) (fun _ _ => rfl))) (pss_cons (ps_set (i := 6) sc_law_six.nd rfl (Or.inl rfl) (pe_callG (good_law_spot T) (hr.mono (by decide)) T.g__law_spot hx_cx (pa_cons (pv 0) (pa_cons (pv 2) pa_nil)))) (pss_cons (ps_set (i := 7) sc_law_six.nd rfl (Or.inl rfl) (pe_callG (good_law_spot T) (hr.mono (by decide)) T.g__law_spot hx_cx (pa_cons (pv 0) (pa_cons (pv 2) pa_nil)))) (pss_cons (ps_set (i := 3) sc_law_six.nd rfl (Or.inl rfl) (pe_op op_sub pe_int (pe_op op_mul pe_int (pe_callG (good_law_draw T) (hr.mono (by decide)) T.g__law_draw hx_cx (pa_cons (pv 0) (pa_cons pe_int pa_nil)))))) (pss_one (ps_ret (pe_disp (pps_cons pe_str (pv 6) (pps_cons pe_str (pv 7) (pps_cons pe_str (pv 4) (pps_cons pe_str (pv 3) (pps_cons pe_str (pv 5) (pps_cons pe_str (pe_callG (good_law_draw T) (hr.mono (by decide)) T.g__law_draw hx_cx (pa_cons (pv 0) (pa_cons pe_int pa_nil))) pps_nil)))))) (by rfl) (by rfl) (fun z => by cases z) (by decide)))))))))))), ?_⟩
    obtain ⟨hc, N, cs, y0, hne, hN, hcl, ncl, n1, n2, hin, k⟩ := h
    have lc : (((ivs cs).length : Nat) : Int) = cs.length := by simp
    refine ⟨_, rfl, _, _, rfl, .inl (SqL.of hcl), ?_⟩
    rw [lc]
    refine ⟨_, rfl, hd, _, rfl, hc, _, y0, hne, by omega, by omega, by omega, fun r1 H1 a1 b1 k1 y1 => ?_⟩
    refine ⟨_, rfl, _, rfl, _, _, rfl, rfl, hd, _, rfl, hc, _, y1, hne, by omega, by omega, by omega, fun r2 H2 a2 b2 k2 y2 => ?_⟩
    refine ⟨_, rfl, hd, _, rfl, hc, _, y2, hne, by omega, by omega, by omega, fun r3 H3 a3 b3 k3 y3 => ?_⟩
    refine ⟨_, rfl, _, rfl, hd, _, rfl, hc, _, y3, hne, by omega, by omega, by omega, fun r4 H4 a4 b4 k4 y4 => ?_⟩
    refine ⟨_, _, rfl, rfl, sz_ (by simp), fun p hp => ?_⟩
    have s4 := Same.new (o := .lst [.int r2, .int r3, .int ((cs.length : Int) + r4)]) (Same.refl H4) hp
    have b5 := fmod_b r1 (b := 3) (by omega)
    obtain ⟨lf, hlf, elf⟩ := at_memI (is := [r2, r3, (cs.length : Int) + r4]) (r := r1.fmod 3) b5.1 (by simp; omega)
    have hlf : 0 ≤ lf ∧ lf ≤ 1000 := by
      simp only [List.mem_cons, List.not_mem_nil, or_false] at hlf
      omega
    refine ⟨_, rfl, _, _, rfl, rfl, (show (3 : Int) ≠ 0 by decide), p, _, _, .int lf, rfl, rfl, SqL.of upd_same, elf, ?_⟩
    have K5 : Kp [hd] H (upd H4 p (.lst [.int r2, .int r3, .int ((cs.length : Int) + r4)])) := ((k1.trans k2).trans (k3.trans k4)).trans (Kp.same s4)
    have y5 := y4.same s4
    generalize upd H4 p (.lst [.int r2, .int r3, .int ((cs.length : Int) + r4)]) = H5 at *
    refine ⟨_, rfl, rfl, _, rfl, ?_⟩
    by_cases c7 : r1 = 7
    · rw [dI_t c7]
      refine iteT ⟨_, _, rfl, rfl, ⟨by decide, by decide, by decide⟩, _, rfl, hd, _, rfl, hc, _, y5, hne, by omega, by omega, by omega, fun r6 H6 a6 b6 k6 y6 => ?_⟩
      refine ⟨_, _, rfl, rfl, ?_⟩
      rw [ten9]
      have c1 := (k1.trans k2).trans (k3.trans k4)
      have C6 := (K5.trans k6) _ _ (notin1 ncl) hcl
      refine ⟨_, rfl, _, rfl, _, rfl, hd, _, rfl, hc, _, y6, hne, by omega, by omega, by omega, fun r7 H7 a7 b7 k7 y7 => ?_⟩
      have C7 := k7 _ _ (notin1 ncl) C6
      obtain ⟨ce, hce, ece⟩ := at_memI (is := cs) (r := r7) a7 (by omega)
      have ice := inC_b (hin ce hce)
      refine ⟨cl, _, _, .int ce, rfl, rfl, SqL.of C7, ece, ?_⟩
      refine ⟨_, rfl, hd, rfl, hc, _, y7, hne, by omega, fun r8 H8 i8 k8 y8 => ?_⟩
      have ic8 := inC_b i8
      refine ⟨sz_ (by simp), fun u hu => ?_⟩
      have s8 := Same.new (o := .lst [.int ce, .int r8]) (Same.refl H8) hu
      refine ⟨_, rfl, hd, _, rfl, hc, _, y8.same s8, hne, by omega, by omega, by omega, fun r9 H9 a9 b9 k9 y9 => ?_⟩
      have e9 : 0 ≤ r9.fdiv 3 ∧ r9.fdiv 3 < 2 := by
        rw [Int.fdiv_eq_ediv_of_nonneg _ (by omega)]
        omega
      obtain ⟨sg, hsg, esg⟩ := at_memI (is := [ce, r8]) (r := r9.fdiv 3) e9.1 (by simp; omega)
      have hsg : 0 ≤ sg ∧ sg ≤ 1000000000 := by
        simp only [List.mem_cons, List.not_mem_nil, or_false] at hsg
        omega
      refine ⟨_, _, rfl, rfl, ⟨by decide, by decide⟩, u, _, _, .int sg, rfl, rfl, SqL.of (k9 _ _ (notin1 (Ne.symm (y8.nh hu))) upd_same), esg, ?_⟩
      refine ⟨_, rfl, _, rfl, hd, _, rfl, hc, _, y9, hne, by omega, by omega, by omega, fun he H10 h0 h1 k10 y10 => ?_⟩
      refine ⟨_, rfl, _, rfl, hd, _, rfl, hc, _, y10, hne, by omega, by omega, by omega, fun te H11 t0 t1 k11 y11 => ?_⟩
      refine ⟨_, rfl, hd, _, rfl, hc, _, y11, hne, by omega, by omega, by omega, fun r12 H12 a12 b12 k12 y12 => ?_⟩
      refine ⟨_, _, rfl, rfl, .inl ⟨by decide, by decide⟩, _, _, rfl, rfl, fun d hd13 => ?_⟩
      have s13 := Same.new (o := .dK []) (Same.refl H12) hd13
      refine ⟨_, rfl, _, rfl, _, rfl, _, rfl, _, rfl, _, rfl, hd, _, rfl, hc, _, y12.same s13, hne, by omega, by omega, by omega, fun r14 H14 a14 b14 k14 y14 => ?_⟩
      have ndd := y12.nh hd13
      refine ⟨k14 _ _ (notin1 (Ne.symm ndd)) upd_same, [(.inr "here", .int he), (.inr "there", .int te), (.inr "left", .int (1000000000 - r6)), (.inr "way", .int (1 - 2 * r12)), (.inr "sign", .int sg), (.inr "met", .int r14)], rfl, by show (6 : Nat) ≤ 15; decide, ?_⟩
      have KE : Kp [hd] H H12 := ((K5.trans k6)).trans ((k7.trans (k8.trans ((Kp.same s8).trans k9))).trans (k10.trans (k11.trans k12)))
      have hd0 := y12.was KE hd13
      refine k d ⟨he, te, (1000000000 - r6), 1 - 2 * r12, sg, r14⟩ _ hd0 ?_ ?_ upd_same (six_ok h0 h1 t0 t1 (inC_mk (by show 0 ≤ (1000000000 - r6); omega) (by show (1000000000 - r6) ≤ 1000000000; omega)) (by show 1 - 2 * r12 = 1 ∨ 1 - 2 * r12 = -1; omega) (inC_mk hsg.1 hsg.2) (by show r14 = 0 ∨ r14 = 1; omega))
      · intro b o nb e
        rw [upd_ne (ne_of_none e hd0)]
        exact (KE.trans ((Kp.same s13).trans k14)) b o nb e
      · exact (y14.kp (S := [d]) (Kp.refl.set (by simp)) (notin1 ndd) (notin1 (y12.nc hd13))).mono (by omega)
    · rw [dI_f c7]
      refine iteF ?_
      obtain ⟨H6, k6, y6⟩ : ∃ H6, H6 = H5 ∧ HaI H6 hd hc (N + 1 + 1 + 1 + 1 + 1) := ⟨H5, rfl, y5.mono (by omega)⟩
      subst k6
      have c1 := (k1.trans k2).trans (k3.trans k4)
      have C6 := (K5) _ _ (notin1 ncl) hcl
      refine ⟨_, rfl, _, rfl, _, rfl, hd, _, rfl, hc, _, y6, hne, by omega, by omega, by omega, fun r7 H7 a7 b7 k7 y7 => ?_⟩
      have C7 := k7 _ _ (notin1 ncl) C6
      obtain ⟨ce, hce, ece⟩ := at_memI (is := cs) (r := r7) a7 (by omega)
      have ice := inC_b (hin ce hce)
      refine ⟨cl, _, _, .int ce, rfl, rfl, SqL.of C7, ece, ?_⟩
      refine ⟨_, rfl, hd, rfl, hc, _, y7, hne, by omega, fun r8 H8 i8 k8 y8 => ?_⟩
      have ic8 := inC_b i8
      refine ⟨sz_ (by simp), fun u hu => ?_⟩
      have s8 := Same.new (o := .lst [.int ce, .int r8]) (Same.refl H8) hu
      refine ⟨_, rfl, hd, _, rfl, hc, _, y8.same s8, hne, by omega, by omega, by omega, fun r9 H9 a9 b9 k9 y9 => ?_⟩
      have e9 : 0 ≤ r9.fdiv 3 ∧ r9.fdiv 3 < 2 := by
        rw [Int.fdiv_eq_ediv_of_nonneg _ (by omega)]
        omega
      obtain ⟨sg, hsg, esg⟩ := at_memI (is := [ce, r8]) (r := r9.fdiv 3) e9.1 (by simp; omega)
      have hsg : 0 ≤ sg ∧ sg ≤ 1000000000 := by
        simp only [List.mem_cons, List.not_mem_nil, or_false] at hsg
        omega
      refine ⟨_, _, rfl, rfl, ⟨by decide, by decide⟩, u, _, _, .int sg, rfl, rfl, SqL.of (k9 _ _ (notin1 (Ne.symm (y8.nh hu))) upd_same), esg, ?_⟩
      refine ⟨_, rfl, _, rfl, hd, _, rfl, hc, _, y9, hne, by omega, by omega, by omega, fun he H10 h0 h1 k10 y10 => ?_⟩
      refine ⟨_, rfl, _, rfl, hd, _, rfl, hc, _, y10, hne, by omega, by omega, by omega, fun te H11 t0 t1 k11 y11 => ?_⟩
      refine ⟨_, rfl, hd, _, rfl, hc, _, y11, hne, by omega, by omega, by omega, fun r12 H12 a12 b12 k12 y12 => ?_⟩
      refine ⟨_, _, rfl, rfl, .inl ⟨by decide, by decide⟩, _, _, rfl, rfl, fun d hd13 => ?_⟩
      have s13 := Same.new (o := .dK []) (Same.refl H12) hd13
      refine ⟨_, rfl, _, rfl, _, rfl, _, rfl, _, rfl, _, rfl, hd, _, rfl, hc, _, y12.same s13, hne, by omega, by omega, by omega, fun r14 H14 a14 b14 k14 y14 => ?_⟩
      have ndd := y12.nh hd13
      refine ⟨k14 _ _ (notin1 (Ne.symm ndd)) upd_same, [(.inr "here", .int he), (.inr "there", .int te), (.inr "left", .int lf), (.inr "way", .int (1 - 2 * r12)), (.inr "sign", .int sg), (.inr "met", .int r14)], rfl, by show (6 : Nat) ≤ 15; decide, ?_⟩
      have KE : Kp [hd] H H12 := ((K5)).trans ((k7.trans (k8.trans ((Kp.same s8).trans k9))).trans (k10.trans (k11.trans k12)))
      have hd0 := y12.was KE hd13
      refine k d ⟨he, te, lf, 1 - 2 * r12, sg, r14⟩ _ hd0 ?_ ?_ upd_same (six_ok h0 h1 t0 t1 (inC_mk (by show 0 ≤ lf; omega) (by show lf ≤ 1000000000; omega)) (by show 1 - 2 * r12 = 1 ∨ 1 - 2 * r12 = -1; omega) (inC_mk hsg.1 hsg.2) (by show r14 = 0 ∨ r14 = 1; omega))
      · intro b o nb e
        rw [upd_ne (ne_of_none e hd0)]
        exact (KE.trans ((Kp.same s13).trans k14)) b o nb e
      · exact (y14.kp (S := [d]) (Kp.refl.set (by simp)) (notin1 ndd) (notin1 (y12.nc hd13))).mono (by omega)
theorem good_law_six (T : Txt K mg) : Good P w K mg base 3 (He.ga K "_law_six") [] (sp_six K) := by
  obtain ⟨fd, F⟩ := T.d__law_six
  exact ⟨⟨fd, _, [], ok_law_six T F, F.bindsN fun _ _ _ _ _ _ us hl => match us, hl with | [_, _], _ => rfl, .nil⟩, F.kp⟩
end
end HB


namespace HB
open PySem PySem.Spec PyProof.Rows L2
local macro_rules | `(tactic| walk_at "ne") => `(tactic| first | assumption | (apply Ne.symm; assumption) | exact ne_of_none (by assumption) (by assumption) | exact ne_new (by assumption) (by assumption) | (intro q; cases q; done))
local macro_rules | `(tactic| walk_at "hp") => `(tactic| first
  | assumption
  | exact upd_same
  | (refine upd_keep ?_ (by assumption); walk_at "hp")
  | (refine upd_far (by walk_at "ne") ?_; walk_at "hp")
  | (refine Same.get (by assumption) ?_; walk_at "hp")
  | (refine Kp.get (by assumption) ?_ (notin1 (by walk_at "ne")); walk_at "hp"))
local macro_rules | `(tactic| walk_at "same") => `(tactic| first
  | assumption
  | exact Same.refl _
  | (refine Same.new ?_ (by assumption); walk_at "same")
  | (refine Same.trans ?_ (by assumption); walk_at "same"))
/-- one row of a reading -/
local macro_rules | `(tactic| walk_at "r1") => `(tactic| first
  | refine ⟨_, rfl, ?_⟩
  | refine ⟨_, _, rfl, rfl, ?_⟩
  | refine ⟨rfl, ?_⟩
  | refine ⟨_, _, _, _, _, rfl, (by walk_at "hp"), (by assumption), (by assumption), rfl, ?_⟩
  | refine ⟨sz_ (by decide), fun _ _ => ?_⟩)
local macro_rules | `(tactic| walk_at "rd") => `(tactic| repeat walk_at "r1")
section
variable {P : Program} {w : World} {K : PySem.W.Frag} {mg : Str → Option Value} {base : Heap}
def sp_spec (K : PySem.W.Frag) : Sp := fun vs H Q _ => ∃ (hd : Addr) (n : Int), vs = [.ref hd, .int n] ∧ ∃ hc N, HaI H hd hc N ∧ hd ≠ hc ∧ N ≤ 999999000 ∧ 1 ≤ n ∧ n ≤ 60 ∧
  ∀ p d H', H p = none → Kp [hd] H H' → HaI H' hd hc (N + 20) → H' p = some (.tup (Spc.vals d)) → d.ok → Q (.ref p) H'
theorem box_at {r : Int} (h0 : 0 ≤ r) (h1 : r < 6) : ∃ b : Bx, atI boxesV r = some (.str b.nm) := by
  obtain ⟨v, hv, e⟩ := at_memV (xs := boxesV) h0 (by simpa [boxesV] using h1)
  unfold boxesV at hv
  simp only [List.mem_cons, List.not_mem_nil, or_false] at hv
  rcases hv with z | z | z | z | z | z <;> subst z
  · exact ⟨.here, e⟩
  · exact ⟨.there, e⟩
  · exact ⟨.left, e⟩
  · exact ⟨.way, e⟩
  · exact ⟨.sign, e⟩
  · exact ⟨.met, e⟩
theorem box_at4 {r : Int} {b : Bx} (h0 : 0 ≤ r) (h1 : r < 4) : ∃ c : Bx, atI [V.str "here", V.str "there", V.str "left", V.str b.nm] r = some (.str c.nm) := by
  obtain ⟨v, hv, e⟩ := at_memV (xs := [V.str "here", V.str "there", V.str "left", V.str b.nm]) h0 (by simpa using h1)
  simp only [List.mem_cons, List.not_mem_nil, or_false] at hv
  rcases hv with z | z | z | z <;> subst z
  · exact ⟨.here, e⟩
  · exact ⟨.there, e⟩
  · exact ⟨.left, e⟩
  · exact ⟨b, e⟩
theorem lng_at {r : Int} (h0 : 0 ≤ r) (h1 : r < 6) : ∃ l : Lg, atI [V.str "copy", V.str "fill", V.str "seek", V.str "match", V.str "shift", V.str "turn"] r = some (.str l.nm) := by
  obtain ⟨v, hv, e⟩ := at_memV (xs := [V.str "copy", V.str "fill", V.str "seek", V.str "match", V.str "shift", V.str "turn"]) h0 (by simpa using h1)
  simp only [List.mem_cons, List.not_mem_nil, or_false] at hv
  rcases hv with z | z | z | z | z | z <;> subst z
  · exact ⟨.copy, e⟩
  · exact ⟨.fill, e⟩
  · exact ⟨.seek, e⟩
  · exact ⟨.match_, e⟩
  · exact ⟨.shift, e⟩
  · exact ⟨.turn, e⟩
def nm_law_spec : List Str := ["_law_hand_here", "_law_size", "_law_way", "_law_names", "_law_box", "_law_pick"]
theorem sc_law_spec : FnScope nm_law_spec ["_law_hand_here", "_law_size"] (defScope s_law_spec) := ⟨rfl, rfl, rfl, by decide +kernel, rfl, by decide +kernel, by decide +kernel⟩
theorem ok_law_spec (T : Txt K mg) {f : Addr} {fd : FuncData} {dv : List V} {kw : List (Str × V)} (F : FunD K "_law_spec" "_law_spec" (defArgs s_law_spec) (defBody s_law_spec) (defScope s_law_spec) dv kw f fd) : FnOk P w K mg base (CXr P w) 2 f fd ["_law_hand_here", "_law_size"] (sp_spec K) := by
  refine F.ok sc_law_spec (fun vs H Q E h => ?_) (fun cdv A outer s H vs Q E hr h => ?_)
  · obtain ⟨hd, n, rfl, _⟩ := h
    rfl
  · obtain ⟨hd, n, rfl, h⟩ := h
    refine ⟨_, (pss_cons (ps_set (i := 2) sc_law_spec.nd rfl (Or.inl rfl) (pe_callG (good_law_draw T) (hr.mono (by decide)) T.g__law_draw hx_cx (pa_cons (pv 0) (pa_cons pe_int pa_nil)))) (pss_cons (ps_set (i := 3) sc_law_spec.nd rfl (Or.inl rfl) (pe_lst (pa_cons pe_str (pa_cons pe_str (pa_cons pe_str (pa_cons pe_str (pa_cons pe_str (pa_cons pe_str pa_nil)))))))) (pss_cons (ps_set (i := 4) sc_law_spec.nd rfl (Or.inl rfl) (pe_ix ix_list (pv 3) (pe_callG (good_law_draw T) (hr.mono (by decide)) T.g__law_draw hx_cx (pa_cons (pv 0) (pa_cons pe_int pa_nil))) (fun _ _ => rfl))) (pss_cons (ps_if (pt_cmpR op_lt (pv 2) pe_int (nomark _)) (pss_one (ps_ret (pe_tup (pa_cons (pe_ix ix_list (pe_lst (pa_cons pe_str (pa_cons pe_str (pa_cons pe_str (pa_cons pe_str (pa_cons pe_str (pa_cons pe_str pa_nil))))))) (pv 2) (fun _ _ => rfl)) pa_nil)))) pss_nil) (pss_cons (ps_if (pt_cmpR op_lt (pv 2) pe_int (nomark _)) (pss_cons (ps_set (i := 4) sc_law_spec.nd rfl (Or.inl rfl) (pe_ix ix_list (pe_lst (pa_cons pe_str (pa_cons pe_str (pa_cons pe_str (pa_cons (pv 4) pa_nil))))) (pe_callG (good_law_draw T) (hr.mono (by decide)) T.g__law_draw hx_cx (pa_cons (pv 0) (pa_cons pe_int pa_nil))) (fun _ _ => rfl))) (pss_cons (ps_set (i := 5) sc_law_spec.nd rfl (Or.inl rfl) (pe_op op_fdivN (pe_callG (good_law_draw T) (hr.mono (by decide)) T.g__law_draw hx_cx (pa_cons (pv 0) (pa_cons pe_int pa_nil))) pe_int)) (pss_one (ps_ret (pe_tup (pa_cons pe_str (pa_cons (pv 4) (pa_cons (pe_ix ix_list (pe_lst (pa_cons (pe_callG (good_law_draw T) (hr.mono (by decide)) T.g__law_draw hx_cx (pa_cons (pv 0) (pa_cons (pe_op op_add (pv 1) pe_int) pa_nil))) (pa_cons (pe_op op_sub (pe_callG (good_law_draw T) (hr.mono (by decide)) T.g__law_draw hx_cx (pa_cons (pv 0) (pa_cons pe_int pa_nil))) pe_int) (pa_cons (pe_op op_sub (pe_op op_pow pe_int pe_int) (pe_callG (good_law_draw T) (hr.mono (by decide)) T.g__law_draw hx_cx (pa_cons (pv 0) (pa_cons pe_int pa_nil)))) pa_nil)))) (pv 5) (fun _ _ => rfl)) pa_nil)))))))) pss_nil) (pss_cons (ps_if (pt_cmpR op_eq (pv 2) pe_int (nomark _)) (pss_cons (ps_set (i := 5) sc_law_spec.nd rfl (Or.inl rfl) (pe_op op_fdivN (pe_callG (good_law_draw T) (hr.mono (by decide)) T.g__law_draw hx_cx (pa_cons (pv 0) (pa_cons pe_int pa_nil))) pe_int)) (pss_one (ps_ret (pe_tup (pa_cons pe_str (pa_cons (pv 4) (pa_cons (pe_ix ix_list (pe_lst (pa_cons (pe_op op_sub (pe_callG (good_law_draw T) (hr.mono (by decide)) T.g__law_draw hx_cx (pa_cons (pv 0) (pa_cons pe_int pa_nil))) pe_int) (pa_cons (pe_callG (good_law_draw T) (hr.mono (by decide)) T.g__law_draw hx_cx (pa_cons (pv 0) (pa_cons (pe_op op_add (pv 1) pe_int) pa_nil))) (pa_cons (pe_un un_neg (pe_op op_pow pe_int pe_int)) pa_nil)))) (pv 5) (fun _ _ => rfl)) pa_nil))))))) pss_nil) (pss_cons (ps_if (pt_cmpR op_eq (pv 2) pe_int (nomark _)) (pss_one (ps_ret (pe_tup (pa_cons pe_str (pa_cons (pv 4) (pa_cons (pe_ix ix_list (pv 3) (pe_callG (good_law_draw T) (hr.mono (by decide)) T.g__law_draw hx_cx (pa_cons (pv 0) (pa_cons pe_int pa_nil))) (fun _ _ => rfl)) pa_nil)))))) pss_nil) (pss_cons (ps_if (pt_cmpR op_lt (pv 2) pe_int (nomark _)) (pss_one (ps_ret (pe_tup (pa_cons (pe_ix ix_list (pe_lst (pa_cons pe_str (pa_cons pe_str pa_nil))) (pe_op op_sub (pv 2) pe_int) (fun _ _ => rfl)) (pa_cons (pv 4) pa_nil))))) pss_nil) (pss_one (ps_ret (pe_tup (pa_cons pe_str (pa_cons (pe_callG (good_law_draw T) (hr.mono (by decide)) T.g__law_draw hx_cx (pa_cons (pv 0) (pa_cons pe_int pa_nil))) (pa_cons (pe_ix ix_list (pe_lst (pa_cons pe_non (pa_cons pe_int (pa_cons pe_int pa_nil)))) (pe_callG (good_law_draw T) (hr.mono (by decide)) T.g__law_draw hx_cx (pa_cons (pv 0) (pa_cons pe_int pa_nil))) (fun _ _ => rfl)) pa_nil)))))))))))))), ?_⟩
    obtain ⟨hc, N, y0, hne, hN, n1, n2, k⟩ := h
    refine ⟨_, rfl, hd, _, rfl, hc, _, y0, hne, by omega, by omega, by omega, fun r1 H1 a1 b1 k1 y1 => ?_⟩
    refine ⟨sz_ (by simp), fun nm hnm => ?_⟩
    have s1 := Same.new (o := .lst boxesV) (Same.refl H1) hnm
    have e1 : upd H1 nm (.lst boxesV) nm = some (.lst boxesV) := upd_same
    have y1' := y1.same s1
    have nmd : nm ≠ hd := Ne.symm (y1.nh hnm)
    have K1 := k1.trans (Kp.same s1)
    generalize hg : upd H1 nm (.lst boxesV) = H1' at *
    have hg' : upd H1 nm (.lst [.str "here", .str "there", .str "left", .str "way", .str "sign", .str "met"]) = H1' := hg
    rw [hg']
    refine ⟨_, rfl, _, rfl, hd, _, rfl, hc, _, y1', hne, by omega, by omega, by omega, fun r2 H2 a2 b2 k2 y2 => ?_⟩
    obtain ⟨b, eb⟩ := box_at a2 b2
    have e2 := k2 _ _ (notin1 nmd) e1
    refine ⟨nm, _, _, .str b.nm, rfl, rfl, SqL.of e2, eb, ?_⟩
    have K2 := K1.trans k2
    refine ⟨_, rfl, _, _, rfl, rfl, _, rfl, ?_⟩
    -- the end of each way
    have fin : ∀ (p : Addr) (d : Spc) (H3 : Hp) (M : Int), Kp [hd] H H3 → HaI H3 hd hc M → M ≤ N + 20 → H3 p = none → d.ok → Q (.ref p) (upd H3 p (.tup d.vals)) := fun p d H3 M K3 y3 hM hp ok => by
      have s := Same.new (o := .tup d.vals) (Same.refl H3) hp
      exact k p d _ (y3.was K3 hp) (K3.trans (Kp.same s)) ((y3.same s).mono hM) upd_same ok
    by_cases c1 : r1 < 6
    · rw [show decide (r1 < 6) = true from decide_eq_true c1]
      obtain ⟨l, el⟩ := lng_at a1 c1
      refine iteT ⟨sz_ (by simp), fun u hu => ?_⟩
      have s3 := Same.new (o := .lst [.str "copy", .str "fill", .str "seek", .str "match", .str "shift", .str "turn"]) (Same.refl H2) hu
      refine ⟨_, rfl, u, _, _, .str l.nm, rfl, rfl, SqL.of upd_same, el, sz_ (by simp), fun p hp => ?_⟩
      exact fin p (.lng l) _ _ (K2.trans (Kp.same s3)) (y2.same s3) (by omega) hp trivial
    · rw [show decide (r1 < 6) = false from decide_eq_false c1]
      refine iteF ⟨_, rfl, _, _, rfl, rfl, _, rfl, ?_⟩
      by_cases c2 : r1 < 9
      · rw [show decide (r1 < 9) = true from decide_eq_true c2]
        refine iteT ⟨_, rfl, sz_ (by simp), fun u hu => ?_⟩
        have s3 := Same.new (o := .lst [.str "here", .str "there", .str "left", .str b.nm]) (Same.refl H2) hu
        refine ⟨_, rfl, hd, _, rfl, hc, _, y2.same s3, hne, by omega, by omega, by omega, fun r3 H3 a3 b3 k3 y3 => ?_⟩
        obtain ⟨b', eb'⟩ := box_at4 (b := b) a3 b3
        refine ⟨u, _, _, .str b'.nm, rfl, rfl, SqL.of (k3 _ _ (notin1 (Ne.symm (y2.nh hu))) upd_same), eb', ?_⟩
        refine ⟨_, rfl, hd, _, rfl, hc, _, y3, hne, by omega, by omega, by omega, fun r4 H4 a4 b4 k4 y4 => ?_⟩
        have e4 : 0 ≤ r4.fdiv 3 ∧ r4.fdiv 3 < 3 := by
          rw [Int.fdiv_eq_ediv_of_nonneg _ (by omega)]
          omega
        refine ⟨_, _, rfl, rfl, ⟨by decide, by decide⟩, _, rfl, _, rfl, _, rfl, _, _, rfl, rfl, hd, _, rfl, hc, _, y4, hne, by omega, by omega, by omega, fun r5 H5 a5 b5 k5 y5 => ?_⟩
        refine ⟨_, rfl, hd, _, rfl, hc, _, y5, hne, by omega, by omega, by omega, fun r6 H6 a6 b6 k6 y6 => ?_⟩
        refine ⟨_, _, rfl, rfl, _, _, rfl, rfl, ⟨by decide, by decide, by decide⟩, _, rfl, hd, _, rfl, hc, _, y6, hne, by omega, by omega, by omega, fun r7 H7 a7 b7 k7 y7 => ?_⟩
        refine ⟨_, _, rfl, rfl, sz_ (by simp), fun v hv => ?_⟩
        rw [ten9]
        have s7 := Same.new (o := .lst [.int r5, .int (r6 - 2), .int (1000000000 - r7)]) (Same.refl H7) hv
        obtain ⟨x, hx, ex⟩ := at_memI (is := [r5, r6 - 2, 1000000000 - r7]) (r := r4.fdiv 3) e4.1 (by simp; omega)
        have hx : -1000000000 ≤ x ∧ x ≤ 1000000000 := by
          simp only [List.mem_cons, List.not_mem_nil, or_false] at hx
          omega
        refine ⟨_, rfl, v, _, _, .int x, rfl, rfl, SqL.of upd_same, ex, sz_ (by simp), fun p hp => ?_⟩
        exact fin p (.set b' x) _ _ (((K2.trans (Kp.same s3)).trans (k3.trans k4)).trans ((k5.trans k6).trans (k7.trans (Kp.same s7)))) (y7.same s7) (by omega) hp hx
      · rw [show decide (r1 < 9) = false from decide_eq_false c2]
        refine iteF ⟨_, rfl, rfl, _, rfl, ?_⟩
        by_cases c3 : r1 = 9
        · rw [dI_t c3]
          refine iteT ⟨_, rfl, hd, _, rfl, hc, _, y2, hne, by omega, by omega, by omega, fun r3 H3 a3 b3 k3 y3 => ?_⟩
          have e3 : 0 ≤ r3.fdiv 3 ∧ r3.fdiv 3 < 3 := by
            rw [Int.fdiv_eq_ediv_of_nonneg _ (by omega)]
            omega
          refine ⟨_, _, rfl, rfl, ⟨by decide, by decide⟩, _, rfl, _, rfl, hd, _, rfl, hc, _, y3, hne, by omega, by omega, by omega, fun r4 H4 a4 b4 k4 y4 => ?_⟩
          refine ⟨_, _, rfl, rfl, _, rfl, _, rfl, _, _, rfl, rfl, hd, _, rfl, hc, _, y4, hne, by omega, by omega, by omega, fun r5 H5 a5 b5 k5 y5 => ?_⟩
          refine ⟨_, _, rfl, rfl, ⟨by decide, by decide, by decide⟩, _, rfl, sz_ (by simp), fun v hv => ?_⟩
          rw [ten9]
          have s7 := Same.new (o := .lst [.int (r4 - 3), .int r5, .int (-1000000000)]) (Same.refl H5) hv
          obtain ⟨x, hx, ex⟩ := at_memI (is := [r4 - 3, r5, -1000000000]) (r := r3.fdiv 3) e3.1 (by simp; omega)
          have hx : -1000000000 ≤ x ∧ x ≤ 1000000000 := by
            simp only [List.mem_cons, List.not_mem_nil, or_false] at hx
            omega
          refine ⟨_, rfl, v, _, _, .int x, rfl, rfl, SqL.of upd_same, ex, sz_ (by simp), fun p hp => ?_⟩
          exact fin p (.add b x) _ _ ((K2.trans k3).trans ((k4.trans k5).trans (Kp.same s7))) (y5.same s7) (by omega) hp hx
        · rw [dI_f c3]
          refine iteF ⟨_, rfl, rfl, _, rfl, ?_⟩
          by_cases c4 : r1 = 10
          · rw [dI_t c4]
            refine iteT ⟨_, rfl, _, rfl, _, rfl, hd, _, rfl, hc, _, y2, hne, by omega, by omega, by omega, fun r3 H3 a3 b3 k3 y3 => ?_⟩
            obtain ⟨c, ec⟩ := box_at a3 b3
            refine ⟨nm, _, _, .str c.nm, rfl, rfl, SqL.of (k3 _ _ (notin1 nmd) e2), ec, sz_ (by simp), fun p hp => ?_⟩
            exact fin p (.take b c) _ _ (K2.trans k3) y3 (by omega) hp trivial
          · rw [dI_f c4]
            refine iteF ⟨_, rfl, _, _, rfl, rfl, _, rfl, ?_⟩
            by_cases c5 : r1 < 13
            · rw [show decide (r1 < 13) = true from decide_eq_true c5]
              refine iteT ⟨sz_ (by simp), fun u hu => ?_⟩
              have s3 := Same.new (o := .lst [.str "read", .str "write"]) (Same.refl H2) hu
              by_cases c6 : r1 = 11
              · subst c6
                refine ⟨_, rfl, _, _, rfl, rfl, u, _, _, .str "read", rfl, rfl, SqL.of upd_same, rfl, _, rfl, sz_ (by simp), fun p hp => ?_⟩
                exact fin p (.read b) _ _ (K2.trans (Kp.same s3)) (y2.same s3) (by omega) hp trivial
              · have c7 : r1 = 12 := by omega
                subst c7
                refine ⟨_, rfl, _, _, rfl, rfl, u, _, _, .str "write", rfl, rfl, SqL.of upd_same, rfl, _, rfl, sz_ (by simp), fun p hp => ?_⟩
                exact fin p (.write b) _ _ (K2.trans (Kp.same s3)) (y2.same s3) (by omega) hp trivial
            · rw [show decide (r1 < 13) = false from decide_eq_false c5]
              refine iteF ⟨_, rfl, hd, _, rfl, hc, _, y2, hne, by omega, by omega, by omega, fun r3 H3 a3 b3 k3 y3 => ?_⟩
              refine ⟨sz_ (by simp), fun u hu => ?_⟩
              have s3 := Same.new (o := .lst [.non, .int 0, .int 1]) (Same.refl H3) hu
              refine ⟨_, rfl, hd, _, rfl, hc, _, y3.same s3, hne, by omega, by omega, by omega, fun r4 H4 a4 b4 k4 y4 => ?_⟩
              obtain ⟨on, eo, ho⟩ : ∃ on : Option Int, atI [V.non, V.int 0, V.int 1] r4 = some (onV on) ∧ ∀ i, on = some i → 0 ≤ i ∧ i ≤ 1 := by
                obtain ⟨v, hv, e⟩ := at_memV (xs := [V.non, V.int 0, V.int 1]) a4 (by simpa using b4)
                simp only [List.mem_cons, List.not_mem_nil, or_false] at hv
                rcases hv with z | z | z <;> subst z
                · exact ⟨none, e, fun i z => by cases z⟩
                · exact ⟨some 0, e, fun i z => by cases z; decide⟩
                · exact ⟨some 1, e, fun i z => by cases z; decide⟩
              refine ⟨u, _, _, onV on, rfl, rfl, SqL.of (k4 _ _ (notin1 (Ne.symm (y3.nh hu))) upd_same), eo, sz_ (by simp), fun p hp => ?_⟩
              exact fin p (.hop r3 on) _ _ ((K2.trans k3).trans ((Kp.same s3).trans k4)) y4 (by omega) hp ⟨⟨a3, by omega⟩, ho⟩
theorem good_law_spec (T : Txt K mg) : Good P w K mg base 2 (He.ga K "_law_spec") [] (sp_spec K) := by
  obtain ⟨fd, F⟩ := T.d__law_spec
  exact ⟨⟨fd, _, [], ok_law_spec T F, F.bindsN fun _ _ _ _ _ _ us hl => match us, hl with | [_, _], _ => rfl, .nil⟩, F.kp⟩
end
end HB


namespace HB
open PySem PySem.Spec PyProof.Rows L2
local macro_rules | `(tactic| walk_at "ne") => `(tactic| first | assumption | (apply Ne.symm; assumption) | exact ne_of_none (by assumption) (by assumption) | exact ne_new (by assumption) (by assumption) | (intro q; cases q; done))
local macro_rules | `(tactic| walk_at "hp") => `(tactic| first
  | assumption
  | exact upd_same
  | (refine upd_keep ?_ (by assumption); walk_at "hp")
  | (refine upd_far (by walk_at "ne") ?_; walk_at "hp")
  | (refine Same.get (by assumption) ?_; walk_at "hp")
  | (refine Kp.get (by assumption) ?_ (notin1 (by walk_at "ne")); walk_at "hp"))
local macro_rules | `(tactic| walk_at "same") => `(tactic| first
  | assumption
  | exact Same.refl _
  | (refine Same.new ?_ (by assumption); walk_at "same")
  | (refine Same.trans ?_ (by assumption); walk_at "same"))
/-- one row of a reading -/
local macro_rules | `(tactic| walk_at "r1") => `(tactic| first
  | refine ⟨_, rfl, ?_⟩
  | refine ⟨_, _, rfl, rfl, ?_⟩
  | refine ⟨rfl, ?_⟩
  | refine ⟨_, _, _, _, _, rfl, (by walk_at "hp"), (by assumption), (by assumption), rfl, ?_⟩
  | refine ⟨sz_ (by decide), fun _ _ => ?_⟩)
local macro_rules | `(tactic| walk_at "rd") => `(tactic| repeat walk_at "r1")
section
variable {P : Program} {w : World} {K : PySem.W.Frag} {mg : Str → Option Value} {base : Heap}
structure Od where
  ow : Addr
  sl : Addr
  sd : Addr
  cl : Addr
  ll : Addr
  lg : Addr
  ss : List Addr
structure Odd (O : Od) : Prop where
  os : O.ow ≠ O.sl
  oc : O.ow ≠ O.cl
  ol : O.ow ≠ O.ll
  og : O.ow ≠ O.lg
  sc : O.sl ≠ O.cl
  sl : O.sl ≠ O.ll
  sg : O.sl ≠ O.lg
  cl : O.cl ≠ O.ll
  cg : O.cl ≠ O.lg
  lg : O.ll ≠ O.lg
def SpsI (H : Hp) (ss : List Addr) (sp : List Spc) : Prop := ss.length = sp.length ∧ ∀ (i : Nat) (a : Addr) (d : Spc), ss[i]? = some a → sp[i]? = some d → H a = some (.tup (Spc.vals d))
theorem SpsI.same {H H' : Hp} {ss : List Addr} {sp : List Spc} (D : SpsI H ss sp) (s : Same H H') : SpsI H' ss sp := ⟨D.1, fun i a d h1 h2 => s _ _ (D.2 i a d h1 h2)⟩
theorem SpsI.snoc {H : Hp} {ss : List Addr} {sp : List Spc} {a : Addr} {d : Spc} (D : SpsI H ss sp) (h : H a = some (.tup (Spc.vals d))) : SpsI H (ss ++ [a]) (sp ++ [d]) := by
  refine ⟨by rw [List.length_append, List.length_append, D.1]; rfl, fun i t' e' h1 h2 => ?_⟩
  by_cases hi : i < ss.length
  · rw [List.getElem?_append_left hi] at h1
    rw [List.getElem?_append_left (by have := D.1; omega)] at h2
    exact D.2 i t' e' h1 h2
  · have hi' : i < (ss ++ [a]).length := (List.getElem?_eq_some_iff.mp h1).1
    rw [List.length_append, List.length_singleton] at hi'
    have e1 : i = ss.length := by omega
    have e2 : i = sp.length := by have := D.1; omega
    rw [e1, List.getElem?_append_right (Nat.le_refl _), Nat.sub_self] at h1
    rw [e2, List.getElem?_append_right (Nat.le_refl _), Nat.sub_self] at h2
    cases h1
    cases h2
    exact h
def owV (O : Od) (at' : Int) : List V := [.ref O.sl, .int at', .ref O.sd, .ref O.cl, .ref O.ll, .ref O.lg]
structure OwI (O : Od) (H : Hp) (sp : List Spc) (at' : Int) (v : Six) (cs : List Int) (lv : List Lv) (es : List Addr) : Prop where
  ow : H O.ow = some (.lst (owV O at'))
  sl : H O.sl = some (.lst (O.ss.map V.ref))
  ss : SpsI H O.ss sp
  sd : H O.sd = some (.dK (Six.kvs v))
  cl : H O.cl = some (.lst (ivs cs))
  ll : H O.ll = some (.lst (lvs lv))
  lg : H O.lg = some (.lst (es.map V.ref))
theorem OwI.same {O : Od} {H H' : Hp} {sp : List Spc} {at' : Int} {v : Six} {cs : List Int} {lv : List Lv} {es : List Addr} (W : OwI O H sp at' v cs lv es) (s : Same H H') : OwI O H' sp at' v cs lv es := ⟨s _ _ W.ow, s _ _ W.sl, W.ss.same s, s _ _ W.sd, s _ _ W.cl, s _ _ W.ll, s _ _ W.lg⟩
def rLenO (K : PySem.W.Frag) : List V → Hp → VK → Prop := fun xs H Q => ∃ p ys, xs = [V.ref p] ∧ (SqL K H p ys ∨ SqT K H p ys) ∧ Q (.int (ys.length : Nat)) H
def sp_own (K : PySem.W.Frag) : Sp := fun vs H Q _ => ∃ (hd : Addr), vs = [.ref hd, .int 24, .bl true] ∧ ∃ hc N, HaI H hd hc N ∧ hd ≠ hc ∧ N ≤ 999990000 ∧
  ∀ O sp at' v cs lv H', (∀ a ∈ [O.ow, O.sl, O.sd, O.cl, O.ll, O.lg], H a = none) → Odd O → Kp [hd] H H' → HaI H' hd hc (N + 1000) → OwI O H' sp at' v cs lv [] → 1 ≤ sp.length → sp.length ≤ 24 → (∀ d ∈ sp, d.ok) → 0 ≤ at' → at' ≤ (sp.length : Int) → v.ok → 1 ≤ cs.length → cs.length ≤ 24 → (∀ c ∈ cs, inC c = true) → lv.length = cs.length → Q (.ref O.ow) H'
def nm_law_own : List Str := ["_law_hand_here", "_law_most", "_law_shut", "_law_cells_here", "_law_leaves_here", "_law_six_here", "_law_many", "_law_specs", "_law_k"]
theorem sc_law_own : FnScope nm_law_own ["_law_hand_here", "_law_most", "_law_shut"] (defScope s_law_own) := ⟨rfl, rfl, rfl, by decide +kernel, rfl, by decide +kernel, by decide +kernel⟩
theorem ok_law_own (T : Txt K mg) {f : Addr} {fd : FuncData} {dv : List V} {kw : List (Str × V)} (F : FunD K "_law_own" "_law_own" (defArgs s_law_own) (defBody s_law_own) (defScope s_law_own) dv kw f fd) : FnOk P w K mg base (CXr P w) 4 f fd ["_law_hand_here", "_law_most", "_law_shut"] (sp_own K) := by
  refine F.ok sc_law_own (fun vs H Q E h => ?_) (fun cdv A outer s H vs Q E hr h => ?_)
  · obtain ⟨hd, rfl, _⟩ := h
    rfl
  · obtain ⟨hd, rfl, h⟩ := h
    refine ⟨_, (pss_cons (ps_set (i := 3) sc_law_own.nd rfl (Or.inr rfl) (pe_callG (good_law_cells T) (hr.mono (by decide)) T.g__law_cells hx_cx (pa_cons (pv 0) (pa_cons (pv 1) pa_nil)))) (pss_cons (ps_set (i := 4) sc_law_own.nd rfl (Or.inl rfl) (pe_op op_rep (pe_lst (pa_cons pe_str pa_nil)) (pe_callB call_len_seq (by rfl) T.f_len PySem.boot_len (pa_cons (pv 3) pa_nil)))) (pss_cons (ps_if (pt_val (pv 2)) (pss_one (ps_set (i := 4) sc_law_own.nd rfl (Or.inl rfl) (pe_callG (good_law_leaves T) (hr.mono (by decide)) T.g__law_leaves hx_cx (pa_cons (pv 0) (pa_cons (pe_callB call_len_seq (by rfl) T.f_len PySem.boot_len (pa_cons (pv 3) pa_nil)) pa_nil))))) pss_nil) (pss_cons (ps_set (i := 5) sc_law_own.nd rfl (Or.inl rfl) (pe_callG (good_law_six T) (hr.mono (by decide)) T.g__law_six hx_cx (pa_cons (pv 0) (pa_cons (pv 3) pa_nil)))) (pss_cons (ps_set (i := 6) sc_law_own.nd rfl (Or.inl rfl) (pe_ix ix_list (pe_lst (pa_cons pe_int (pa_cons pe_int (pa_cons pe_int pa_nil)))) (pe_callG (good_law_draw T) (hr.mono (by decide)) T.g__law_draw hx_cx (pa_cons (pv 0) (pa_cons pe_int pa_nil))) (fun _ _ => rfl))) (pss_cons (ps_setLc (i := 7) (own := [("_law_k", 8)]) (g := gName 8) (te := tCall (sp_spec K) [] E0 (tCons (tVar 0) (tCons (tCB (rLenO K) (tCons (tVar 3) tNil)) tNil))) (tt := tYes) rfl sc_law_own.nd rfl rfl (sw_true rfl rfl rfl (by decide +kernel)) (pi_range1 rfl T.f_range (pa_cons (pe_op op_add pe_int (pe_callG (good_law_draw T) (hr.mono (by decide)) T.g__law_draw hx_cx (pa_cons (pv 0) (pa_cons (pv 6) pa_nil)))) pa_nil)) (blkOk_by (N := nm_law_own) (sc := defScope s_law_own) (by decide +kernel)) (fun _ _ _ _ _ => (pg_name (i := 8) sc_law_own.nd rfl (Or.inl rfl))) (fun _ _ _ _ _ => pts_nil) (fun _ _ _ _ _ => (pe_callG (good_law_spec T) (hr.mono (by decide)) T.g__law_spec passN (pa_cons (pv 0) (pa_cons (pe_callB call_len_seq (by rfl) T.f_len PySem.boot_len (pa_cons (pv 3) pa_nil)) pa_nil))))) (pss_one (ps_ret (pe_lst (pa_cons (pv 7) (pa_cons (pe_op op_mul (pe_op op_fdivN (pe_callG (good_law_draw T) (hr.mono (by decide)) T.g__law_draw hx_cx (pa_cons (pv 0) (pa_cons pe_int pa_nil))) pe_int) (pe_callG (good_law_draw T) (hr.mono (by decide)) T.g__law_draw hx_cx (pa_cons (pv 0) (pa_cons (pe_op op_add (pe_callB call_len_seq (by rfl) T.f_len PySem.boot_len (pa_cons (pv 7) pa_nil)) pe_int) pa_nil)))) (pa_cons (pv 5) (pa_cons (pv 3) (pa_cons (pv 4) (pa_cons (pe_lst pa_nil) pa_nil))))))))))))))), ?_⟩
    obtain ⟨hc, N, y0, hne, hN, k⟩ := h
    refine ⟨_, rfl, _, rfl, hd, _, rfl, hc, _, y0, hne, by omega, by omega, by omega, fun cl cs H1 fcl k1 y1 e1 c1 c2 hin => ?_⟩
    have lc : (((ivs cs).length : Nat) : Int) = cs.length := by simp
    have ncl : cl ≠ hd := Ne.symm (y0.nh fcl)
    refine ⟨sz_ (by simp), fun q hq => ?_⟩
    have s1 := Same.new (o := .lst [.str "open"]) (Same.refl H1) hq
    refine ⟨_, rfl, _, _, rfl, .inl (SqL.of (s1 _ _ e1)), q, _, _, rfl, rfl, upd_same, by omega, by omega, sz_ (by simp; omega), fun l0 hl0 => ?_⟩
    have s2 := Same.new (o := .lst (List.replicate (((ivs cs).length : Nat) : Int).toNat [V.str "open"]).flatten) s1 hl0
    have y2 := y1.same s2
    have e2 := s2 _ _ e1
    have K2 := k1.trans (Kp.same s2)
    generalize upd (upd H1 q (.lst [.str "open"])) l0 (.lst (List.replicate (((ivs cs).length : Nat) : Int).toNat [V.str "open"]).flatten) = H2 at *
    refine ⟨_, rfl, _, rfl, iteT ?_⟩
    refine ⟨_, rfl, _, rfl, _, _, rfl, .inl (SqL.of e2), hd, _, rfl, hc, _, y2, hne, by omega, by omega, by omega, fun ll lv H3 fll k3 y3 e3 l3 => ?_⟩
    have c3 := k3 _ _ (notin1 ncl) e2
    have K3 := K2.trans k3
    have nll : ll ≠ hd := Ne.symm (y2.nh fll)
    have ncll : cl ≠ ll := ne_of_none e2 fll
    refine ⟨_, rfl, _, rfl, hd, cl, rfl, hc, _, cs, y3, hne, by omega, c3, ncl, c1, c2, hin, fun sd v H4 fsd k4 y4 e4 vok => ?_⟩
    have c4 := k4 _ _ (notin1 ncl) c3
    have l4 := k4 _ _ (notin1 nll) e3
    have K4 := K3.trans k4
    have nsd : sd ≠ hd := Ne.symm (y3.nh fsd)
    refine ⟨sz_ (by simp), fun u hu => ?_⟩
    have s4 := Same.new (o := .lst [.int 3, .int 8, .int 24]) (Same.refl H4) hu
    refine ⟨_, rfl, hd, _, rfl, hc, _, y4.same s4, hne, by omega, by omega, by omega, fun r5 H5 a5 b5 k5 y5 => ?_⟩
    obtain ⟨mn, hmn, emn⟩ := at_memI (is := [3, 8, 24]) (r := r5) a5 (by simp; omega)
    have hmn : 3 ≤ mn ∧ mn ≤ 24 := by
      simp only [List.mem_cons, List.not_mem_nil, or_false] at hmn
      omega
    refine ⟨u, _, _, .int mn, rfl, rfl, SqL.of (k5 _ _ (notin1 (Ne.symm (y4.nh hu))) upd_same), emn, ?_⟩
    have k45 : Kp [hd] H4 H5 := (Kp.same s4).trans k5
    refine ⟨_, rfl, _, rfl, hd, _, rfl, hc, _, y5, hne, by omega, by omega, by omega, fun r6 H6 a6 b6 k6 y6 => ?_⟩
    have K46 := k45.trans k6
    have K6 := K4.trans K46
    have c6 := K46 _ _ (notin1 ncl) c4
    have l6 := K46 _ _ (notin1 nll) l4
    have d6 := K46 _ _ (notin1 nsd) e4
    refine ⟨_, _, rfl, rfl, _, rfl, by omega, by omega, fun D hD => ?_⟩
    have fD := y6.was K6 hD
    have ndD := y6.nh hD
    have sD := Same.new (o := .lst []) (Same.refl H6) hD
    refine lc_range (lo := 0) (n := (1 + r6).toNat) (fun i H7 => ∃ ss sp, ss.length = i ∧ Kp [hd] H6 H7 ∧ HaI H7 hd hc (N + 200 + 20 * (i : Nat)) ∧ H7 D = some (.lst (ss.map V.ref)) ∧ SpsI H7 ss sp ∧ ∀ d ∈ sp, d.ok) ⟨[], [], rfl, Kp.same sD, (y6.same sD).mono (by omega), upd_same, ⟨rfl, fun i a d h => by simp at h⟩, by simp⟩ ?_ ?_
    · rintro i H7 hi ⟨ss, sp, e7, q1, q2, q3, q4, q5⟩
      refine ⟨rfl, _, rfl, _, rfl, _, _, rfl, .inl (SqL.of (q1 _ _ (notin1 ncl) c6)), hd, _, rfl, hc, _, q2, hne, by omega, by omega, by omega, fun p d H8 fp k8 y8 e8 dok => ?_⟩
      have d8 := k8 _ _ (notin1 (Ne.symm ndD)) q3
      refine ⟨ss.map V.ref, d8, by rw [List.length_map, e7]; exact Nat.lt_of_le_of_lt (show i ≤ 100 by omega) (by decide), ss ++ [p], sp ++ [d], by rw [List.length_append, e7]; rfl, ?_, ?_, ?_, ?_, ?_⟩
      · intro b o nb e
        rw [upd_ne (ne_of_none e hD)]
        exact (q1.trans k8) b o nb e
      · exact (y8.kp (S := [D]) (Kp.refl.set (by simp)) (notin1 ndD) (notin1 (y6.nc hD))).mono (by omega)
      · rw [upd_same]
        show some (HO.lst (List.map V.ref ss ++ [V.ref p])) = _
        rw [show List.map V.ref (ss ++ [p]) = List.map V.ref ss ++ [V.ref p] from List.map_append]
      · have up : ∀ {a xs}, H8 a = some (.tup xs) → upd H8 D (.lst (ss.map V.ref ++ [.ref p])) a = some (.tup xs) := fun {a xs} e => by
          rw [upd_ne (fun z => by rw [z, d8] at e; cases e)]
          exact e
        have q4' : SpsI (upd H8 D (.lst (ss.map V.ref ++ [.ref p]))) ss sp := ⟨q4.1, fun i a d h1 h2 => up (k8 _ _ (notin1 (fun z => by have := q4.2 i a d h1 h2; obtain ⟨xs, ex⟩ := q2.hd; rw [z, ex] at this; cases this)) (q4.2 i a d h1 h2))⟩
        exact q4'.snoc (up e8)
      · intro x hx
        rcases List.mem_append.mp hx with z | z
        · exact q5 x z
        · rw [List.mem_singleton.mp z]
          exact dok
    · rintro H7 ⟨ss, sp, e7, q1, q2, q3, q4, q5⟩
      have ls : (((ss.map V.ref).length : Nat) : Int) = sp.length := by rw [List.length_map, q4.1]
      have ls2 : (sp.length : Int) = 1 + r6 := by rw [← q4.1, e7]; omega
      refine ⟨_, rfl, _, rfl, hd, _, rfl, hc, _, q2, hne, by omega, by omega, by omega, fun r8 H8 a8 b8 k8 y8 => ?_⟩
      have ndD' : D ≠ hd := Ne.symm ndD
      have d8 := k8 _ _ (notin1 ndD') q3
      refine ⟨_, _, rfl, rfl, ⟨by decide, by decide⟩, _, rfl, _, rfl, _, _, rfl, .inl (SqL.of d8), _, _, rfl, rfl, ?_⟩
      rw [ls]
      refine ⟨hd, _, rfl, hc, _, y8, hne, by omega, by omega, by omega, fun r9 H9 a9 b9 k9 y9 => ?_⟩
      have e8 : r8.fdiv 3 = 0 ∨ r8.fdiv 3 = 1 := by
        rw [Int.fdiv_eq_ediv_of_nonneg _ (by omega)]
        omega
      refine ⟨_, _, rfl, rfl, .inr ⟨by omega, by omega⟩, _, rfl, _, rfl, _, rfl, by show 0 ≤ sizeLine; exact Nat.zero_le _, fun lg hlg => ?_⟩
      have s9 := Same.new (o := .lst []) (Same.refl H9) hlg
      refine ⟨sz_ (by simp), fun ow how => ?_⟩
      have K69 : Kp [hd] H6 H9 := q1.trans (k8.trans k9)
      have K9 := K6.trans K69
      have D9 := k9 _ _ (notin1 ndD') d8
      have c9 := K69 _ _ (notin1 ncl) c6
      have l9 := K69 _ _ (notin1 nll) l6
      have d9 := K69 _ _ (notin1 nsd) d6
      have g10 : upd H9 lg (.lst []) lg = some (.lst []) := upd_same
      have how9 := s9.free how
      have at9 : 0 ≤ r8.fdiv 3 * r9 ∧ r8.fdiv 3 * r9 ≤ (sp.length : Int) := by
        rcases e8 with z | z <;> rw [z] <;> omega
      let O : Od := ⟨ow, D, sd, cl, ll, lg, ss⟩
      have s10 : ∀ {o}, Same H9 (upd (upd H9 lg (.lst [])) ow o) := fun {o} => Same.new s9 how
      have ss9 : SpsI H9 ss sp := ⟨q4.1, fun i a d h1 h2 => by
        have t7 := q4.2 i a d h1 h2
        have na : a ≠ hd := fun z => by obtain ⟨xs, ex⟩ := q2.hd; rw [z, ex] at t7; cases t7
        exact k9 _ _ (notin1 na) (k8 _ _ (notin1 na) t7)⟩
      refine k O sp (r8.fdiv 3 * r9) v cs lv _ (fun a ha => ?_) ⟨Ne.symm (ne_of_none D9 how9), Ne.symm (ne_of_none c9 how9), Ne.symm (ne_of_none l9 how9), Ne.symm (ne_of_none g10 how), Ne.symm (ne_of_none c6 hD), Ne.symm (ne_of_none l6 hD), ne_of_none D9 hlg, ncll, ne_of_none c9 hlg, ne_of_none l9 hlg⟩ (K9.trans (Kp.same s10)) ((y9.same s10).mono (by omega))
        ⟨upd_same, s10 _ _ D9, ss9.same s10, s10 _ _ d9, s10 _ _ c9, s10 _ _ l9, upd_keep g10 how⟩ (by omega) (by omega) q5 at9.1 at9.2 vok c1 c2 hin (by omega)
      simp only [List.mem_cons, List.not_mem_nil, or_false] at ha
      rcases ha with z | z | z | z | z | z <;> subst z
      · exact y9.was K9 how9
      · exact fD
      · exact y3.was K3 fsd
      · exact fcl
      · exact y2.was K2 fll
      · exact y9.was K9 hlg
theorem good_law_own (T : Txt K mg) : Good P w K mg base 4 (He.ga K "_law_own") [] (sp_own K) := by
  obtain ⟨fd, F⟩ := T.d__law_own
  exact ⟨⟨fd, _, [], ok_law_own T F, F.bindsN fun _ _ _ _ _ _ us hl => match us, hl with | [_, _, _], _ => rfl, .nil⟩, F.kp⟩
end
end HB


namespace HB
open PySem PySem.Spec PyProof.Rows L2
local macro_rules | `(tactic| walk_at "ne") => `(tactic| first | assumption | (apply Ne.symm; assumption) | exact ne_of_none (by assumption) (by assumption) | exact ne_new (by assumption) (by assumption) | (intro q; cases q; done))
local macro_rules | `(tactic| walk_at "hp") => `(tactic| first
  | assumption
  | exact upd_same
  | (refine upd_keep ?_ (by assumption); walk_at "hp")
  | (refine upd_far (by walk_at "ne") ?_; walk_at "hp")
  | (refine Same.get (by assumption) ?_; walk_at "hp")
  | (refine Kp.get (by assumption) ?_ (notin1 (by walk_at "ne")); walk_at "hp"))
local macro_rules | `(tactic| walk_at "same") => `(tactic| first
  | assumption
  | exact Same.refl _
  | (refine Same.new ?_ (by assumption); walk_at "same")
  | (refine Same.trans ?_ (by assumption); walk_at "same"))
/-- one row of a reading -/
local macro_rules | `(tactic| walk_at "r1") => `(tactic| first
  | refine ⟨_, rfl, ?_⟩
  | refine ⟨_, _, rfl, rfl, ?_⟩
  | refine ⟨rfl, ?_⟩
  | refine ⟨_, _, _, _, _, rfl, (by walk_at "hp"), (by assumption), (by assumption), rfl, ?_⟩
  | refine ⟨sz_ (by decide), fun _ _ => ?_⟩)
local macro_rules | `(tactic| walk_at "rd") => `(tactic| repeat walk_at "r1")
section
variable {P : Program} {w : World} {K : PySem.W.Frag} {mg : Str → Option Value} {base : Heap}
/-! ### the machine of the law -/
def Lg.ix : Lg → Nat
  | .copy => 0
  | .fill => 1
  | .seek => 2
  | .match_ => 3
  | .shift => 4
  | .turn => 5
def lngV : List V := [.str "copy", .str "fill", .str "seek", .str "match", .str "shift", .str "turn"]
theorem lng_no (l : Lg) (m : Nat) (z : V) (h : m < l.ix) (e : lngV[m]? = some z) : eqV z (.str l.nm) = false := by
  have h6 : m = 0 ∨ m = 1 ∨ m = 2 ∨ m = 3 ∨ m = 4 := by
    cases l <;> simp only [Lg.ix] at h <;> omega
  rcases h6 with q | q | q | q | q <;> subst q <;> cases e <;> cases l <;> first | rfl | (simp only [Lg.ix] at h; omega)
def sp_long (K : PySem.W.Frag) : Sp := fun vs H Q _ => ∃ l : Lg, vs = [.str l.nm] ∧ ∀ a dx H', H a = none → Same H H' → H' a = some (.ins (He.ga K l.cls) dx []) → Q (.ref a) H'
theorem Same.ins {H H' : Hp} {a b : Addr} {o u : HO} (s : Same H H') (h1 : H' a = none) (h2 : H' b = none) : Same H (upd (upd H' b u) a o) := fun c q e => by
  have e' := s c q e
  rw [upd_ne (ne_of_none e' h1), upd_ne (ne_of_none e' h2)]
  exact e'
def nm_law_long : List Str := ["_law_word", "_law_made"]
theorem sc_law_long : FnScope nm_law_long ["_law_word"] (defScope s_law_long) := ⟨rfl, rfl, rfl, by decide +kernel, rfl, by decide +kernel, by decide +kernel⟩
theorem ok_law_long (T : Txt K mg) {f : Addr} {fd : FuncData} {dv : List V} {kw : List (Str × V)} (F : FunD K "_law_long" "_law_long" (defArgs s_law_long) (defBody s_law_long) (defScope s_law_long) dv kw f fd) : FnOk P w K mg base (CXr P w) 1 f fd ["_law_word"] (sp_long K) := by
  refine F.ok sc_law_long (fun vs H Q E h => ?_) (fun cdv A outer s H vs Q E hr h => ?_)
  · obtain ⟨l, rfl, _⟩ := h
    rfl
  · obtain ⟨l, rfl, h⟩ := h
    refine ⟨_, (pss_cons (ps_set (i := 1) sc_law_long.nd rfl (Or.inl rfl) (pe_lst (pa_cons (pe_makeP T.k0_Copy T.g_Copy) (pa_cons (pe_makeP T.k0_Fill T.g_Fill) (pa_cons (pe_makeP T.k0_Seek T.g_Seek) (pa_cons (pe_makeP T.k0_Match T.g_Match) (pa_cons (pe_makeP T.k0_Shift T.g_Shift) (pa_cons (pe_makeP T.k0_Turn T.g_Turn) pa_nil)))))))) (pss_one (ps_ret (pe_ix ix_list (pv 1) (pe_bm PySem.F.plainAttrs_list PySem.F.slot_list_index PySem.F.type_list_index mt_index (pe_lst (pa_cons pe_str (pa_cons pe_str (pa_cons pe_str (pa_cons pe_str (pa_cons pe_str (pa_cons pe_str pa_nil))))))) (pa_cons (pv 0) pa_nil)) (fun _ _ => rfl))))), ?_⟩
    intro x1 d1 a1 b1 n1
    have s1 := Same.ins (o := .ins (He.ga K "Copy") d1 []) (u := .own x1) (Same.refl H) a1 b1
    have e1 : upd (upd H d1 (.own x1)) x1 (.ins (He.ga K "Copy") d1 []) x1 = some (.ins (He.ga K "Copy") d1 []) := upd_same
    generalize upd (upd H d1 (.own x1)) x1 (.ins (He.ga K "Copy") d1 []) = H1 at *
    intro x2 d2 a2 b2 n2
    have s2 := Same.ins (o := .ins (He.ga K "Fill") d2 []) (u := .own x2) (Same.refl H1) a2 b2
    have e2 : upd (upd H1 d2 (.own x2)) x2 (.ins (He.ga K "Fill") d2 []) x2 = some (.ins (He.ga K "Fill") d2 []) := upd_same
    generalize upd (upd H1 d2 (.own x2)) x2 (.ins (He.ga K "Fill") d2 []) = H2 at *
    intro x3 d3 a3 b3 n3
    have s3 := Same.ins (o := .ins (He.ga K "Seek") d3 []) (u := .own x3) (Same.refl H2) a3 b3
    have e3 : upd (upd H2 d3 (.own x3)) x3 (.ins (He.ga K "Seek") d3 []) x3 = some (.ins (He.ga K "Seek") d3 []) := upd_same
    generalize upd (upd H2 d3 (.own x3)) x3 (.ins (He.ga K "Seek") d3 []) = H3 at *
    intro x4 d4 a4 b4 n4
    have s4 := Same.ins (o := .ins (He.ga K "Match") d4 []) (u := .own x4) (Same.refl H3) a4 b4
    have e4 : upd (upd H3 d4 (.own x4)) x4 (.ins (He.ga K "Match") d4 []) x4 = some (.ins (He.ga K "Match") d4 []) := upd_same
    generalize upd (upd H3 d4 (.own x4)) x4 (.ins (He.ga K "Match") d4 []) = H4 at *
    intro x5 d5 a5 b5 n5
    have s5 := Same.ins (o := .ins (He.ga K "Shift") d5 []) (u := .own x5) (Same.refl H4) a5 b5
    have e5 : upd (upd H4 d5 (.own x5)) x5 (.ins (He.ga K "Shift") d5 []) x5 = some (.ins (He.ga K "Shift") d5 []) := upd_same
    generalize upd (upd H4 d5 (.own x5)) x5 (.ins (He.ga K "Shift") d5 []) = H5 at *
    intro x6 d6 a6 b6 n6
    have s6 := Same.ins (o := .ins (He.ga K "Turn") d6 []) (u := .own x6) (Same.refl H5) a6 b6
    have e6 : upd (upd H5 d6 (.own x6)) x6 (.ins (He.ga K "Turn") d6 []) x6 = some (.ins (He.ga K "Turn") d6 []) := upd_same
    generalize upd (upd H5 d6 (.own x6)) x6 (.ins (He.ga K "Turn") d6 []) = H6 at *
    refine ⟨sz_ (by simp), fun p hp => ?_⟩
    have s7 := Same.new (o := .lst [.ref x1, .ref x2, .ref x3, .ref x4, .ref x5, .ref x6]) (Same.refl H6) hp
    have e7 : upd H6 p (.lst [.ref x1, .ref x2, .ref x3, .ref x4, .ref x5, .ref x6]) p = some (.lst [.ref x1, .ref x2, .ref x3, .ref x4, .ref x5, .ref x6]) := upd_same
    generalize upd H6 p (.lst [.ref x1, .ref x2, .ref x3, .ref x4, .ref x5, .ref x6]) = H7 at *
    refine ⟨_, rfl, sz_ (by simp), fun q hq => ?_⟩
    have s8 := Same.new (o := .lst lngV) (Same.refl H7) hq
    have e8 : upd H7 q (.lst lngV) q = some (.lst lngV) := upd_same
    have e8' : upd H7 q (.lst [.str "copy", .str "fill", .str "seek", .str "match", .str "shift", .str "turn"]) = upd H7 q (.lst lngV) := rfl
    rw [e8']
    generalize upd H7 q (.lst lngV) = H8 at *
    have t6 := s7.trans s8
    have t5 := s6.trans t6
    have t4 := s5.trans t5
    have t3 := s4.trans t4
    have t2 := s3.trans t3
    have t1 := s2.trans t2
    have t0 := s1.trans t1
    refine ⟨.inl ⟨rfl, _, SqL.of e8⟩, _, rfl, q, lngV, _, l.ix, .str l.nm, rfl, rfl, SqL.of e8, rfl, rfl, by cases l <;> rfl, by cases l <;> rfl, fun m z => lng_no l m z, ?_⟩
    cases l
    · exact ⟨p, _, _, .ref x1, rfl, rfl, SqL.of (s8 _ _ e7), rfl, h x1 d1 H8 a1 t0 (t1 _ _ e1)⟩
    · exact ⟨p, _, _, .ref x2, rfl, rfl, SqL.of (s8 _ _ e7), rfl, h x2 d2 H8 (s1.free a2) t0 (t2 _ _ e2)⟩
    · exact ⟨p, _, _, .ref x3, rfl, rfl, SqL.of (s8 _ _ e7), rfl, h x3 d3 H8 ((s1.trans s2).free a3) t0 (t3 _ _ e3)⟩
    · exact ⟨p, _, _, .ref x4, rfl, rfl, SqL.of (s8 _ _ e7), rfl, h x4 d4 H8 (((s1.trans s2).trans s3).free a4) t0 (t4 _ _ e4)⟩
    · exact ⟨p, _, _, .ref x5, rfl, rfl, SqL.of (s8 _ _ e7), rfl, h x5 d5 H8 ((((s1.trans s2).trans s3).trans s4).free a5) t0 (t5 _ _ e5)⟩
    · exact ⟨p, _, _, .ref x6, rfl, rfl, SqL.of (s8 _ _ e7), rfl, h x6 d6 H8 (((((s1.trans s2).trans s3).trans s4).trans s5).free a6) t0 (t6 _ _ e6)⟩
theorem good_law_long (T : Txt K mg) : Good P w K mg base 1 (He.ga K "_law_long") [] (sp_long K) := by
  obtain ⟨fd, F⟩ := T.d__law_long
  exact ⟨⟨fd, _, [], ok_law_long T F, F.bindsN fun _ _ _ _ _ _ us hl => match us, hl with | [_], _ => rfl, .nil⟩, F.kp⟩
def sp_deed (K : PySem.W.Frag) : Sp := fun vs H Q _ => ∃ t : Addr, vs = [.ref t] ∧ ∃ d, H t = some (.tup (Spc.vals d)) ∧ d.ok ∧ ∀ a H', H a = none → Same H H' → DeI K H' d a → Q (.ref a) H'
theorem made {H H1 : Hp} {x dx : Addr} {o : HO} (hx : H x = none) (hd : H dx = none) (k : Kp [x] (upd (upd H dx (.own x)) x o) H1) : Same H H1 := fun b u e => k b u (notin1 (ne_of_none e hx)) (by
  rw [upd_ne (ne_of_none e hx), upd_ne (ne_of_none e hd)]
  exact e)
def nm_law_deed : List Str := ["_law_spec_here", "_law_word"]
theorem sc_law_deed : FnScope nm_law_deed ["_law_spec_here"] (defScope s_law_deed) := ⟨rfl, rfl, rfl, by decide +kernel, rfl, by decide +kernel, by decide +kernel⟩
theorem ok_law_deed (T : Txt K mg) {f : Addr} {fd : FuncData} {dv : List V} {kw : List (Str × V)} (F : FunD K "_law_deed" "_law_deed" (defArgs s_law_deed) (defBody s_law_deed) (defScope s_law_deed) dv kw f fd) : FnOk P w K mg base (CXr P w) 5 f fd ["_law_spec_here"] (sp_deed K) := by
  refine F.ok sc_law_deed (fun vs H Q E h => ?_) (fun cdv A outer s H vs Q E hr h => ?_)
  · obtain ⟨t, rfl, _⟩ := h
    rfl
  · obtain ⟨t, rfl, h⟩ := h
    refine ⟨_, (pss_cons (ps_set (i := 1) sc_law_deed.nd rfl (Or.inl rfl) (pe_ix ix_tup (pv 0) pe_int (fun _ _ => rfl))) (pss_cons (ps_if (pt_cmpR op_eq (pv 1) pe_str (nomark _)) (pss_one (ps_ret (pe_makeG T.k_Set (good_Set_init T) (hr.mono (by decide)) T.g_Set hx_cx (pa_cons (pe_ix ix_tup (pv 0) pe_int (fun _ _ => rfl)) (pa_cons (pe_ix ix_tup (pv 0) pe_int (fun _ _ => rfl)) pa_nil))))) pss_nil) (pss_cons (ps_if (pt_cmpR op_eq (pv 1) pe_str (nomark _)) (pss_one (ps_ret (pe_makeG T.k_Add (good_Add_init T) (hr.mono (by decide)) T.g_Add hx_cx (pa_cons (pe_ix ix_tup (pv 0) pe_int (fun _ _ => rfl)) (pa_cons (pe_ix ix_tup (pv 0) pe_int (fun _ _ => rfl)) pa_nil))))) pss_nil) (pss_cons (ps_if (pt_cmpR op_eq (pv 1) pe_str (nomark _)) (pss_one (ps_ret (pe_makeG T.k_Take (good_Take_init T) (hr.mono (by decide)) T.g_Take hx_cx (pa_cons (pe_ix ix_tup (pv 0) pe_int (fun _ _ => rfl)) (pa_cons (pe_ix ix_tup (pv 0) pe_int (fun _ _ => rfl)) pa_nil))))) pss_nil) (pss_cons (ps_if (pt_cmpR op_eq (pv 1) pe_str (nomark _)) (pss_one (ps_ret (pe_makeG T.k_Read (good_Read_init T) (hr.mono (by decide)) T.g_Read hx_cx (pa_cons (pe_ix ix_tup (pv 0) pe_int (fun _ _ => rfl)) pa_nil)))) pss_nil) (pss_cons (ps_if (pt_cmpR op_eq (pv 1) pe_str (nomark _)) (pss_one (ps_ret (pe_makeG T.k_Write (good_Write_init T) (hr.mono (by decide)) T.g_Write hx_cx (pa_cons (pe_ix ix_tup (pv 0) pe_int (fun _ _ => rfl)) pa_nil)))) pss_nil) (pss_cons (ps_if (pt_cmpR op_eq (pv 1) pe_str (nomark _)) (pss_one (ps_ret (pe_makeG T.k_Hop (good_Hop_init T) (hr.mono (by decide)) T.g_Hop hx_cx (pa_cons (pe_ix ix_tup (pv 0) pe_int (fun _ _ => rfl)) (pa_cons (pe_ix ix_tup (pv 0) pe_int (fun _ _ => rfl)) pa_nil))))) pss_nil) (pss_one (ps_ret (pe_callG (good_law_long T) (hr.mono (by decide)) T.g__law_long hx_cx (pa_cons (pv 1) pa_nil))))))))))), ?_⟩
    obtain ⟨d, ht, dok, k⟩ := h
    cases d with
    | lng l =>
      refine ⟨_, rfl, t, _, _, .str l.nm, rfl, rfl, SqT.of ht, rfl, ?_⟩
      have ne : ∀ {z : Str}, (∀ l : Lg, l.nm ≠ z) → decide (V.str l.nm = V.str z) = false := fun {z} h => decide_eq_false fun q => h l (V.str.inj q)
      refine ⟨_, rfl, rfl, _, rfl, ?_⟩
      rw [ne (z := "set") (fun l => by cases l <;> decide)]
      refine iteF ⟨_, rfl, rfl, _, rfl, ?_⟩
      rw [ne (z := "add") (fun l => by cases l <;> decide)]
      refine iteF ⟨_, rfl, rfl, _, rfl, ?_⟩
      rw [ne (z := "take") (fun l => by cases l <;> decide)]
      refine iteF ⟨_, rfl, rfl, _, rfl, ?_⟩
      rw [ne (z := "read") (fun l => by cases l <;> decide)]
      refine iteF ⟨_, rfl, rfl, _, rfl, ?_⟩
      rw [ne (z := "write") (fun l => by cases l <;> decide)]
      refine iteF ⟨_, rfl, rfl, _, rfl, ?_⟩
      rw [ne (z := "hop") (fun l => by cases l <;> decide)]
      exact iteF ⟨_, rfl, l, rfl, fun a dx H1 ha s1 e1 => k a H1 ha s1 ⟨dx, e1⟩⟩
    | set b n =>
      refine ⟨_, rfl, t, _, _, .str "set", rfl, rfl, SqT.of ht, rfl, ?_⟩
      refine ⟨_, rfl, rfl, _, rfl, iteT ?_⟩
      refine ⟨_, rfl, t, _, _, .str b.nm, rfl, rfl, SqT.of ht, rfl, _, rfl, t, _, _, .int n, rfl, rfl, SqT.of ht, rfl, ?_⟩
      intro x dx hx hdx ne
      exact ⟨x, b, n, rfl, dx, upd_same, dok.1, dok.2, fun H1 k1 e1 => ⟨rfl, k x H1 hx (made hx hdx k1) ⟨dx, e1⟩⟩⟩
    | add b n =>
      refine ⟨_, rfl, t, _, _, .str "add", rfl, rfl, SqT.of ht, rfl, ?_⟩
      refine ⟨_, rfl, rfl, _, rfl, iteF ⟨_, rfl, rfl, _, rfl, iteT ?_⟩⟩
      refine ⟨_, rfl, t, _, _, .str b.nm, rfl, rfl, SqT.of ht, rfl, _, rfl, t, _, _, .int n, rfl, rfl, SqT.of ht, rfl, ?_⟩
      intro x dx hx hdx ne
      exact ⟨x, b, n, rfl, dx, upd_same, dok.1, dok.2, fun H1 k1 e1 => ⟨rfl, k x H1 hx (made hx hdx k1) ⟨dx, e1⟩⟩⟩
    | take b c =>
      refine ⟨_, rfl, t, _, _, .str "take", rfl, rfl, SqT.of ht, rfl, ?_⟩
      refine ⟨_, rfl, rfl, _, rfl, iteF ⟨_, rfl, rfl, _, rfl, iteF ⟨_, rfl, rfl, _, rfl, iteT ?_⟩⟩⟩
      refine ⟨_, rfl, t, _, _, .str b.nm, rfl, rfl, SqT.of ht, rfl, _, rfl, t, _, _, .str c.nm, rfl, rfl, SqT.of ht, rfl, ?_⟩
      intro x dx hx hdx ne
      exact ⟨x, b, c, rfl, dx, upd_same, fun H1 k1 e1 => ⟨rfl, k x H1 hx (made hx hdx k1) ⟨dx, e1⟩⟩⟩
    | read b =>
      refine ⟨_, rfl, t, _, _, .str "read", rfl, rfl, SqT.of ht, rfl, ?_⟩
      refine ⟨_, rfl, rfl, _, rfl, iteF ⟨_, rfl, rfl, _, rfl, iteF ⟨_, rfl, rfl, _, rfl, iteF ⟨_, rfl, rfl, _, rfl, iteT ?_⟩⟩⟩⟩
      refine ⟨_, rfl, t, _, _, .str b.nm, rfl, rfl, SqT.of ht, rfl, ?_⟩
      intro x dx hx hdx ne
      exact ⟨x, b, rfl, dx, upd_same, fun H1 k1 e1 => ⟨rfl, k x H1 hx (made hx hdx k1) ⟨dx, e1⟩⟩⟩
    | write b =>
      refine ⟨_, rfl, t, _, _, .str "write", rfl, rfl, SqT.of ht, rfl, ?_⟩
      refine ⟨_, rfl, rfl, _, rfl, iteF ⟨_, rfl, rfl, _, rfl, iteF ⟨_, rfl, rfl, _, rfl, iteF ⟨_, rfl, rfl, _, rfl, iteF ⟨_, rfl, rfl, _, rfl, iteT ?_⟩⟩⟩⟩⟩
      refine ⟨_, rfl, t, _, _, .str b.nm, rfl, rfl, SqT.of ht, rfl, ?_⟩
      intro x dx hx hdx ne
      exact ⟨x, b, rfl, dx, upd_same, fun H1 k1 e1 => ⟨rfl, k x H1 hx (made hx hdx k1) ⟨dx, e1⟩⟩⟩
    | hop m on =>
      refine ⟨_, rfl, t, _, _, .str "hop", rfl, rfl, SqT.of ht, rfl, ?_⟩
      refine ⟨_, rfl, rfl, _, rfl, iteF ⟨_, rfl, rfl, _, rfl, iteF ⟨_, rfl, rfl, _, rfl, iteF ⟨_, rfl, rfl, _, rfl, iteF ⟨_, rfl, rfl, _, rfl, iteF ⟨_, rfl, rfl, _, rfl, iteT ?_⟩⟩⟩⟩⟩⟩
      refine ⟨_, rfl, t, _, _, .int m, rfl, rfl, SqT.of ht, rfl, _, rfl, t, _, _, onV on, rfl, rfl, SqT.of ht, rfl, ?_⟩
      intro x dx hx hdx ne
      exact ⟨x, m, on, rfl, dx, upd_same, dok.1, dok.2, fun H1 k1 e1 => ⟨rfl, k x H1 hx (made hx hdx k1) ⟨dx, e1⟩⟩⟩
theorem good_law_deed (T : Txt K mg) : Good P w K mg base 5 (He.ga K "_law_deed") [] (sp_deed K) := by
  obtain ⟨fd, F⟩ := T.d__law_deed
  exact ⟨⟨fd, _, [], ok_law_deed T F, F.bindsN fun _ _ _ _ _ _ us hl => match us, hl with | [_], _ => rfl, .nil⟩, F.kp⟩
end
end HB


namespace HB
open PySem PySem.Spec PyProof.Rows L2
local macro_rules | `(tactic| walk_at "ne") => `(tactic| first | assumption | (apply Ne.symm; assumption) | exact ne_of_none (by assumption) (by assumption) | exact ne_new (by assumption) (by assumption) | (intro q; cases q; done))
local macro_rules | `(tactic| walk_at "hp") => `(tactic| first
  | assumption
  | exact upd_same
  | (refine upd_keep ?_ (by assumption); walk_at "hp")
  | (refine upd_far (by walk_at "ne") ?_; walk_at "hp")
  | (refine Same.get (by assumption) ?_; walk_at "hp")
  | (refine Kp.get (by assumption) ?_ (notin1 (by walk_at "ne")); walk_at "hp"))
local macro_rules | `(tactic| walk_at "same") => `(tactic| first
  | assumption
  | exact Same.refl _
  | (refine Same.new ?_ (by assumption); walk_at "same")
  | (refine Same.trans ?_ (by assumption); walk_at "same"))
/-- one row of a reading -/
local macro_rules | `(tactic| walk_at "r1") => `(tactic| first
  | refine ⟨_, rfl, ?_⟩
  | refine ⟨_, _, rfl, rfl, ?_⟩
  | refine ⟨rfl, ?_⟩
  | refine ⟨_, _, _, _, _, rfl, (by walk_at "hp"), (by assumption), (by assumption), rfl, ?_⟩
  | refine ⟨sz_ (by decide), fun _ _ => ?_⟩)
local macro_rules | `(tactic| walk_at "rd") => `(tactic| repeat walk_at "r1")
section
variable {P : Program} {w : World} {K : PySem.W.Frag} {mg : Str → Option Value} {base : Heap}
/-! ### values as data -/
def toD : V → PyData
  | .int i => .int i
  | .str x => .str x
  | _ => .none
def FlatV : V → Prop
  | .int _ => True
  | .str x => (PyData.str x).canLay0 = true
  | .non => True
  | _ => False
def OkD (d : PyData) (k : Nat) : Prop := d.canLay0 = true ∧ d.depth ≤ k
theorem okAll {k : Nat} : ∀ {ds : List PyData}, (∀ d ∈ ds, OkD d k) → PyData.canLayAll0 ds = true ∧ PyData.depthAll ds ≤ k
  | [], _ => by simp [PyData.canLayAll0, PyData.depthAll]
  | d :: ds, h => by
    obtain ⟨h1, h2⟩ := h d (by simp)
    obtain ⟨h3, h4⟩ := okAll (ds := ds) fun e he => h e (List.mem_cons_of_mem _ he)
    simp only [PyData.canLayAll0, PyData.depthAll]
    exact ⟨by rw [h1, h3]; rfl, by omega⟩
theorem okL {k : Nat} {ds : List PyData} (h : ∀ d ∈ ds, OkD d k) : OkD (.list ds) (k + 1) := by
  obtain ⟨h1, h2⟩ := okAll h
  exact ⟨by simp only [PyData.canLay0]; exact h1, by simp only [PyData.depth]; omega⟩
theorem okT {k : Nat} {ds : List PyData} (h : ∀ d ∈ ds, OkD d k) : OkD (.tuple ds) (k + 1) := by
  obtain ⟨h1, h2⟩ := okAll h
  exact ⟨by simp only [PyData.canLay0]; exact h1, by simp only [PyData.depth]; omega⟩
theorem OkD.shaped {d : PyData} {k : Nat} (h : OkD d k) (hk : k ≤ 64) : SeqAt.shaped d = true := by
  show (d.canLay0 && decide (d.depth ≤ 64)) = true
  rw [Bool.and_eq_true]
  exact ⟨h.1, decide_eq_true (Nat.le_trans h.2 hk)⟩
theorem OkD.mono {d : PyData} {j k : Nat} (h : OkD d j) (hk : j ≤ k) : OkD d k := ⟨h.1, Nat.le_trans h.2 hk⟩
theorem okF {v : V} (h : FlatV v) : OkD (toD v) 0 := by
  cases v <;> first | exact h.elim | exact ⟨h, by simp [toD, PyData.depth]⟩ | exact ⟨by simp [toD, PyData.canLay0], by simp [toD, PyData.depth]⟩
theorem dpF {H : Hp} {v : V} (h : FlatV v) : Dp K H v (toD v) := by
  cases v <;> first | exact h.elim | exact .int _ | exact .str _ | exact .non
theorem dpFs {H : Hp} : ∀ {vs : List V}, (∀ v ∈ vs, FlatV v) → DpAll K H vs (vs.map toD)
  | [], _ => .nil
  | v :: vs, h => .cons (dpF (h v (by simp))) (dpFs fun u hu => h u (by simp [hu]))
theorem okFs {vs : List V} (h : ∀ v ∈ vs, FlatV v) : ∀ d ∈ vs.map toD, OkD d 0 := fun d hd => by
  obtain ⟨v, hv, rfl⟩ := List.mem_map.mp hd
  exact okF (h v hv)
theorem eqF {a b : V} (ha : FlatV a) (hb : FlatV b) (h : PyData.eqv (toD a) (toD b) = true) : a = b := by
  cases a <;> first | exact ha.elim | (cases b <;> first | exact hb.elim | rfl | (simp only [toD, PyData.eqv] at h; first | cases h | rw [eq_of_beq h] | rfl))
theorem eqFs : ∀ {xs ys : List V}, (∀ v ∈ xs, FlatV v) → (∀ v ∈ ys, FlatV v) → PyData.eqvAll (xs.map toD) (ys.map toD) = true → xs = ys
  | [], [], _, _, _ => rfl
  | [], _ :: _, _, _, h => by simp [PyData.eqvAll] at h
  | _ :: _, [], _, _, h => by simp [PyData.eqvAll] at h
  | x :: xs, y :: ys, hx, hy, h => by
    simp only [List.map_cons, PyData.eqvAll, Bool.and_eq_true] at h
    rw [eqF (hx x (by simp)) (hy y (by simp)) h.1, eqFs (fun v hv => hx v (by simp [hv])) (fun v hv => hy v (by simp [hv])) h.2]
theorem flatB (b : Bx) : FlatV (.str b.nm) := by cases b <;> (show (PyData.canLay0 _) = true; decide +kernel)
theorem flatL (l : Lg) : FlatV (.str l.nm) := by cases l <;> (show (PyData.canLay0 _) = true; decide +kernel)
theorem flatLv (l : Lv) : FlatV l.v := by cases l <;> (show (PyData.canLay0 _) = true; decide +kernel)
theorem flatO (o : Option Int) : FlatV (onV o) := by cases o <;> trivial
theorem specF (d : Spc) : ∀ v ∈ d.vals, FlatV v := by
  have s1 : FlatV (.str "set") := by show (PyData.canLay0 _) = true; decide +kernel
  have s2 : FlatV (.str "add") := by show (PyData.canLay0 _) = true; decide +kernel
  have s3 : FlatV (.str "take") := by show (PyData.canLay0 _) = true; decide +kernel
  have s4 : FlatV (.str "read") := by show (PyData.canLay0 _) = true; decide +kernel
  have s5 : FlatV (.str "write") := by show (PyData.canLay0 _) = true; decide +kernel
  have s6 : FlatV (.str "hop") := by show (PyData.canLay0 _) = true; decide +kernel
  intro v hv
  cases d <;> simp only [Spc.vals, List.mem_cons, List.not_mem_nil, or_false] at hv
  · rw [hv]
    exact flatL _
  · rcases hv with z | z | z <;> rw [z]
    · exact s1
    · exact flatB _
    · trivial
  · rcases hv with z | z | z <;> rw [z]
    · exact s2
    · exact flatB _
    · trivial
  · rcases hv with z | z | z <;> rw [z]
    · exact s3
    · exact flatB _
    · exact flatB _
  · rcases hv with z | z <;> rw [z]
    · exact s4
    · exact flatB _
  · rcases hv with z | z <;> rw [z]
    · exact s5
    · exact flatB _
  · rcases hv with z | z | z <;> rw [z]
    · exact s6
    · trivial
    · exact flatO _
def specD (d : Spc) : PyData := .tuple (d.vals.map toD)
theorem bx_inj {b c : Bx} (h : b.nm = c.nm) : b = c := by cases b <;> cases c <;> first | rfl | (exact absurd h (by decide))
theorem lg_inj {b c : Lg} (h : b.nm = c.nm) : b = c := by cases b <;> cases c <;> first | rfl | (exact absurd h (by decide))
theorem on_inj {a b : Option Int} (h : onV a = onV b) : a = b := by
  cases a <;> cases b <;> first | rfl | (exact congrArg some (V.int.inj h)) | (cases h; done)
theorem vals_inj {x y : Spc} (h : x.vals = y.vals) : x = y := by
  cases x <;> cases y <;> simp only [Spc.vals, List.cons.injEq, V.str.injEq, V.int.injEq, and_true, true_and, reduceCtorEq, and_false, false_and] at h <;>
    first
    | (cases h; done)
    | (exact absurd h.1 (by decide))
    | (rw [lg_inj h]; done)
    | (obtain ⟨h1, h2⟩ := h; rw [bx_inj h1, h2]; done)
    | (obtain ⟨h1, h2⟩ := h; rw [bx_inj h1, bx_inj h2]; done)
    | (rw [bx_inj h]; done)
    | (obtain ⟨h1, h2⟩ := h; rw [h1, on_inj h2]; done)
    | skip
theorem specD_inj {x y : Spc} (h : PyData.eqv (specD x) (specD y) = true) : x = y := by
  simp only [specD, PyData.eqv] at h
  exact vals_inj (eqFs (specF x) (specF y) h)
theorem specD_ok (d : Spc) : OkD (specD d) 1 := okT (okFs (specF d))
theorem specD_refl (d : Spc) : PyData.eqv (specD d) (specD d) = true := SeqAt.eqv_refl _ (specD_ok d).1
theorem SpsI.dp {H : Hp} : ∀ {ss : List Addr} {sp : List Spc}, SpsI H ss sp → DpAll K H (ss.map V.ref) (sp.map specD)
  | [], [], _ => .nil
  | [], _ :: _, h => by cases h.1
  | _ :: _, [], h => by cases h.1
  | a :: ss, d :: sp, h => .cons (.tup (SqT.of (h.2 0 a d rfl rfl)) (dpFs (specF d))) (SpsI.dp ⟨by have := h.1; simpa using this, fun i b e h1 h2 => h.2 (i + 1) b e h1 h2⟩)
theorem first_ix (p : Nat → Bool) : ∀ n, p n = true → ∃ j, j ≤ n ∧ p j = true ∧ ∀ m, m < j → p m = false := by
  intro n
  induction n using Nat.strongRecOn with
  | _ n ih =>
    intro h
    by_cases z : ∃ m, m < n ∧ p m = true
    · obtain ⟨m, hm, e⟩ := z
      obtain ⟨j, h1, h2, h3⟩ := ih m hm e
      exact ⟨j, by omega, h2, h3⟩
    · refine ⟨n, Nat.le_refl n, h, fun m hm => ?_⟩
      cases e : p m with
      | false => rfl
      | true => exact absurd ⟨m, hm, e⟩ z
end
end HB


namespace HB
open PySem PySem.Spec PyProof.Rows L2
local macro_rules | `(tactic| walk_at "ne") => `(tactic| first | assumption | (apply Ne.symm; assumption) | exact ne_of_none (by assumption) (by assumption) | exact ne_new (by assumption) (by assumption) | (intro q; cases q; done))
local macro_rules | `(tactic| walk_at "hp") => `(tactic| first
  | assumption
  | exact upd_same
  | (refine upd_keep ?_ (by assumption); walk_at "hp")
  | (refine upd_far (by walk_at "ne") ?_; walk_at "hp")
  | (refine Same.get (by assumption) ?_; walk_at "hp")
  | (refine Kp.get (by assumption) ?_ (notin1 (by walk_at "ne")); walk_at "hp"))
local macro_rules | `(tactic| walk_at "same") => `(tactic| first
  | assumption
  | exact Same.refl _
  | (refine Same.new ?_ (by assumption); walk_at "same")
  | (refine Same.trans ?_ (by assumption); walk_at "same"))
/-- one row of a reading -/
local macro_rules | `(tactic| walk_at "r1") => `(tactic| first
  | refine ⟨_, rfl, ?_⟩
  | refine ⟨_, _, rfl, rfl, ?_⟩
  | refine ⟨rfl, ?_⟩
  | refine ⟨_, _, _, _, _, rfl, (by walk_at "hp"), (by assumption), (by assumption), rfl, ?_⟩
  | refine ⟨sz_ (by decide), fun _ _ => ?_⟩)
local macro_rules | `(tactic| walk_at "rd") => `(tactic| repeat walk_at "r1")
section
variable {P : Program} {w : World} {K : PySem.W.Frag} {mg : Str → Option Value} {base : Heap}
def sp_lstore (K : PySem.W.Frag) : Sp := fun vs H Q _ => ∃ (cl ll : Addr), vs = [.ref cl, .ref ll] ∧ ∃ cs lv, H cl = some (.lst (ivs cs)) ∧ H ll = some (.lst (lvs lv)) ∧ lv.length = cs.length ∧ 1 ≤ cs.length ∧ cs.length ≤ 60 ∧ (∀ c ∈ cs, inC c = true) ∧
  ∀ s dx kl gl H', H s = none → Same H H' → H' s = some (.ins (He.ga K "Store") dx (sF kl gl)) → CelI H' kl gl cs lv → Q (.ref s) H'
theorem lvSet_get (X : List Lv) (a b : Nat) (l : Lv) (j : Nat) : (lvSet X a b l)[j]? = (X[j]?).map fun x => if a ≤ j ∧ j < b then l else x := by
  unfold lvSet
  rw [List.getElem?_mapIdx]
def nm_law_store : List Str := ["_law_cells_here", "_law_leaves_here", "_law_store_here", "_law_cell"]
theorem sc_law_store : FnScope nm_law_store ["_law_cells_here", "_law_leaves_here"] (defScope s_law_store) := ⟨rfl, rfl, rfl, by decide +kernel, rfl, by decide +kernel, by decide +kernel⟩
theorem ok_law_store (T : Txt K mg) {f : Addr} {fd : FuncData} {dv : List V} {kw : List (Str × V)} (F : FunD K "_law_store" "_law_store" (defArgs s_law_store) (defBody s_law_store) (defScope s_law_store) dv kw f fd) : FnOk P w K mg base (CXr P w) 6 f fd ["_law_cells_here", "_law_leaves_here"] (sp_lstore K) := by
  refine F.ok sc_law_store (fun vs H Q E h => ?_) (fun cdv A outer s H vs Q E hr h => ?_)
  · obtain ⟨cl, ll, rfl, _⟩ := h
    rfl
  · obtain ⟨cl, ll, rfl, h⟩ := h
    refine ⟨_, (pss_cons (ps_set (i := 2) sc_law_store.nd rfl (Or.inl rfl) (pe_makeG T.k_Store (good_Store_init T) (hr.mono (by decide)) T.g_Store hx_cx (pa_cons (pe_callTy (T := "list") call_list_of (by rfl) T.f_list (by decide +kernel) (pa_cons (pv 0) pa_nil)) pa_nil))) (pss_cons (ps_for po_cx rfl (pi_range1 rfl T.f_range (pa_cons (pe_callB call_len_seq (by rfl) T.f_len PySem.boot_len (pa_cons (pv 0) pa_nil)) pa_nil)) (pg_name (i := 3) sc_law_store.nd rfl (Or.inl rfl)) (pss_one (ps_expr (pe_methG (pv 2) T.c_Store T.m_Store_leave (good_Store_leave T) (hr.mono (by decide)) hx_cx (pa_cons (pv 3) (pa_cons (pe_op op_add (pv 3) pe_int) (pa_cons (pe_ix ix_list (pv 1) (pv 3) (fun _ _ => rfl)) pa_nil))))))) (pss_one (ps_ret (pv 2))))), ?_⟩
    obtain ⟨cs, lv, hcl, hll, len, c1, c2, hin, k⟩ := h
    have lc : (((ivs cs).length : Nat) : Int) = cs.length := by simp
    refine ⟨_, rfl, cl, _, rfl, .inl (SqL.of hcl), fun q hq => ?_⟩
    have s1 := Same.new (o := .lst (ivs cs)) (Same.refl H) hq
    have e1 : upd H q (.lst (ivs cs)) q = some (.lst (ivs cs)) := upd_same
    generalize upd H q (.lst (ivs cs)) = H1 at *
    intro s dx hs hdx ne
    have s2 := Same.ins (o := .ins (He.ga K "Store") dx []) (u := .own s) (Same.refl H1) hs hdx
    have e2 : upd (upd H1 dx (.own s)) s (.ins (He.ga K "Store") dx []) s = some (.ins (He.ga K "Store") dx []) := upd_same
    generalize upd (upd H1 dx (.own s)) s (.ins (He.ga K "Store") dx []) = H2 at *
    refine ⟨s, q, rfl, _, dx, cs, e2, T.c_Store, T.n_Store_kept, T.n_Store_given, s2 _ _ e1, c1, c2, hin, fun kl gl H3 fk fg nkg k3 i3 l3 g3 => ⟨rfl, ?_⟩⟩
    have far : ∀ {b o}, H b = some o → H3 b = some o := fun {b o} e => k3 _ _ (notin1 (ne_of_none (s1 _ _ e) hs)) (s2 _ _ (s1 _ _ e))
    have fk0 : H kl = none := s1.free (s2.free fk)
    have fg0 : H gl = none := s1.free (s2.free fg)
    refine ⟨_, rfl, _, _, rfl, .inl (SqL.of (far hcl)), ?_⟩
    rw [lc]
    refine ⟨_, rfl, by omega, by omega, for_range (lo := 0) (n := (cs.length : Int).toNat) (fun i σ H4 => (∃ v : Option V, σ = [some (.ref cl), some (.ref ll), some (.ref s), v]) ∧ Kp [gl] H3 H4 ∧ ∃ X : List Lv, H4 gl = some (.lst (lvs X)) ∧ X.length = cs.length ∧ ∀ j, j < i → X[j]? = lv[j]?)
      ⟨⟨_, rfl⟩, Kp.refl, _, g3, by simp, fun j hj => absurd hj (Nat.not_lt_zero _)⟩ ?_ ?_⟩
    · rintro i σ H4 hi ⟨⟨v, rfl⟩, q1, X, q2, q3, q4⟩
      have hi' : i < lv.length := by omega
      have i4 := q1 _ _ (notin1 (ref_m i3 g3)) i3
      have l4 := q1 _ _ (notin1 (Ne.symm (Ne.symm nkg))) l3
      have ll4 := q1 _ _ (notin1 (ne_of_none hll fg0)) (far hll)
      have el : lv[i]? = some lv[i] := by simp [hi']
      have z0 : (0 : Int) + (i : Nat) = (i : Nat) := by omega
      rw [z0]
      refine ⟨_, rfl, s, dx, _, rfl, i4, rfl, _, rfl, _, rfl, _, _, rfl, rfl, _, rfl, _, rfl, ll, _, _, lv[i].v, rfl, rfl, SqL.of ll4, at_lvs (l := lv[i]) (by omega) (by simpa using el), ?_⟩
      refine ⟨s, (i : Nat), some ((i : Nat) + 1), lv[i].nm, rfl, kl, gl, _, X, stoI_S T i4, l4, q2, by rw [List.length_map]; exact q3.symm, by omega, .inl ⟨_, lv[i], rfl, rfl, by omega, by omega, by omega, fun H5 k5 g5 => ?_⟩⟩
      refine ⟨⟨_, rfl⟩, q1.trans k5, _, g5, by rw [lvSet_len]; exact q3, fun j hj => ?_⟩
      rw [lvSet_get]
      have hn : (((i : Nat) : Int) + 1).toNat = i + 1 := by omega
      have hn0 : (((i : Nat) : Int)).toNat = i := by omega
      rw [hn, hn0]
      by_cases z : j = i
      · rw [z, el]
        have hX : X[i]? = some (X[i]'(by omega)) := by simp
        rw [hX]
        show some (if i ≤ i ∧ i < i + 1 then lv[i] else _) = _
        rw [if_pos ⟨Nat.le_refl _, Nat.lt_succ_self _⟩]
      · rw [q4 j (by omega)]
        cases lv[j]? with
        | none => rfl
        | some x =>
          show some (if i ≤ j ∧ j < i + 1 then lv[i] else x) = _
          rw [if_neg (by omega)]
    · rintro σ H4 ⟨⟨v, rfl⟩, q1, X, q2, q3, q4⟩
      have eX : X = lv := by
        refine List.ext_getElem? fun j => ?_
        by_cases hj : j < cs.length
        · exact q4 j (by omega)
        · rw [List.getElem?_eq_none (by omega), List.getElem?_eq_none (by omega)]
      rw [eX] at q2
      exact ⟨_, rfl, k s dx kl gl H4 (s1.free hs) (fun b o e => q1 _ _ (notin1 (ne_of_none e fg0)) (far e)) (q1 _ _ (notin1 (ref_m i3 g3)) i3) ⟨q1 _ _ (notin1 nkg) l3, q2, len.symm⟩⟩
theorem good_law_store (T : Txt K mg) : Good P w K mg base 6 (He.ga K "_law_store") [] (sp_lstore K) := by
  obtain ⟨fd, F⟩ := T.d__law_store
  exact ⟨⟨fd, _, [], ok_law_store T F, F.bindsN fun _ _ _ _ _ _ us hl => match us, hl with | [_, _], _ => rfl, .nil⟩, F.kp⟩
theorem six_get (v : Six) (b : Bx) : valV (Six.kvs v) (.inr b.nm) = some (.int (v.get b)) := by cases b <;> rfl
theorem dgetK {H : Hp} {sd : Addr} {v : Six} (e : H sd = some (.dK (Six.kvs v))) (b : Bx) : DGet H sd (.str b.nm) (some (.int (v.get b))) := by
  rw [← six_get v b]
  exact DGet.k (k := .inr b.nm) e
def sp_lboxes (K : PySem.W.Frag) : Sp := fun vs H Q _ => ∃ (sd : Addr), vs = [.ref sd] ∧ ∃ v, H sd = some (.dK (Six.kvs v)) ∧ v.ok ∧ ∀ b dx nl H', H b = none → Same H H' → BoxI K H' b nl dx → H' nl = some (.lst (Six.vals v)) → Q (.ref b) H'
def nm_law_boxes : List Str := ["_law_six_here"]
theorem sc_law_boxes : FnScope nm_law_boxes ["_law_six_here"] (defScope s_law_boxes) := ⟨rfl, rfl, rfl, by decide +kernel, rfl, by decide +kernel, by decide +kernel⟩
theorem ok_law_boxes (T : Txt K mg) {f : Addr} {fd : FuncData} {dv : List V} {kw : List (Str × V)} (F : FunD K "_law_boxes" "_law_boxes" (defArgs s_law_boxes) (defBody s_law_boxes) (defScope s_law_boxes) dv kw f fd) : FnOk P w K mg base (CXr P w) 6 f fd ["_law_six_here"] (sp_lboxes K) := by
  refine F.ok sc_law_boxes (fun vs H Q E h => ?_) (fun cdv A outer s H vs Q E hr h => ?_)
  · obtain ⟨sd, rfl, _⟩ := h
    rfl
  · obtain ⟨sd, rfl, h⟩ := h
    refine ⟨_, (pss_one (ps_ret (pe_makeG T.k_Boxes (good_Boxes_init T) (hr.mono (by decide)) T.g_Boxes hx_cx (pa_cons (pe_dget (hu_of hr) (pv 0) pe_str (fun _ _ => rfl)) (pa_cons (pe_dget (hu_of hr) (pv 0) pe_str (fun _ _ => rfl)) (pa_cons (pe_dget (hu_of hr) (pv 0) pe_str (fun _ _ => rfl)) (pa_cons (pe_dget (hu_of hr) (pv 0) pe_str (fun _ _ => rfl)) (pa_cons (pe_dget (hu_of hr) (pv 0) pe_str (fun _ _ => rfl)) (pa_cons (pe_dget (hu_of hr) (pv 0) pe_str (fun _ _ => rfl)) pa_nil))))))))), ?_⟩
    obtain ⟨v, hsd, ok, k⟩ := h
    refine ⟨_, rfl, sd, _, rfl, dgetK hsd .here, _, rfl, sd, _, rfl, dgetK hsd .there, _, rfl, sd, _, rfl, dgetK hsd .left, _, rfl, sd, _, rfl, dgetK hsd .way, _, rfl, sd, _, rfl, dgetK hsd .sign, _, rfl, sd, _, rfl, dgetK hsd .met, ?_⟩
    intro b dx hb hdx ne
    exact ⟨b, v, rfl, dx, upd_same, ok, fun nl H1 fn k1 i1 l1 => ⟨rfl, k b dx nl H1 hb (made hb hdx k1) i1 l1⟩⟩
theorem good_law_boxes (T : Txt K mg) : Good P w K mg base 6 (He.ga K "_law_boxes") [] (sp_lboxes K) := by
  obtain ⟨fd, F⟩ := T.d__law_boxes
  exact ⟨⟨fd, _, [], ok_law_boxes T F, F.bindsN fun _ _ _ _ _ _ us hl => match us, hl with | [_], _ => rfl, .nil⟩, F.kp⟩
def sp_watched (K : PySem.W.Frag) : Sp := fun vs H Q _ => ∃ (ow : Addr), vs = [.ref ow] ∧ ∃ O sp at' v cs lv es, O.ow = ow ∧ OwI O H sp at' v cs lv es ∧ (∀ d ∈ sp, d.ok) ∧ 1 ≤ sp.length ∧ sp.length ≤ 24 ∧ v.ok ∧ 0 ≤ at' ∧ at' ≤ (sp.length : Int) ∧ lv.length = cs.length ∧ 1 ≤ cs.length ∧ cs.length ≤ 60 ∧ (∀ c ∈ cs, inC c = true) ∧
  ∀ M H', H M.m = none → Fresh M H → Same H H' → Ndm M → MI K M H' sp at' v cs lv [] [] → Q (.ref M.m) H'
theorem DsI.snoc {H : Hp} {rs : List Addr} {sp : List Spc} {a : Addr} {d : Spc} (D : DsI K H rs sp) (h : DeI K H d a) : DsI K H (rs ++ [a]) (sp ++ [d]) := by
  refine ⟨by rw [List.length_append, List.length_append, D.1]; rfl, fun i t' e' h1 h2 => ?_⟩
  by_cases hi : i < rs.length
  · rw [List.getElem?_append_left hi] at h1
    rw [List.getElem?_append_left (by have := D.1; omega)] at h2
    exact D.2 i t' e' h1 h2
  · have hi' : i < (rs ++ [a]).length := (List.getElem?_eq_some_iff.mp h1).1
    rw [List.length_append, List.length_singleton] at hi'
    have e1 : i = rs.length := by omega
    have e2 : i = sp.length := by have := D.1; omega
    rw [e1, List.getElem?_append_right (Nat.le_refl _), Nat.sub_self] at h1
    rw [e2, List.getElem?_append_right (Nat.le_refl _), Nat.sub_self] at h2
    cases h1
    cases h2
    exact h
def nm_law_watched : List Str := ["_law_own_here", "_law_rows", "_law_spec_here"]
theorem sc_law_watched : FnScope nm_law_watched ["_law_own_here"] (defScope s_law_watched) := ⟨rfl, rfl, rfl, by decide +kernel, rfl, by decide +kernel, by decide +kernel⟩
theorem ok_law_watched (T : Txt K mg) {f : Addr} {fd : FuncData} {dv : List V} {kw : List (Str × V)} (F : FunD K "_law_watched" "_law_watched" (defArgs s_law_watched) (defBody s_law_watched) (defScope s_law_watched) dv kw f fd) : FnOk P w K mg base (CXr P w) 11 f fd ["_law_own_here"] (sp_watched K) := by
  refine F.ok sc_law_watched (fun vs H Q E h => ?_) (fun cdv A outer s H vs Q E hr h => ?_)
  · obtain ⟨ow, rfl, _⟩ := h
    rfl
  · obtain ⟨ow, rfl, h⟩ := h
    refine ⟨_, (pss_cons (ps_set (i := 1) sc_law_watched.nd rfl (Or.inr rfl) (pe_lc (own := [("_law_spec_here", 2)]) (g := gName 2) (tt := tYes) rfl sc_law_watched.nd (pi_list (pe_ix ix_list (pv 0) pe_int (fun _ _ => rfl))) (blkOk_by (N := nm_law_watched) (sc := defScope s_law_watched) (by decide +kernel)) (fun _ _ _ _ _ => (pg_name (i := 2) sc_law_watched.nd rfl (Or.inl rfl))) (fun _ _ _ _ _ => pts_nil) (fun _ _ _ _ _ => (pe_callG (good_law_deed T) (hr.mono (by decide)) T.g__law_deed passN (pa_cons (pv 2) pa_nil))))) (pss_cons (ps_set (i := 1) sc_law_watched.nd rfl (Or.inr rfl) (pe_lc (own := [("_law_spec_here", 2)]) (g := gName 2) (te := tOp (rIxL K) (tVar 1) (tBM K "list" (rIndexD K) (tOp (rIxL K) (tVar 0) (tC (.int 0))) (tCons (tVar 2) tNil))) (tt := tYes) rfl sc_law_watched.nd (pi_list (pe_ix ix_list (pv 0) pe_int (fun _ _ => rfl))) (blkOk_by (N := nm_law_watched) (sc := defScope s_law_watched) (by decide +kernel)) (fun _ _ _ _ _ => (pg_name (i := 2) sc_law_watched.nd rfl (Or.inl rfl))) (fun _ _ _ _ _ => pts_nil) (fun _ _ _ _ _ => (pe_ix ix_list (pv 1) (pe_bm PySem.F.plainAttrs_list PySem.F.slot_list_index PySem.F.type_list_index (mt_indexD (hu65 hr)) (pe_ix ix_list (pv 0) pe_int (fun _ _ => rfl)) (pa_cons (pv 2) pa_nil)) (fun _ _ => rfl))))) (pss_one (ps_ret (pe_makeG T.k_Watched (good_Watched_init T) (hr.mono (by decide)) T.g_Watched hx_cx (pa_cons (pv 1) (pa_cons (pe_callG (good_law_store T) (hr.mono (by decide)) T.g__law_store hx_cx (pa_cons (pe_ix ix_list (pv 0) pe_int (fun _ _ => rfl)) (pa_cons (pe_ix ix_list (pv 0) pe_int (fun _ _ => rfl)) pa_nil))) (pa_cons (pe_callG (good_law_boxes T) (hr.mono (by decide)) T.g__law_boxes hx_cx (pa_cons (pe_ix ix_list (pv 0) pe_int (fun _ _ => rfl)) pa_nil)) (pa_cons (pe_ix ix_list (pv 0) pe_int (fun _ _ => rfl)) pa_nil))))))))), ?_⟩
    obtain ⟨O, sp, at', v, cs, lv, es, rfl, W, sok, n1, n2, vok, a0, a1, len, c1, c2, hin, k⟩ := h
    have i0 : ∀ {H' : Hp}, Same H H' → SqL K H' O.ow (owV O at') := fun {H'} s => SqL.of (s _ _ W.ow)
    refine ⟨_, rfl, O.ow, _, 0, .ref O.sl, rfl, rfl, SqL.of W.ow, rfl, O.sl, rfl, ⟨_, SqL.of W.sl⟩, fun D hD => ?_⟩
    refine lc_list (xs := O.ss.map V.ref) (fun i H1 => ∃ rs, Same H H1 ∧ H1 D = some (.lst (rs.map V.ref)) ∧ DsI K H1 rs (sp.take i)) ⟨[], Same.new (Same.refl H) hD, upd_same, rfl, fun i a d h => by simp at h⟩ (fun i H1 _ q => by obtain ⟨rs, q1, _⟩ := q; exact SqL.of (q1 _ _ W.sl)) ?_ ?_
    · rintro i x H1 hi ⟨rs, q1, q2, q3⟩
      obtain ⟨a, ea, rfl⟩ := refs_get hi
      have hi' : i < sp.length := by rw [← W.ss.1]; exact (List.getElem?_eq_some_iff.mp ea).1
      have ed : sp[i]? = some sp[i] := by simp [hi']
      have ta := q1 _ _ (W.ss.2 i a _ ea ed)
      refine ⟨rfl, _, rfl, a, rfl, sp[i], ta, sok _ (List.getElem_mem hi'), fun r H2 fr s2 e2 => ?_⟩
      have d2 := s2 _ _ q2
      refine ⟨rs.map V.ref, d2, by rw [List.length_map, q3.1, List.length_take]; exact Nat.lt_of_le_of_lt (show min i sp.length ≤ 100 by omega) (by decide), rs ++ [r], ?_, ?_, ?_⟩
      · intro b o e
        rw [upd_ne (ne_of_none e hD)]
        exact s2 _ _ (q1 _ _ e)
      · rw [upd_same, List.map_append]
        rfl
      · rw [take_succ' ed]
        have up : ∀ {b C dx fs}, H2 b = some (.ins C dx fs) → upd H2 D (.lst (rs.map V.ref ++ [.ref r])) b = some (.ins C dx fs) := fun {b C dx fs} e => upd_far (ref_m e d2) e
        obtain ⟨dx, e2⟩ := e2
        exact DsI.snoc ⟨q3.1, fun j b d h1 h2 => let ⟨dx, e⟩ := q3.2 j b d h1 h2; ⟨dx, up (s2 _ _ e)⟩⟩ ⟨dx, up e2⟩
    · rintro H1 ⟨rs, q1, q2, q3⟩
      rw [List.length_map, W.ss.1, List.take_length] at q3
      refine ⟨_, rfl, O.ow, _, 0, .ref O.sl, rfl, rfl, i0 q1, rfl, O.sl, rfl, ⟨_, SqL.of (q1 _ _ W.sl)⟩, fun D2 hD2 => ?_⟩
      have hD20 := q1.free hD2
      refine lc_list (xs := O.ss.map V.ref) (fun i H2 => ∃ rs2, Same H1 H2 ∧ H2 D2 = some (.lst (rs2.map V.ref)) ∧ DsI K H2 rs2 (sp.take i)) ⟨[], Same.new (Same.refl H1) hD2, upd_same, rfl, fun i a d h => by simp at h⟩ (fun i H2 _ q => by obtain ⟨rs2, p1, _⟩ := q; exact SqL.of (p1 _ _ (q1 _ _ W.sl))) ?_ ?_
      · rintro i x H2 hi ⟨rs2, p1, p2, p3⟩
        obtain ⟨a, ea, rfl⟩ := refs_get hi
        have hi' : i < sp.length := by rw [← W.ss.1]; exact (List.getElem?_eq_some_iff.mp ea).1
        have ed : sp[i]? = some sp[i] := by simp [hi']
        have s2 := q1.trans p1
        have W2 := W.same s2
        obtain ⟨j, hj, pj, nj⟩ := first_ix (fun j => match sp[j]? with | some d => PyData.eqv (specD d) (specD sp[i]) | none => false) i (by simp only [ed]; exact specD_refl _)
        have hj' : j < sp.length := by omega
        have ej : sp[j]? = some sp[j] := by simp [hj']
        simp only [ej] at pj
        have same := specD_inj pj
        obtain ⟨r, er⟩ : ∃ r, rs[j]? = some r := ⟨rs[j]'(by have := q3.1; omega), by simp⟩
        have hr' := q3.2 j r _ er ej
        rw [same] at hr'
        obtain ⟨dx, hr'⟩ := hr'
        refine ⟨rfl, _, rfl, _, rfl, O.ow, _, 0, .ref O.sl, rfl, rfl, SqL.of W2.ow, rfl, .inl ⟨rfl, _, SqL.of W2.sl⟩, _, rfl, O.sl, .ref a, specD sp[i], sp.map specD, j, specD sp[j], rfl, rfl, .lst (SqL.of W2.sl) W2.ss.dp, .tup (SqT.of (W2.ss.2 i a _ ea ed)) (dpFs (specF _)), ?_⟩
        have okl : OkD (.list (sp.map specD)) 2 := okL fun d hd => by
          obtain ⟨e, _, rfl⟩ := List.mem_map.mp hd
          exact specD_ok e
        refine ⟨okl.shaped (by decide), (specD_ok _).shaped (by decide), by rw [List.getElem?_map, ej]; rfl, pj, fun m z' hm ez => ?_, ?_⟩
        · have em := nj m hm
          rw [List.getElem?_map] at ez
          have hm' : m < sp.length := by omega
          have e2 : sp[m]? = some sp[m] := by simp [hm']
          rw [e2] at ez
          cases ez
          simp only [e2] at em
          exact em
        · refine ⟨D, _, _, .ref r, rfl, rfl, SqL.of (p1 _ _ q2), atI_nat (by rw [List.getElem?_map, er]; rfl), ?_⟩
          refine ⟨rs2.map V.ref, p2, by rw [List.length_map, p3.1, List.length_take]; exact Nat.lt_of_le_of_lt (show min i sp.length ≤ 100 by omega) (by decide), rs2 ++ [r], ?_, ?_, ?_⟩
          · intro b o e
            rw [upd_ne (ne_of_none e hD2)]
            exact p1 _ _ e
          · rw [upd_same, List.map_append]
            rfl
          · rw [take_succ' ed]
            have up : ∀ {b C dx fs}, H2 b = some (.ins C dx fs) → upd H2 D2 (.lst (rs2.map V.ref ++ [.ref r])) b = some (.ins C dx fs) := fun {b C dx fs} e => upd_far (ref_m e p2) e
            exact DsI.snoc ⟨p3.1, fun j b d h1 h2 => let ⟨dx, e⟩ := p3.2 j b d h1 h2; ⟨dx, up e⟩⟩ ⟨dx, up (p1 _ _ hr')⟩
      · rintro H2 ⟨rs2, p1, p2, p3⟩
        rw [List.length_map, W.ss.1, List.take_length] at p3
        have s2 := q1.trans p1
        have W2 := W.same s2
        refine ⟨_, rfl, _, rfl, O.ow, _, 3, .ref O.cl, rfl, rfl, SqL.of W2.ow, rfl, _, rfl, O.ow, _, 4, .ref O.ll, rfl, rfl, SqL.of W2.ow, rfl, O.cl, O.ll, rfl, cs, lv, W2.cl, W2.ll, len, c1, c2, hin, fun s0 dx kl gl H3 f3 s3 e3 c3 => ?_⟩
        have W3 := W2.same s3
        refine ⟨_, rfl, O.ow, _, 2, .ref O.sd, rfl, rfl, SqL.of W3.ow, rfl, O.sd, rfl, v, W3.sd, vok, fun b0 bx nl H4 f4 s4 e4 l4 => ?_⟩
        have W4 := W3.same s4
        refine ⟨_, rfl, O.ow, _, 1, .int at', rfl, rfl, SqL.of W4.ow, rfl, ?_⟩
        intro m mx hm hmx nmx
        have t4 := s2.trans (s3.trans s4)
        have s5 := Same.ins (o := .ins (He.ga K "Watched") mx []) (u := .own m) (Same.refl H4) hm hmx
        have e5 : upd (upd H4 mx (.own m)) m (.ins (He.ga K "Watched") mx []) m = some (.ins (He.ga K "Watched") mx []) := upd_same
        have sH : ∀ {H6}, Kp [m] (upd (upd H4 mx (.own m)) m (.ins (He.ga K "Watched") mx [])) H6 → Same H H6 := fun {H6} k6 b o e => k6 _ _ (notin1 (ne_of_none (t4 _ _ e) hm)) (s5 _ _ (t4 _ _ e))
        have hm0 := t4.free hm
        have fr : ∀ {a}, (upd (upd H4 mx (.own m)) m (.ins (He.ga K "Watched") mx [])) a = none → H a = none := fun {a} h => t4.free (s5.free h)
        have s34 := s3.trans s4
        have ds4 := p3.same s34
        refine ⟨m, D2, s0, b0, at', rfl, mx, rs2, sp, dx, kl, gl, cs, lv, nl, bx, v, e5, s5 _ _ (s34 _ _ p2), ds4.same s5, n1, n2, s5 _ _ (s4 _ _ e3), ⟨s5 _ _ (s4 _ _ c3.k), s5 _ _ (s4 _ _ c3.g), c3.len⟩, c1, c2, hin, s5 _ _ e4, s5 _ _ l4, vok, a0, a1, fun i a h => ?_, fun M H6 Mm F6 k6 n6 W6 => ⟨rfl, ?_⟩⟩
        · obtain ⟨d, _, dx', e⟩ := ds4.at h
          exact Ne.symm (ne_of_none e hm)
        · rw [← Mm]
          exact k M H6 (by rw [Mm]; exact hm0) ⟨fun a ha => fr (F6.f a ha)⟩ (sH k6) n6 W6
theorem good_law_watched (T : Txt K mg) : Good P w K mg base 11 (He.ga K "_law_watched") [] (sp_watched K) := by
  obtain ⟨fd, F⟩ := T.d__law_watched
  exact ⟨⟨fd, _, [], ok_law_watched T F, F.bindsN fun _ _ _ _ _ _ us hl => match us, hl with | [_], _ => rfl, .nil⟩, F.kp⟩
end
end HB


namespace HB
open PySem PySem.Spec PyProof.Rows L2
local macro_rules | `(tactic| walk_at "ne") => `(tactic| first | assumption | (apply Ne.symm; assumption) | exact ne_of_none (by assumption) (by assumption) | exact ne_new (by assumption) (by assumption) | (intro q; cases q; done))
local macro_rules | `(tactic| walk_at "hp") => `(tactic| first
  | assumption
  | exact upd_same
  | (refine upd_keep ?_ (by assumption); walk_at "hp")
  | (refine upd_far (by walk_at "ne") ?_; walk_at "hp")
  | (refine Same.get (by assumption) ?_; walk_at "hp")
  | (refine Kp.get (by assumption) ?_ (notin1 (by walk_at "ne")); walk_at "hp"))
local macro_rules | `(tactic| walk_at "same") => `(tactic| first
  | assumption
  | exact Same.refl _
  | (refine Same.new ?_ (by assumption); walk_at "same")
  | (refine Same.trans ?_ (by assumption); walk_at "same"))
/-- one row of a reading -/
local macro_rules | `(tactic| walk_at "r1") => `(tactic| first
  | refine ⟨_, rfl, ?_⟩
  | refine ⟨_, _, rfl, rfl, ?_⟩
  | refine ⟨rfl, ?_⟩
  | refine ⟨_, _, _, _, _, rfl, (by walk_at "hp"), (by assumption), (by assumption), rfl, ?_⟩
  | refine ⟨sz_ (by decide), fun _ _ => ?_⟩)
local macro_rules | `(tactic| walk_at "rd") => `(tactic| repeat walk_at "r1")
section
variable {P : Program} {w : World} {K : PySem.W.Frag} {mg : Str → Option Value} {base : Heap}
/-! ### the law's step -/
def sp_let : Sp := fun vs H Q _ => ∃ (ll : Addr) (lk : Bool) (c : Int), vs = [.ref ll, .str (deedW lk), .int c] ∧ ∃ lv, H ll = some (.lst (lvs lv)) ∧ Q (.bl (mayM lv lk c)) H
def nm_law_let : List Str := ["_law_leaves_here", "_law_deed_here", "_law_cell"]
theorem sc_law_let : FnScope nm_law_let ["_law_leaves_here", "_law_deed_here", "_law_cell"] (defScope s_law_let) := ⟨rfl, rfl, rfl, by decide +kernel, rfl, by decide +kernel, by decide +kernel⟩
theorem ok_law_let (T : Txt K mg) {f : Addr} {fd : FuncData} {dv : List V} {kw : List (Str × V)} (F : FunD K "_law_let" "_law_let" (defArgs s_law_let) (defBody s_law_let) (defScope s_law_let) dv kw f fd) : FnOk P w K mg base (CXr P w) 1 f fd ["_law_leaves_here", "_law_deed_here", "_law_cell"] (sp_let) := by
  refine F.ok sc_law_let (fun vs H Q E h => ?_) (fun cdv A outer s H vs Q E hr h => ?_)
  · obtain ⟨ll, lk, c, rfl, _⟩ := h
    rfl
  · obtain ⟨ll, lk, c, rfl, h⟩ := h
    refine ⟨_, (pss_cons (ps_if (PW.pt (pw_or (pt_cmpR op_lt (pv 2) pe_int (nomark _)) (pw_or1 (pt_cmpR op_ge (pv 2) (pe_callB call_len_seq (by rfl) T.f_len PySem.boot_len (pa_cons (pv 0) pa_nil)) (nomark _))))) (pss_one (ps_ret pe_bl)) pss_nil) (pss_one (ps_ret (pe_or (pe_cmpR op_eq (pe_ix ix_list (pv 0) (pv 2) (fun _ _ => rfl)) pe_str (nomark _)) (pe_one (pe_and (pe_cmpR op_eq (pe_ix ix_list (pv 0) (pv 2) (fun _ _ => rfl)) pe_str (nomark _)) (pe_one (pe_cmpR op_eq (pv 1) pe_str (nomark _))))))))), ?_⟩
    obtain ⟨lv, hl, k⟩ := h
    have le : (((lvs lv).length : Nat) : Int) = lv.length := by simp
    refine ⟨_, rfl, _, _, rfl, rfl, _, rfl, ?_⟩
    by_cases c0 : c < 0
    · rw [show decide (c < 0) = true from decide_eq_true c0]
      rw [mayM_out (fun z => by omega)] at k
      exact iteT k
    · rw [show decide (c < 0) = false from decide_eq_false c0]
      refine iteF ⟨_, rfl, _, rfl, _, _, rfl, .inl (SqL.of hl), _, _, rfl, rfl, _, rfl, ?_⟩
      rw [le]
      by_cases c1 : (lv.length : Int) ≤ c
      · rw [show decide ((lv.length : Int) ≤ c) = true from decide_eq_true c1]
        rw [mayM_out (fun z => by omega)] at k
        exact iteT k
      · rw [show decide ((lv.length : Int) ≤ c) = false from decide_eq_false c1]
        obtain ⟨l, el⟩ : ∃ l, lv[c.toNat]? = some l := ⟨lv[c.toNat]'(by omega), by simp⟩
        have ev := at_lvs (by omega) el
        have em := mayM_at (lk := lk) (by omega) el
        rw [em] at k
        refine iteF ⟨_, rfl, _, rfl, ll, _, _, l.v, rfl, rfl, SqL.of hl, ev, ?_⟩
        cases l with
        | op => exact ⟨rfl, _, rfl, k⟩
        | lk =>
          refine ⟨rfl, _, rfl, _, rfl, _, rfl, ll, _, _, Lv.lk.v, rfl, rfl, SqL.of hl, ev, rfl, _, rfl, _, rfl, rfl, ?_⟩
          cases lk <;> exact k
        | sh =>
          exact ⟨rfl, _, rfl, _, rfl, _, rfl, ll, _, _, Lv.sh.v, rfl, rfl, SqL.of hl, ev, rfl, _, rfl, k⟩
theorem good_law_let (T : Txt K mg) : Good P w K mg base 1 (He.ga K "_law_let") [] (sp_let) := by
  obtain ⟨fd, F⟩ := T.d__law_let
  exact ⟨⟨fd, _, [], ok_law_let T F, F.bindsN fun _ _ _ _ _ _ us hl => match us, hl with | [_, _, _], _ => rfl, .nil⟩, F.kp⟩
def farM (v : Six) : Int := if v.there > v.here then v.left - 1 else 0
def looksM (d : Spc) (v : Six) : List Int := match d with
  | .read _ => [v.here]
  | .lng l => if v.left = 0 ∨ (l = .turn ∧ v.left = 1) then [] else match l with
    | .copy => [v.here]
    | .fill => []
    | .seek => [v.here]
    | .match_ => [v.here, v.there]
    | .shift => [v.here + farM v]
    | .turn => [v.here, v.here + v.left - 1]
  | _ => []
def putsM (d : Spc) (v : Six) : List Int := match d with
  | .write _ => [v.there]
  | .lng l => if v.left = 0 ∨ (l = .turn ∧ v.left = 1) then [] else match l with
    | .copy => [v.there]
    | .fill => [v.there]
    | .seek => []
    | .match_ => []
    | .shift => [v.there + farM v]
    | .turn => [v.here, v.here + v.left - 1]
  | _ => []
def Spc.word : Spc → Str
  | .lng l => l.nm
  | .set _ _ => "set"
  | .add _ _ => "add"
  | .take _ _ => "take"
  | .read _ => "read"
  | .write _ => "write"
  | .hop _ _ => "hop"
theorem word_at (d : Spc) : atI d.vals 0 = some (.str d.word) := by cases d <;> rfl
def sp_reach (K : PySem.W.Frag) : Sp := fun vs H Q _ => ∃ (t sd : Addr), vs = [.ref t, .ref sd] ∧ ∃ d v, H t = some (.tup (Spc.vals d)) ∧ H sd = some (.dK (Six.kvs v)) ∧ v.ok ∧
  ∀ p lp pp H', H p = none → H pp = none → Same H H' → H' p = some (.tup [.ref lp, .ref pp]) → H' lp = some (.lst (ivs (looksM d v))) → H' pp = some (.lst (ivs (putsM d v))) → Q (.ref p) H'
theorem wordF {d : Spc} {z : Str} (h : d.word ≠ z) : decide (V.str d.word = V.str z) = false := decide_eq_false fun q => h (V.str.inj q)
theorem emp0 {d : Spc} {v : Six} {z : Str} (ez : d.word = z) (w1 : z ≠ "write") (w2 : z ≠ "read") (h : v.left = 0) : looksM d v = [] ∧ putsM d v = [] := by
  cases d with
  | lng l => exact ⟨if_pos (.inl h), if_pos (.inl h)⟩
  | read b => exact absurd ez.symm w2
  | write b => exact absurd ez.symm w1
  | _ => exact ⟨rfl, rfl⟩
theorem emp1 {d : Spc} {v : Six} (ez : d.word = "turn") (h : v.left = 1) : looksM d v = [] ∧ putsM d v = [] := by
  cases d with
  | lng l =>
    have e : l = .turn := lg_inj ez
    exact ⟨if_pos (.inr ⟨e, h⟩), if_pos (.inr ⟨e, h⟩)⟩
  | _ => first | exact ⟨rfl, rfl⟩ | cases ez
theorem val_found (t1 t2 t3 t4 t5 t6 : Addr) (l : Lg) : valV ([(.inr "copy", .ref t1), (.inr "fill", .ref t2), (.inr "seek", .ref t3), (.inr "match", .ref t4), (.inr "shift", .ref t5), (.inr "turn", .ref t6)] : List (Key × V)) (.inr l.nm) =
    some (.ref (match l with | .copy => t1 | .fill => t2 | .seek => t3 | .match_ => t4 | .shift => t5 | .turn => t6)) := by cases l <;> rfl
theorem val_found0 (t1 t2 t3 t4 t5 t6 : Addr) (d : Spc) (h : ∀ l, d ≠ .lng l) : valV ([(.inr "copy", .ref t1), (.inr "fill", .ref t2), (.inr "seek", .ref t3), (.inr "match", .ref t4), (.inr "shift", .ref t5), (.inr "turn", .ref t6)] : List (Key × V)) (.inr d.word) = none := by
  cases d with
  | lng l => exact absurd rfl (h l)
  | _ => rfl
def nm_law_reach : List Str := ["_law_spec_here", "_law_boxes_here", "_law_here", "_law_there", "_law_left", "_law_word", "_law_far", "_law_found"]
theorem sc_law_reach : FnScope nm_law_reach ["_law_spec_here", "_law_boxes_here"] (defScope s_law_reach) := ⟨rfl, rfl, rfl, by decide +kernel, rfl, by decide +kernel, by decide +kernel⟩
theorem ok_law_reach (T : Txt K mg) {f : Addr} {fd : FuncData} {dv : List V} {kw : List (Str × V)} (F : FunD K "_law_reach" "_law_reach" (defArgs s_law_reach) (defBody s_law_reach) (defScope s_law_reach) dv kw f fd) : FnOk P w K mg base (CXr P w) 1 f fd ["_law_spec_here", "_law_boxes_here"] (sp_reach K) := by
  refine F.ok sc_law_reach (fun vs H Q E h => ?_) (fun cdv A outer s H vs Q E hr h => ?_)
  · obtain ⟨t, sd, rfl, _⟩ := h
    rfl
  · obtain ⟨t, sd, rfl, h⟩ := h
    refine ⟨_, (pss_cons (ps_par3 (i := 2) (j := 3) (l := 4) rfl sc_law_reach.nd rfl rfl rfl (by decide) (by decide) (by decide) rfl rfl rfl (pa_cons (pe_dget (hu_of hr) (pv 1) pe_str (fun _ _ => rfl)) (pa_cons (pe_dget (hu_of hr) (pv 1) pe_str (fun _ _ => rfl)) (pa_cons (pe_dget (hu_of hr) (pv 1) pe_str (fun _ _ => rfl)) pa_nil))) (by rfl)) (pss_cons (ps_set (i := 5) sc_law_reach.nd rfl (Or.inl rfl) (pe_ix ix_tup (pv 0) pe_int (fun _ _ => rfl))) (pss_cons (ps_if (pt_cmpR op_eq (pv 5) pe_str (nomark _)) (pss_one (ps_ret (pe_tup (pa_cons (pe_lst pa_nil) (pa_cons (pe_lst (pa_cons (pv 3) pa_nil)) pa_nil))))) pss_nil) (pss_cons (ps_if (pt_cmpR op_eq (pv 5) pe_str (nomark _)) (pss_one (ps_ret (pe_tup (pa_cons (pe_lst (pa_cons (pv 2) pa_nil)) (pa_cons (pe_lst pa_nil) pa_nil))))) pss_nil) (pss_cons (ps_if (PW.pt (pw_or (pt_cmpR op_eq (pv 4) pe_int (nomark _)) (pw_or1 (PW.pt (pw_and (pt_cmpR op_eq (pv 5) pe_str (nomark _)) (pw_and1 (pt_cmpR op_eq (pv 4) pe_int (nomark _)))))))) (pss_one (ps_ret (pe_tup (pa_cons (pe_lst pa_nil) (pa_cons (pe_lst pa_nil) pa_nil))))) pss_nil) (pss_cons (ps_set (i := 6) sc_law_reach.nd rfl (Or.inl rfl) (pe_op op_mul (pe_op op_sub (pv 4) pe_int) (pe_callTy call_int1 (by rfl) T.f_int (by decide +kernel) (pa_cons (pe_cmpR op_gt (pv 3) (pv 2) (nomark _)) pa_nil)))) (pss_cons (ps_set (i := 7) sc_law_reach.nd rfl (Or.inl rfl) (pe_disp (pps_cons pe_str (pe_tup (pa_cons (pe_lst (pa_cons (pv 2) pa_nil)) (pa_cons (pe_lst (pa_cons (pv 3) pa_nil)) pa_nil))) (pps_cons pe_str (pe_tup (pa_cons (pe_lst pa_nil) (pa_cons (pe_lst (pa_cons (pv 3) pa_nil)) pa_nil))) (pps_cons pe_str (pe_tup (pa_cons (pe_lst (pa_cons (pv 2) pa_nil)) (pa_cons (pe_lst pa_nil) pa_nil))) (pps_cons pe_str (pe_tup (pa_cons (pe_lst (pa_cons (pv 2) (pa_cons (pv 3) pa_nil))) (pa_cons (pe_lst pa_nil) pa_nil))) pps_nil)))) (by rfl) (by rfl) (fun z => by cases z) (by decide))) (pss_cons (ps_dput (hu_of hr) (pv 7) pe_str (pe_tup (pa_cons (pe_lst (pa_cons (pe_op op_add (pv 2) (pv 6)) pa_nil)) (pa_cons (pe_lst (pa_cons (pe_op op_add (pv 3) (pv 6)) pa_nil)) pa_nil))) rfl) (pss_cons (ps_dput (hu_of hr) (pv 7) pe_str (pe_tup (pa_cons (pe_lst (pa_cons (pv 2) (pa_cons (pe_op op_sub (pe_op op_add (pv 2) (pv 4)) pe_int) pa_nil))) (pa_cons (pe_lst (pa_cons (pv 2) (pa_cons (pe_op op_sub (pe_op op_add (pv 2) (pv 4)) pe_int) pa_nil))) pa_nil))) rfl) (pss_one (ps_ret (pe_dget2 (hu_of hr) (pv 7) (pv 5) (pe_tup (pa_cons (pe_lst pa_nil) (pa_cons (pe_lst pa_nil) pa_nil))) m2get)))))))))))), ?_⟩
    obtain ⟨d, v, ht, hsd, vok, k⟩ := h
    obtain ⟨l0, l1⟩ := ok_left vok
    refine ⟨_, rfl, sd, _, rfl, dgetK hsd .here, _, rfl, sd, _, rfl, dgetK hsd .there, _, rfl, sd, _, rfl, dgetK hsd .left, _, _, _, rfl, ?_⟩
    refine ⟨_, rfl, t, _, 0, .str d.word, rfl, rfl, SqT.of ht, word_at d, ?_⟩
    obtain ⟨z, ez⟩ : ∃ z, d.word = z := ⟨_, rfl⟩
    rw [ez]
    refine ⟨_, rfl, rfl, _, rfl, ?_⟩
    by_cases w1 : z = "write"
    · subst w1
      refine iteT ⟨(by show 0 ≤ sizeLine; exact Nat.zero_le _), fun a ha => ?_⟩
      have s1 := Same.new (o := .lst []) (Same.refl H) ha
      refine ⟨_, rfl, sz_ (by simp), fun b hb => ?_⟩
      have s2 := Same.new (o := .lst [.int v.there]) s1 hb
      refine ⟨sz_ (by simp), fun p hp => ?_⟩
      have s3 := Same.new (o := .tup [.ref a, .ref b]) s2 hp
      have e1 : looksM d v = [] := by cases d <;> first | rfl | (cases ez; done) | (rename_i l; cases l <;> cases ez)
      have e2 : putsM d v = [v.there] := by cases d <;> first | rfl | (cases ez; done) | (rename_i l; cases l <;> cases ez)
      refine k p a b _ (s2.free hp) (s1.free hb) s3 upd_same ?_ ?_
      · rw [e1]
        exact upd_keep (upd_keep upd_same hb) hp
      · rw [e2]
        exact upd_keep upd_same hp
    · rw [show decide (V.str z = V.str "write") = false from decide_eq_false fun q => w1 (V.str.inj q)]
      refine iteF ⟨_, rfl, rfl, _, rfl, ?_⟩
      by_cases w2 : z = "read"
      · subst w2
        refine iteT ⟨_, rfl, sz_ (by simp), fun a ha => ?_⟩
        have s1 := Same.new (o := .lst [.int v.here]) (Same.refl H) ha
        refine ⟨(by show 0 ≤ sizeLine; exact Nat.zero_le _), fun b hb => ?_⟩
        have s2 := Same.new (o := .lst []) s1 hb
        refine ⟨sz_ (by simp), fun p hp => ?_⟩
        have s3 := Same.new (o := .tup [.ref a, .ref b]) s2 hp
        have e1 : looksM d v = [v.here] := by cases d <;> first | rfl | (cases ez; done) | (rename_i l; cases l <;> cases ez)
        have e2 : putsM d v = [] := by cases d <;> first | rfl | (cases ez; done) | (rename_i l; cases l <;> cases ez)
        refine k p a b _ (s2.free hp) (s1.free hb) s3 upd_same ?_ ?_
        · rw [e1]
          exact upd_keep (upd_keep upd_same hb) hp
        · rw [e2]
          exact upd_keep upd_same hp
      · rw [show decide (V.str z = V.str "read") = false from decide_eq_false fun q => w2 (V.str.inj q)]
        refine iteF ⟨_, rfl, rfl, _, rfl, ?_⟩
        by_cases h0 : v.left = 0
        · rw [show decide (V.int (v.get .left) = V.int 0) = true from dI_t h0]
          refine iteT ⟨(by show 0 ≤ sizeLine; exact Nat.zero_le _), fun a ha => ?_⟩
          have s1 := Same.new (o := .lst []) (Same.refl H) ha
          refine ⟨(by show 0 ≤ sizeLine; exact Nat.zero_le _), fun b hb => ?_⟩
          have s2 := Same.new (o := .lst []) s1 hb
          refine ⟨sz_ (by simp), fun p hp => ?_⟩
          have s3 := Same.new (o := .tup [.ref a, .ref b]) s2 hp
          refine k p a b _ (s2.free hp) (s1.free hb) s3 upd_same ?_ ?_
          · rw [(emp0 ez w1 w2 h0).1]
            exact upd_keep (upd_keep upd_same hb) hp
          · rw [(emp0 ez w1 w2 h0).2]
            exact upd_keep upd_same hp
        · rw [show decide (V.int (v.get .left) = V.int 0) = false from dI_f h0]
          refine iteF ⟨_, rfl, rfl, _, rfl, ?_⟩
          by_cases w3 : z = "turn"
          · subst w3
            refine iteT ⟨_, rfl, rfl, _, rfl, ?_⟩
            by_cases h1 : v.left = 1
            · rw [show decide (V.int (v.get .left) = V.int 1) = true from dI_t h1]
              refine iteT ⟨(by show 0 ≤ sizeLine; exact Nat.zero_le _), fun a ha => ?_⟩
              have s1 := Same.new (o := .lst []) (Same.refl H) ha
              refine ⟨(by show 0 ≤ sizeLine; exact Nat.zero_le _), fun b hb => ?_⟩
              have s2 := Same.new (o := .lst []) s1 hb
              refine ⟨sz_ (by simp), fun p hp => ?_⟩
              have s3 := Same.new (o := .tup [.ref a, .ref b]) s2 hp
              refine k p a b _ (s2.free hp) (s1.free hb) s3 upd_same ?_ ?_
              · rw [(emp1 ez h1).1]
                exact upd_keep (upd_keep upd_same hb) hp
              · rw [(emp1 ez h1).2]
                exact upd_keep upd_same hp
            · rw [show decide (V.int (v.get .left) = V.int 1) = false from dI_f h1]
              refine iteF ?_
              have hz : ¬ (("turn" : Str) = "turn" ∧ v.left = 1) := fun q => h1 q.2
              have hn : ∀ l : Lg, d = .lng l → ¬ (v.left = 0 ∨ (l = .turn ∧ v.left = 1)) := fun l el q => by
                rcases q with q | ⟨q1, q2⟩
                · exact h0 q
                · have e3 : d.word = "turn" := by
                    rw [el, q1]
                    first | done | rfl
                  exact hz ⟨ez.symm.trans e3, q2⟩
              refine ⟨_, rfl, _, _, rfl, rfl, _, rfl, _, rfl, _, _, rfl, rfl, .inr ⟨_, rfl, ?_⟩⟩
              refine ⟨_, _, rfl, rfl, .inl ⟨by show -(2 ^ 64) < v.left - 1; omega, by show v.left - 1 < 2 ^ 64; omega⟩, ?_⟩
              obtain ⟨fr, efr⟩ : ∃ fr, (v.left - 1) * (if decide (v.here < v.there) = true then 1 else 0) = fr := ⟨_, rfl⟩
              have hfar : fr = farM v := by
                rw [← efr]
                unfold farM
                by_cases q : v.here < v.there
                · rw [decide_eq_true q, if_pos rfl, if_pos q, Int.mul_one]
                · rw [decide_eq_false q, if_neg (by decide), if_neg q, Int.mul_zero]
              have efr' : (v.get .left - 1) * (if decide (v.get .here < v.get .there) = true then 1 else 0) = fr := efr
              simp only [efr']
              intro p hp
              have g0 : upd H p (.dK []) p = some (.dK []) := upd_same
              have k0 : Kp [p] H (upd H p (.dK [])) := Kp.refl.set (by simp)
              generalize upd H p (.dK []) = G0 at *
              have z0 : Same H G0 := fun b o e => k0 _ _ (notin1 (ne_of_none e hp)) e
              refine ⟨_, rfl, sz_ (by simp), fun a1 ha1 => ?_⟩
              have na1 : a1 ≠ p := Ne.symm (ne_of_none g0 ha1)
              have fa1 : H a1 = none := z0.free ha1
              have c1 : Kp [p] G0 (upd G0 a1 (.lst [.int (v.get .here)])) := Kp.same (Same.new (Same.refl _) ha1)
              have ea1 : upd G0 a1 (.lst [.int (v.get .here)]) a1 = some (.lst [.int (v.get .here)]) := upd_same
              have g1 : upd G0 a1 (.lst [.int (v.get .here)]) p = some (.dK []) := upd_far (Ne.symm na1) g0
              generalize upd G0 a1 (.lst [.int (v.get .here)]) = G1 at *
              have z1 : Same H G1 := fun b q e => c1 _ _ (notin1 (ne_of_none e hp)) (z0 _ _ e)
              refine ⟨_, rfl, sz_ (by simp), fun b1 hb1 => ?_⟩
              have nb1 : b1 ≠ p := Ne.symm (ne_of_none g1 hb1)
              have fb1 : H b1 = none := z1.free hb1
              have c2 : Kp [p] G1 (upd G1 b1 (.lst [.int (v.get .there)])) := Kp.same (Same.new (Same.refl _) hb1)
              have eb1 : upd G1 b1 (.lst [.int (v.get .there)]) b1 = some (.lst [.int (v.get .there)]) := upd_same
              have g2 : upd G1 b1 (.lst [.int (v.get .there)]) p = some (.dK []) := upd_far (Ne.symm nb1) g1
              generalize upd G1 b1 (.lst [.int (v.get .there)]) = G2 at *
              have z2 : Same H G2 := fun b q e => c2 _ _ (notin1 (ne_of_none e hp)) (z1 _ _ e)
              refine ⟨sz_ (by simp), fun t1 ht1 => ?_⟩
              have nt1 : t1 ≠ p := Ne.symm (ne_of_none g2 ht1)
              have ft1 : H t1 = none := z2.free ht1
              have c3 : Kp [p] G2 (upd G2 t1 (.tup [.ref a1, .ref b1])) := Kp.same (Same.new (Same.refl _) ht1)
              have et1 : upd G2 t1 (.tup [.ref a1, .ref b1]) t1 = some (.tup [.ref a1, .ref b1]) := upd_same
              have g3 : upd G2 t1 (.tup [.ref a1, .ref b1]) p = some (.dK []) := upd_far (Ne.symm nt1) g2
              generalize upd G2 t1 (.tup [.ref a1, .ref b1]) = G3 at *
              have z3 : Same H G3 := fun b q e => c3 _ _ (notin1 (ne_of_none e hp)) (z2 _ _ e)
              refine ⟨(by show 0 ≤ sizeLine; exact Nat.zero_le _), fun a2 ha2 => ?_⟩
              have na2 : a2 ≠ p := Ne.symm (ne_of_none g3 ha2)
              have fa2 : H a2 = none := z3.free ha2
              have c4 : Kp [p] G3 (upd G3 a2 (.lst [])) := Kp.same (Same.new (Same.refl _) ha2)
              have ea2 : upd G3 a2 (.lst []) a2 = some (.lst []) := upd_same
              have g4 : upd G3 a2 (.lst []) p = some (.dK []) := upd_far (Ne.symm na2) g3
              generalize upd G3 a2 (.lst []) = G4 at *
              have z4 : Same H G4 := fun b q e => c4 _ _ (notin1 (ne_of_none e hp)) (z3 _ _ e)
              refine ⟨_, rfl, sz_ (by simp), fun b2 hb2 => ?_⟩
              have nb2 : b2 ≠ p := Ne.symm (ne_of_none g4 hb2)
              have fb2 : H b2 = none := z4.free hb2
              have c5 : Kp [p] G4 (upd G4 b2 (.lst [.int (v.get .there)])) := Kp.same (Same.new (Same.refl _) hb2)
              have eb2 : upd G4 b2 (.lst [.int (v.get .there)]) b2 = some (.lst [.int (v.get .there)]) := upd_same
              have g5 : upd G4 b2 (.lst [.int (v.get .there)]) p = some (.dK []) := upd_far (Ne.symm nb2) g4
              generalize upd G4 b2 (.lst [.int (v.get .there)]) = G5 at *
              have z5 : Same H G5 := fun b q e => c5 _ _ (notin1 (ne_of_none e hp)) (z4 _ _ e)
              refine ⟨sz_ (by simp), fun t2 ht2 => ?_⟩
              have nt2 : t2 ≠ p := Ne.symm (ne_of_none g5 ht2)
              have ft2 : H t2 = none := z5.free ht2
              have c6 : Kp [p] G5 (upd G5 t2 (.tup [.ref a2, .ref b2])) := Kp.same (Same.new (Same.refl _) ht2)
              have et2 : upd G5 t2 (.tup [.ref a2, .ref b2]) t2 = some (.tup [.ref a2, .ref b2]) := upd_same
              have g6 : upd G5 t2 (.tup [.ref a2, .ref b2]) p = some (.dK []) := upd_far (Ne.symm nt2) g5
              generalize upd G5 t2 (.tup [.ref a2, .ref b2]) = G6 at *
              have z6 : Same H G6 := fun b q e => c6 _ _ (notin1 (ne_of_none e hp)) (z5 _ _ e)
              refine ⟨_, rfl, sz_ (by simp), fun a3 ha3 => ?_⟩
              have na3 : a3 ≠ p := Ne.symm (ne_of_none g6 ha3)
              have fa3 : H a3 = none := z6.free ha3
              have c7 : Kp [p] G6 (upd G6 a3 (.lst [.int (v.get .here)])) := Kp.same (Same.new (Same.refl _) ha3)
              have ea3 : upd G6 a3 (.lst [.int (v.get .here)]) a3 = some (.lst [.int (v.get .here)]) := upd_same
              have g7 : upd G6 a3 (.lst [.int (v.get .here)]) p = some (.dK []) := upd_far (Ne.symm na3) g6
              generalize upd G6 a3 (.lst [.int (v.get .here)]) = G7 at *
              have z7 : Same H G7 := fun b q e => c7 _ _ (notin1 (ne_of_none e hp)) (z6 _ _ e)
              refine ⟨(by show 0 ≤ sizeLine; exact Nat.zero_le _), fun b3 hb3 => ?_⟩
              have nb3 : b3 ≠ p := Ne.symm (ne_of_none g7 hb3)
              have fb3 : H b3 = none := z7.free hb3
              have c8 : Kp [p] G7 (upd G7 b3 (.lst [])) := Kp.same (Same.new (Same.refl _) hb3)
              have eb3 : upd G7 b3 (.lst []) b3 = some (.lst []) := upd_same
              have g8 : upd G7 b3 (.lst []) p = some (.dK []) := upd_far (Ne.symm nb3) g7
              generalize upd G7 b3 (.lst []) = G8 at *
              have z8 : Same H G8 := fun b q e => c8 _ _ (notin1 (ne_of_none e hp)) (z7 _ _ e)
              refine ⟨sz_ (by simp), fun t3 ht3 => ?_⟩
              have nt3 : t3 ≠ p := Ne.symm (ne_of_none g8 ht3)
              have ft3 : H t3 = none := z8.free ht3
              have c9 : Kp [p] G8 (upd G8 t3 (.tup [.ref a3, .ref b3])) := Kp.same (Same.new (Same.refl _) ht3)
              have et3 : upd G8 t3 (.tup [.ref a3, .ref b3]) t3 = some (.tup [.ref a3, .ref b3]) := upd_same
              have g9 : upd G8 t3 (.tup [.ref a3, .ref b3]) p = some (.dK []) := upd_far (Ne.symm nt3) g8
              generalize upd G8 t3 (.tup [.ref a3, .ref b3]) = G9 at *
              have z9 : Same H G9 := fun b q e => c9 _ _ (notin1 (ne_of_none e hp)) (z8 _ _ e)
              refine ⟨_, rfl, _, rfl, sz_ (by simp), fun a4 ha4 => ?_⟩
              have na4 : a4 ≠ p := Ne.symm (ne_of_none g9 ha4)
              have fa4 : H a4 = none := z9.free ha4
              have c10 : Kp [p] G9 (upd G9 a4 (.lst [.int (v.get .here), .int (v.get .there)])) := Kp.same (Same.new (Same.refl _) ha4)
              have ea4 : upd G9 a4 (.lst [.int (v.get .here), .int (v.get .there)]) a4 = some (.lst [.int (v.get .here), .int (v.get .there)]) := upd_same
              have g10 : upd G9 a4 (.lst [.int (v.get .here), .int (v.get .there)]) p = some (.dK []) := upd_far (Ne.symm na4) g9
              generalize upd G9 a4 (.lst [.int (v.get .here), .int (v.get .there)]) = G10 at *
              have z10 : Same H G10 := fun b q e => c10 _ _ (notin1 (ne_of_none e hp)) (z9 _ _ e)
              refine ⟨(by show 0 ≤ sizeLine; exact Nat.zero_le _), fun b4 hb4 => ?_⟩
              have nb4 : b4 ≠ p := Ne.symm (ne_of_none g10 hb4)
              have fb4 : H b4 = none := z10.free hb4
              have c11 : Kp [p] G10 (upd G10 b4 (.lst [])) := Kp.same (Same.new (Same.refl _) hb4)
              have eb4 : upd G10 b4 (.lst []) b4 = some (.lst []) := upd_same
              have g11 : upd G10 b4 (.lst []) p = some (.dK []) := upd_far (Ne.symm nb4) g10
              generalize upd G10 b4 (.lst []) = G11 at *
              have z11 : Same H G11 := fun b q e => c11 _ _ (notin1 (ne_of_none e hp)) (z10 _ _ e)
              refine ⟨sz_ (by simp), fun t4 ht4 => ?_⟩
              have nt4 : t4 ≠ p := Ne.symm (ne_of_none g11 ht4)
              have ft4 : H t4 = none := z11.free ht4
              have c12 : Kp [p] G11 (upd G11 t4 (.tup [.ref a4, .ref b4])) := Kp.same (Same.new (Same.refl _) ht4)
              have et4 : upd G11 t4 (.tup [.ref a4, .ref b4]) t4 = some (.tup [.ref a4, .ref b4]) := upd_same
              have g12 : upd G11 t4 (.tup [.ref a4, .ref b4]) p = some (.dK []) := upd_far (Ne.symm nt4) g11
              generalize upd G11 t4 (.tup [.ref a4, .ref b4]) = G12 at *
              have z12 : Same H G12 := fun b q e => c12 _ _ (notin1 (ne_of_none e hp)) (z11 _ _ e)
              refine ⟨g12, [(.inr "copy", .ref t1), (.inr "fill", .ref t2), (.inr "seek", .ref t3), (.inr "match", .ref t4)], rfl, by show (4 : Nat) ≤ 15; decide, ?_⟩
              have m13 : mergeK [] ([(.inr "copy", .ref t1), (.inr "fill", .ref t2), (.inr "seek", .ref t3), (.inr "match", .ref t4)] : List (Key × V)) = [(.inr "copy", .ref t1), (.inr "fill", .ref t2), (.inr "seek", .ref t3), (.inr "match", .ref t4)] := rfl
              rw [m13]
              have c13 : Kp [p] G12 (upd G12 p (.dK [(.inr "copy", .ref t1), (.inr "fill", .ref t2), (.inr "seek", .ref t3), (.inr "match", .ref t4)])) := Kp.refl.set (by simp)
              have g13 : upd G12 p (.dK [(.inr "copy", .ref t1), (.inr "fill", .ref t2), (.inr "seek", .ref t3), (.inr "match", .ref t4)]) p = some (.dK [(.inr "copy", .ref t1), (.inr "fill", .ref t2), (.inr "seek", .ref t3), (.inr "match", .ref t4)]) := upd_same
              generalize upd G12 p (.dK [(.inr "copy", .ref t1), (.inr "fill", .ref t2), (.inr "seek", .ref t3), (.inr "match", .ref t4)]) = G13 at *
              have z13 : Same H G13 := fun b q e => c13 _ _ (notin1 (ne_of_none e hp)) (z12 _ _ e)
              refine ⟨_, rfl, _, rfl, _, _, rfl, rfl, sz_ (by simp), fun a5 ha5 => ?_⟩
              have na5 : a5 ≠ p := Ne.symm (ne_of_none g13 ha5)
              have fa5 : H a5 = none := z13.free ha5
              have c14 : Kp [p] G13 (upd G13 a5 (.lst [.int (v.get .here + fr)])) := Kp.same (Same.new (Same.refl _) ha5)
              have ea5 : upd G13 a5 (.lst [.int (v.get .here + fr)]) a5 = some (.lst [.int (v.get .here + fr)]) := upd_same
              have g14 : upd G13 a5 (.lst [.int (v.get .here + fr)]) p = some (.dK [(.inr "copy", .ref t1), (.inr "fill", .ref t2), (.inr "seek", .ref t3), (.inr "match", .ref t4)]) := upd_far (Ne.symm na5) g13
              generalize upd G13 a5 (.lst [.int (v.get .here + fr)]) = G14 at *
              have z14 : Same H G14 := fun b q e => c14 _ _ (notin1 (ne_of_none e hp)) (z13 _ _ e)
              refine ⟨_, rfl, _, rfl, _, _, rfl, rfl, sz_ (by simp), fun b5 hb5 => ?_⟩
              have nb5 : b5 ≠ p := Ne.symm (ne_of_none g14 hb5)
              have fb5 : H b5 = none := z14.free hb5
              have c15 : Kp [p] G14 (upd G14 b5 (.lst [.int (v.get .there + fr)])) := Kp.same (Same.new (Same.refl _) hb5)
              have eb5 : upd G14 b5 (.lst [.int (v.get .there + fr)]) b5 = some (.lst [.int (v.get .there + fr)]) := upd_same
              have g15 : upd G14 b5 (.lst [.int (v.get .there + fr)]) p = some (.dK [(.inr "copy", .ref t1), (.inr "fill", .ref t2), (.inr "seek", .ref t3), (.inr "match", .ref t4)]) := upd_far (Ne.symm nb5) g14
              generalize upd G14 b5 (.lst [.int (v.get .there + fr)]) = G15 at *
              have z15 : Same H G15 := fun b q e => c15 _ _ (notin1 (ne_of_none e hp)) (z14 _ _ e)
              refine ⟨sz_ (by simp), fun t5 ht5 => ?_⟩
              have nt5 : t5 ≠ p := Ne.symm (ne_of_none g15 ht5)
              have ft5 : H t5 = none := z15.free ht5
              have c16 : Kp [p] G15 (upd G15 t5 (.tup [.ref a5, .ref b5])) := Kp.same (Same.new (Same.refl _) ht5)
              have et5 : upd G15 t5 (.tup [.ref a5, .ref b5]) t5 = some (.tup [.ref a5, .ref b5]) := upd_same
              have g16 : upd G15 t5 (.tup [.ref a5, .ref b5]) p = some (.dK [(.inr "copy", .ref t1), (.inr "fill", .ref t2), (.inr "seek", .ref t3), (.inr "match", .ref t4)]) := upd_far (Ne.symm nt5) g15
              generalize upd G15 t5 (.tup [.ref a5, .ref b5]) = G16 at *
              have z16 : Same H G16 := fun b q e => c16 _ _ (notin1 (ne_of_none e hp)) (z15 _ _ e)
              refine ⟨_, rfl, p, _, rfl, DPut.k (k := .inr "shift") g16 (by show (4 : Nat) < sizeLine; decide), ?_⟩
              have m17 : putK ([(.inr "copy", .ref t1), (.inr "fill", .ref t2), (.inr "seek", .ref t3), (.inr "match", .ref t4)] : List (Key × V)) (.inr "shift") (.ref t5) = [(.inr "copy", .ref t1), (.inr "fill", .ref t2), (.inr "seek", .ref t3), (.inr "match", .ref t4), (.inr "shift", .ref t5)] := rfl
              rw [m17]
              have c17 : Kp [p] G16 (upd G16 p (.dK [(.inr "copy", .ref t1), (.inr "fill", .ref t2), (.inr "seek", .ref t3), (.inr "match", .ref t4), (.inr "shift", .ref t5)])) := Kp.refl.set (by simp)
              have g17 : upd G16 p (.dK [(.inr "copy", .ref t1), (.inr "fill", .ref t2), (.inr "seek", .ref t3), (.inr "match", .ref t4), (.inr "shift", .ref t5)]) p = some (.dK [(.inr "copy", .ref t1), (.inr "fill", .ref t2), (.inr "seek", .ref t3), (.inr "match", .ref t4), (.inr "shift", .ref t5)]) := upd_same
              generalize upd G16 p (.dK [(.inr "copy", .ref t1), (.inr "fill", .ref t2), (.inr "seek", .ref t3), (.inr "match", .ref t4), (.inr "shift", .ref t5)]) = G17 at *
              have z17 : Same H G17 := fun b q e => c17 _ _ (notin1 (ne_of_none e hp)) (z16 _ _ e)
              refine ⟨_, rfl, _, rfl, _, rfl, _, _, rfl, rfl, _, _, rfl, rfl, sz_ (by simp), fun a6 ha6 => ?_⟩
              have na6 : a6 ≠ p := Ne.symm (ne_of_none g17 ha6)
              have fa6 : H a6 = none := z17.free ha6
              have c18 : Kp [p] G17 (upd G17 a6 (.lst [.int (v.get .here), .int (v.get .here + v.get .left - 1)])) := Kp.same (Same.new (Same.refl _) ha6)
              have ea6 : upd G17 a6 (.lst [.int (v.get .here), .int (v.get .here + v.get .left - 1)]) a6 = some (.lst [.int (v.get .here), .int (v.get .here + v.get .left - 1)]) := upd_same
              have g18 : upd G17 a6 (.lst [.int (v.get .here), .int (v.get .here + v.get .left - 1)]) p = some (.dK [(.inr "copy", .ref t1), (.inr "fill", .ref t2), (.inr "seek", .ref t3), (.inr "match", .ref t4), (.inr "shift", .ref t5)]) := upd_far (Ne.symm na6) g17
              generalize upd G17 a6 (.lst [.int (v.get .here), .int (v.get .here + v.get .left - 1)]) = G18 at *
              have z18 : Same H G18 := fun b q e => c18 _ _ (notin1 (ne_of_none e hp)) (z17 _ _ e)
              refine ⟨_, rfl, _, rfl, _, rfl, _, _, rfl, rfl, _, _, rfl, rfl, sz_ (by simp), fun b6 hb6 => ?_⟩
              have nb6 : b6 ≠ p := Ne.symm (ne_of_none g18 hb6)
              have fb6 : H b6 = none := z18.free hb6
              have c19 : Kp [p] G18 (upd G18 b6 (.lst [.int (v.get .here), .int (v.get .here + v.get .left - 1)])) := Kp.same (Same.new (Same.refl _) hb6)
              have eb6 : upd G18 b6 (.lst [.int (v.get .here), .int (v.get .here + v.get .left - 1)]) b6 = some (.lst [.int (v.get .here), .int (v.get .here + v.get .left - 1)]) := upd_same
              have g19 : upd G18 b6 (.lst [.int (v.get .here), .int (v.get .here + v.get .left - 1)]) p = some (.dK [(.inr "copy", .ref t1), (.inr "fill", .ref t2), (.inr "seek", .ref t3), (.inr "match", .ref t4), (.inr "shift", .ref t5)]) := upd_far (Ne.symm nb6) g18
              generalize upd G18 b6 (.lst [.int (v.get .here), .int (v.get .here + v.get .left - 1)]) = G19 at *
              have z19 : Same H G19 := fun b q e => c19 _ _ (notin1 (ne_of_none e hp)) (z18 _ _ e)
              refine ⟨sz_ (by simp), fun t6 ht6 => ?_⟩
              have nt6 : t6 ≠ p := Ne.symm (ne_of_none g19 ht6)
              have ft6 : H t6 = none := z19.free ht6
              have c20 : Kp [p] G19 (upd G19 t6 (.tup [.ref a6, .ref b6])) := Kp.same (Same.new (Same.refl _) ht6)
              have et6 : upd G19 t6 (.tup [.ref a6, .ref b6]) t6 = some (.tup [.ref a6, .ref b6]) := upd_same
              have g20 : upd G19 t6 (.tup [.ref a6, .ref b6]) p = some (.dK [(.inr "copy", .ref t1), (.inr "fill", .ref t2), (.inr "seek", .ref t3), (.inr "match", .ref t4), (.inr "shift", .ref t5)]) := upd_far (Ne.symm nt6) g19
              generalize upd G19 t6 (.tup [.ref a6, .ref b6]) = G20 at *
              have z20 : Same H G20 := fun b q e => c20 _ _ (notin1 (ne_of_none e hp)) (z19 _ _ e)
              refine ⟨_, rfl, p, _, rfl, DPut.k (k := .inr "turn") g20 (by show (5 : Nat) < sizeLine; decide), ?_⟩
              have m21 : putK ([(.inr "copy", .ref t1), (.inr "fill", .ref t2), (.inr "seek", .ref t3), (.inr "match", .ref t4), (.inr "shift", .ref t5)] : List (Key × V)) (.inr "turn") (.ref t6) = [(.inr "copy", .ref t1), (.inr "fill", .ref t2), (.inr "seek", .ref t3), (.inr "match", .ref t4), (.inr "shift", .ref t5), (.inr "turn", .ref t6)] := rfl
              rw [m21]
              have c21 : Kp [p] G20 (upd G20 p (.dK [(.inr "copy", .ref t1), (.inr "fill", .ref t2), (.inr "seek", .ref t3), (.inr "match", .ref t4), (.inr "shift", .ref t5), (.inr "turn", .ref t6)])) := Kp.refl.set (by simp)
              have g21 : upd G20 p (.dK [(.inr "copy", .ref t1), (.inr "fill", .ref t2), (.inr "seek", .ref t3), (.inr "match", .ref t4), (.inr "shift", .ref t5), (.inr "turn", .ref t6)]) p = some (.dK [(.inr "copy", .ref t1), (.inr "fill", .ref t2), (.inr "seek", .ref t3), (.inr "match", .ref t4), (.inr "shift", .ref t5), (.inr "turn", .ref t6)]) := upd_same
              generalize upd G20 p (.dK [(.inr "copy", .ref t1), (.inr "fill", .ref t2), (.inr "seek", .ref t3), (.inr "match", .ref t4), (.inr "shift", .ref t5), (.inr "turn", .ref t6)]) = G21 at *
              have z21 : Same H G21 := fun b q e => c21 _ _ (notin1 (ne_of_none e hp)) (z20 _ _ e)
              refine ⟨_, rfl, p, rfl, .inl ⟨_, .inl g21⟩, _, rfl, (by show 0 ≤ sizeLine; exact Nat.zero_le _), fun a7 ha7 => ?_⟩
              have na7 : a7 ≠ p := Ne.symm (ne_of_none g21 ha7)
              have fa7 : H a7 = none := z21.free ha7
              have c22 : Kp [p] G21 (upd G21 a7 (.lst [])) := Kp.same (Same.new (Same.refl _) ha7)
              have ea7 : upd G21 a7 (.lst []) a7 = some (.lst []) := upd_same
              have g22 : upd G21 a7 (.lst []) p = some (.dK [(.inr "copy", .ref t1), (.inr "fill", .ref t2), (.inr "seek", .ref t3), (.inr "match", .ref t4), (.inr "shift", .ref t5), (.inr "turn", .ref t6)]) := upd_far (Ne.symm na7) g21
              generalize upd G21 a7 (.lst []) = G22 at *
              have z22 : Same H G22 := fun b q e => c22 _ _ (notin1 (ne_of_none e hp)) (z21 _ _ e)
              refine ⟨(by show 0 ≤ sizeLine; exact Nat.zero_le _), fun b7 hb7 => ?_⟩
              have nb7 : b7 ≠ p := Ne.symm (ne_of_none g22 hb7)
              have fb7 : H b7 = none := z22.free hb7
              have c23 : Kp [p] G22 (upd G22 b7 (.lst [])) := Kp.same (Same.new (Same.refl _) hb7)
              have eb7 : upd G22 b7 (.lst []) b7 = some (.lst []) := upd_same
              have g23 : upd G22 b7 (.lst []) p = some (.dK [(.inr "copy", .ref t1), (.inr "fill", .ref t2), (.inr "seek", .ref t3), (.inr "match", .ref t4), (.inr "shift", .ref t5), (.inr "turn", .ref t6)]) := upd_far (Ne.symm nb7) g22
              generalize upd G22 b7 (.lst []) = G23 at *
              have z23 : Same H G23 := fun b q e => c23 _ _ (notin1 (ne_of_none e hp)) (z22 _ _ e)
              refine ⟨sz_ (by simp), fun t7 ht7 => ?_⟩
              have nt7 : t7 ≠ p := Ne.symm (ne_of_none g23 ht7)
              have ft7 : H t7 = none := z23.free ht7
              have c24 : Kp [p] G23 (upd G23 t7 (.tup [.ref a7, .ref b7])) := Kp.same (Same.new (Same.refl _) ht7)
              have et7 : upd G23 t7 (.tup [.ref a7, .ref b7]) t7 = some (.tup [.ref a7, .ref b7]) := upd_same
              have g24 : upd G23 t7 (.tup [.ref a7, .ref b7]) p = some (.dK [(.inr "copy", .ref t1), (.inr "fill", .ref t2), (.inr "seek", .ref t3), (.inr "match", .ref t4), (.inr "shift", .ref t5), (.inr "turn", .ref t6)]) := upd_far (Ne.symm nt7) g23
              generalize upd G23 t7 (.tup [.ref a7, .ref b7]) = G24 at *
              have z24 : Same H G24 := fun b q e => c24 _ _ (notin1 (ne_of_none e hp)) (z23 _ _ e)
              have y24 : Kp [p] G24 G24 := Kp.refl
              have y23 : Kp [p] G23 G24 := c24.trans y24
              have y22 : Kp [p] G22 G24 := c23.trans y23
              have y21 : Kp [p] G21 G24 := c22.trans y22
              have y20 : Kp [p] G20 G24 := c21.trans y21
              have y19 : Kp [p] G19 G24 := c20.trans y20
              have y18 : Kp [p] G18 G24 := c19.trans y19
              have y17 : Kp [p] G17 G24 := c18.trans y18
              have y16 : Kp [p] G16 G24 := c17.trans y17
              have y15 : Kp [p] G15 G24 := c16.trans y16
              have y14 : Kp [p] G14 G24 := c15.trans y15
              have y13 : Kp [p] G13 G24 := c14.trans y14
              have y12 : Kp [p] G12 G24 := c13.trans y13
              have y11 : Kp [p] G11 G24 := c12.trans y12
              have y10 : Kp [p] G10 G24 := c11.trans y11
              have y9 : Kp [p] G9 G24 := c10.trans y10
              have y8 : Kp [p] G8 G24 := c9.trans y9
              have y7 : Kp [p] G7 G24 := c8.trans y8
              have y6 : Kp [p] G6 G24 := c7.trans y7
              have y5 : Kp [p] G5 G24 := c6.trans y6
              have y4 : Kp [p] G4 G24 := c5.trans y5
              have y3 : Kp [p] G3 G24 := c4.trans y4
              have y2 : Kp [p] G2 G24 := c3.trans y3
              have y1 : Kp [p] G1 G24 := c2.trans y2
              have y0 : Kp [p] G0 G24 := c1.trans y1
              replace ea1 := y1 _ _ (notin1 na1) ea1
              replace eb1 := y2 _ _ (notin1 nb1) eb1
              replace et1 := y3 _ _ (notin1 nt1) et1
              replace ea2 := y4 _ _ (notin1 na2) ea2
              replace eb2 := y5 _ _ (notin1 nb2) eb2
              replace et2 := y6 _ _ (notin1 nt2) et2
              replace ea3 := y7 _ _ (notin1 na3) ea3
              replace eb3 := y8 _ _ (notin1 nb3) eb3
              replace et3 := y9 _ _ (notin1 nt3) et3
              replace ea4 := y10 _ _ (notin1 na4) ea4
              replace eb4 := y11 _ _ (notin1 nb4) eb4
              replace et4 := y12 _ _ (notin1 nt4) et4
              replace ea5 := y14 _ _ (notin1 na5) ea5
              replace eb5 := y15 _ _ (notin1 nb5) eb5
              replace et5 := y16 _ _ (notin1 nt5) et5
              replace ea6 := y18 _ _ (notin1 na6) ea6
              replace eb6 := y19 _ _ (notin1 nb6) eb6
              replace et6 := y20 _ _ (notin1 nt6) et6
              replace ea7 := y22 _ _ (notin1 na7) ea7
              replace eb7 := y23 _ _ (notin1 nb7) eb7
              replace et7 := y24 _ _ (notin1 nt7) et7
              have DG : DGet G24 p (.str d.word) (valV ([(.inr "copy", .ref t1), (.inr "fill", .ref t2), (.inr "seek", .ref t3), (.inr "match", .ref t4), (.inr "shift", .ref t5), (.inr "turn", .ref t6)] : List (Key × V)) (.inr d.word)) := DGet.k (k := .inr d.word) g24
              have K7 : ∀ i t a b xs ys, G24 t = some (.tup [.ref a, .ref b]) → G24 a = some (.lst (ivs xs)) → G24 b = some (.lst (ivs ys)) → looksM d v = xs → putsM d v = ys → H t = none → H b = none → i = V.ref t → Q i G24 := fun i t a b xs ys h1 h2 h3 h4 h5 h6 h8 h7 => by
                rw [h7]
                refine k t a b G24 h6 h8 z24 h1 ?_ ?_
                · rw [h4]; exact h2
                · rw [h5]; exact h3
              by_cases hl : ∃ l, d = .lng l
              · obtain ⟨l, rfl⟩ := hl
                have hn' := hn l rfl
                rw [show (Spc.lng l).word = l.nm from rfl, val_found] at DG
                have ez' : l.nm = ("turn" : Str) := ez
                rw [ez'] at DG
                refine ⟨_, DG, ?_⟩
                clear ez'
                cases l
                · exact K7 _ t1 a1 b1 [v.here] [v.there] et1 ea1 eb1 (if_neg hn') (if_neg hn') ft1 fb1 rfl
                · exact K7 _ t2 a2 b2 [] [v.there] et2 ea2 eb2 (if_neg hn') (if_neg hn') ft2 fb2 rfl
                · exact K7 _ t3 a3 b3 [v.here] [] et3 ea3 eb3 (if_neg hn') (if_neg hn') ft3 fb3 rfl
                · exact K7 _ t4 a4 b4 [v.here, v.there] [] et4 ea4 eb4 (if_neg hn') (if_neg hn') ft4 fb4 rfl
                · exact K7 _ t5 a5 b5 [v.here + farM v] [v.there + farM v] et5 (by rw [← hfar]; exact ea5) (by rw [← hfar]; exact eb5) (if_neg hn') (if_neg hn') ft5 fb5 rfl
                · exact K7 _ t6 a6 b6 [v.here, v.here + v.left - 1] [v.here, v.here + v.left - 1] et6 ea6 eb6 (if_neg hn') (if_neg hn') ft6 fb6 rfl
              · have hl' : ∀ l, d ≠ .lng l := fun l q => hl ⟨l, q⟩
                rw [val_found0 _ _ _ _ _ _ d hl', ez] at DG
                refine ⟨_, DG, ?_⟩
                refine K7 _ t7 a7 b7 [] [] et7 ea7 eb7 ?_ ?_ ft7 fb7 rfl
                · cases d <;> first | rfl | exact absurd rfl (hl' _) | exact absurd ez.symm w2
                · cases d <;> first | rfl | exact absurd rfl (hl' _) | exact absurd ez.symm w1
          · rw [show decide (V.str z = V.str "turn") = false from decide_eq_false fun q => w3 (V.str.inj q)]
            refine iteF ?_
            have hz : ¬ (z = "turn" ∧ v.left = 1) := fun q => w3 q.1
            have hn : ∀ l : Lg, d = .lng l → ¬ (v.left = 0 ∨ (l = .turn ∧ v.left = 1)) := fun l el q => by
              rcases q with q | ⟨q1, q2⟩
              · exact h0 q
              · have e3 : d.word = "turn" := by
                  rw [el, q1]
                  first | done | rfl
                exact hz ⟨ez.symm.trans e3, q2⟩
            refine ⟨_, rfl, _, _, rfl, rfl, _, rfl, _, rfl, _, _, rfl, rfl, .inr ⟨_, rfl, ?_⟩⟩
            refine ⟨_, _, rfl, rfl, .inl ⟨by show -(2 ^ 64) < v.left - 1; omega, by show v.left - 1 < 2 ^ 64; omega⟩, ?_⟩
            obtain ⟨fr, efr⟩ : ∃ fr, (v.left - 1) * (if decide (v.here < v.there) = true then 1 else 0) = fr := ⟨_, rfl⟩
            have hfar : fr = farM v := by
              rw [← efr]
              unfold farM
              by_cases q : v.here < v.there
              · rw [decide_eq_true q, if_pos rfl, if_pos q, Int.mul_one]
              · rw [decide_eq_false q, if_neg (by decide), if_neg q, Int.mul_zero]
            have efr' : (v.get .left - 1) * (if decide (v.get .here < v.get .there) = true then 1 else 0) = fr := efr
            simp only [efr']
            intro p hp
            have g0 : upd H p (.dK []) p = some (.dK []) := upd_same
            have k0 : Kp [p] H (upd H p (.dK [])) := Kp.refl.set (by simp)
            generalize upd H p (.dK []) = G0 at *
            have z0 : Same H G0 := fun b o e => k0 _ _ (notin1 (ne_of_none e hp)) e
            refine ⟨_, rfl, sz_ (by simp), fun a1 ha1 => ?_⟩
            have na1 : a1 ≠ p := Ne.symm (ne_of_none g0 ha1)
            have fa1 : H a1 = none := z0.free ha1
            have c1 : Kp [p] G0 (upd G0 a1 (.lst [.int (v.get .here)])) := Kp.same (Same.new (Same.refl _) ha1)
            have ea1 : upd G0 a1 (.lst [.int (v.get .here)]) a1 = some (.lst [.int (v.get .here)]) := upd_same
            have g1 : upd G0 a1 (.lst [.int (v.get .here)]) p = some (.dK []) := upd_far (Ne.symm na1) g0
            generalize upd G0 a1 (.lst [.int (v.get .here)]) = G1 at *
            have z1 : Same H G1 := fun b q e => c1 _ _ (notin1 (ne_of_none e hp)) (z0 _ _ e)
            refine ⟨_, rfl, sz_ (by simp), fun b1 hb1 => ?_⟩
            have nb1 : b1 ≠ p := Ne.symm (ne_of_none g1 hb1)
            have fb1 : H b1 = none := z1.free hb1
            have c2 : Kp [p] G1 (upd G1 b1 (.lst [.int (v.get .there)])) := Kp.same (Same.new (Same.refl _) hb1)
            have eb1 : upd G1 b1 (.lst [.int (v.get .there)]) b1 = some (.lst [.int (v.get .there)]) := upd_same
            have g2 : upd G1 b1 (.lst [.int (v.get .there)]) p = some (.dK []) := upd_far (Ne.symm nb1) g1
            generalize upd G1 b1 (.lst [.int (v.get .there)]) = G2 at *
            have z2 : Same H G2 := fun b q e => c2 _ _ (notin1 (ne_of_none e hp)) (z1 _ _ e)
            refine ⟨sz_ (by simp), fun t1 ht1 => ?_⟩
            have nt1 : t1 ≠ p := Ne.symm (ne_of_none g2 ht1)
            have ft1 : H t1 = none := z2.free ht1
            have c3 : Kp [p] G2 (upd G2 t1 (.tup [.ref a1, .ref b1])) := Kp.same (Same.new (Same.refl _) ht1)
            have et1 : upd G2 t1 (.tup [.ref a1, .ref b1]) t1 = some (.tup [.ref a1, .ref b1]) := upd_same
            have g3 : upd G2 t1 (.tup [.ref a1, .ref b1]) p = some (.dK []) := upd_far (Ne.symm nt1) g2
            generalize upd G2 t1 (.tup [.ref a1, .ref b1]) = G3 at *
            have z3 : Same H G3 := fun b q e => c3 _ _ (notin1 (ne_of_none e hp)) (z2 _ _ e)
            refine ⟨(by show 0 ≤ sizeLine; exact Nat.zero_le _), fun a2 ha2 => ?_⟩
            have na2 : a2 ≠ p := Ne.symm (ne_of_none g3 ha2)
            have fa2 : H a2 = none := z3.free ha2
            have c4 : Kp [p] G3 (upd G3 a2 (.lst [])) := Kp.same (Same.new (Same.refl _) ha2)
            have ea2 : upd G3 a2 (.lst []) a2 = some (.lst []) := upd_same
            have g4 : upd G3 a2 (.lst []) p = some (.dK []) := upd_far (Ne.symm na2) g3
            generalize upd G3 a2 (.lst []) = G4 at *
            have z4 : Same H G4 := fun b q e => c4 _ _ (notin1 (ne_of_none e hp)) (z3 _ _ e)
            refine ⟨_, rfl, sz_ (by simp), fun b2 hb2 => ?_⟩
            have nb2 : b2 ≠ p := Ne.symm (ne_of_none g4 hb2)
            have fb2 : H b2 = none := z4.free hb2
            have c5 : Kp [p] G4 (upd G4 b2 (.lst [.int (v.get .there)])) := Kp.same (Same.new (Same.refl _) hb2)
            have eb2 : upd G4 b2 (.lst [.int (v.get .there)]) b2 = some (.lst [.int (v.get .there)]) := upd_same
            have g5 : upd G4 b2 (.lst [.int (v.get .there)]) p = some (.dK []) := upd_far (Ne.symm nb2) g4
            generalize upd G4 b2 (.lst [.int (v.get .there)]) = G5 at *
            have z5 : Same H G5 := fun b q e => c5 _ _ (notin1 (ne_of_none e hp)) (z4 _ _ e)
            refine ⟨sz_ (by simp), fun t2 ht2 => ?_⟩
            have nt2 : t2 ≠ p := Ne.symm (ne_of_none g5 ht2)
            have ft2 : H t2 = none := z5.free ht2
            have c6 : Kp [p] G5 (upd G5 t2 (.tup [.ref a2, .ref b2])) := Kp.same (Same.new (Same.refl _) ht2)
            have et2 : upd G5 t2 (.tup [.ref a2, .ref b2]) t2 = some (.tup [.ref a2, .ref b2]) := upd_same
            have g6 : upd G5 t2 (.tup [.ref a2, .ref b2]) p = some (.dK []) := upd_far (Ne.symm nt2) g5
            generalize upd G5 t2 (.tup [.ref a2, .ref b2]) = G6 at *
            have z6 : Same H G6 := fun b q e => c6 _ _ (notin1 (ne_of_none e hp)) (z5 _ _ e)
            refine ⟨_, rfl, sz_ (by simp), fun a3 ha3 => ?_⟩
            have na3 : a3 ≠ p := Ne.symm (ne_of_none g6 ha3)
            have fa3 : H a3 = none := z6.free ha3
            have c7 : Kp [p] G6 (upd G6 a3 (.lst [.int (v.get .here)])) := Kp.same (Same.new (Same.refl _) ha3)
            have ea3 : upd G6 a3 (.lst [.int (v.get .here)]) a3 = some (.lst [.int (v.get .here)]) := upd_same
            have g7 : upd G6 a3 (.lst [.int (v.get .here)]) p = some (.dK []) := upd_far (Ne.symm na3) g6
            generalize upd G6 a3 (.lst [.int (v.get .here)]) = G7 at *
            have z7 : Same H G7 := fun b q e => c7 _ _ (notin1 (ne_of_none e hp)) (z6 _ _ e)
            refine ⟨(by show 0 ≤ sizeLine; exact Nat.zero_le _), fun b3 hb3 => ?_⟩
            have nb3 : b3 ≠ p := Ne.symm (ne_of_none g7 hb3)
            have fb3 : H b3 = none := z7.free hb3
            have c8 : Kp [p] G7 (upd G7 b3 (.lst [])) := Kp.same (Same.new (Same.refl _) hb3)
            have eb3 : upd G7 b3 (.lst []) b3 = some (.lst []) := upd_same
            have g8 : upd G7 b3 (.lst []) p = some (.dK []) := upd_far (Ne.symm nb3) g7
            generalize upd G7 b3 (.lst []) = G8 at *
            have z8 : Same H G8 := fun b q e => c8 _ _ (notin1 (ne_of_none e hp)) (z7 _ _ e)
            refine ⟨sz_ (by simp), fun t3 ht3 => ?_⟩
            have nt3 : t3 ≠ p := Ne.symm (ne_of_none g8 ht3)
            have ft3 : H t3 = none := z8.free ht3
            have c9 : Kp [p] G8 (upd G8 t3 (.tup [.ref a3, .ref b3])) := Kp.same (Same.new (Same.refl _) ht3)
            have et3 : upd G8 t3 (.tup [.ref a3, .ref b3]) t3 = some (.tup [.ref a3, .ref b3]) := upd_same
            have g9 : upd G8 t3 (.tup [.ref a3, .ref b3]) p = some (.dK []) := upd_far (Ne.symm nt3) g8
            generalize upd G8 t3 (.tup [.ref a3, .ref b3]) = G9 at *
            have z9 : Same H G9 := fun b q e => c9 _ _ (notin1 (ne_of_none e hp)) (z8 _ _ e)
            refine ⟨_, rfl, _, rfl, sz_ (by simp), fun a4 ha4 => ?_⟩
            have na4 : a4 ≠ p := Ne.symm (ne_of_none g9 ha4)
            have fa4 : H a4 = none := z9.free ha4
            have c10 : Kp [p] G9 (upd G9 a4 (.lst [.int (v.get .here), .int (v.get .there)])) := Kp.same (Same.new (Same.refl _) ha4)
            have ea4 : upd G9 a4 (.lst [.int (v.get .here), .int (v.get .there)]) a4 = some (.lst [.int (v.get .here), .int (v.get .there)]) := upd_same
            have g10 : upd G9 a4 (.lst [.int (v.get .here), .int (v.get .there)]) p = some (.dK []) := upd_far (Ne.symm na4) g9
            generalize upd G9 a4 (.lst [.int (v.get .here), .int (v.get .there)]) = G10 at *
            have z10 : Same H G10 := fun b q e => c10 _ _ (notin1 (ne_of_none e hp)) (z9 _ _ e)
            refine ⟨(by show 0 ≤ sizeLine; exact Nat.zero_le _), fun b4 hb4 => ?_⟩
            have nb4 : b4 ≠ p := Ne.symm (ne_of_none g10 hb4)
            have fb4 : H b4 = none := z10.free hb4
            have c11 : Kp [p] G10 (upd G10 b4 (.lst [])) := Kp.same (Same.new (Same.refl _) hb4)
            have eb4 : upd G10 b4 (.lst []) b4 = some (.lst []) := upd_same
            have g11 : upd G10 b4 (.lst []) p = some (.dK []) := upd_far (Ne.symm nb4) g10
            generalize upd G10 b4 (.lst []) = G11 at *
            have z11 : Same H G11 := fun b q e => c11 _ _ (notin1 (ne_of_none e hp)) (z10 _ _ e)
            refine ⟨sz_ (by simp), fun t4 ht4 => ?_⟩
            have nt4 : t4 ≠ p := Ne.symm (ne_of_none g11 ht4)
            have ft4 : H t4 = none := z11.free ht4
            have c12 : Kp [p] G11 (upd G11 t4 (.tup [.ref a4, .ref b4])) := Kp.same (Same.new (Same.refl _) ht4)
            have et4 : upd G11 t4 (.tup [.ref a4, .ref b4]) t4 = some (.tup [.ref a4, .ref b4]) := upd_same
            have g12 : upd G11 t4 (.tup [.ref a4, .ref b4]) p = some (.dK []) := upd_far (Ne.symm nt4) g11
            generalize upd G11 t4 (.tup [.ref a4, .ref b4]) = G12 at *
            have z12 : Same H G12 := fun b q e => c12 _ _ (notin1 (ne_of_none e hp)) (z11 _ _ e)
            refine ⟨g12, [(.inr "copy", .ref t1), (.inr "fill", .ref t2), (.inr "seek", .ref t3), (.inr "match", .ref t4)], rfl, by show (4 : Nat) ≤ 15; decide, ?_⟩
            have m13 : mergeK [] ([(.inr "copy", .ref t1), (.inr "fill", .ref t2), (.inr "seek", .ref t3), (.inr "match", .ref t4)] : List (Key × V)) = [(.inr "copy", .ref t1), (.inr "fill", .ref t2), (.inr "seek", .ref t3), (.inr "match", .ref t4)] := rfl
            rw [m13]
            have c13 : Kp [p] G12 (upd G12 p (.dK [(.inr "copy", .ref t1), (.inr "fill", .ref t2), (.inr "seek", .ref t3), (.inr "match", .ref t4)])) := Kp.refl.set (by simp)
            have g13 : upd G12 p (.dK [(.inr "copy", .ref t1), (.inr "fill", .ref t2), (.inr "seek", .ref t3), (.inr "match", .ref t4)]) p = some (.dK [(.inr "copy", .ref t1), (.inr "fill", .ref t2), (.inr "seek", .ref t3), (.inr "match", .ref t4)]) := upd_same
            generalize upd G12 p (.dK [(.inr "copy", .ref t1), (.inr "fill", .ref t2), (.inr "seek", .ref t3), (.inr "match", .ref t4)]) = G13 at *
            have z13 : Same H G13 := fun b q e => c13 _ _ (notin1 (ne_of_none e hp)) (z12 _ _ e)
            refine ⟨_, rfl, _, rfl, _, _, rfl, rfl, sz_ (by simp), fun a5 ha5 => ?_⟩
            have na5 : a5 ≠ p := Ne.symm (ne_of_none g13 ha5)
            have fa5 : H a5 = none := z13.free ha5
            have c14 : Kp [p] G13 (upd G13 a5 (.lst [.int (v.get .here + fr)])) := Kp.same (Same.new (Same.refl _) ha5)
            have ea5 : upd G13 a5 (.lst [.int (v.get .here + fr)]) a5 = some (.lst [.int (v.get .here + fr)]) := upd_same
            have g14 : upd G13 a5 (.lst [.int (v.get .here + fr)]) p = some (.dK [(.inr "copy", .ref t1), (.inr "fill", .ref t2), (.inr "seek", .ref t3), (.inr "match", .ref t4)]) := upd_far (Ne.symm na5) g13
            generalize upd G13 a5 (.lst [.int (v.get .here + fr)]) = G14 at *
            have z14 : Same H G14 := fun b q e => c14 _ _ (notin1 (ne_of_none e hp)) (z13 _ _ e)
            refine ⟨_, rfl, _, rfl, _, _, rfl, rfl, sz_ (by simp), fun b5 hb5 => ?_⟩
            have nb5 : b5 ≠ p := Ne.symm (ne_of_none g14 hb5)
            have fb5 : H b5 = none := z14.free hb5
            have c15 : Kp [p] G14 (upd G14 b5 (.lst [.int (v.get .there + fr)])) := Kp.same (Same.new (Same.refl _) hb5)
            have eb5 : upd G14 b5 (.lst [.int (v.get .there + fr)]) b5 = some (.lst [.int (v.get .there + fr)]) := upd_same
            have g15 : upd G14 b5 (.lst [.int (v.get .there + fr)]) p = some (.dK [(.inr "copy", .ref t1), (.inr "fill", .ref t2), (.inr "seek", .ref t3), (.inr "match", .ref t4)]) := upd_far (Ne.symm nb5) g14
            generalize upd G14 b5 (.lst [.int (v.get .there + fr)]) = G15 at *
            have z15 : Same H G15 := fun b q e => c15 _ _ (notin1 (ne_of_none e hp)) (z14 _ _ e)
            refine ⟨sz_ (by simp), fun t5 ht5 => ?_⟩
            have nt5 : t5 ≠ p := Ne.symm (ne_of_none g15 ht5)
            have ft5 : H t5 = none := z15.free ht5
            have c16 : Kp [p] G15 (upd G15 t5 (.tup [.ref a5, .ref b5])) := Kp.same (Same.new (Same.refl _) ht5)
            have et5 : upd G15 t5 (.tup [.ref a5, .ref b5]) t5 = some (.tup [.ref a5, .ref b5]) := upd_same
            have g16 : upd G15 t5 (.tup [.ref a5, .ref b5]) p = some (.dK [(.inr "copy", .ref t1), (.inr "fill", .ref t2), (.inr "seek", .ref t3), (.inr "match", .ref t4)]) := upd_far (Ne.symm nt5) g15
            generalize upd G15 t5 (.tup [.ref a5, .ref b5]) = G16 at *
            have z16 : Same H G16 := fun b q e => c16 _ _ (notin1 (ne_of_none e hp)) (z15 _ _ e)
            refine ⟨_, rfl, p, _, rfl, DPut.k (k := .inr "shift") g16 (by show (4 : Nat) < sizeLine; decide), ?_⟩
            have m17 : putK ([(.inr "copy", .ref t1), (.inr "fill", .ref t2), (.inr "seek", .ref t3), (.inr "match", .ref t4)] : List (Key × V)) (.inr "shift") (.ref t5) = [(.inr "copy", .ref t1), (.inr "fill", .ref t2), (.inr "seek", .ref t3), (.inr "match", .ref t4), (.inr "shift", .ref t5)] := rfl
            rw [m17]
            have c17 : Kp [p] G16 (upd G16 p (.dK [(.inr "copy", .ref t1), (.inr "fill", .ref t2), (.inr "seek", .ref t3), (.inr "match", .ref t4), (.inr "shift", .ref t5)])) := Kp.refl.set (by simp)
            have g17 : upd G16 p (.dK [(.inr "copy", .ref t1), (.inr "fill", .ref t2), (.inr "seek", .ref t3), (.inr "match", .ref t4), (.inr "shift", .ref t5)]) p = some (.dK [(.inr "copy", .ref t1), (.inr "fill", .ref t2), (.inr "seek", .ref t3), (.inr "match", .ref t4), (.inr "shift", .ref t5)]) := upd_same
            generalize upd G16 p (.dK [(.inr "copy", .ref t1), (.inr "fill", .ref t2), (.inr "seek", .ref t3), (.inr "match", .ref t4), (.inr "shift", .ref t5)]) = G17 at *
            have z17 : Same H G17 := fun b q e => c17 _ _ (notin1 (ne_of_none e hp)) (z16 _ _ e)
            refine ⟨_, rfl, _, rfl, _, rfl, _, _, rfl, rfl, _, _, rfl, rfl, sz_ (by simp), fun a6 ha6 => ?_⟩
            have na6 : a6 ≠ p := Ne.symm (ne_of_none g17 ha6)
            have fa6 : H a6 = none := z17.free ha6
            have c18 : Kp [p] G17 (upd G17 a6 (.lst [.int (v.get .here), .int (v.get .here + v.get .left - 1)])) := Kp.same (Same.new (Same.refl _) ha6)
            have ea6 : upd G17 a6 (.lst [.int (v.get .here), .int (v.get .here + v.get .left - 1)]) a6 = some (.lst [.int (v.get .here), .int (v.get .here + v.get .left - 1)]) := upd_same
            have g18 : upd G17 a6 (.lst [.int (v.get .here), .int (v.get .here + v.get .left - 1)]) p = some (.dK [(.inr "copy", .ref t1), (.inr "fill", .ref t2), (.inr "seek", .ref t3), (.inr "match", .ref t4), (.inr "shift", .ref t5)]) := upd_far (Ne.symm na6) g17
            generalize upd G17 a6 (.lst [.int (v.get .here), .int (v.get .here + v.get .left - 1)]) = G18 at *
            have z18 : Same H G18 := fun b q e => c18 _ _ (notin1 (ne_of_none e hp)) (z17 _ _ e)
            refine ⟨_, rfl, _, rfl, _, rfl, _, _, rfl, rfl, _, _, rfl, rfl, sz_ (by simp), fun b6 hb6 => ?_⟩
            have nb6 : b6 ≠ p := Ne.symm (ne_of_none g18 hb6)
            have fb6 : H b6 = none := z18.free hb6
            have c19 : Kp [p] G18 (upd G18 b6 (.lst [.int (v.get .here), .int (v.get .here + v.get .left - 1)])) := Kp.same (Same.new (Same.refl _) hb6)
            have eb6 : upd G18 b6 (.lst [.int (v.get .here), .int (v.get .here + v.get .left - 1)]) b6 = some (.lst [.int (v.get .here), .int (v.get .here + v.get .left - 1)]) := upd_same
            have g19 : upd G18 b6 (.lst [.int (v.get .here), .int (v.get .here + v.get .left - 1)]) p = some (.dK [(.inr "copy", .ref t1), (.inr "fill", .ref t2), (.inr "seek", .ref t3), (.inr "match", .ref t4), (.inr "shift", .ref t5)]) := upd_far (Ne.symm nb6) g18
            generalize upd G18 b6 (.lst [.int (v.get .here), .int (v.get .here + v.get .left - 1)]) = G19 at *
            have z19 : Same H G19 := fun b q e => c19 _ _ (notin1 (ne_of_none e hp)) (z18 _ _ e)
            refine ⟨sz_ (by simp), fun t6 ht6 => ?_⟩
            have nt6 : t6 ≠ p := Ne.symm (ne_of_none g19 ht6)
            have ft6 : H t6 = none := z19.free ht6
            have c20 : Kp [p] G19 (upd G19 t6 (.tup [.ref a6, .ref b6])) := Kp.same (Same.new (Same.refl _) ht6)
            have et6 : upd G19 t6 (.tup [.ref a6, .ref b6]) t6 = some (.tup [.ref a6, .ref b6]) := upd_same
            have g20 : upd G19 t6 (.tup [.ref a6, .ref b6]) p = some (.dK [(.inr "copy", .ref t1), (.inr "fill", .ref t2), (.inr "seek", .ref t3), (.inr "match", .ref t4), (.inr "shift", .ref t5)]) := upd_far (Ne.symm nt6) g19
            generalize upd G19 t6 (.tup [.ref a6, .ref b6]) = G20 at *
            have z20 : Same H G20 := fun b q e => c20 _ _ (notin1 (ne_of_none e hp)) (z19 _ _ e)
            refine ⟨_, rfl, p, _, rfl, DPut.k (k := .inr "turn") g20 (by show (5 : Nat) < sizeLine; decide), ?_⟩
            have m21 : putK ([(.inr "copy", .ref t1), (.inr "fill", .ref t2), (.inr "seek", .ref t3), (.inr "match", .ref t4), (.inr "shift", .ref t5)] : List (Key × V)) (.inr "turn") (.ref t6) = [(.inr "copy", .ref t1), (.inr "fill", .ref t2), (.inr "seek", .ref t3), (.inr "match", .ref t4), (.inr "shift", .ref t5), (.inr "turn", .ref t6)] := rfl
            rw [m21]
            have c21 : Kp [p] G20 (upd G20 p (.dK [(.inr "copy", .ref t1), (.inr "fill", .ref t2), (.inr "seek", .ref t3), (.inr "match", .ref t4), (.inr "shift", .ref t5), (.inr "turn", .ref t6)])) := Kp.refl.set (by simp)
            have g21 : upd G20 p (.dK [(.inr "copy", .ref t1), (.inr "fill", .ref t2), (.inr "seek", .ref t3), (.inr "match", .ref t4), (.inr "shift", .ref t5), (.inr "turn", .ref t6)]) p = some (.dK [(.inr "copy", .ref t1), (.inr "fill", .ref t2), (.inr "seek", .ref t3), (.inr "match", .ref t4), (.inr "shift", .ref t5), (.inr "turn", .ref t6)]) := upd_same
            generalize upd G20 p (.dK [(.inr "copy", .ref t1), (.inr "fill", .ref t2), (.inr "seek", .ref t3), (.inr "match", .ref t4), (.inr "shift", .ref t5), (.inr "turn", .ref t6)]) = G21 at *
            have z21 : Same H G21 := fun b q e => c21 _ _ (notin1 (ne_of_none e hp)) (z20 _ _ e)
            refine ⟨_, rfl, p, rfl, .inl ⟨_, .inl g21⟩, _, rfl, (by show 0 ≤ sizeLine; exact Nat.zero_le _), fun a7 ha7 => ?_⟩
            have na7 : a7 ≠ p := Ne.symm (ne_of_none g21 ha7)
            have fa7 : H a7 = none := z21.free ha7
            have c22 : Kp [p] G21 (upd G21 a7 (.lst [])) := Kp.same (Same.new (Same.refl _) ha7)
            have ea7 : upd G21 a7 (.lst []) a7 = some (.lst []) := upd_same
            have g22 : upd G21 a7 (.lst []) p = some (.dK [(.inr "copy", .ref t1), (.inr "fill", .ref t2), (.inr "seek", .ref t3), (.inr "match", .ref t4), (.inr "shift", .ref t5), (.inr "turn", .ref t6)]) := upd_far (Ne.symm na7) g21
            generalize upd G21 a7 (.lst []) = G22 at *
            have z22 : Same H G22 := fun b q e => c22 _ _ (notin1 (ne_of_none e hp)) (z21 _ _ e)
            refine ⟨(by show 0 ≤ sizeLine; exact Nat.zero_le _), fun b7 hb7 => ?_⟩
            have nb7 : b7 ≠ p := Ne.symm (ne_of_none g22 hb7)
            have fb7 : H b7 = none := z22.free hb7
            have c23 : Kp [p] G22 (upd G22 b7 (.lst [])) := Kp.same (Same.new (Same.refl _) hb7)
            have eb7 : upd G22 b7 (.lst []) b7 = some (.lst []) := upd_same
            have g23 : upd G22 b7 (.lst []) p = some (.dK [(.inr "copy", .ref t1), (.inr "fill", .ref t2), (.inr "seek", .ref t3), (.inr "match", .ref t4), (.inr "shift", .ref t5), (.inr "turn", .ref t6)]) := upd_far (Ne.symm nb7) g22
            generalize upd G22 b7 (.lst []) = G23 at *
            have z23 : Same H G23 := fun b q e => c23 _ _ (notin1 (ne_of_none e hp)) (z22 _ _ e)
            refine ⟨sz_ (by simp), fun t7 ht7 => ?_⟩
            have nt7 : t7 ≠ p := Ne.symm (ne_of_none g23 ht7)
            have ft7 : H t7 = none := z23.free ht7
            have c24 : Kp [p] G23 (upd G23 t7 (.tup [.ref a7, .ref b7])) := Kp.same (Same.new (Same.refl _) ht7)
            have et7 : upd G23 t7 (.tup [.ref a7, .ref b7]) t7 = some (.tup [.ref a7, .ref b7]) := upd_same
            have g24 : upd G23 t7 (.tup [.ref a7, .ref b7]) p = some (.dK [(.inr "copy", .ref t1), (.inr "fill", .ref t2), (.inr "seek", .ref t3), (.inr "match", .ref t4), (.inr "shift", .ref t5), (.inr "turn", .ref t6)]) := upd_far (Ne.symm nt7) g23
            generalize upd G23 t7 (.tup [.ref a7, .ref b7]) = G24 at *
            have z24 : Same H G24 := fun b q e => c24 _ _ (notin1 (ne_of_none e hp)) (z23 _ _ e)
            have y24 : Kp [p] G24 G24 := Kp.refl
            have y23 : Kp [p] G23 G24 := c24.trans y24
            have y22 : Kp [p] G22 G24 := c23.trans y23
            have y21 : Kp [p] G21 G24 := c22.trans y22
            have y20 : Kp [p] G20 G24 := c21.trans y21
            have y19 : Kp [p] G19 G24 := c20.trans y20
            have y18 : Kp [p] G18 G24 := c19.trans y19
            have y17 : Kp [p] G17 G24 := c18.trans y18
            have y16 : Kp [p] G16 G24 := c17.trans y17
            have y15 : Kp [p] G15 G24 := c16.trans y16
            have y14 : Kp [p] G14 G24 := c15.trans y15
            have y13 : Kp [p] G13 G24 := c14.trans y14
            have y12 : Kp [p] G12 G24 := c13.trans y13
            have y11 : Kp [p] G11 G24 := c12.trans y12
            have y10 : Kp [p] G10 G24 := c11.trans y11
            have y9 : Kp [p] G9 G24 := c10.trans y10
            have y8 : Kp [p] G8 G24 := c9.trans y9
            have y7 : Kp [p] G7 G24 := c8.trans y8
            have y6 : Kp [p] G6 G24 := c7.trans y7
            have y5 : Kp [p] G5 G24 := c6.trans y6
            have y4 : Kp [p] G4 G24 := c5.trans y5
            have y3 : Kp [p] G3 G24 := c4.trans y4
            have y2 : Kp [p] G2 G24 := c3.trans y3
            have y1 : Kp [p] G1 G24 := c2.trans y2
            have y0 : Kp [p] G0 G24 := c1.trans y1
            replace ea1 := y1 _ _ (notin1 na1) ea1
            replace eb1 := y2 _ _ (notin1 nb1) eb1
            replace et1 := y3 _ _ (notin1 nt1) et1
            replace ea2 := y4 _ _ (notin1 na2) ea2
            replace eb2 := y5 _ _ (notin1 nb2) eb2
            replace et2 := y6 _ _ (notin1 nt2) et2
            replace ea3 := y7 _ _ (notin1 na3) ea3
            replace eb3 := y8 _ _ (notin1 nb3) eb3
            replace et3 := y9 _ _ (notin1 nt3) et3
            replace ea4 := y10 _ _ (notin1 na4) ea4
            replace eb4 := y11 _ _ (notin1 nb4) eb4
            replace et4 := y12 _ _ (notin1 nt4) et4
            replace ea5 := y14 _ _ (notin1 na5) ea5
            replace eb5 := y15 _ _ (notin1 nb5) eb5
            replace et5 := y16 _ _ (notin1 nt5) et5
            replace ea6 := y18 _ _ (notin1 na6) ea6
            replace eb6 := y19 _ _ (notin1 nb6) eb6
            replace et6 := y20 _ _ (notin1 nt6) et6
            replace ea7 := y22 _ _ (notin1 na7) ea7
            replace eb7 := y23 _ _ (notin1 nb7) eb7
            replace et7 := y24 _ _ (notin1 nt7) et7
            have DG : DGet G24 p (.str d.word) (valV ([(.inr "copy", .ref t1), (.inr "fill", .ref t2), (.inr "seek", .ref t3), (.inr "match", .ref t4), (.inr "shift", .ref t5), (.inr "turn", .ref t6)] : List (Key × V)) (.inr d.word)) := DGet.k (k := .inr d.word) g24
            have K7 : ∀ i t a b xs ys, G24 t = some (.tup [.ref a, .ref b]) → G24 a = some (.lst (ivs xs)) → G24 b = some (.lst (ivs ys)) → looksM d v = xs → putsM d v = ys → H t = none → H b = none → i = V.ref t → Q i G24 := fun i t a b xs ys h1 h2 h3 h4 h5 h6 h8 h7 => by
              rw [h7]
              refine k t a b G24 h6 h8 z24 h1 ?_ ?_
              · rw [h4]; exact h2
              · rw [h5]; exact h3
            by_cases hl : ∃ l, d = .lng l
            · obtain ⟨l, rfl⟩ := hl
              have hn' := hn l rfl
              rw [show (Spc.lng l).word = l.nm from rfl, val_found] at DG
              have ez' : l.nm = z := ez
              rw [ez'] at DG
              refine ⟨_, DG, ?_⟩
              clear ez'
              cases l
              · exact K7 _ t1 a1 b1 [v.here] [v.there] et1 ea1 eb1 (if_neg hn') (if_neg hn') ft1 fb1 rfl
              · exact K7 _ t2 a2 b2 [] [v.there] et2 ea2 eb2 (if_neg hn') (if_neg hn') ft2 fb2 rfl
              · exact K7 _ t3 a3 b3 [v.here] [] et3 ea3 eb3 (if_neg hn') (if_neg hn') ft3 fb3 rfl
              · exact K7 _ t4 a4 b4 [v.here, v.there] [] et4 ea4 eb4 (if_neg hn') (if_neg hn') ft4 fb4 rfl
              · exact K7 _ t5 a5 b5 [v.here + farM v] [v.there + farM v] et5 (by rw [← hfar]; exact ea5) (by rw [← hfar]; exact eb5) (if_neg hn') (if_neg hn') ft5 fb5 rfl
              · exact K7 _ t6 a6 b6 [v.here, v.here + v.left - 1] [v.here, v.here + v.left - 1] et6 ea6 eb6 (if_neg hn') (if_neg hn') ft6 fb6 rfl
            · have hl' : ∀ l, d ≠ .lng l := fun l q => hl ⟨l, q⟩
              rw [val_found0 _ _ _ _ _ _ d hl', ez] at DG
              refine ⟨_, DG, ?_⟩
              refine K7 _ t7 a7 b7 [] [] et7 ea7 eb7 ?_ ?_ ft7 fb7 rfl
              · cases d <;> first | rfl | exact absurd rfl (hl' _) | exact absurd ez.symm w2
              · cases d <;> first | rfl | exact absurd rfl (hl' _) | exact absurd ez.symm w1
theorem good_law_reach (T : Txt K mg) : Good P w K mg base 1 (He.ga K "_law_reach") [] (sp_reach K) := by
  obtain ⟨fd, F⟩ := T.d__law_reach
  exact ⟨⟨fd, _, [], ok_law_reach T F, F.bindsN fun _ _ _ _ _ _ us hl => match us, hl with | [_, _], _ => rfl, .nil⟩, F.kp⟩
end
end HB


namespace HB
open PySem PySem.Spec PyProof.Rows L2
local macro_rules | `(tactic| walk_at "ne") => `(tactic| first | assumption | (apply Ne.symm; assumption) | exact ne_of_none (by assumption) (by assumption) | exact ne_new (by assumption) (by assumption) | (intro q; cases q; done))
local macro_rules | `(tactic| walk_at "hp") => `(tactic| first
  | assumption
  | exact upd_same
  | (refine upd_keep ?_ (by assumption); walk_at "hp")
  | (refine upd_far (by walk_at "ne") ?_; walk_at "hp")
  | (refine Same.get (by assumption) ?_; walk_at "hp")
  | (refine Kp.get (by assumption) ?_ (notin1 (by walk_at "ne")); walk_at "hp"))
local macro_rules | `(tactic| walk_at "same") => `(tactic| first
  | assumption
  | exact Same.refl _
  | (refine Same.new ?_ (by assumption); walk_at "same")
  | (refine Same.trans ?_ (by assumption); walk_at "same"))
/-- one row of a reading -/
local macro_rules | `(tactic| walk_at "r1") => `(tactic| first
  | refine ⟨_, rfl, ?_⟩
  | refine ⟨_, _, rfl, rfl, ?_⟩
  | refine ⟨rfl, ?_⟩
  | refine ⟨_, _, _, _, _, rfl, (by walk_at "hp"), (by assumption), (by assumption), rfl, ?_⟩
  | refine ⟨sz_ (by decide), fun _ _ => ?_⟩)
local macro_rules | `(tactic| walk_at "rd") => `(tactic| repeat walk_at "r1")
section
variable {P : Program} {w : World} {K : PySem.W.Frag} {mg : Str → Option Value} {base : Heap}
def sp_lfits : Sp := fun vs H Q _ => ∃ (b : Bx) (n : Int), vs = [.str b.nm, .int n] ∧ Q (.bl (fitsB b n)) H
def nm_law_fits : List Str := ["_law_box", "_law_number"]
theorem sc_law_fits : FnScope nm_law_fits ["_law_box", "_law_number"] (defScope s_law_fits) := ⟨rfl, rfl, rfl, by decide +kernel, rfl, by decide +kernel, by decide +kernel⟩
theorem ok_law_fits (T : Txt K mg) {f : Addr} {fd : FuncData} {dv : List V} {kw : List (Str × V)} (F : FunD K "_law_fits" "_law_fits" (defArgs s_law_fits) (defBody s_law_fits) (defScope s_law_fits) dv kw f fd) : FnOk P w K mg base (CXr P w) 1 f fd ["_law_box", "_law_number"] (sp_lfits) := by
  refine F.ok sc_law_fits (fun vs H Q E h => ?_) (fun cdv A outer s H vs Q E hr h => ?_)
  · obtain ⟨b, n, rfl, _⟩ := h
    rfl
  · obtain ⟨b, n, rfl, h⟩ := h
    refine ⟨_, (pss_cons (ps_if (PW.pt (pw_or (pt_cmpR op_eq (pv 0) pe_str (nomark _)) (pw_or1 (pt_cmpR op_eq (pv 0) pe_str (nomark _))))) (pss_one (ps_ret (pe_chain op_le op_le (pe_un un_neg (pe_op op_pow pe_int pe_int)) (pv 1) (pe_op op_pow pe_int pe_int)))) pss_nil) (pss_cons (ps_if (PW.pt (pw_or (pt_cmpR op_eq (pv 0) pe_str (nomark _)) (pw_or1 (pt_cmpR op_eq (pv 0) pe_str (nomark _))))) (pss_one (ps_ret (pe_chain op_le op_le pe_int (pv 1) (pe_op op_pow pe_int pe_int)))) pss_nil) (pss_cons (ps_if (pt_cmpR op_eq (pv 0) pe_str (nomark _)) (pss_one (ps_ret (pe_or (pe_cmpR op_eq (pv 1) pe_int (nomark _)) (pe_one (pe_cmpR op_eq (pv 1) (pe_un un_neg pe_int) (nomark _)))))) pss_nil) (pss_one (ps_ret (pe_or (pe_cmpR op_eq (pv 1) pe_int (nomark _)) (pe_one (pe_cmpR op_eq (pv 1) pe_int (nomark _))))))))), ?_⟩
    cases b
    case here =>
      refine ⟨_, rfl, rfl, _, rfl, iteT ⟨_, _, rfl, rfl, ⟨by decide, by decide, by decide⟩, _, rfl, _, rfl, _, _, rfl, rfl, _, rfl, ?_⟩⟩
      rw [show decide (-(10 : Int) ^ (9 : Int).toNat ≤ n) = decide (-1000000000 ≤ n) from by rw [ten9]]
      have h' : Q (.bl (decide (-1000000000 ≤ n) && decide (n ≤ 1000000000))) H := h
      by_cases c : -1000000000 ≤ n
      · rw [decide_eq_true c] at h' ⊢
        refine iteT ⟨_, _, rfl, rfl, ⟨by decide, by decide, by decide⟩, _, _, rfl, rfl, ?_⟩
        show Q (.bl (decide (n ≤ (10 : Int) ^ (9 : Int).toNat))) H
        rw [ten9]
        exact h'
      · rw [decide_eq_false c] at h' ⊢
        exact iteF h'
    case there =>
      refine ⟨_, rfl, rfl, _, rfl, iteF ⟨_, rfl, rfl, _, rfl, iteT ⟨_, _, rfl, rfl, ⟨by decide, by decide, by decide⟩, _, rfl, _, rfl, _, _, rfl, rfl, _, rfl, ?_⟩⟩⟩
      rw [show decide (-(10 : Int) ^ (9 : Int).toNat ≤ n) = decide (-1000000000 ≤ n) from by rw [ten9]]
      have h' : Q (.bl (decide (-1000000000 ≤ n) && decide (n ≤ 1000000000))) H := h
      by_cases c : -1000000000 ≤ n
      · rw [decide_eq_true c] at h' ⊢
        refine iteT ⟨_, _, rfl, rfl, ⟨by decide, by decide, by decide⟩, _, _, rfl, rfl, ?_⟩
        show Q (.bl (decide (n ≤ (10 : Int) ^ (9 : Int).toNat))) H
        rw [ten9]
        exact h'
      · rw [decide_eq_false c] at h' ⊢
        exact iteF h'
    case left =>
      refine ⟨_, rfl, rfl, _, rfl, iteF ⟨_, rfl, rfl, _, rfl, iteF ⟨_, rfl, rfl, _, rfl, iteT ⟨_, rfl, _, _, rfl, rfl, _, rfl, ?_⟩⟩⟩⟩
      have h' : Q (.bl (inC n)) H := h
      unfold inC at h'
      by_cases c : 0 ≤ n
      · rw [decide_eq_true c] at h' ⊢
        refine iteT ⟨_, _, rfl, rfl, ⟨by decide, by decide, by decide⟩, _, _, rfl, rfl, ?_⟩
        show Q (.bl (decide (n ≤ (10 : Int) ^ (9 : Int).toNat))) H
        rw [ten9]
        exact h'
      · rw [decide_eq_false c] at h' ⊢
        exact iteF h'
    case sign =>
      refine ⟨_, rfl, rfl, _, rfl, iteF ⟨_, rfl, rfl, _, rfl, iteF ⟨_, rfl, rfl, _, rfl, iteF ⟨_, rfl, rfl, _, rfl, iteT ⟨_, rfl, _, _, rfl, rfl, _, rfl, ?_⟩⟩⟩⟩⟩
      have h' : Q (.bl (inC n)) H := h
      unfold inC at h'
      by_cases c : 0 ≤ n
      · rw [decide_eq_true c] at h' ⊢
        refine iteT ⟨_, _, rfl, rfl, ⟨by decide, by decide, by decide⟩, _, _, rfl, rfl, ?_⟩
        show Q (.bl (decide (n ≤ (10 : Int) ^ (9 : Int).toNat))) H
        rw [ten9]
        exact h'
      · rw [decide_eq_false c] at h' ⊢
        exact iteF h'
    case way =>
      have h' : Q (.bl (decide (n = 1) || decide (n = -1))) H := h
      refine ⟨_, rfl, rfl, _, rfl, iteF ⟨_, rfl, rfl, _, rfl, iteF ⟨_, rfl, rfl, _, rfl, iteF ⟨_, rfl, rfl, _, rfl, iteF ⟨_, rfl, rfl, _, rfl, iteT ⟨_, rfl, rfl, _, rfl, ?_⟩⟩⟩⟩⟩⟩
      by_cases c : n = 1
      · rw [decide_eq_true c] at h'
        rw [dI_t c]
        exact iteT h'
      · rw [decide_eq_false c, Bool.false_or] at h'
        rw [dI_f c]
        refine iteF ⟨_, rfl, _, rfl, rfl, ?_⟩
        show Q (.bl (decide (V.int n = V.int (-1)))) H
        rw [dV_int]
        exact h'
    case met =>
      have h' : Q (.bl (decide (n = 0) || decide (n = 1))) H := h
      refine ⟨_, rfl, rfl, _, rfl, iteF ⟨_, rfl, rfl, _, rfl, iteF ⟨_, rfl, rfl, _, rfl, iteF ⟨_, rfl, rfl, _, rfl, iteF ⟨_, rfl, rfl, _, rfl, iteF ⟨_, rfl, rfl, _, rfl, ?_⟩⟩⟩⟩⟩⟩
      by_cases c : n = 0
      · rw [decide_eq_true c] at h'
        rw [dI_t c]
        exact iteT h'
      · rw [decide_eq_false c, Bool.false_or] at h'
        rw [dI_f c]
        refine iteF ⟨_, rfl, rfl, ?_⟩
        show Q (.bl (decide (V.int n = V.int 1))) H
        rw [dV_int]
        exact h'
theorem good_law_fits (T : Txt K mg) : Good P w K mg base 1 (He.ga K "_law_fits") [] (sp_lfits) := by
  obtain ⟨fd, F⟩ := T.d__law_fits
  exact ⟨⟨fd, _, [], ok_law_fits T F, F.bindsN fun _ _ _ _ _ _ us hl => match us, hl with | [_, _], _ => rfl, .nil⟩, F.kp⟩
def openM (d : Spc) (v : Six) (lv : List Lv) : Prop := (∀ b, d = .write b → inC (v.get b) = true) ∧ (∀ c ∈ looksM d v, mayM lv true c = true) ∧ (∀ c ∈ putsM d v, mayM lv false c = true)
def sp_barred (K : PySem.W.Frag) : Sp := fun vs H Q _ => ∃ (t sd ll : Addr), vs = [.ref t, .ref sd, .ref ll] ∧ ∃ d v lv, H t = some (.tup (Spc.vals d)) ∧ H sd = some (.dK (Six.kvs v)) ∧ H ll = some (.lst (lvs lv)) ∧ v.ok ∧
  (openM d v lv → ∀ H', Same H H' → Q .non H') ∧ (¬ openM d v lv → ∀ p z x y H', Same H H' → H' p = some (.tup [.str z, x, y]) → z ≠ "on" → Q (.ref p) H')
theorem snd_w {b : Bx} : atI (Spc.vals (.write b)) 1 = some (.str b.nm) := rfl
def nm_law_barred : List Str := ["_law_spec_here", "_law_boxes_here", "_law_leaves_here", "_law_looks", "_law_puts", "_law_cell"]
theorem sc_law_barred : FnScope nm_law_barred ["_law_spec_here", "_law_boxes_here", "_law_leaves_here"] (defScope s_law_barred) := ⟨rfl, rfl, rfl, by decide +kernel, rfl, by decide +kernel, by decide +kernel⟩
theorem ok_law_barred (T : Txt K mg) {f : Addr} {fd : FuncData} {dv : List V} {kw : List (Str × V)} (F : FunD K "_law_barred" "_law_barred" (defArgs s_law_barred) (defBody s_law_barred) (defScope s_law_barred) dv kw f fd) : FnOk P w K mg base (CXr P w) 2 f fd ["_law_spec_here", "_law_boxes_here", "_law_leaves_here"] (sp_barred K) := by
  refine F.ok sc_law_barred (fun vs H Q E h => ?_) (fun cdv A outer s H vs Q E hr h => ?_)
  · obtain ⟨t, sd, ll, rfl, _⟩ := h
    rfl
  · obtain ⟨t, sd, ll, rfl, h⟩ := h
    refine ⟨_, (pss_cons (ps_if (PW.pt (pw_and (pt_cmpR op_eq (pe_ix ix_tup (pv 0) pe_int (fun _ _ => rfl)) pe_str (nomark _)) (pw_and1 (pt_not (pt_chain op_le op_le pe_int (pe_dget (hu_of hr) (pv 1) (pe_ix ix_tup (pv 0) pe_int (fun _ _ => rfl)) (fun _ _ => rfl)) (pe_op op_pow pe_int pe_int)))))) (pss_one (ps_ret (pe_tup (pa_cons pe_str (pa_cons (pe_ix ix_tup (pv 0) pe_int (fun _ _ => rfl)) (pa_cons (pe_dget (hu_of hr) (pv 1) (pe_ix ix_tup (pv 0) pe_int (fun _ _ => rfl)) (fun _ _ => rfl)) pa_nil)))))) pss_nil) (pss_cons (ps_asg (pe_callG (good_law_reach T) (hr.mono (by decide)) T.g__law_reach hx_cx (pa_cons (pv 0) (pa_cons (pv 1) pa_nil))) (pg_tup rfl (pgs_cons (pg_name (i := 3) sc_law_barred.nd rfl (Or.inl rfl)) (pgs_cons (pg_name (i := 4) sc_law_barred.nd rfl (Or.inl rfl)) pgs_nil)))) (pss_cons (ps_for po_cx rfl (pi_list (pv 3)) (pg_name (i := 5) sc_law_barred.nd rfl (Or.inl rfl)) (pss_one (ps_if (pt_not (pt_val (pe_callG (good_law_let T) (hr.mono (by decide)) T.g__law_let hx_cx (pa_cons (pv 2) (pa_cons pe_str (pa_cons (pv 5) pa_nil)))))) (pss_one (ps_ret (pe_tup (pa_cons pe_str (pa_cons (pv 5) (pa_cons pe_int pa_nil)))))) pss_nil))) (pss_cons (ps_for po_cx rfl (pi_list (pv 4)) (pg_name (i := 5) sc_law_barred.nd rfl (Or.inl rfl)) (pss_one (ps_if (pt_not (pt_val (pe_callG (good_law_let T) (hr.mono (by decide)) T.g__law_let hx_cx (pa_cons (pv 2) (pa_cons pe_str (pa_cons (pv 5) pa_nil)))))) (pss_one (ps_ret (pe_tup (pa_cons pe_str (pa_cons (pv 5) (pa_cons pe_int pa_nil)))))) pss_nil))) (pss_one (ps_ret pe_non)))))), ?_⟩
    obtain ⟨d, v, lv, ht, hsd, hll, vok, ky, kn⟩ := h
    refine ⟨_, rfl, t, _, 0, .str d.word, rfl, rfl, SqT.of ht, word_at d, rfl, _, rfl, ?_⟩
    by_cases w1 : d.word = "write"
    · rw [decide_eq_true (by rw [w1])]
      have hd : ∃ b, d = .write b := by
        cases d with
        | write b => exact ⟨b, rfl⟩
        | lng l => cases l <;> cases w1
        | _ => cases w1
      obtain ⟨b, rfl⟩ := hd
      refine iteT ⟨_, rfl, _, rfl, t, _, 1, .str b.nm, rfl, rfl, SqT.of ht, snd_w, sd, _, rfl, dgetK hsd b, _, _, rfl, rfl, _, rfl, ?_⟩
      by_cases c0 : 0 ≤ v.get b
      · rw [decide_eq_true c0]
        refine iteT ⟨_, _, rfl, rfl, ⟨by decide, by decide, by decide⟩, _, _, rfl, rfl, _, rfl, ?_⟩
        rw [show decide (v.get b ≤ (10 : Int) ^ (9 : Int).toNat) = decide (v.get b ≤ 1000000000) from by rw [ten9]]
        by_cases c1 : v.get b ≤ 1000000000
        · rw [decide_eq_true c1]
          refine iteF ?_
          have hw : ∀ b', Spc.write b = .write b' → inC (v.get b') = true := fun b' e => by
            cases e
            exact inC_of c0 c1
          obtain ⟨d, hd⟩ : ∃ d, d = Spc.write b := ⟨_, rfl⟩
          rw [← hd] at ht ky kn hw
          refine ⟨_, rfl, _, rfl, t, sd, rfl, d, v, ht, hsd, vok, fun p lp pp H1 fp _ s1 e1 e2 e3 => ?_⟩
          refine ⟨p, _, rfl, SqT.of e1, rfl, _, _, rfl, _, _, rfl, rfl, ?_⟩
          have hl1 := s1 _ _ hll
          refine ⟨_, rfl, lp, rfl, ⟨_, SqL.of e2⟩, for_list (K := K) (a := lp) (xs := ivs (looksM d v)) (fun i σ H2 => (∃ u : Option V, σ = [some (.ref t), some (.ref sd), some (.ref ll), some (.ref lp), some (.ref pp), u]) ∧ H2 = H1 ∧ ∀ c ∈ (looksM d v).take i, mayM lv true c = true) ⟨⟨_, rfl⟩, rfl, by simp⟩ (fun i σ H2 _ q => by rw [q.2.1]; exact SqL.of e2) ?_ ?_⟩
          · rintro i x σ H2 hi ⟨⟨u, rfl⟩, rfl, q⟩
            obtain ⟨c, ec, rfl⟩ := ivs_get hi
            refine ⟨_, rfl, _, rfl, ll, true, c, rfl, lv, hl1, _, rfl, ?_⟩
            cases hm : mayM lv true c with
            | true =>
              refine iteF ⟨⟨_, rfl⟩, rfl, fun c' hc' => ?_⟩
              rw [take_succ' ec] at hc'
              rcases List.mem_append.mp hc' with z | z
              · exact q c' z
              · rw [List.mem_singleton.mp z]
                exact hm
            | false =>
              refine iteT ⟨_, rfl, sz_ (by simp), fun r hr => kn (fun z => ?_) r "look" _ _ _ (s1.trans (Same.new (Same.refl _) hr)) upd_same (by decide)⟩
              exact tf (z.2.1 c (List.mem_of_getElem? ec)) hm
          · rintro σ H2 ⟨⟨u, rfl⟩, rfl, q⟩
            rw [List.take_of_length_le (by simp)] at q
            refine ⟨_, rfl, pp, rfl, ⟨_, SqL.of e3⟩, for_list (K := K) (a := pp) (xs := ivs (putsM d v)) (fun i σ H3 => (∃ u : Option V, σ = [some (.ref t), some (.ref sd), some (.ref ll), some (.ref lp), some (.ref pp), u]) ∧ H3 = H2 ∧ ∀ c ∈ (putsM d v).take i, mayM lv false c = true) ⟨⟨_, rfl⟩, rfl, by simp⟩ (fun i σ H3 _ q => by rw [q.2.1]; exact SqL.of e3) ?_ ?_⟩
            · rintro i x σ H3 hi ⟨⟨u, rfl⟩, rfl, q'⟩
              obtain ⟨c, ec, rfl⟩ := ivs_get hi
              refine ⟨_, rfl, _, rfl, ll, false, c, rfl, lv, hl1, _, rfl, ?_⟩
              cases hm : mayM lv false c with
              | true =>
                refine iteF ⟨⟨_, rfl⟩, rfl, fun c' hc' => ?_⟩
                rw [take_succ' ec] at hc'
                rcases List.mem_append.mp hc' with z | z
                · exact q' c' z
                · rw [List.mem_singleton.mp z]
                  exact hm
              | false =>
                refine iteT ⟨_, rfl, sz_ (by simp), fun r hr => kn (fun z => ?_) r "put" _ _ _ (s1.trans (Same.new (Same.refl _) hr)) upd_same (by decide)⟩
                exact tf (z.2.2 c (List.mem_of_getElem? ec)) hm
            · rintro σ H3 ⟨⟨u, rfl⟩, rfl, q'⟩
              rw [List.take_of_length_le (by simp)] at q'
              exact ky ⟨hw, q, q'⟩ _ s1
        · rw [decide_eq_false c1]
          refine iteT ⟨_, rfl, t, _, 1, .str b.nm, rfl, rfl, SqT.of ht, snd_w, _, rfl, _, rfl, t, _, 1, .str b.nm, rfl, rfl, SqT.of ht, snd_w, sd, _, rfl, dgetK hsd b, sz_ (by simp), fun r hr => kn (fun z => ?_) r "fit" _ _ _ (Same.new (Same.refl _) hr) upd_same (by decide)⟩
          exact c1 (inC_b (z.1 b rfl)).2
      · rw [decide_eq_false c0]
        refine iteF ⟨_, rfl, iteT ?_⟩
        refine ⟨_, rfl, t, _, 1, .str b.nm, rfl, rfl, SqT.of ht, snd_w, _, rfl, _, rfl, t, _, 1, .str b.nm, rfl, rfl, SqT.of ht, snd_w, sd, _, rfl, dgetK hsd b, sz_ (by simp), fun r hr => kn (fun z => ?_) r "fit" _ _ _ (Same.new (Same.refl _) hr) upd_same (by decide)⟩
        exact c0 (inC_b (z.1 b rfl)).1
    · rw [wordF w1]
      refine iteF ?_
      have hw : ∀ b', d = .write b' → inC (v.get b') = true := fun b' e => absurd (by rw [e]; rfl) w1
      refine ⟨_, rfl, _, rfl, t, sd, rfl, d, v, ht, hsd, vok, fun p lp pp H1 fp _ s1 e1 e2 e3 => ?_⟩
      refine ⟨p, _, rfl, SqT.of e1, rfl, _, _, rfl, _, _, rfl, rfl, ?_⟩
      have hl1 := s1 _ _ hll
      refine ⟨_, rfl, lp, rfl, ⟨_, SqL.of e2⟩, for_list (K := K) (a := lp) (xs := ivs (looksM d v)) (fun i σ H2 => (∃ u : Option V, σ = [some (.ref t), some (.ref sd), some (.ref ll), some (.ref lp), some (.ref pp), u]) ∧ H2 = H1 ∧ ∀ c ∈ (looksM d v).take i, mayM lv true c = true) ⟨⟨_, rfl⟩, rfl, by simp⟩ (fun i σ H2 _ q => by rw [q.2.1]; exact SqL.of e2) ?_ ?_⟩
      · rintro i x σ H2 hi ⟨⟨u, rfl⟩, rfl, q⟩
        obtain ⟨c, ec, rfl⟩ := ivs_get hi
        refine ⟨_, rfl, _, rfl, ll, true, c, rfl, lv, hl1, _, rfl, ?_⟩
        cases hm : mayM lv true c with
        | true =>
          refine iteF ⟨⟨_, rfl⟩, rfl, fun c' hc' => ?_⟩
          rw [take_succ' ec] at hc'
          rcases List.mem_append.mp hc' with z | z
          · exact q c' z
          · rw [List.mem_singleton.mp z]
            exact hm
        | false =>
          refine iteT ⟨_, rfl, sz_ (by simp), fun r hr => kn (fun z => ?_) r "look" _ _ _ (s1.trans (Same.new (Same.refl _) hr)) upd_same (by decide)⟩
          exact tf (z.2.1 c (List.mem_of_getElem? ec)) hm
      · rintro σ H2 ⟨⟨u, rfl⟩, rfl, q⟩
        rw [List.take_of_length_le (by simp)] at q
        refine ⟨_, rfl, pp, rfl, ⟨_, SqL.of e3⟩, for_list (K := K) (a := pp) (xs := ivs (putsM d v)) (fun i σ H3 => (∃ u : Option V, σ = [some (.ref t), some (.ref sd), some (.ref ll), some (.ref lp), some (.ref pp), u]) ∧ H3 = H2 ∧ ∀ c ∈ (putsM d v).take i, mayM lv false c = true) ⟨⟨_, rfl⟩, rfl, by simp⟩ (fun i σ H3 _ q => by rw [q.2.1]; exact SqL.of e3) ?_ ?_⟩
        · rintro i x σ H3 hi ⟨⟨u, rfl⟩, rfl, q'⟩
          obtain ⟨c, ec, rfl⟩ := ivs_get hi
          refine ⟨_, rfl, _, rfl, ll, false, c, rfl, lv, hl1, _, rfl, ?_⟩
          cases hm : mayM lv false c with
          | true =>
            refine iteF ⟨⟨_, rfl⟩, rfl, fun c' hc' => ?_⟩
            rw [take_succ' ec] at hc'
            rcases List.mem_append.mp hc' with z | z
            · exact q' c' z
            · rw [List.mem_singleton.mp z]
              exact hm
          | false =>
            refine iteT ⟨_, rfl, sz_ (by simp), fun r hr => kn (fun z => ?_) r "put" _ _ _ (s1.trans (Same.new (Same.refl _) hr)) upd_same (by decide)⟩
            exact tf (z.2.2 c (List.mem_of_getElem? ec)) hm
        · rintro σ H3 ⟨⟨u, rfl⟩, rfl, q'⟩
          rw [List.take_of_length_le (by simp)] at q'
          exact ky ⟨hw, q, q'⟩ _ s1
theorem good_law_barred (T : Txt K mg) : Good P w K mg base 2 (He.ga K "_law_barred") [] (sp_barred K) := by
  obtain ⟨fd, F⟩ := T.d__law_barred
  exact ⟨⟨fd, _, [], ok_law_barred T F, F.bindsN fun _ _ _ _ _ _ us hl => match us, hl with | [_, _, _], _ => rfl, .nil⟩, F.kp⟩
end
end HB


namespace HB
open PySem PySem.Spec PyProof.Rows L2
local macro_rules | `(tactic| walk_at "ne") => `(tactic| first | assumption | (apply Ne.symm; assumption) | exact ne_of_none (by assumption) (by assumption) | exact ne_new (by assumption) (by assumption) | (intro q; cases q; done))
local macro_rules | `(tactic| walk_at "hp") => `(tactic| first
  | assumption
  | exact upd_same
  | (refine upd_keep ?_ (by assumption); walk_at "hp")
  | (refine upd_far (by walk_at "ne") ?_; walk_at "hp")
  | (refine Same.get (by assumption) ?_; walk_at "hp")
  | (refine Kp.get (by assumption) ?_ (notin1 (by walk_at "ne")); walk_at "hp"))
local macro_rules | `(tactic| walk_at "same") => `(tactic| first
  | assumption
  | exact Same.refl _
  | (refine Same.new ?_ (by assumption); walk_at "same")
  | (refine Same.trans ?_ (by assumption); walk_at "same"))
/-- one row of a reading -/
local macro_rules | `(tactic| walk_at "r1") => `(tactic| first
  | refine ⟨_, rfl, ?_⟩
  | refine ⟨_, _, rfl, rfl, ?_⟩
  | refine ⟨rfl, ?_⟩
  | refine ⟨_, _, _, _, _, rfl, (by walk_at "hp"), (by assumption), (by assumption), rfl, ?_⟩
  | refine ⟨sz_ (by decide), fun _ _ => ?_⟩)
local macro_rules | `(tactic| walk_at "rd") => `(tactic| repeat walk_at "r1")
section
variable {P : Program} {w : World} {K : PySem.W.Frag} {mg : Str → Option Value} {base : Heap}
theorem putK_six (v : Six) (b : Bx) (n : Int) : putK (Six.kvs v) (.inr b.nm) (.int n) = Six.kvs (v.put b n) := by cases b <;> rfl
theorem dputK {H : Hp} {sd : Addr} {v : Six} (e : H sd = some (.dK (Six.kvs v))) (b : Bx) (n : Int) : DPut H sd (.str b.nm) (.int n) (upd H sd (.dK (Six.kvs (v.put b n)))) := by
  rw [← putK_six v b n]
  exact DPut.k (k := .inr b.nm) e (by show (6 : Nat) < sizeLine; decide)
theorem dn_one (n : Int) : (if decide (V.int n = V.int 1) = true then (1 : Int) else 0) = dn (n - 1) := by
  unfold dn
  by_cases h : n = 1
  · rw [dI_t h, if_pos rfl, if_pos (by omega)]
  · rw [dI_f h, if_neg (by decide), if_neg (by omega)]
theorem mayIn {lv : List Lv} {b : Bool} {c : Int} {cs : List Int} (m : mayM lv b c = true) (hl : cs.length = lv.length) : 0 ≤ c ∧ c < cs.length := by
  have := mayM_lt m
  omega
def sp_looked (K : PySem.W.Frag) : Sp := fun vs H Q _ => ∃ (l : Lg) (sd cl : Addr), vs = [.str l.nm, .ref sd, .ref cl] ∧ ∃ v cs lv k v' cs' ch, (l = .seek ∨ l = .match_) ∧ H sd = some (.dK (Six.kvs v)) ∧ H cl = some (.lst (ivs cs)) ∧ cs.length = lv.length ∧ stepL l v cs lv = some (k, v', cs', ch) ∧
  ∀ H', Kp [sd] H H' → H' sd = some (.dK (Six.kvs v')) → Q (.int k) H'
theorem sd_cl {H : Hp} {sd cl : Addr} {kvs : List (Key × V)} {xs : List V} (h : H sd = some (.dK kvs)) (h' : H cl = some (.lst xs)) : cl ≠ sd := fun z => by
  rw [z, h] at h'
  cases h'
def nm_law_looked : List Str := ["_law_word", "_law_boxes_here", "_law_cells_here", "_law_here", "_law_there", "_law_left", "_law_way", "_law_other"]
theorem sc_law_looked : FnScope nm_law_looked ["_law_word", "_law_boxes_here", "_law_cells_here"] (defScope s_law_looked) := ⟨rfl, rfl, rfl, by decide +kernel, rfl, by decide +kernel, by decide +kernel⟩
theorem ok_law_looked (T : Txt K mg) {f : Addr} {fd : FuncData} {dv : List V} {kw : List (Str × V)} (F : FunD K "_law_looked" "_law_looked" (defArgs s_law_looked) (defBody s_law_looked) (defScope s_law_looked) dv kw f fd) : FnOk P w K mg base (CXr P w) 1 f fd ["_law_word", "_law_boxes_here", "_law_cells_here"] (sp_looked K) := by
  refine F.ok sc_law_looked (fun vs H Q E h => ?_) (fun cdv A outer s H vs Q E hr h => ?_)
  · obtain ⟨l, sd, cl, rfl, _⟩ := h
    rfl
  · obtain ⟨l, sd, cl, rfl, h⟩ := h
    refine ⟨_, (pss_cons (ps_par3 (i := 3) (j := 4) (l := 5) rfl sc_law_looked.nd rfl rfl rfl (by decide) (by decide) (by decide) rfl rfl rfl (pa_cons (pe_dget (hu_of hr) (pv 1) pe_str (fun _ _ => rfl)) (pa_cons (pe_dget (hu_of hr) (pv 1) pe_str (fun _ _ => rfl)) (pa_cons (pe_dget (hu_of hr) (pv 1) pe_str (fun _ _ => rfl)) pa_nil))) (by rfl)) (pss_cons (ps_set (i := 6) sc_law_looked.nd rfl (Or.inl rfl) (pe_dget (hu_of hr) (pv 1) pe_str (fun _ _ => rfl))) (pss_cons (ps_if (pt_cmpR op_eq (pv 5) pe_int (nomark _)) (pss_cons (ps_dput (hu_of hr) (pv 1) pe_str (pe_callTy call_int1 (by rfl) T.f_int (by decide +kernel) (pa_cons (pe_cmpR op_eq (pv 0) pe_str (nomark _)) pa_nil)) rfl) (pss_one (ps_ret pe_int))) pss_nil) (pss_cons (ps_set (i := 7) sc_law_looked.nd rfl (Or.inl rfl) (pe_dget (hu_of hr) (pv 1) pe_str (fun _ _ => rfl))) (pss_cons (ps_if (pt_cmpR op_eq (pv 0) pe_str (nomark _)) (pss_one (ps_set (i := 7) sc_law_looked.nd rfl (Or.inl rfl) (pe_ix ix_list (pv 2) (pv 4) (fun _ _ => rfl)))) pss_nil) (pss_cons (ps_if (pt_cmpR op_eq (pe_cmpR op_eq (pe_ix ix_list (pv 2) (pv 3) (fun _ _ => rfl)) (pv 7) (nomark _)) (pe_cmpR op_eq (pv 0) pe_str (nomark _)) (nomark _)) (pss_cons (ps_dput (hu_of hr) (pv 1) pe_str (pe_callTy call_int1 (by rfl) T.f_int (by decide +kernel) (pa_cons (pe_cmpR op_eq (pv 0) pe_str (nomark _)) pa_nil)) rfl) (pss_one (ps_ret pe_int))) pss_nil) (pss_cons (ps_dput (hu_of hr) (pv 1) pe_str (pe_callTy call_int1 (by rfl) T.f_int (by decide +kernel) (pa_cons (pe_cmpR op_eq (pv 0) pe_str (nomark _)) pa_nil)) rfl) (pss_cons (ps_dput (hu_of hr) (pv 1) pe_str (pe_op op_add (pv 3) (pv 6)) rfl) (pss_cons (ps_if (pt_cmpR op_eq (pv 0) pe_str (nomark _)) (pss_one (ps_dput (hu_of hr) (pv 1) pe_str (pe_op op_add (pv 4) (pv 6)) rfl)) pss_nil) (pss_cons (ps_dput (hu_of hr) (pv 1) pe_str (pe_op op_sub (pv 5) pe_int) rfl) (pss_one (ps_ret (pe_callTy call_int1 (by rfl) T.f_int (by decide +kernel) (pa_cons (pe_cmpR op_eq (pv 5) pe_int (nomark _)) pa_nil)))))))))))))), ?_⟩
    obtain ⟨v, cs, lv, kk, v', cs', ch, hl, e, hcl, len, hs, k⟩ := h
    refine ⟨_, rfl, sd, _, rfl, dgetK e .here, _, rfl, sd, _, rfl, dgetK e .there, _, rfl, sd, _, rfl, dgetK e .left, _, _, _, rfl, ?_⟩
    refine ⟨_, rfl, sd, _, rfl, dgetK e .way, ?_⟩
    have ncl := sd_cl e hcl
    rcases hl with rfl | rfl
    · have hs : (if v.left = 0 then some (1, { v with met := 0 }, cs, []) else if mayM lv true v.here then (if at_ cs v.here = v.sign then some (1, { v with met := 1 }, cs, []) else some (dn (v.left - 1), { v with here := v.here + v.way, left := v.left - 1, met := 0 }, cs, [])) else none) = some (kk, v', cs', ch) := hs
      refine ⟨_, rfl, rfl, _, rfl, ?_⟩
      by_cases h0 : v.left = 0
      · rw [show decide (V.int (v.get .left) = V.int 0) = true from dI_t h0]
        rw [if_pos h0] at hs
        cases hs
        exact iteT ⟨_, rfl, rfl, .inr ⟨_, rfl, _, rfl, sd, _, rfl, dputK e .met _, k _ (Kp.refl.set (by simp)) upd_same⟩⟩
      · rw [show decide (V.int (v.get .left) = V.int 0) = false from dI_f h0]
        rw [if_neg h0] at hs
        cases hm : mayM lv true v.here with
        | false =>
          rw [hm] at hs
          cases hs
        | true =>
          rw [hm, if_pos rfl] at hs
          have hi := mayIn hm len
          refine iteF ⟨_, rfl, sd, _, rfl, dgetK e .sign, _, rfl, rfl, _, rfl, iteF ?_⟩
          refine ⟨_, rfl, _, rfl, cl, _, v.here, _, rfl, rfl, SqL.of hcl, at_ivs hi.1 hi.2, _, rfl, rfl, _, rfl, rfl, rfl, _, rfl, ?_⟩
          by_cases hq : at_ cs v.here = v.sign
          · rw [show decide (V.int (at_ cs v.here) = V.int (v.get .sign)) = true from dI_t hq]
            rw [if_pos hq] at hs
            cases hs
            exact iteT ⟨_, rfl, rfl, .inr ⟨_, rfl, _, rfl, sd, _, rfl, dputK e .met _, k _ (Kp.refl.set (by simp)) upd_same⟩⟩
          · rw [show decide (V.int (at_ cs v.here) = V.int (v.get .sign)) = false from dI_f hq]
            rw [if_neg hq] at hs
            cases hs
            refine iteF ⟨_, rfl, rfl, .inr ⟨_, rfl, _, rfl, sd, _, rfl, dputK e .met _, ?_⟩⟩
            refine ⟨_, rfl, _, rfl, _, _, rfl, rfl, _, rfl, sd, _, rfl, dputK upd_same .here _, ?_⟩
            refine ⟨_, rfl, rfl, _, rfl, iteF ?_⟩
            refine ⟨_, rfl, _, _, rfl, rfl, _, rfl, sd, _, rfl, dputK upd_same .left _, ?_⟩
            refine ⟨_, rfl, rfl, .inr ⟨_, rfl, ?_⟩⟩
            have q := k _ (((Kp.refl.set (by simp)).set (by simp)).set (by simp)) (upd_same (H := upd (upd H sd (.dK (Six.kvs (v.put .met 0)))) sd (.dK (Six.kvs ((v.put .met 0).put .here (v.here + v.way))))) (a := sd) (o := .dK (Six.kvs (((v.put .met 0).put .here (v.here + v.way)).put .left (v.left - 1)))))
            rw [← dn_one] at q
            exact q
    · have hs : (if v.left = 0 then some (1, { v with met := 1 }, cs, []) else if mayM lv true v.here && mayM lv true v.there then (if at_ cs v.here = at_ cs v.there then some (dn (v.left - 1), { v with here := v.here + v.way, there := v.there + v.way, left := v.left - 1, met := 1 }, cs, []) else some (1, { v with met := 0 }, cs, [])) else none) = some (kk, v', cs', ch) := hs
      refine ⟨_, rfl, rfl, _, rfl, ?_⟩
      by_cases h0 : v.left = 0
      · rw [show decide (V.int (v.get .left) = V.int 0) = true from dI_t h0]
        rw [if_pos h0] at hs
        cases hs
        exact iteT ⟨_, rfl, rfl, .inr ⟨_, rfl, _, rfl, sd, _, rfl, dputK e .met _, k _ (Kp.refl.set (by simp)) upd_same⟩⟩
      · rw [show decide (V.int (v.get .left) = V.int 0) = false from dI_f h0]
        rw [if_neg h0] at hs
        cases hm : (mayM lv true v.here && mayM lv true v.there) with
        | false =>
          rw [hm] at hs
          cases hs
        | true =>
          rw [hm, if_pos rfl] at hs
          rw [Bool.and_eq_true] at hm
          have hi := mayIn hm.1 len
          have hj := mayIn hm.2 len
          refine iteF ⟨_, rfl, sd, _, rfl, dgetK e .sign, _, rfl, rfl, _, rfl, iteT ⟨_, rfl, _, rfl, cl, _, v.there, _, rfl, rfl, SqL.of hcl, at_ivs hj.1 hj.2, ?_⟩⟩
          refine ⟨_, rfl, _, rfl, cl, _, v.here, _, rfl, rfl, SqL.of hcl, at_ivs hi.1 hi.2, _, rfl, rfl, _, rfl, rfl, rfl, _, rfl, ?_⟩
          by_cases hq : at_ cs v.here = at_ cs v.there
          · rw [show decide (V.int (at_ cs v.here) = V.int (at_ cs v.there)) = true from dI_t hq]
            rw [if_pos hq] at hs
            cases hs
            refine iteF ⟨_, rfl, rfl, .inr ⟨_, rfl, _, rfl, sd, _, rfl, dputK e .met _, ?_⟩⟩
            refine ⟨_, rfl, _, rfl, _, _, rfl, rfl, _, rfl, sd, _, rfl, dputK upd_same .here _, ?_⟩
            refine ⟨_, rfl, rfl, _, rfl, iteT ⟨_, rfl, _, rfl, _, _, rfl, rfl, _, rfl, sd, _, rfl, dputK upd_same .there _, ?_⟩⟩
            refine ⟨_, rfl, _, _, rfl, rfl, _, rfl, sd, _, rfl, dputK upd_same .left _, ?_⟩
            refine ⟨_, rfl, rfl, .inr ⟨_, rfl, ?_⟩⟩
            have q := k _ ((((Kp.refl.set (by simp)).set (by simp)).set (by simp)).set (by simp)) (upd_same (H := upd (upd (upd H sd (.dK (Six.kvs (v.put .met 1)))) sd (.dK (Six.kvs ((v.put .met 1).put .here (v.here + v.way))))) sd (.dK (Six.kvs (((v.put .met 1).put .here (v.here + v.way)).put .there (v.there + v.way))))) (a := sd) (o := .dK (Six.kvs ((((v.put .met 1).put .here (v.here + v.way)).put .there (v.there + v.way)).put .left (v.left - 1)))))
            rw [← dn_one] at q
            exact q
          · rw [show decide (V.int (at_ cs v.here) = V.int (at_ cs v.there)) = false from dI_f hq]
            rw [if_neg hq] at hs
            cases hs
            exact iteT ⟨_, rfl, rfl, .inr ⟨_, rfl, _, rfl, sd, _, rfl, dputK e .met _, k _ (Kp.refl.set (by simp)) upd_same⟩⟩
theorem good_law_looked (T : Txt K mg) : Good P w K mg base 1 (He.ga K "_law_looked") [] (sp_looked K) := by
  obtain ⟨fd, F⟩ := T.d__law_looked
  exact ⟨⟨fd, _, [], ok_law_looked T F, F.bindsN fun _ _ _ _ _ _ us hl => match us, hl with | [_, _, _], _ => rfl, .nil⟩, F.kp⟩
end
end HB


namespace HB
open PySem PySem.Spec PyProof.Rows L2
local macro_rules | `(tactic| walk_at "ne") => `(tactic| first | assumption | (apply Ne.symm; assumption) | exact ne_of_none (by assumption) (by assumption) | exact ne_new (by assumption) (by assumption) | (intro q; cases q; done))
local macro_rules | `(tactic| walk_at "hp") => `(tactic| first
  | assumption
  | exact upd_same
  | (refine upd_keep ?_ (by assumption); walk_at "hp")
  | (refine upd_far (by walk_at "ne") ?_; walk_at "hp")
  | (refine Same.get (by assumption) ?_; walk_at "hp")
  | (refine Kp.get (by assumption) ?_ (notin1 (by walk_at "ne")); walk_at "hp"))
local macro_rules | `(tactic| walk_at "same") => `(tactic| first
  | assumption
  | exact Same.refl _
  | (refine Same.new ?_ (by assumption); walk_at "same")
  | (refine Same.trans ?_ (by assumption); walk_at "same"))
/-- one row of a reading -/
local macro_rules | `(tactic| walk_at "r1") => `(tactic| first
  | refine ⟨_, rfl, ?_⟩
  | refine ⟨_, _, rfl, rfl, ?_⟩
  | refine ⟨rfl, ?_⟩
  | refine ⟨_, _, _, _, _, rfl, (by walk_at "hp"), (by assumption), (by assumption), rfl, ?_⟩
  | refine ⟨sz_ (by decide), fun _ _ => ?_⟩)
local macro_rules | `(tactic| walk_at "rd") => `(tactic| repeat walk_at "r1")
section
variable {P : Program} {w : World} {K : PySem.W.Frag} {mg : Str → Option Value} {base : Heap}
def sp_moved (K : PySem.W.Frag) : Sp := fun vs H Q _ => ∃ (l : Lg) (sd cl : Addr), vs = [.str l.nm, .ref sd, .ref cl] ∧ ∃ v cs lv k v' cs' ch, H sd = some (.dK (Six.kvs v)) ∧ H cl = some (.lst (ivs cs)) ∧ cs.length = lv.length ∧ v.ok ∧ stepL l v cs lv = some (k, v', cs', ch) ∧
  ∀ H', Kp [sd, cl] H H' → H' sd = some (.dK (Six.kvs v')) → H' cl = some (.lst (ivs cs')) → Q (.int k) H'
theorem dn_of' (n : Int) : (if decide (V.int n = V.int 0) = true then (1 : Int) else 0) = dn n := dn_of n
def nm_law_moved : List Str := ["_law_word", "_law_boxes_here", "_law_cells_here", "_law_here", "_law_there", "_law_left", "_law_way", "_law_size", "_law_content_here"]
theorem sc_law_moved : FnScope nm_law_moved ["_law_word", "_law_boxes_here", "_law_cells_here"] (defScope s_law_moved) := ⟨rfl, rfl, rfl, by decide +kernel, rfl, by decide +kernel, by decide +kernel⟩
theorem ok_law_moved (T : Txt K mg) {f : Addr} {fd : FuncData} {dv : List V} {kw : List (Str × V)} (F : FunD K "_law_moved" "_law_moved" (defArgs s_law_moved) (defBody s_law_moved) (defScope s_law_moved) dv kw f fd) : FnOk P w K mg base (CXr P w) 2 f fd ["_law_word", "_law_boxes_here", "_law_cells_here"] (sp_moved K) := by
  refine F.ok sc_law_moved (fun vs H Q E h => ?_) (fun cdv A outer s H vs Q E hr h => ?_)
  · obtain ⟨l, sd, cl, rfl, _⟩ := h
    rfl
  · obtain ⟨l, sd, cl, rfl, h⟩ := h
    refine ⟨_, (pss_cons (ps_par3 (i := 3) (j := 4) (l := 5) rfl sc_law_moved.nd rfl rfl rfl (by decide) (by decide) (by decide) rfl rfl rfl (pa_cons (pe_dget (hu_of hr) (pv 1) pe_str (fun _ _ => rfl)) (pa_cons (pe_dget (hu_of hr) (pv 1) pe_str (fun _ _ => rfl)) (pa_cons (pe_dget (hu_of hr) (pv 1) pe_str (fun _ _ => rfl)) pa_nil))) (by rfl)) (pss_cons (ps_set (i := 6) sc_law_moved.nd rfl (Or.inl rfl) (pe_dget (hu_of hr) (pv 1) pe_str (fun _ _ => rfl))) (pss_cons (ps_if (pt_cmpR op_in_seq (pv 0) (pe_tup (pa_cons pe_str (pa_cons pe_str pa_nil))) (by rfl)) (pss_one (ps_ret (pe_callG (good_law_looked T) (hr.mono (by decide)) T.g__law_looked hx_cx (pa_cons (pv 0) (pa_cons (pv 1) (pa_cons (pv 2) pa_nil)))))) pss_nil) (pss_cons (ps_if (pt_cmpR op_eq (pv 5) pe_int (nomark _)) (pss_one (ps_ret pe_int)) pss_nil) (pss_cons (ps_set (i := 7) sc_law_moved.nd rfl (Or.inl rfl) pe_int) (pss_cons (ps_if (pt_cmpR op_eq (pv 0) pe_str (nomark _)) (pss_cons (ps_asg (pe_ix ix_list (pv 2) (pv 3) (fun _ _ => rfl)) (pg_sub (pv 2) (pv 4) set_list)) (pss_cons (ps_dput (hu_of hr) (pv 1) pe_str (pe_op op_add (pv 3) (pv 6)) rfl) (pss_one (ps_dput (hu_of hr) (pv 1) pe_str (pe_op op_add (pv 4) (pv 6)) rfl)))) pss_nil) (pss_cons (ps_if (pt_cmpR op_eq (pv 0) pe_str (nomark _)) (pss_cons (ps_asg (pe_dget (hu_of hr) (pv 1) pe_str (fun _ _ => rfl)) (pg_sub (pv 2) (pv 4) set_list)) (pss_one (ps_dput (hu_of hr) (pv 1) pe_str (pe_op op_add (pv 4) (pv 6)) rfl))) pss_nil) (pss_cons (ps_if (PW.pt (pw_and (pt_cmpR op_eq (pv 0) pe_str (nomark _)) (pw_and1 (pt_cmpR op_le (pv 4) (pv 3) (nomark _))))) (pss_cons (ps_asg (pe_ix ix_list (pv 2) (pv 3) (fun _ _ => rfl)) (pg_sub (pv 2) (pv 4) set_list)) (pss_cons (ps_dput (hu_of hr) (pv 1) pe_str (pe_op op_add (pv 3) pe_int) rfl) (pss_one (ps_dput (hu_of hr) (pv 1) pe_str (pe_op op_add (pv 4) pe_int) rfl)))) (pss_one (ps_if (pt_cmpR op_eq (pv 0) pe_str (nomark _)) (pss_one (ps_asg (pe_ix ix_list (pv 2) (pe_op op_sub (pe_op op_add (pv 3) (pv 5)) pe_int) (fun _ _ => rfl)) (pg_sub (pv 2) (pe_op op_sub (pe_op op_add (pv 4) (pv 5)) pe_int) set_list))) pss_nil))) (pss_cons (ps_if (PW.pt (pw_and (pt_cmpR op_eq (pv 0) pe_str (nomark _)) (pw_and1 (pt_cmpR op_gt (pv 5) pe_int (nomark _))))) (pss_cons (ps_set (i := 7) sc_law_moved.nd rfl (Or.inl rfl) pe_int) (pss_cons (ps_set (i := 8) sc_law_moved.nd rfl (Or.inl rfl) (pe_ix ix_list (pv 2) (pv 3) (fun _ _ => rfl))) (pss_cons (ps_asg (pe_ix ix_list (pv 2) (pe_op op_sub (pe_op op_add (pv 3) (pv 5)) pe_int) (fun _ _ => rfl)) (pg_sub (pv 2) (pv 3) set_list)) (pss_cons (ps_asg (pv 8) (pg_sub (pv 2) (pe_op op_sub (pe_op op_add (pv 3) (pv 5)) pe_int) set_list)) (pss_one (ps_dput (hu_of hr) (pv 1) pe_str (pe_op op_add (pv 3) pe_int) rfl)))))) pss_nil) (pss_cons (ps_dput (hu_of hr) (pv 1) pe_str (pe_op op_sub (pv 5) (pv 7)) rfl) (pss_one (ps_ret (pe_callTy call_int1 (by rfl) T.f_int (by decide +kernel) (pa_cons (pe_cmpR op_eq (pe_dget (hu_of hr) (pv 1) pe_str (fun _ _ => rfl)) pe_int (nomark _)) pa_nil)))))))))))))), ?_⟩
    obtain ⟨v, cs, lv, kk, v', cs', ch, e, hcl, len, vok, hs, k⟩ := h
    obtain ⟨l0, l1⟩ := ok_left vok
    refine ⟨_, rfl, sd, _, rfl, dgetK e .here, _, rfl, sd, _, rfl, dgetK e .there, _, rfl, sd, _, rfl, dgetK e .left, _, _, _, rfl, ?_⟩
    refine ⟨_, rfl, sd, _, rfl, dgetK e .way, ?_⟩
    have ncl := sd_cl e hcl
    cases l
    case seek =>
      refine ⟨_, rfl, sz_ (by simp), fun p hp => ?_⟩
      have e := upd_keep (u := .tup [.str "seek", .str "match"]) e hp
      have hcl := upd_keep (u := .tup [.str "seek", .str "match"]) hcl hp
      have s1 := Same.new (o := .tup [.str "seek", .str "match"]) (Same.refl H) hp
      refine ⟨p, [.str "seek", .str "match"], rfl, .inr (SqT.of upd_same), rfl, rfl, _, rfl, ?_⟩
      refine iteT ⟨_, rfl, _, rfl, _, rfl, .seek, sd, cl, rfl, v, cs, lv, kk, v', cs', ch, .inl rfl, e, hcl, len, hs, fun H1 k1 e1 => ?_⟩
      have hc : cs' = cs := by
        have hs : (if v.left = 0 then some (1, { v with met := 0 }, cs, []) else if mayM lv true v.here then (if at_ cs v.here = v.sign then some (1, { v with met := 1 }, cs, []) else some (dn (v.left - 1), { v with here := v.here + v.way, left := v.left - 1, met := 0 }, cs, [])) else none) = some (kk, v', cs', ch) := hs
        split at hs
        · cases hs; rfl
        · split at hs
          · split at hs <;> cases hs <;> rfl
          · cases hs
      rw [hc] at k
      exact k H1 ((Kp.same s1).trans (k1.mono (by simp))) e1 (k1 _ _ (notin1 ncl) hcl)
    case match_ =>
      refine ⟨_, rfl, sz_ (by simp), fun p hp => ?_⟩
      have e := upd_keep (u := .tup [.str "seek", .str "match"]) e hp
      have hcl := upd_keep (u := .tup [.str "seek", .str "match"]) hcl hp
      have s1 := Same.new (o := .tup [.str "seek", .str "match"]) (Same.refl H) hp
      refine ⟨p, [.str "seek", .str "match"], rfl, .inr (SqT.of upd_same), rfl, rfl, _, rfl, ?_⟩
      refine iteT ⟨_, rfl, _, rfl, _, rfl, .match_, sd, cl, rfl, v, cs, lv, kk, v', cs', ch, .inr rfl, e, hcl, len, hs, fun H1 k1 e1 => ?_⟩
      have hc : cs' = cs := by
        have hs : (if v.left = 0 then some (1, { v with met := 1 }, cs, []) else if mayM lv true v.here && mayM lv true v.there then (if at_ cs v.here = at_ cs v.there then some (dn (v.left - 1), { v with here := v.here + v.way, there := v.there + v.way, left := v.left - 1, met := 1 }, cs, []) else some (1, { v with met := 0 }, cs, [])) else none) = some (kk, v', cs', ch) := hs
        split at hs
        · cases hs; rfl
        · split at hs
          · split at hs <;> cases hs <;> rfl
          · cases hs
      rw [hc] at k
      exact k H1 ((Kp.same s1).trans (k1.mono (by simp))) e1 (k1 _ _ (notin1 ncl) hcl)
    case copy =>
      have hs : (if v.left = 0 then some (1, v, cs, []) else if mayM lv true v.here && mayM lv false v.there then some (dn (v.left - 1), { v with here := v.here + v.way, there := v.there + v.way, left := v.left - 1 }, st_ cs v.there (at_ cs v.here), [(v.there, at_ cs v.there, at_ cs v.here)]) else none) = some (kk, v', cs', ch) := hs
      refine ⟨_, rfl, sz_ (by simp), fun p hp => ?_⟩
      have e := upd_keep (u := .tup [.str "seek", .str "match"]) e hp
      have hcl := upd_keep (u := .tup [.str "seek", .str "match"]) hcl hp
      have s1 := Same.new (o := .tup [.str "seek", .str "match"]) (Same.refl H) hp
      refine ⟨p, [.str "seek", .str "match"], rfl, .inr (SqT.of upd_same), rfl, rfl, _, rfl, ?_⟩
      refine iteF ⟨_, rfl, rfl, _, rfl, ?_⟩
      by_cases h0 : v.left = 0
      · rw [show decide (V.int (v.get .left) = V.int 0) = true from dI_t h0]
        rw [if_pos h0] at hs
        cases hs
        exact iteT (k _ (Kp.same s1) e hcl)
      · rw [show decide (V.int (v.get .left) = V.int 0) = false from dI_f h0]
        rw [if_neg h0] at hs
        cases hm : (mayM lv true v.here && mayM lv false v.there) with
        | false => rw [hm] at hs; cases hs
        | true =>
          rw [hm, if_pos rfl] at hs
          cases hs
          rw [Bool.and_eq_true] at hm
          have hi := mayIn hm.1 len
          have hj := mayIn hm.2 len
          refine iteF ⟨_, rfl, rfl, _, rfl, iteT ?_⟩
          refine ⟨_, rfl, _, rfl, cl, _, v.here, _, rfl, rfl, SqL.of hcl, at_ivs hi.1 hi.2, _, rfl, _, rfl, cl, _, v.there, _, rfl, rfl, hcl, ixN_int hj.1 (by rw [List.length_map]; exact hj.2), ?_⟩
          rw [set_ivs]
          refine ⟨_, rfl, _, rfl, _, _, rfl, rfl, _, rfl, sd, _, rfl, dputK (upd_far (Ne.symm ncl) e) .here _, ?_⟩
          refine ⟨_, rfl, _, rfl, _, _, rfl, rfl, _, rfl, sd, _, rfl, dputK upd_same .there _, ?_⟩
          refine ⟨_, rfl, rfl, _, rfl, iteF ⟨_, rfl, rfl, _, rfl, iteF ⟨_, rfl, rfl, _, rfl, iteF ⟨_, rfl, rfl, _, rfl, iteF ?_⟩⟩⟩⟩
          refine ⟨_, rfl, _, rfl, _, _, rfl, rfl, _, rfl, sd, _, rfl, dputK upd_same .left _, ?_⟩
          refine ⟨_, rfl, sd, _, rfl, dgetK upd_same .left, rfl, .inr ⟨_, rfl, ?_⟩⟩
          rw [dn_of]
          refine k _ ((((((Kp.same s1).set (by simp)).set (by simp)).set (by simp)).set (by simp))) upd_same ?_
          exact upd_far ncl (upd_far ncl (upd_far ncl upd_same))
    case fill =>
      have hs : (if v.left = 0 then some (1, v, cs, []) else if mayM lv false v.there then some (dn (v.left - 1), { v with there := v.there + v.way, left := v.left - 1 }, st_ cs v.there v.sign, [(v.there, at_ cs v.there, v.sign)]) else none) = some (kk, v', cs', ch) := hs
      refine ⟨_, rfl, sz_ (by simp), fun p hp => ?_⟩
      have e := upd_keep (u := .tup [.str "seek", .str "match"]) e hp
      have hcl := upd_keep (u := .tup [.str "seek", .str "match"]) hcl hp
      have s1 := Same.new (o := .tup [.str "seek", .str "match"]) (Same.refl H) hp
      refine ⟨p, [.str "seek", .str "match"], rfl, .inr (SqT.of upd_same), rfl, rfl, _, rfl, ?_⟩
      refine iteF ⟨_, rfl, rfl, _, rfl, ?_⟩
      by_cases h0 : v.left = 0
      · rw [show decide (V.int (v.get .left) = V.int 0) = true from dI_t h0]
        rw [if_pos h0] at hs
        cases hs
        exact iteT (k _ (Kp.same s1) e hcl)
      · rw [show decide (V.int (v.get .left) = V.int 0) = false from dI_f h0]
        rw [if_neg h0] at hs
        cases hm : mayM lv false v.there with
        | false => rw [hm] at hs; cases hs
        | true =>
          rw [hm, if_pos rfl] at hs
          cases hs
          have hj := mayIn hm len
          refine iteF ⟨_, rfl, rfl, _, rfl, iteF ⟨_, rfl, rfl, _, rfl, iteT ?_⟩⟩
          refine ⟨_, rfl, sd, _, rfl, dgetK e .sign, _, rfl, _, rfl, cl, _, v.there, _, rfl, rfl, hcl, ixN_int hj.1 (by rw [List.length_map]; exact hj.2), ?_⟩
          rw [set_ivs]
          refine ⟨_, rfl, _, rfl, _, _, rfl, rfl, _, rfl, sd, _, rfl, dputK (upd_far (Ne.symm ncl) e) .there _, ?_⟩
          refine ⟨_, rfl, rfl, _, rfl, iteF ⟨_, rfl, rfl, _, rfl, iteF ⟨_, rfl, rfl, _, rfl, iteF ?_⟩⟩⟩
          refine ⟨_, rfl, _, rfl, _, _, rfl, rfl, _, rfl, sd, _, rfl, dputK upd_same .left _, ?_⟩
          refine ⟨_, rfl, sd, _, rfl, dgetK upd_same .left, rfl, .inr ⟨_, rfl, ?_⟩⟩
          rw [dn_of]
          refine k _ (((((Kp.same s1).set (by simp)).set (by simp)).set (by simp))) upd_same ?_
          exact upd_far ncl (upd_far ncl upd_same)
    case shift =>
      have hs : (if v.left = 0 then some (1, v, cs, []) else if mayM lv true (v.here + farM v) && mayM lv false (v.there + farM v) then some (dn (v.left - 1), (if v.there ≤ v.here then { v with here := v.here + 1, there := v.there + 1, left := v.left - 1 } else { v with left := v.left - 1 }), st_ cs (v.there + farM v) (at_ cs (v.here + farM v)), [(v.there + farM v, at_ cs (v.there + farM v), at_ cs (v.here + farM v))]) else none) = some (kk, v', cs', ch) := hs
      refine ⟨_, rfl, sz_ (by simp), fun p hp => ?_⟩
      have e := upd_keep (u := .tup [.str "seek", .str "match"]) e hp
      have hcl := upd_keep (u := .tup [.str "seek", .str "match"]) hcl hp
      have s1 := Same.new (o := .tup [.str "seek", .str "match"]) (Same.refl H) hp
      refine ⟨p, [.str "seek", .str "match"], rfl, .inr (SqT.of upd_same), rfl, rfl, _, rfl, ?_⟩
      refine iteF ⟨_, rfl, rfl, _, rfl, ?_⟩
      by_cases h0 : v.left = 0
      · rw [show decide (V.int (v.get .left) = V.int 0) = true from dI_t h0]
        rw [if_pos h0] at hs
        cases hs
        exact iteT (k _ (Kp.same s1) e hcl)
      · rw [show decide (V.int (v.get .left) = V.int 0) = false from dI_f h0]
        rw [if_neg h0] at hs
        cases hm : (mayM lv true (v.here + farM v) && mayM lv false (v.there + farM v)) with
        | false => rw [hm] at hs; cases hs
        | true =>
          rw [hm, if_pos rfl] at hs
          rw [Bool.and_eq_true] at hm
          have hi := mayIn hm.1 len
          have hj := mayIn hm.2 len
          refine iteF ⟨_, rfl, rfl, _, rfl, iteF ⟨_, rfl, rfl, _, rfl, iteF ⟨_, rfl, rfl, _, rfl, iteT ⟨_, rfl, _, rfl, _, _, rfl, rfl, _, rfl, ?_⟩⟩⟩⟩
          by_cases c : v.there ≤ v.here
          · have f0 : farM v = 0 := if_neg (by omega)
            rw [f0, Int.add_zero, Int.add_zero] at hs
            rw [f0, Int.add_zero] at hi hj
            rw [if_pos c] at hs
            cases hs
            rw [show decide (v.get .there ≤ v.get .here) = true from decide_eq_true c]
            refine iteT ⟨_, rfl, _, rfl, cl, _, v.here, _, rfl, rfl, SqL.of hcl, at_ivs hi.1 hi.2, _, rfl, _, rfl, cl, _, v.there, _, rfl, rfl, hcl, ixN_int hj.1 (by rw [List.length_map]; exact hj.2), ?_⟩
            rw [set_ivs]
            refine ⟨_, rfl, _, _, rfl, rfl, _, rfl, sd, _, rfl, dputK (upd_far (Ne.symm ncl) e) .here _, ?_⟩
            refine ⟨_, rfl, _, _, rfl, rfl, _, rfl, sd, _, rfl, dputK upd_same .there _, ?_⟩
            refine ⟨_, rfl, rfl, _, rfl, iteF ?_⟩
            refine ⟨_, rfl, _, rfl, _, _, rfl, rfl, _, rfl, sd, _, rfl, dputK upd_same .left _, ?_⟩
            refine ⟨_, rfl, sd, _, rfl, dgetK upd_same .left, rfl, .inr ⟨_, rfl, ?_⟩⟩
            rw [dn_of]
            refine k _ ((((((Kp.same s1).set (by simp)).set (by simp)).set (by simp)).set (by simp))) upd_same ?_
            exact upd_far ncl (upd_far ncl (upd_far ncl upd_same))
          · have f0 : farM v = v.left - 1 := if_pos (by omega)
            have i1 : v.here + v.left - 1 = v.here + farM v := by rw [f0]; omega
            have i2 : v.there + v.left - 1 = v.there + farM v := by rw [f0]; omega
            rw [if_neg c] at hs
            cases hs
            rw [show decide (v.get .there ≤ v.get .here) = false from decide_eq_false c]
            refine iteF ⟨_, rfl, rfl, _, rfl, iteT ⟨_, rfl, _, rfl, _, rfl, _, _, rfl, rfl, _, _, rfl, rfl, cl, _, _, .int (at_ cs (v.here + farM v)), rfl, rfl, SqL.of hcl, ?_, ?_⟩⟩
            · show atI (ivs cs) (v.here + v.left - 1) = _
              rw [i1]
              exact at_ivs hi.1 hi.2
            refine ⟨_, rfl, _, rfl, _, rfl, _, _, rfl, rfl, _, _, rfl, rfl, cl, _, _, (v.there + farM v).toNat, rfl, rfl, hcl, ?_, ?_⟩
            · show ixN _ (v.there + v.left - 1) = _
              rw [i2]
              exact ixN_int hj.1 (by rw [List.length_map]; exact hj.2)
            rw [set_ivs]
            refine ⟨_, rfl, rfl, _, rfl, iteF ?_⟩
            refine ⟨_, rfl, _, rfl, _, _, rfl, rfl, _, rfl, sd, _, rfl, dputK (upd_far (Ne.symm ncl) e) .left _, ?_⟩
            refine ⟨_, rfl, sd, _, rfl, dgetK upd_same .left, rfl, .inr ⟨_, rfl, ?_⟩⟩
            rw [dn_of]
            refine k _ ((((Kp.same s1).set (by simp)).set (by simp))) upd_same ?_
            exact upd_far ncl upd_same
    case turn =>
      have hs : (if v.left = 0 then some (1, v, cs, []) else if v.left = 1 then some (1, { v with left := 0 }, cs, []) else if (mayM lv true v.here && mayM lv true (v.here + v.left - 1)) && (mayM lv false v.here && mayM lv false (v.here + v.left - 1)) then some (dn (v.left - 2), { v with here := v.here + 1, left := v.left - 2 }, st_ (st_ cs v.here (at_ cs (v.here + v.left - 1))) (v.here + v.left - 1) (at_ cs v.here), [(v.here, at_ cs v.here, at_ cs (v.here + v.left - 1)), (v.here + v.left - 1, at_ cs (v.here + v.left - 1), at_ cs v.here)]) else none) = some (kk, v', cs', ch) := hs
      refine ⟨_, rfl, sz_ (by simp), fun p hp => ?_⟩
      have e := upd_keep (u := .tup [.str "seek", .str "match"]) e hp
      have hcl := upd_keep (u := .tup [.str "seek", .str "match"]) hcl hp
      have s1 := Same.new (o := .tup [.str "seek", .str "match"]) (Same.refl H) hp
      refine ⟨p, [.str "seek", .str "match"], rfl, .inr (SqT.of upd_same), rfl, rfl, _, rfl, ?_⟩
      refine iteF ⟨_, rfl, rfl, _, rfl, ?_⟩
      by_cases h0 : v.left = 0
      · rw [show decide (V.int (v.get .left) = V.int 0) = true from dI_t h0]
        rw [if_pos h0] at hs
        cases hs
        exact iteT (k _ (Kp.same s1) e hcl)
      · rw [show decide (V.int (v.get .left) = V.int 0) = false from dI_f h0]
        rw [if_neg h0] at hs
        refine iteF ⟨_, rfl, rfl, _, rfl, iteF ⟨_, rfl, rfl, _, rfl, iteF ⟨_, rfl, rfl, _, rfl, iteF ⟨_, rfl, rfl, _, rfl, iteF ⟨_, rfl, rfl, _, rfl, iteT ⟨_, rfl, _, _, rfl, rfl, _, rfl, ?_⟩⟩⟩⟩⟩⟩
        by_cases h1 : v.left = 1
        · rw [if_pos h1] at hs
          cases hs
          rw [show decide (1 < v.get .left) = false from decide_eq_false (by show ¬ 1 < v.left; omega)]
          refine iteF ?_
          refine ⟨_, rfl, _, rfl, _, _, rfl, rfl, _, rfl, sd, _, rfl, dputK e .left _, ?_⟩
          refine ⟨_, rfl, sd, _, rfl, dgetK upd_same .left, rfl, .inr ⟨_, rfl, ?_⟩⟩
          have e1 : v.left - 1 = 0 := by omega
          have q := k _ ((Kp.same s1).set (x := sd) (o := .dK (Six.kvs (v.put .left (v.left - 1)))) (by simp)) (by rw [upd_same, e1]; rfl) (upd_far ncl hcl)
          have z : (if decide (V.int (v.left - 1) = V.int 0) = true then (1 : Int) else 0) = 1 := by rw [dI_t e1, if_pos rfl]
          rw [show (if decide (V.int ((v.put .left (v.get .left - 1)).get .left) = V.int 0) = true then (1 : Int) else 0) = 1 from z]
          exact q
        · rw [if_neg h1] at hs
          cases hm : ((mayM lv true v.here && mayM lv true (v.here + v.left - 1)) && (mayM lv false v.here && mayM lv false (v.here + v.left - 1))) with
          | false => rw [hm] at hs; cases hs
          | true =>
            rw [hm, if_pos rfl] at hs
            cases hs
            rw [Bool.and_eq_true, Bool.and_eq_true] at hm
            have hi := mayIn hm.1.1 len
            have hj := mayIn hm.1.2 len
            rw [show decide (1 < v.get .left) = true from decide_eq_true (by show 1 < v.left; omega)]
            refine iteT ⟨_, rfl, _, rfl, cl, _, v.here, _, rfl, rfl, SqL.of hcl, at_ivs hi.1 hi.2, ?_⟩
            refine ⟨_, rfl, _, rfl, _, rfl, _, _, rfl, rfl, _, _, rfl, rfl, cl, _, _, _, rfl, rfl, SqL.of hcl, at_ivs (c := v.here + v.left - 1) hj.1 hj.2, _, rfl, _, rfl, cl, _, v.here, _, rfl, rfl, hcl, ixN_int hi.1 (by rw [List.length_map]; exact hi.2), ?_⟩
            rw [set_ivs]
            refine ⟨_, rfl, _, rfl, _, rfl, _, rfl, _, _, rfl, rfl, _, _, rfl, rfl, cl, _, _, (v.here + v.left - 1).toNat, rfl, rfl, upd_same, ixN_int (c := v.here + v.left - 1) hj.1 (by rw [List.length_map, st_len]; exact hj.2), ?_⟩
            rw [set_ivs]
            refine ⟨_, rfl, _, _, rfl, rfl, _, rfl, sd, _, rfl, dputK (upd_far (Ne.symm ncl) (upd_far (Ne.symm ncl) e)) .here _, ?_⟩
            refine ⟨_, rfl, _, rfl, _, _, rfl, rfl, _, rfl, sd, _, rfl, dputK upd_same .left _, ?_⟩
            refine ⟨_, rfl, sd, _, rfl, dgetK upd_same .left, rfl, .inr ⟨_, rfl, ?_⟩⟩
            rw [dn_of]
            refine k _ ((((((Kp.same s1).set (by simp)).set (by simp)).set (by simp)).set (by simp))) upd_same ?_
            exact upd_far ncl (upd_far ncl upd_same)
theorem good_law_moved (T : Txt K mg) : Good P w K mg base 2 (He.ga K "_law_moved") [] (sp_moved K) := by
  obtain ⟨fd, F⟩ := T.d__law_moved
  exact ⟨⟨fd, _, [], ok_law_moved T F, F.bindsN fun _ _ _ _ _ _ us hl => match us, hl with | [_, _, _], _ => rfl, .nil⟩, F.kp⟩
end
end HB


namespace HB
open PySem PySem.Spec PyProof.Rows L2
local macro_rules | `(tactic| walk_at "ne") => `(tactic| first | assumption | (apply Ne.symm; assumption) | exact ne_of_none (by assumption) (by assumption) | exact ne_new (by assumption) (by assumption) | (intro q; cases q; done))
local macro_rules | `(tactic| walk_at "hp") => `(tactic| first
  | assumption
  | exact upd_same
  | (refine upd_keep ?_ (by assumption); walk_at "hp")
  | (refine upd_far (by walk_at "ne") ?_; walk_at "hp")
  | (refine Same.get (by assumption) ?_; walk_at "hp")
  | (refine Kp.get (by assumption) ?_ (notin1 (by walk_at "ne")); walk_at "hp"))
local macro_rules | `(tactic| walk_at "same") => `(tactic| first
  | assumption
  | exact Same.refl _
  | (refine Same.new ?_ (by assumption); walk_at "same")
  | (refine Same.trans ?_ (by assumption); walk_at "same"))
/-- one row of a reading -/
local macro_rules | `(tactic| walk_at "r1") => `(tactic| first
  | refine ⟨_, rfl, ?_⟩
  | refine ⟨_, _, rfl, rfl, ?_⟩
  | refine ⟨rfl, ?_⟩
  | refine ⟨_, _, _, _, _, rfl, (by walk_at "hp"), (by assumption), (by assumption), rfl, ?_⟩
  | refine ⟨sz_ (by decide), fun _ _ => ?_⟩)
local macro_rules | `(tactic| walk_at "rd") => `(tactic| repeat walk_at "r1")
section
variable {P : Program} {w : World} {K : PySem.W.Frag} {mg : Str → Option Value} {base : Heap}
theorem step_closed {d : Spc} {v : Six} {cs : List Int} {lv : List Lv} (h : ¬ openM d v lv) : stepM d v cs lv = none := by
  have one : ∀ {b : Bool} {c : Int}, mayM lv b c = true → ∀ x ∈ [c], mayM lv b x = true := fun {b c} m => one_ m
  cases d with
  | set b n => exact absurd ⟨(fun b' e => by cases e), (fun c hc => by cases hc), (fun c hc => by cases hc)⟩ h
  | add b n => exact absurd ⟨(fun b' e => by cases e), (fun c hc => by cases hc), (fun c hc => by cases hc)⟩ h
  | take b c => exact absurd ⟨(fun b' e => by cases e), (fun c hc => by cases hc), (fun c hc => by cases hc)⟩ h
  | hop m o => exact absurd ⟨(fun b' e => by cases e), (fun c hc => by cases hc), (fun c hc => by cases hc)⟩ h
  | read b =>
    refine if_neg fun m => h ⟨(fun b' e => by cases e), one m, (fun c hc => by cases hc)⟩
  | write b =>
    show (if inC (v.get b) then _ else _) = none
    by_cases i : inC (v.get b) = true
    · rw [if_pos i]
      refine if_neg fun m => h ⟨(fun b' e => by cases e; exact i), (fun c hc => by cases hc), one m⟩
    · rw [if_neg i]
  | lng l =>
    have w : ∀ b', Spc.lng l = .write b' → inC (v.get b') = true := fun b' e => by cases e
    by_cases z : v.left = 0 ∨ (l = .turn ∧ v.left = 1)
    · refine absurd ⟨w, fun c hc => ?_, fun c hc => ?_⟩ h
      · rw [show looksM (.lng l) v = [] from if_pos z] at hc
        cases hc
      · rw [show putsM (.lng l) v = [] from if_pos z] at hc
        cases hc
    · have h0 : ¬ v.left = 0 := fun q => z (.inl q)
      cases l with
      | copy => exact (if_neg h0).trans (if_neg (nab fun m => h ⟨w, by rw [show looksM (.lng .copy) v = [v.here] from if_neg z]; exact one m.1, by rw [show putsM (.lng .copy) v = [v.there] from if_neg z]; exact one m.2⟩))
      | fill => exact (if_neg h0).trans (if_neg (fun m => h ⟨w, by rw [show looksM (.lng .fill) v = [] from if_neg z]; simp, by rw [show putsM (.lng .fill) v = [v.there] from if_neg z]; exact one m⟩))
      | seek => exact (if_neg h0).trans (if_neg (fun m => h ⟨w, by rw [show looksM (.lng .seek) v = [v.here] from if_neg z]; exact one m, by rw [show putsM (.lng .seek) v = [] from if_neg z]; simp⟩))
      | match_ => exact (if_neg h0).trans (if_neg (nab fun m => h ⟨w, by rw [show looksM (.lng .match_) v = [v.here, v.there] from if_neg z]; exact two_ m.1 m.2, by rw [show putsM (.lng .match_) v = [] from if_neg z]; simp⟩))
      | shift => exact (if_neg h0).trans (if_neg (nab fun m => h ⟨w, by rw [show looksM (.lng .shift) v = [v.here + farM v] from if_neg z]; exact one m.1, by rw [show putsM (.lng .shift) v = [v.there + farM v] from if_neg z]; exact one m.2⟩))
      | turn =>
        have h1 : ¬ v.left = 1 := fun q => z (.inr ⟨rfl, q⟩)
        exact (if_neg h0).trans ((if_neg h1).trans (if_neg (nab fun m => h ⟨w, by rw [show looksM (.lng .turn) v = [v.here, v.here + v.left - 1] from if_neg z]; exact two_ (Bool.and_eq_true_iff.mp m.1).1 (Bool.and_eq_true_iff.mp m.1).2, by rw [show putsM (.lng .turn) v = [v.here, v.here + v.left - 1] from if_neg z]; exact two_ (Bool.and_eq_true_iff.mp m.2).1 (Bool.and_eq_true_iff.mp m.2).2⟩)))
theorem step_open {l : Lg} {v : Six} {cs : List Int} {lv : List Lv} (h : openM (.lng l) v lv) : ∃ r, stepL l v cs lv = some r := by
  obtain ⟨_, hl, hp⟩ := h
  by_cases z : v.left = 0 ∨ (l = .turn ∧ v.left = 1)
  · rcases z with z | ⟨z, z1⟩
    · cases l <;> exact ⟨_, if_pos z⟩
    · subst z
      exact ⟨_, (if_neg (by omega)).trans (if_pos z1)⟩
  · have h0 : ¬ v.left = 0 := fun q => z (.inl q)
    cases l with
    | copy =>
      rw [show looksM (.lng .copy) v = [v.here] from if_neg z] at hl
      rw [show putsM (.lng .copy) v = [v.there] from if_neg z] at hp
      exact ⟨_, (if_neg h0).trans (if_pos (ab (hl _ (by simp)) (hp _ (by simp))))⟩
    | fill =>
      rw [show putsM (.lng .fill) v = [v.there] from if_neg z] at hp
      exact ⟨_, (if_neg h0).trans (if_pos (hp _ (by simp)))⟩
    | seek =>
      rw [show looksM (.lng .seek) v = [v.here] from if_neg z] at hl
      by_cases c : at_ cs v.here = v.sign
      · exact ⟨_, (if_neg h0).trans ((if_pos (hl _ (by simp))).trans (if_pos c))⟩
      · exact ⟨_, (if_neg h0).trans ((if_pos (hl _ (by simp))).trans (if_neg c))⟩
    | match_ =>
      rw [show looksM (.lng .match_) v = [v.here, v.there] from if_neg z] at hl
      by_cases c : at_ cs v.here = at_ cs v.there
      · exact ⟨_, (if_neg h0).trans ((if_pos (ab (hl _ (by simp)) (hl _ (by simp)))).trans (if_pos c))⟩
      · exact ⟨_, (if_neg h0).trans ((if_pos (ab (hl _ (by simp)) (hl _ (by simp)))).trans (if_neg c))⟩
    | shift =>
      rw [show looksM (.lng .shift) v = [v.here + farM v] from if_neg z] at hl
      rw [show putsM (.lng .shift) v = [v.there + farM v] from if_neg z] at hp
      exact ⟨_, (if_neg h0).trans (if_pos (ab (hl (v.here + farM v) (List.mem_singleton.mpr rfl)) (hp (v.there + farM v) (List.mem_singleton.mpr rfl))))⟩
    | turn =>
      have h1 : ¬ v.left = 1 := fun q => z (.inr ⟨rfl, q⟩)
      rw [show looksM (.lng .turn) v = [v.here, v.here + v.left - 1] from if_neg z] at hl
      rw [show putsM (.lng .turn) v = [v.here, v.here + v.left - 1] from if_neg z] at hp
      exact ⟨_, (if_neg h0).trans ((if_neg h1).trans (if_pos (ab (ab (hl _ (by simp)) (hl _ (by simp))) (ab (hp _ (by simp)) (hp _ (by simp))))))⟩
def sp_lstep (K : PySem.W.Frag) : Sp := fun vs H Q _ => ∃ (t sd cl ll : Addr), vs = [.ref t, .ref sd, .ref cl, .ref ll] ∧ ∃ d v cs lv, H t = some (.tup (Spc.vals d)) ∧ H sd = some (.dK (Six.kvs v)) ∧ H cl = some (.lst (ivs cs)) ∧ H ll = some (.lst (lvs lv)) ∧ cs.length = lv.length ∧ v.ok ∧ d.ok ∧
  (stepM d v cs lv = none → ∀ p z x y H', Same H H' → H' p = some (.tup [.str z, x, y]) → z ≠ "on" → Q (.ref p) H') ∧
  (∀ k v' cs' ch, stepM d v cs lv = some (k, v', cs', ch) → ∀ p H', Kp [sd, cl] H H' → H' sd = some (.dK (Six.kvs v')) → H' cl = some (.lst (ivs cs')) → H' p = some (.tup [.str "on", .int k, .int 0]) → Q (.ref p) H')
def nm_law_step : List Str := ["_law_spec_here", "_law_boxes_here", "_law_cells_here", "_law_leaves_here", "_law_barred_here", "_law_word", "_law_number"]
theorem sc_law_step : FnScope nm_law_step ["_law_spec_here", "_law_boxes_here", "_law_cells_here", "_law_leaves_here"] (defScope s_law_step) := ⟨rfl, rfl, rfl, by decide +kernel, rfl, by decide +kernel, by decide +kernel⟩
theorem ok_law_step (T : Txt K mg) {f : Addr} {fd : FuncData} {dv : List V} {kw : List (Str × V)} (F : FunD K "_law_step" "_law_step" (defArgs s_law_step) (defBody s_law_step) (defScope s_law_step) dv kw f fd) : FnOk P w K mg base (CXr P w) 3 f fd ["_law_spec_here", "_law_boxes_here", "_law_cells_here", "_law_leaves_here"] (sp_lstep K) := by
  refine F.ok sc_law_step (fun vs H Q E h => ?_) (fun cdv A outer s H vs Q E hr h => ?_)
  · obtain ⟨t, sd, cl, ll, rfl, _⟩ := h
    rfl
  · obtain ⟨t, sd, cl, ll, rfl, h⟩ := h
    refine ⟨_, (pss_cons (ps_set (i := 4) sc_law_step.nd rfl (Or.inl rfl) (pe_callG (good_law_barred T) (hr.mono (by decide)) T.g__law_barred hx_cx (pa_cons (pv 0) (pa_cons (pv 1) (pa_cons (pv 3) pa_nil))))) (pss_cons (ps_if (pt_cmpR op_notN (pv 4) pe_non (nomark _)) (pss_one (ps_ret (pv 4))) pss_nil) (pss_cons (ps_set (i := 5) sc_law_step.nd rfl (Or.inl rfl) (pe_ix ix_tup (pv 0) pe_int (fun _ _ => rfl))) (pss_cons (ps_if (pt_cmpR op_in_seq (pv 5) (pe_tup (pa_cons pe_str (pa_cons pe_str (pa_cons pe_str (pa_cons pe_str pa_nil))))) (by rfl)) (pss_cons (ps_set (i := 6) sc_law_step.nd rfl (Or.inl rfl) (pe_ix ix_tup (pv 0) (pe_un un_neg pe_int) (fun _ _ => rfl))) (pss_cons (ps_if (pt_cmpR op_eq (pv 5) pe_str (nomark _)) (pss_one (ps_set (i := 6) sc_law_step.nd rfl (Or.inl rfl) (pe_op op_add (pe_dget (hu_of hr) (pv 1) (pe_ix ix_tup (pv 0) pe_int (fun _ _ => rfl)) (fun _ _ => rfl)) (pv 6)))) pss_nil) (pss_cons (ps_if (pt_cmpR op_eq (pv 5) pe_str (nomark _)) (pss_one (ps_set (i := 6) sc_law_step.nd rfl (Or.inl rfl) (pe_dget (hu_of hr) (pv 1) (pe_ix ix_tup (pv 0) pe_int (fun _ _ => rfl)) (fun _ _ => rfl)))) pss_nil) (pss_cons (ps_if (pt_cmpR op_eq (pv 5) pe_str (nomark _)) (pss_one (ps_set (i := 6) sc_law_step.nd rfl (Or.inl rfl) (pe_ix ix_list (pv 2) (pe_dget (hu_of hr) (pv 1) pe_str (fun _ _ => rfl)) (fun _ _ => rfl)))) pss_nil) (pss_cons (ps_if (pt_not (pt_val (pe_callG (good_law_fits T) (hr.mono (by decide)) T.g__law_fits hx_cx (pa_cons (pe_ix ix_tup (pv 0) pe_int (fun _ _ => rfl)) (pa_cons (pv 6) pa_nil))))) (pss_one (ps_ret (pe_tup (pa_cons pe_str (pa_cons (pe_ix ix_tup (pv 0) pe_int (fun _ _ => rfl)) (pa_cons (pv 6) pa_nil)))))) pss_nil) (pss_cons (ps_dput (hu_of hr) (pv 1) (pe_ix ix_tup (pv 0) pe_int (fun _ _ => rfl)) (pv 6) rfl) (pss_one (ps_ret (pe_tup (pa_cons pe_str (pa_cons pe_int (pa_cons pe_int pa_nil)))))))))))) pss_nil) (pss_cons (ps_if (pt_cmpR op_eq (pv 5) pe_str (nomark _)) (pss_cons (ps_asg (pe_dget (hu_of hr) (pv 1) (pe_ix ix_tup (pv 0) pe_int (fun _ _ => rfl)) (fun _ _ => rfl)) (pg_sub (pv 2) (pe_dget (hu_of hr) (pv 1) pe_str (fun _ _ => rfl)) set_list)) (pss_one (ps_ret (pe_tup (pa_cons pe_str (pa_cons pe_int (pa_cons pe_int pa_nil))))))) pss_nil) (pss_cons (ps_if (pt_cmpR op_eq (pv 5) pe_str (nomark _)) (pss_one (ps_ret (pe_tup (pa_cons pe_str (pa_cons (pe_op op_add pe_int (pe_op op_mul (pe_ix ix_tup (pv 0) pe_int (fun _ _ => rfl)) (pe_callTy call_int1 (by rfl) T.f_int (by decide +kernel) (pa_cons (pe_or (pe_cmpR op_isN (pe_ix ix_tup (pv 0) pe_int (fun _ _ => rfl)) pe_non (nomark _)) (pe_one (pe_cmpR op_eq (pe_ix ix_tup (pv 0) pe_int (fun _ _ => rfl)) (pe_dget (hu_of hr) (pv 1) pe_str (fun _ _ => rfl)) (nomark _)))) pa_nil)))) (pa_cons pe_int pa_nil)))))) pss_nil) (pss_one (ps_ret (pe_tup (pa_cons pe_str (pa_cons (pe_callG (good_law_moved T) (hr.mono (by decide)) T.g__law_moved hx_cx (pa_cons (pv 5) (pa_cons (pv 1) (pa_cons (pv 2) pa_nil)))) (pa_cons pe_int pa_nil)))))))))))), ?_⟩
    obtain ⟨d, v, cs, lv, ht, e, hcl, hll, len, vok, dok, kn, ky⟩ := h
    have ncl := sd_cl e hcl
    refine ⟨_, rfl, _, rfl, _, rfl, t, sd, ll, rfl, d, v, lv, ht, e, hll, vok, fun ho H1 s1 => ?_, fun hn p z x y H1 s1 e1 hz => ?_⟩
    · refine ⟨_, rfl, rfl, _, rfl, iteF ?_⟩
      have ht := s1 _ _ ht
      have e := s1 _ _ e
      have hcl := s1 _ _ hcl
      refine ⟨_, rfl, t, _, 0, .str d.word, rfl, rfl, SqT.of ht, word_at d, ?_⟩
      cases d with
      | lng l =>
        obtain ⟨⟨k, v', cs', ch⟩, hs⟩ := step_open (cs := cs) ho
        have hs' : stepM (.lng l) v cs lv = some (k, v', cs', ch) := hs
        have nm : (Spc.lng l).word = l.nm := rfl
        rw [nm]
        refine ⟨_, rfl, sz_ (by simp), fun q hq => ?_⟩
        have s2 := Same.new (o := .tup [.str "set", .str "add", .str "take", .str "read"]) (Same.refl H1) hq
        refine ⟨q, [.str "set", .str "add", .str "take", .str "read"], rfl, .inr (SqT.of upd_same), rfl, rfl, _, rfl, ?_⟩
        have ht := s2 _ _ ht
        have e := s2 _ _ e
        have hcl := s2 _ _ hcl
        have s2 := s1.trans s2
        generalize upd H1 q (.tup [.str "set", .str "add", .str "take", .str "read"]) = H2 at *
        have f1 : inV (.str l.nm) [.str "set", .str "add", .str "take", .str "read"] = false := by cases l <;> rfl
        rw [f1]
        refine iteF ⟨_, rfl, rfl, _, rfl, ?_⟩
        rw [show decide (V.str l.nm = V.str "write") = false from by cases l <;> rfl]
        refine iteF ⟨_, rfl, rfl, _, rfl, ?_⟩
        rw [show decide (V.str l.nm = V.str "hop") = false from by cases l <;> rfl]
        refine iteF ⟨_, rfl, _, rfl, _, rfl, l, sd, cl, rfl, v, cs, lv, k, v', cs', ch, e, hcl, len, vok, hs, fun H3 k3 e3 c3 => ?_⟩
        refine ⟨sz_ (by simp), fun p hp => ?_⟩
        exact ky _ _ _ _ hs' p _ ((Kp.same s2).trans (k3.trans (Kp.same (Same.new (Same.refl _) hp)))) (upd_keep e3 hp) (upd_keep c3 hp) upd_same
      | set b n =>
        refine ⟨_, rfl, sz_ (by simp), fun q hq => ?_⟩
        have s2 := Same.new (o := .tup [.str "set", .str "add", .str "take", .str "read"]) (Same.refl H1) hq
        refine ⟨q, [.str "set", .str "add", .str "take", .str "read"], rfl, .inr (SqT.of upd_same), rfl, rfl, _, rfl, ?_⟩
        have ht := s2 _ _ ht
        have e := s2 _ _ e
        have hcl := s2 _ _ hcl
        have s2 := s1.trans s2
        generalize upd H1 q (.tup [.str "set", .str "add", .str "take", .str "read"]) = H2 at *
        refine iteT ⟨_, rfl, _, rfl, t, _, -1, .int n, rfl, rfl, SqT.of ht, rfl, ?_⟩
        refine ⟨_, rfl, rfl, _, rfl, iteF ⟨_, rfl, rfl, _, rfl, iteF ⟨_, rfl, rfl, _, rfl, iteF ?_⟩⟩⟩
        refine ⟨_, rfl, t, _, 1, .str b.nm, rfl, rfl, SqT.of ht, rfl, _, rfl, b, n, rfl, _, rfl, ?_⟩
        cases hf : fitsB b (n) with
        | true =>
          have hs : stepM (.set b n) v cs lv = some (1, v.put b (n), cs, []) := (if_pos hf)
          refine iteF ⟨_, rfl, _, rfl, _, rfl, t, _, 1, .str b.nm, rfl, rfl, SqT.of ht, rfl, sd, _, rfl, dputK e b (n), sz_ (by simp), fun p hp => ?_⟩
          refine ky _ _ _ _ hs p _ (((Kp.same s2).set (by simp)).trans (Kp.same (Same.new (Same.refl _) hp))) (upd_keep upd_same hp) (upd_keep (upd_far ncl hcl) hp) upd_same
        | false =>
          have hs : stepM (.set b n) v cs lv = none := (if_neg (neg_of hf))
          refine iteT ⟨_, rfl, t, _, 1, .str b.nm, rfl, rfl, SqT.of ht, rfl, _, rfl, sz_ (by simp), fun p hp => ?_⟩
          exact kn hs p "fit" _ _ _ (s2.trans (Same.new (Same.refl _) hp)) upd_same (by decide)
      | add b n =>
        refine ⟨_, rfl, sz_ (by simp), fun q hq => ?_⟩
        have s2 := Same.new (o := .tup [.str "set", .str "add", .str "take", .str "read"]) (Same.refl H1) hq
        refine ⟨q, [.str "set", .str "add", .str "take", .str "read"], rfl, .inr (SqT.of upd_same), rfl, rfl, _, rfl, ?_⟩
        have ht := s2 _ _ ht
        have e := s2 _ _ e
        have hcl := s2 _ _ hcl
        have s2 := s1.trans s2
        generalize upd H1 q (.tup [.str "set", .str "add", .str "take", .str "read"]) = H2 at *
        refine iteT ⟨_, rfl, _, rfl, t, _, -1, .int n, rfl, rfl, SqT.of ht, rfl, ?_⟩
        refine ⟨_, rfl, rfl, _, rfl, iteT ⟨_, rfl, _, rfl, t, _, 1, .str b.nm, rfl, rfl, SqT.of ht, rfl, sd, _, rfl, dgetK e b, _, rfl, _, _, rfl, rfl, ?_⟩⟩
        refine ⟨_, rfl, rfl, _, rfl, iteF ⟨_, rfl, rfl, _, rfl, iteF ?_⟩⟩
        refine ⟨_, rfl, t, _, 1, .str b.nm, rfl, rfl, SqT.of ht, rfl, _, rfl, b, v.get b + n, rfl, _, rfl, ?_⟩
        cases hf : fitsB b (v.get b + n) with
        | true =>
          have hs : stepM (.add b n) v cs lv = some (1, v.put b (v.get b + n), cs, []) := (if_pos hf)
          refine iteF ⟨_, rfl, _, rfl, _, rfl, t, _, 1, .str b.nm, rfl, rfl, SqT.of ht, rfl, sd, _, rfl, dputK e b (v.get b + n), sz_ (by simp), fun p hp => ?_⟩
          refine ky _ _ _ _ hs p _ (((Kp.same s2).set (by simp)).trans (Kp.same (Same.new (Same.refl _) hp))) (upd_keep upd_same hp) (upd_keep (upd_far ncl hcl) hp) upd_same
        | false =>
          have hs : stepM (.add b n) v cs lv = none := (if_neg (neg_of hf))
          refine iteT ⟨_, rfl, t, _, 1, .str b.nm, rfl, rfl, SqT.of ht, rfl, _, rfl, sz_ (by simp), fun p hp => ?_⟩
          exact kn hs p "fit" _ _ _ (s2.trans (Same.new (Same.refl _) hp)) upd_same (by decide)
      | take b c =>
        refine ⟨_, rfl, sz_ (by simp), fun q hq => ?_⟩
        have s2 := Same.new (o := .tup [.str "set", .str "add", .str "take", .str "read"]) (Same.refl H1) hq
        refine ⟨q, [.str "set", .str "add", .str "take", .str "read"], rfl, .inr (SqT.of upd_same), rfl, rfl, _, rfl, ?_⟩
        have ht := s2 _ _ ht
        have e := s2 _ _ e
        have hcl := s2 _ _ hcl
        have s2 := s1.trans s2
        generalize upd H1 q (.tup [.str "set", .str "add", .str "take", .str "read"]) = H2 at *
        refine iteT ⟨_, rfl, _, rfl, t, _, -1, .str c.nm, rfl, rfl, SqT.of ht, rfl, ?_⟩
        refine ⟨_, rfl, rfl, _, rfl, iteF ⟨_, rfl, rfl, _, rfl, iteT ⟨_, rfl, _, rfl, t, _, 2, .str c.nm, rfl, rfl, SqT.of ht, rfl, sd, _, rfl, dgetK e c, ?_⟩⟩⟩
        refine ⟨_, rfl, rfl, _, rfl, iteF ?_⟩
        refine ⟨_, rfl, t, _, 1, .str b.nm, rfl, rfl, SqT.of ht, rfl, _, rfl, b, v.get c, rfl, _, rfl, ?_⟩
        cases hf : fitsB b (v.get c) with
        | true =>
          have hs : stepM (.take b c) v cs lv = some (1, v.put b (v.get c), cs, []) := (if_pos hf)
          refine iteF ⟨_, rfl, _, rfl, _, rfl, t, _, 1, .str b.nm, rfl, rfl, SqT.of ht, rfl, sd, _, rfl, dputK e b (v.get c), sz_ (by simp), fun p hp => ?_⟩
          refine ky _ _ _ _ hs p _ (((Kp.same s2).set (by simp)).trans (Kp.same (Same.new (Same.refl _) hp))) (upd_keep upd_same hp) (upd_keep (upd_far ncl hcl) hp) upd_same
        | false =>
          have hs : stepM (.take b c) v cs lv = none := (if_neg (neg_of hf))
          refine iteT ⟨_, rfl, t, _, 1, .str b.nm, rfl, rfl, SqT.of ht, rfl, _, rfl, sz_ (by simp), fun p hp => ?_⟩
          exact kn hs p "fit" _ _ _ (s2.trans (Same.new (Same.refl _) hp)) upd_same (by decide)
      | read b =>
        have hm : mayM lv true v.here = true := ho.2.1 v.here (by simp [looksM])
        have hi := mayIn hm len
        refine ⟨_, rfl, sz_ (by simp), fun q hq => ?_⟩
        have s2 := Same.new (o := .tup [.str "set", .str "add", .str "take", .str "read"]) (Same.refl H1) hq
        refine ⟨q, [.str "set", .str "add", .str "take", .str "read"], rfl, .inr (SqT.of upd_same), rfl, rfl, _, rfl, ?_⟩
        have ht := s2 _ _ ht
        have e := s2 _ _ e
        have hcl := s2 _ _ hcl
        have s2 := s1.trans s2
        generalize upd H1 q (.tup [.str "set", .str "add", .str "take", .str "read"]) = H2 at *
        refine iteT ⟨_, rfl, _, rfl, t, _, -1, .str b.nm, rfl, rfl, SqT.of ht, rfl, ?_⟩
        refine ⟨_, rfl, rfl, _, rfl, iteF ⟨_, rfl, rfl, _, rfl, iteF ⟨_, rfl, rfl, _, rfl, iteT ⟨_, rfl, _, rfl, sd, _, rfl, dgetK e .here, cl, _, _, _, rfl, rfl, SqL.of hcl, at_ivs (c := v.here) hi.1 hi.2, ?_⟩⟩⟩⟩
        refine ⟨_, rfl, t, _, 1, .str b.nm, rfl, rfl, SqT.of ht, rfl, _, rfl, b, at_ cs v.here, rfl, _, rfl, ?_⟩
        cases hf : fitsB b (at_ cs v.here) with
        | true =>
          have hs : stepM (.read b) v cs lv = some (1, v.put b (at_ cs v.here), cs, []) := ((if_pos hm).trans (if_pos hf))
          refine iteF ⟨_, rfl, _, rfl, _, rfl, t, _, 1, .str b.nm, rfl, rfl, SqT.of ht, rfl, sd, _, rfl, dputK e b (at_ cs v.here), sz_ (by simp), fun p hp => ?_⟩
          refine ky _ _ _ _ hs p _ (((Kp.same s2).set (by simp)).trans (Kp.same (Same.new (Same.refl _) hp))) (upd_keep upd_same hp) (upd_keep (upd_far ncl hcl) hp) upd_same
        | false =>
          have hs : stepM (.read b) v cs lv = none := ((if_pos hm).trans (if_neg (neg_of hf)))
          refine iteT ⟨_, rfl, t, _, 1, .str b.nm, rfl, rfl, SqT.of ht, rfl, _, rfl, sz_ (by simp), fun p hp => ?_⟩
          exact kn hs p "fit" _ _ _ (s2.trans (Same.new (Same.refl _) hp)) upd_same (by decide)
      | write b =>
        have hm : mayM lv false v.there = true := ho.2.2 v.there (by simp [putsM])
        have hb := ho.1 b rfl
        have hi := mayIn hm len
        have hs : stepM (.write b) v cs lv = some (1, v, st_ cs v.there (v.get b), [(v.there, at_ cs v.there, v.get b)]) := by
          unfold stepM
          simp only [hb, hm]
          rfl
        refine ⟨_, rfl, sz_ (by simp), fun q hq => ?_⟩
        have s2 := Same.new (o := .tup [.str "set", .str "add", .str "take", .str "read"]) (Same.refl H1) hq
        refine ⟨q, [.str "set", .str "add", .str "take", .str "read"], rfl, .inr (SqT.of upd_same), rfl, rfl, _, rfl, ?_⟩
        have ht := s2 _ _ ht
        have e := s2 _ _ e
        have hcl := s2 _ _ hcl
        have s2 := s1.trans s2
        generalize upd H1 q (.tup [.str "set", .str "add", .str "take", .str "read"]) = H2 at *
        refine iteF ⟨_, rfl, rfl, _, rfl, iteT ⟨_, rfl, _, rfl, t, _, 1, .str b.nm, rfl, rfl, SqT.of ht, rfl, sd, _, rfl, dgetK e b, ?_⟩⟩
        refine ⟨_, rfl, _, rfl, sd, _, rfl, dgetK e .there, cl, _, v.there, _, rfl, rfl, hcl, ixN_int hi.1 (by rw [List.length_map]; exact hi.2), ?_⟩
        rw [set_ivs]
        refine ⟨sz_ (by simp), fun p hp => ?_⟩
        exact ky _ _ _ _ hs p _ (((Kp.same s2).set (by simp)).trans (Kp.same (Same.new (Same.refl _) hp))) (upd_keep (upd_far (Ne.symm ncl) e) hp) (upd_keep upd_same hp) upd_same
      | hop m o =>
        have hs : stepM (.hop m o) v cs lv = some ((if o = none ∨ o = some v.met then 1 + m else 1), v, cs, []) := rfl
        refine ⟨_, rfl, sz_ (by simp), fun q hq => ?_⟩
        have s2 := Same.new (o := .tup [.str "set", .str "add", .str "take", .str "read"]) (Same.refl H1) hq
        refine ⟨q, [.str "set", .str "add", .str "take", .str "read"], rfl, .inr (SqT.of upd_same), rfl, rfl, _, rfl, ?_⟩
        have ht := s2 _ _ ht
        have e := s2 _ _ e
        have hcl := s2 _ _ hcl
        have s2 := s1.trans s2
        generalize upd H1 q (.tup [.str "set", .str "add", .str "take", .str "read"]) = H2 at *
        refine iteF ⟨_, rfl, rfl, _, rfl, iteF ⟨_, rfl, rfl, _, rfl, iteT ?_⟩⟩
        refine ⟨_, rfl, t, _, 1, .int m, rfl, rfl, SqT.of ht, rfl, ?_⟩
        refine ⟨_, rfl, t, _, 2, onV o, rfl, rfl, SqT.of ht, rfl, ?_⟩
        have dm1 : m ≤ 24 := dok.1.2
        have dm0 : 0 ≤ m := dok.1.1
        cases o with
        | none =>
          have r1 : (if (none : Option Int) = none ∨ none = some v.met then 1 + m else 1) = 1 + m * 1 := by rw [if_pos (.inl rfl), Int.mul_one]
          refine ⟨rfl, _, rfl, .inr ⟨_, rfl, ?_⟩⟩
          refine ⟨_, _, rfl, rfl, .inl ⟨by omega, by omega⟩, _, _, rfl, rfl, sz_ (by simp), fun p hp => ?_⟩
          refine ky _ _ _ _ hs p _ ((Kp.same s2).trans (Kp.same (Same.new (Same.refl _) hp))) (upd_keep e hp) (upd_keep hcl hp) ?_
          rw [r1]
          exact upd_same
        | some i =>
          refine ⟨rfl, _, rfl, _, rfl, t, _, 2, .int i, rfl, rfl, SqT.of ht, rfl, _, rfl, sd, _, rfl, dgetK e .met, rfl, .inr ⟨_, rfl, ?_⟩⟩
          by_cases q : i = v.met
          · have r1 : (if some i = none ∨ some i = some v.met then 1 + m else 1) = 1 + m * 1 := by rw [if_pos (.inr (by rw [q])), Int.mul_one]
            rw [show decide (V.int i = V.int (v.get .met)) = true from dI_t q]
            refine ⟨_, _, rfl, rfl, .inl ⟨by omega, by omega⟩, _, _, rfl, rfl, sz_ (by simp), fun p hp => ?_⟩
            refine ky _ _ _ _ hs p _ ((Kp.same s2).trans (Kp.same (Same.new (Same.refl _) hp))) (upd_keep e hp) (upd_keep hcl hp) ?_
            rw [r1]
            exact upd_same
          · have r1 : (if some i = none ∨ some i = some v.met then 1 + m else 1) = 1 + m * 0 := by
              rw [if_neg (fun z : some i = none ∨ some i = some v.met => z.elim (fun z => by cases z) (fun z => q (Option.some.inj z))), Int.mul_zero]
              rfl
            rw [show decide (V.int i = V.int (v.get .met)) = false from dI_f q]
            refine ⟨_, _, rfl, rfl, .inl ⟨by omega, by omega⟩, _, _, rfl, rfl, sz_ (by simp), fun p hp => ?_⟩
            refine ky _ _ _ _ hs p _ ((Kp.same s2).trans (Kp.same (Same.new (Same.refl _) hp))) (upd_keep e hp) (upd_keep hcl hp) ?_
            rw [r1]
            exact upd_same
    · refine ⟨_, rfl, rfl, _, rfl, iteT ⟨_, rfl, ?_⟩⟩
      exact kn (step_closed hn) p z x y H1 s1 e1 hz
theorem good_law_step (T : Txt K mg) : Good P w K mg base 3 (He.ga K "_law_step") [] (sp_lstep K) := by
  obtain ⟨fd, F⟩ := T.d__law_step
  exact ⟨⟨fd, _, [], ok_law_step T F, F.bindsN fun _ _ _ _ _ _ us hl => match us, hl with | [_, _, _, _], _ => rfl, .nil⟩, F.kp⟩
end
end HB


namespace HB
open PySem PySem.Spec PyProof.Rows L2
local macro_rules | `(tactic| walk_at "ne") => `(tactic| first | assumption | (apply Ne.symm; assumption) | exact ne_of_none (by assumption) (by assumption) | exact ne_new (by assumption) (by assumption) | (intro q; cases q; done))
local macro_rules | `(tactic| walk_at "hp") => `(tactic| first
  | assumption
  | exact upd_same
  | (refine upd_keep ?_ (by assumption); walk_at "hp")
  | (refine upd_far (by walk_at "ne") ?_; walk_at "hp")
  | (refine Same.get (by assumption) ?_; walk_at "hp")
  | (refine Kp.get (by assumption) ?_ (notin1 (by walk_at "ne")); walk_at "hp"))
local macro_rules | `(tactic| walk_at "same") => `(tactic| first
  | assumption
  | exact Same.refl _
  | (refine Same.new ?_ (by assumption); walk_at "same")
  | (refine Same.trans ?_ (by assumption); walk_at "same"))
/-- one row of a reading -/
local macro_rules | `(tactic| walk_at "r1") => `(tactic| first
  | refine ⟨_, rfl, ?_⟩
  | refine ⟨_, _, rfl, rfl, ?_⟩
  | refine ⟨rfl, ?_⟩
  | refine ⟨_, _, _, _, _, rfl, (by walk_at "hp"), (by assumption), (by assumption), rfl, ?_⟩
  | refine ⟨sz_ (by decide), fun _ _ => ?_⟩)
local macro_rules | `(tactic| walk_at "rd") => `(tactic| repeat walk_at "r1")
section
variable {P : Program} {w : World} {K : PySem.W.Frag} {mg : Str → Option Value} {base : Heap}
/-! ### what a step keeps (plain) -/
theorem at_st_eq {cs : List Int} {c v : Int} (h0 : 0 ≤ c) (h1 : c < cs.length) : at_ (st_ cs c v) c = v := by
  unfold at_ st_
  have : c.toNat < cs.length := by omega
  simp [List.getD, this]
structure StepF (d : Spc) (v : Six) (cs : List Int) (k : Int) (v' : Six) (cs' : List Int) (ch : Ch) : Prop where
  eq : ch = (putsM d v).map fun c => (c, at_ cs c, at_ cs' c)
  rg : ∀ c ∈ putsM d v, 0 ≤ c ∧ c < (cs.length : Int)
  len : cs'.length = cs.length
  ok : v'.ok
  k0 : 0 ≤ k
  two : ch.length ≤ 2
theorem dn_nn (n : Int) : 0 ≤ dn n := by
  unfold dn
  split <;> decide
theorem nil_map {d : Spc} {v : Six} {cs cs' : List Int} (h : putsM d v = []) : ([] : Ch) = (putsM d v).map fun c => (c, at_ cs c, at_ cs' c) := by rw [h]; rfl
theorem nil_rg {d : Spc} {v : Six} {cs : List Int} (h : putsM d v = []) : ∀ c ∈ putsM d v, 0 ≤ c ∧ c < (cs.length : Int) := fun c hc => by
  rw [h] at hc
  cases hc
theorem step_f {d : Spc} {v v' : Six} {cs cs' : List Int} {lv : List Lv} {k : Int} {ch : Ch} (hs : stepM d v cs lv = some (k, v', cs', ch)) (len : cs.length = lv.length) (vok : v.ok) (dok : d.ok) (h60 : cs.length ≤ 60) : StepF d v cs k v' cs' ch := by
  obtain ⟨l0, l1⟩ := ok_left vok
  have wy := ok_way vok
  cases d with
  | set b n =>
    have hs : (if fitsB b n then some (1, v.put b n, cs, []) else none) = some (k, v', cs', ch) := hs
    split at hs
    · rename_i hf
      cases hs
      exact ⟨rfl, nil_rg rfl, rfl, Six.ok_put vok hf, by decide, by decide⟩
    · cases hs
  | add b n =>
    have hs : (if fitsB b (v.get b + n) then some (1, v.put b (v.get b + n), cs, []) else none) = some (k, v', cs', ch) := hs
    split at hs
    · rename_i hf
      cases hs
      exact ⟨rfl, nil_rg rfl, rfl, Six.ok_put vok hf, by decide, by decide⟩
    · cases hs
  | take b c =>
    have hs : (if fitsB b (v.get c) then some (1, v.put b (v.get c), cs, []) else none) = some (k, v', cs', ch) := hs
    split at hs
    · rename_i hf
      cases hs
      exact ⟨rfl, nil_rg rfl, rfl, Six.ok_put vok hf, by decide, by decide⟩
    · cases hs
  | read b =>
    have hs : (if mayM lv true v.here then (if fitsB b (at_ cs v.here) then some (1, v.put b (at_ cs v.here), cs, []) else none) else none) = some (k, v', cs', ch) := hs
    split at hs
    · split at hs
      · rename_i hf
        cases hs
        exact ⟨rfl, nil_rg rfl, rfl, Six.ok_put vok hf, by decide, by decide⟩
      · cases hs
    · cases hs
  | write b =>
    have hs : (if inC (v.get b) then (if mayM lv false v.there then some (1, v, st_ cs v.there (v.get b), [(v.there, at_ cs v.there, v.get b)]) else none) else none) = some (k, v', cs', ch) := hs
    split at hs
    · split at hs
      · rename_i hm
        cases hs
        have hi := mayIn hm len
        refine ⟨?_, fun c hc => by rw [List.mem_singleton.mp hc]; exact hi, st_len _ _ _, vok, by decide, by simp⟩
        show [(v.there, at_ cs v.there, v.get b)] = [(v.there, at_ cs v.there, at_ (st_ cs v.there (v.get b)) v.there)]
        rw [at_st_eq hi.1 hi.2]
      · cases hs
    · cases hs
  | hop m o =>
    have hs : some ((if o = none ∨ o = some v.met then 1 + m else 1), v, cs, []) = some (k, v', cs', ch) := hs
    have d0 : 0 ≤ m := dok.1.1
    cases hs
    refine ⟨rfl, nil_rg rfl, rfl, vok, ?_, by decide⟩
    split <;> omega
  | lng l =>
    have e0 : v.left = 0 → ∀ l, putsM (.lng l) v = [] := fun h l => if_pos (.inl h)
    have pl : ∀ {v1 : Six}, v1.ok → v.left ≠ 0 → (v1.put .left (v.left - 1)).ok := fun o h => Six.ok_put o (inC_of (by omega) (by omega))
    cases l with
    | copy =>
      have hs : (if v.left = 0 then some (1, v, cs, []) else if mayM lv true v.here && mayM lv false v.there then some (dn (v.left - 1), { v with here := v.here + v.way, there := v.there + v.way, left := v.left - 1 }, st_ cs v.there (at_ cs v.here), [(v.there, at_ cs v.there, at_ cs v.here)]) else none) = some (k, v', cs', ch) := hs
      split at hs
      · rename_i h0
        cases hs
        exact ⟨nil_map (e0 h0 _), nil_rg (e0 h0 _), rfl, vok, by decide, by decide⟩
      · rename_i h0
        split at hs
        · rename_i hm
          rw [Bool.and_eq_true] at hm
          cases hs
          have hi := mayIn hm.2 len
          have na := near hm.1 len h60 wy
          have nb := near hm.2 len h60 wy
          have ep : putsM (.lng .copy) v = [v.there] := if_neg (fun z => z.elim h0 fun z => by cases z.1)
          refine ⟨?_, fun c hc => by rw [ep] at hc; rw [List.mem_singleton.mp hc]; exact hi, st_len _ _ _, pl (Six.ok_put (Six.ok_put vok (fit_here na.1 na.2)) (fit_there nb.1 nb.2)) h0, dn_nn _, by simp⟩
          rw [ep]
          show _ = [(v.there, at_ cs v.there, at_ (st_ cs v.there (at_ cs v.here)) v.there)]
          rw [at_st_eq hi.1 hi.2]
        · cases hs
    | fill =>
      have hs : (if v.left = 0 then some (1, v, cs, []) else if mayM lv false v.there then some (dn (v.left - 1), { v with there := v.there + v.way, left := v.left - 1 }, st_ cs v.there v.sign, [(v.there, at_ cs v.there, v.sign)]) else none) = some (k, v', cs', ch) := hs
      split at hs
      · rename_i h0
        cases hs
        exact ⟨nil_map (e0 h0 _), nil_rg (e0 h0 _), rfl, vok, by decide, by decide⟩
      · rename_i h0
        split at hs
        · rename_i hm
          cases hs
          have hi := mayIn hm len
          have nb := near hm len h60 wy
          have ep : putsM (.lng .fill) v = [v.there] := if_neg (fun z => z.elim h0 fun z => by cases z.1)
          refine ⟨?_, fun c hc => by rw [ep] at hc; rw [List.mem_singleton.mp hc]; exact hi, st_len _ _ _, pl (Six.ok_put vok (fit_there nb.1 nb.2)) h0, dn_nn _, by simp⟩
          rw [ep]
          show _ = [(v.there, at_ cs v.there, at_ (st_ cs v.there v.sign) v.there)]
          rw [at_st_eq hi.1 hi.2]
        · cases hs
    | seek =>
      have hs : (if v.left = 0 then some (1, { v with met := 0 }, cs, []) else if mayM lv true v.here then (if at_ cs v.here = v.sign then some (1, { v with met := 1 }, cs, []) else some (dn (v.left - 1), { v with here := v.here + v.way, left := v.left - 1, met := 0 }, cs, [])) else none) = some (k, v', cs', ch) := hs
      have ep : putsM (.lng .seek) v = [] := by
        show (if _ then _ else _) = _
        split <;> rfl
      split at hs
      · cases hs
        exact ⟨nil_map ep, nil_rg ep, rfl, Six.ok_put (b := .met) (n := 0) vok rfl, by decide, by decide⟩
      · rename_i h0
        split at hs
        · rename_i hm
          split at hs
          · cases hs
            exact ⟨nil_map ep, nil_rg ep, rfl, Six.ok_put (b := .met) (n := 1) vok rfl, by decide, by decide⟩
          · cases hs
            have na := near hm len h60 wy
            exact ⟨nil_map ep, nil_rg ep, rfl, pl (Six.ok_put (Six.ok_put (b := .met) (n := 0) vok rfl) (fit_here na.1 na.2)) h0, dn_nn _, by decide⟩
        · cases hs
    | match_ =>
      have hs : (if v.left = 0 then some (1, { v with met := 1 }, cs, []) else if mayM lv true v.here && mayM lv true v.there then (if at_ cs v.here = at_ cs v.there then some (dn (v.left - 1), { v with here := v.here + v.way, there := v.there + v.way, left := v.left - 1, met := 1 }, cs, []) else some (1, { v with met := 0 }, cs, [])) else none) = some (k, v', cs', ch) := hs
      have ep : putsM (.lng .match_) v = [] := by
        show (if _ then _ else _) = _
        split <;> rfl
      split at hs
      · cases hs
        exact ⟨nil_map ep, nil_rg ep, rfl, Six.ok_put (b := .met) (n := 1) vok rfl, by decide, by decide⟩
      · rename_i h0
        split at hs
        · rename_i hm
          rw [Bool.and_eq_true] at hm
          split at hs
          · cases hs
            have na := near hm.1 len h60 wy
            have nb := near hm.2 len h60 wy
            exact ⟨nil_map ep, nil_rg ep, rfl, pl (Six.ok_put (Six.ok_put (Six.ok_put (b := .met) (n := 1) vok rfl) (fit_here na.1 na.2)) (fit_there nb.1 nb.2)) h0, dn_nn _, by decide⟩
          · cases hs
            exact ⟨nil_map ep, nil_rg ep, rfl, Six.ok_put (b := .met) (n := 0) vok rfl, by decide, by decide⟩
        · cases hs
    | shift =>
      have hs : (if v.left = 0 then some (1, v, cs, []) else if mayM lv true (v.here + farM v) && mayM lv false (v.there + farM v) then some (dn (v.left - 1), (if v.there ≤ v.here then { v with here := v.here + 1, there := v.there + 1, left := v.left - 1 } else { v with left := v.left - 1 }), st_ cs (v.there + farM v) (at_ cs (v.here + farM v)), [(v.there + farM v, at_ cs (v.there + farM v), at_ cs (v.here + farM v))]) else none) = some (k, v', cs', ch) := hs
      split at hs
      · rename_i h0
        cases hs
        exact ⟨nil_map (e0 h0 _), nil_rg (e0 h0 _), rfl, vok, by decide, by decide⟩
      · rename_i h0
        split at hs
        · rename_i hm
          rw [Bool.and_eq_true] at hm
          cases hs
          have hj := mayIn hm.1 len
          have hi := mayIn hm.2 len
          have ep : putsM (.lng .shift) v = [v.there + farM v] := if_neg (fun z => z.elim h0 fun z => by cases z.1)
          refine ⟨?_, fun c hc => by rw [ep] at hc; rw [List.mem_singleton.mp hc]; exact hi, st_len _ _ _, ?_, dn_nn _, by simp⟩
          · rw [ep]
            show _ = [(v.there + farM v, at_ cs (v.there + farM v), at_ (st_ cs (v.there + farM v) (at_ cs (v.here + farM v))) (v.there + farM v))]
            rw [at_st_eq hi.1 hi.2]
          · by_cases c : v.there ≤ v.here
            · rw [if_pos c]
              have f0 : farM v = 0 := if_neg (by omega)
              rw [f0] at hi hj
              exact pl (Six.ok_put (Six.ok_put (b := .here) (n := v.here + 1) vok (fit_here (by omega) (by omega))) (b := .there) (n := v.there + 1) (fit_there (by omega) (by omega))) h0
            · rw [if_neg c]
              exact pl vok h0
        · cases hs
    | turn =>
      have hs : (if v.left = 0 then some (1, v, cs, []) else if v.left = 1 then some (1, { v with left := 0 }, cs, []) else if (mayM lv true v.here && mayM lv true (v.here + v.left - 1)) && (mayM lv false v.here && mayM lv false (v.here + v.left - 1)) then some (dn (v.left - 2), { v with here := v.here + 1, left := v.left - 2 }, st_ (st_ cs v.here (at_ cs (v.here + v.left - 1))) (v.here + v.left - 1) (at_ cs v.here), [(v.here, at_ cs v.here, at_ cs (v.here + v.left - 1)), (v.here + v.left - 1, at_ cs (v.here + v.left - 1), at_ cs v.here)]) else none) = some (k, v', cs', ch) := hs
      split at hs
      · rename_i h0
        cases hs
        exact ⟨nil_map (e0 h0 _), nil_rg (e0 h0 _), rfl, vok, by decide, by decide⟩
      · rename_i h0
        split at hs
        · rename_i h1
          cases hs
          have ep : putsM (.lng .turn) v = [] := if_pos (.inr ⟨rfl, h1⟩)
          exact ⟨nil_map ep, nil_rg ep, rfl, Six.ok_put (b := .left) (n := 0) vok rfl, by decide, by decide⟩
        · rename_i h1
          split at hs
          · rename_i hm
            rw [Bool.and_eq_true, Bool.and_eq_true] at hm
            cases hs
            have hi := mayIn hm.1.1 len
            have hj := mayIn hm.1.2 len
            have ep : putsM (.lng .turn) v = [v.here, v.here + v.left - 1] := if_neg (fun z => z.elim h0 fun z => h1 z.2)
            refine ⟨?_, fun c hc => ?_, by rw [st_len, st_len], Six.ok_put (b := .left) (n := v.left - 2) (Six.ok_put (b := .here) (n := v.here + 1) vok (fit_here (by omega) (by omega))) (inC_of (by omega) (by omega)), dn_nn _, by simp⟩
            · rw [ep]
              show _ = [(v.here, at_ cs v.here, at_ (st_ (st_ cs v.here (at_ cs (v.here + v.left - 1))) (v.here + v.left - 1) (at_ cs v.here)) v.here), (v.here + v.left - 1, at_ cs (v.here + v.left - 1), at_ (st_ (st_ cs v.here (at_ cs (v.here + v.left - 1))) (v.here + v.left - 1) (at_ cs v.here)) (v.here + v.left - 1))]
              rw [at_st_ne hj.1 hi.1 (by omega), at_st_eq hi.1 hi.2, at_st_eq hj.1 (by rw [st_len]; exact hj.2)]
            · rw [ep] at hc
              simp only [List.mem_cons, List.not_mem_nil, or_false] at hc
              rcases hc with z | z <;> rw [z] <;> assumption
          · cases hs
theorem goM_ok {sp : List Spc} {t : MS} (ok : MSok sp t) (sok : ∀ d ∈ sp, d.ok) : MSok sp (goM sp t).2 := by
  unfold goM
  split
  · exact ok
  · split
    · exact ok
    · rename_i d ed
      split
      · exact ok
      · rename_i k v' cs' ch hs
        have F := step_f hs ok.len.symm ok.ok (sok _ (List.mem_of_getElem? ed)) ok.c60
        refine ⟨?_, ?_, F.ok, by rw [F.len]; exact ok.c1, by rw [F.len]; exact ok.c60, by rw [F.len]; exact ok.len, fun x hx => ?_⟩
        · show 0 ≤ minM (t.at' + k) sp.length
          have := ok.a0
          have := F.k0
          unfold minM
          split <;> omega
        · show minM (t.at' + k) sp.length ≤ _
          unfold minM
          split <;> omega
        · rcases List.mem_append.mp hx with z | z
          · obtain ⟨g1, g2, g3⟩ := ok.log x z
            exact ⟨g1, g2, fun e he => by rw [F.len]; exact g3 e he⟩
          · rw [List.mem_singleton.mp z]
            refine ⟨⟨ok.a0, ok.a1⟩, ok.ok, fun e he => ?_⟩
            rw [F.eq] at he
            obtain ⟨c, hc, rfl⟩ := List.mem_map.mp he
            rw [F.len]
            exact F.rg c hc
theorem goM_len (sp : List Spc) (t : MS) : (goM sp t).2.log.length ≤ t.log.length + 1 := by
  unfold goM
  split
  · exact Nat.le_succ _
  · split
    · exact Nat.le_succ _
    · split
      · exact Nat.le_succ _
      · show (t.log ++ _).length ≤ _
        rw [List.length_append, List.length_singleton]
        exact Nat.le_refl _
theorem goM_two {sp : List Spc} {t : MS} (ok : MSok sp t) (sok : ∀ d ∈ sp, d.ok) (h : ∀ x ∈ t.log, x.2.2.length ≤ 2) : ∀ x ∈ (goM sp t).2.log, x.2.2.length ≤ 2 := by
  unfold goM
  split
  · exact h
  · split
    · exact h
    · rename_i d ed
      split
      · exact h
      · rename_i k v' cs' ch hs
        have F := step_f hs ok.len.symm ok.ok (sok _ (List.mem_of_getElem? ed)) ok.c60
        intro x hx
        rcases List.mem_append.mp hx with z | z
        · exact h x z
        · rw [List.mem_singleton.mp z]
          exact F.two
theorem goM_lv (sp : List Spc) (t : MS) : (goM sp t).2.lv = t.lv := by
  unfold goM
  split
  · rfl
  · split
    · rfl
    · split <;> rfl
theorem back1_two {t : MS} (h : ∀ x ∈ t.log, x.2.2.length ≤ 2) : ∀ x ∈ (back1 t).log, x.2.2.length ≤ 2 := by
  unfold back1
  split
  · exact h
  · exact fun x hx => h x (List.dropLast_subset _ hx)
theorem backM_two {t : MS} (h : ∀ x ∈ t.log, x.2.2.length ≤ 2) : ∀ n, ∀ x ∈ (backM n t).log, x.2.2.length ≤ 2
  | 0 => h
  | n + 1 => back1_two (backM_two h n)
end
end HB


namespace HB
open PySem PySem.Spec PyProof.Rows L2
local macro_rules | `(tactic| walk_at "ne") => `(tactic| first | assumption | (apply Ne.symm; assumption) | exact ne_of_none (by assumption) (by assumption) | exact ne_new (by assumption) (by assumption) | (intro q; cases q; done))
local macro_rules | `(tactic| walk_at "hp") => `(tactic| first
  | assumption
  | exact upd_same
  | (refine upd_keep ?_ (by assumption); walk_at "hp")
  | (refine upd_far (by walk_at "ne") ?_; walk_at "hp")
  | (refine Same.get (by assumption) ?_; walk_at "hp")
  | (refine Kp.get (by assumption) ?_ (notin1 (by walk_at "ne")); walk_at "hp"))
local macro_rules | `(tactic| walk_at "same") => `(tactic| first
  | assumption
  | exact Same.refl _
  | (refine Same.new ?_ (by assumption); walk_at "same")
  | (refine Same.trans ?_ (by assumption); walk_at "same"))
/-- one row of a reading -/
local macro_rules | `(tactic| walk_at "r1") => `(tactic| first
  | refine ⟨_, rfl, ?_⟩
  | refine ⟨_, _, rfl, rfl, ?_⟩
  | refine ⟨rfl, ?_⟩
  | refine ⟨_, _, _, _, _, rfl, (by walk_at "hp"), (by assumption), (by assumption), rfl, ?_⟩
  | refine ⟨sz_ (by decide), fun _ _ => ?_⟩)
local macro_rules | `(tactic| walk_at "rd") => `(tactic| repeat walk_at "r1")
section
variable {P : Program} {w : World} {K : PySem.W.Frag} {mg : Str → Option Value} {base : Heap}
structure OwnI (O : Od) (S : List Addr) (H : Hp) (sp : List Spc) (t : MS) : Prop where
  od : Odd O
  ex : ∃ es, OwI O H sp t.at' t.v t.cs t.lv es ∧ LogI S H es t.log
  sub : ∀ a ∈ [O.ow, O.sd, O.cl, O.ll, O.lg], a ∈ S
  nt : NT S H
def Od.mu (O : Od) : List Addr := [O.ow, O.sd, O.cl, O.ll, O.lg]
def sp_go (K : PySem.W.Frag) : Sp := fun vs H Q _ => ∃ (ow : Addr), vs = [.ref ow] ∧ ∃ (O : Od) (S : List Addr) (sp : List Spc) (t : MS), O.ow = ow ∧ OwnI O S H sp t ∧ MSok sp t ∧ (∀ d ∈ sp, d.ok) ∧ t.log.length ≤ 10000 ∧
  ∀ H', Kp O.mu H H' → OwnI O S H' sp (goM sp t).2 → Q (.str (goM sp t).1) H'
def nm_law_go : List Str := ["_law_own_here", "_law_specs", "_law_at", "_law_six_here", "_law_cells_here", "_law_leaves_here", "_law_log", "_law_boxes_here", "_law_puts", "_law_old", "_law_told", "_law_cell"]
theorem sc_law_go : FnScope nm_law_go ["_law_own_here"] (defScope s_law_go) := ⟨rfl, rfl, rfl, by decide +kernel, rfl, by decide +kernel, by decide +kernel⟩
theorem ok_law_go (T : Txt K mg) {f : Addr} {fd : FuncData} {dv : List V} {kw : List (Str × V)} (F : FunD K "_law_go" "_law_go" (defArgs s_law_go) (defBody s_law_go) (defScope s_law_go) dv kw f fd) : FnOk P w K mg base (CXr P w) 4 f fd ["_law_own_here"] (sp_go K) := by
  refine F.ok sc_law_go (fun vs H Q E h => ?_) (fun cdv A outer s H vs Q E hr h => ?_)
  · obtain ⟨ow, rfl, _⟩ := h
    rfl
  · obtain ⟨ow, rfl, h⟩ := h
    refine ⟨_, (pss_cons (ps_asg (pv 0) (pg_unl rfl (pgs_cons (pg_name (i := 1) sc_law_go.nd rfl (Or.inl rfl)) (pgs_cons (pg_name (i := 2) sc_law_go.nd rfl (Or.inl rfl)) (pgs_cons (pg_name (i := 3) sc_law_go.nd rfl (Or.inl rfl)) (pgs_cons (pg_name (i := 4) sc_law_go.nd rfl (Or.inr rfl)) (pgs_cons (pg_name (i := 5) sc_law_go.nd rfl (Or.inl rfl)) (pgs_cons (pg_name (i := 6) sc_law_go.nd rfl (Or.inl rfl)) pgs_nil)))))))) (pss_cons (ps_if (pt_cmpR op_eq (pv 2) (pe_callB call_len_seq (by rfl) T.f_len PySem.boot_len (pa_cons (pv 1) pa_nil)) (nomark _)) (pss_one (ps_ret pe_str)) pss_nil) (pss_cons (ps_set (i := 7) sc_law_go.nd rfl (Or.inl rfl) (pe_tupVals (.inl rfl) (pv 3) (by rfl) T.f_tuple)) (pss_cons (ps_set (i := 8) sc_law_go.nd rfl (Or.inl rfl) (pe_ix ix_tup (pe_callG (good_law_reach T) (hr.mono (by decide)) T.g__law_reach hx_cx (pa_cons (pe_ix ix_list (pv 1) (pv 2) (fun _ _ => rfl)) (pa_cons (pv 3) pa_nil))) pe_int (fun _ _ => rfl))) (pss_cons (ps_set (i := 9) sc_law_go.nd rfl (Or.inr rfl) (pe_callTy (T := "list") call_list_of (by rfl) T.f_list (by decide +kernel) (pa_cons (pv 4) pa_nil))) (pss_cons (ps_set (i := 10) sc_law_go.nd rfl (Or.inl rfl) (pe_callG (good_law_step T) (hr.mono (by decide)) T.g__law_step hx_cx (pa_cons (pe_ix ix_list (pv 1) (pv 2) (fun _ _ => rfl)) (pa_cons (pv 3) (pa_cons (pv 4) (pa_cons (pv 5) pa_nil)))))) (pss_cons (ps_if (pt_cmpR op_ne (pe_ix ix_tup (pv 10) pe_int (fun _ _ => rfl)) pe_str (nomark _)) (pss_one (ps_ret pe_str)) pss_nil) (pss_cons (ps_expr (pe_bm PySem.F.plainAttrs_list PySem.F.slot_list_append PySem.F.type_list_append mt_append (pv 6) (pa_cons (pe_tup (pa_cons (pv 2) (pa_cons (pv 7) (pa_cons (pe_lc (own := [("_law_cell", 11)]) (g := gName 11) (te := tTup (tCons (tVar 11) (tCons (tOp (rIxL K) (tVar 9) (tVar 11)) (tCons (tOp (rIxL K) (tVar 4) (tVar 11)) tNil)))) (tt := tYes) rfl sc_law_go.nd (pi_list (pv 8)) (blkOk_by (N := nm_law_go) (sc := defScope s_law_go) (by decide +kernel)) (fun _ _ _ _ _ => (pg_name (i := 11) sc_law_go.nd rfl (Or.inl rfl))) (fun _ _ _ _ _ => pts_nil) (fun _ _ _ _ _ => (pe_tup (pa_cons (pv 11) (pa_cons (pe_ix ix_list (pv 9) (pv 11) (fun _ _ => rfl)) (pa_cons (pe_ix ix_list (pv 4) (pv 11) (fun _ _ => rfl)) pa_nil)))))) pa_nil)))) pa_nil))) (pss_cons (ps_asg (pe_callB (call_min2 rfl) (by rfl) T.f_min (by decide +kernel) (pa_cons (pe_op op_add (pv 2) (pe_ix ix_tup (pv 10) pe_int (fun _ _ => rfl))) (pa_cons (pe_callB call_len_seq (by rfl) T.f_len PySem.boot_len (pa_cons (pv 1) pa_nil)) pa_nil))) (pg_sub (pv 0) pe_int set_list)) (pss_one (ps_ret pe_str))))))))))), ?_⟩
    obtain ⟨O, S, sp, t, rfl, ⟨od, ⟨es, W, L⟩, sub, nt⟩, ok, sok, l1, k⟩ := h
    have iw : SqL K H O.ow (owV O t.at') := SqL.of W.ow
    refine ⟨_, rfl, O.ow, _, rfl, iw, rfl, _, _, rfl, _, _, rfl, _, _, rfl, _, _, rfl, _, _, rfl, _, _, rfl, rfl, ?_⟩
    refine ⟨_, rfl, _, rfl, _, _, rfl, .inl (SqL.of W.sl), ?_⟩
    rw [List.length_map, W.ss.1]
    by_cases he : t.at' = (sp.length : Int)
    · have g : goM sp t = (("end" : Str), t) := if_pos he
      rw [g] at k
      refine ⟨rfl, _, rfl, ?_⟩
      rw [show decide (V.int t.at' = V.int (sp.length : Nat)) = true from dI_t he]
      exact iteT (k H Kp.refl ⟨od, ⟨es, W, L⟩, sub, nt⟩)
    refine ⟨rfl, _, rfl, ?_⟩
    rw [show decide (V.int t.at' = V.int (sp.length : Nat)) = false from dI_f he]
    have hi : t.at'.toNat < sp.length := by
      have := ok.a0
      have := ok.a1
      omega
    have hn : ((t.at'.toNat : Nat) : Int) = t.at' := Int.toNat_of_nonneg ok.a0
    obtain ⟨d, ed⟩ : ∃ d, sp[t.at'.toNat]? = some d := ⟨sp[t.at'.toNat], by simp [hi]⟩
    obtain ⟨a, ea⟩ : ∃ a, O.ss[t.at'.toNat]? = some a := ⟨O.ss[t.at'.toNat]'(by rw [W.ss.1]; exact hi), by simp⟩
    have ta := W.ss.2 _ a d ea ed
    have dok := sok d (List.mem_of_getElem? ed)
    have ga : goM sp t = (match stepM d t.v t.cs t.lv with
      | none => (("stop" : Str), t)
      | some (k, v', cs', ch) => ("on", { at' := minM (t.at' + k) sp.length, v := v', cs := cs', lv := t.lv, log := t.log ++ [(t.at', t.v, ch)] })) := by
      unfold goM
      rw [if_neg he, ed]
      all_goals rfl
    have ixa : atI (O.ss.map V.ref) t.at' = some (.ref a) := by
      rw [← hn]
      exact atI_nat (by rw [List.getElem?_map, ea]; rfl)
    refine iteF ⟨_, rfl, O.sd, _, rfl, W.sd, fun bt hbt => ?_⟩
    have s1 := Same.new (o := .tup ((Six.kvs t.v).map (·.2))) (Same.refl H) hbt
    have b1 : upd H bt (.tup ((Six.kvs t.v).map (·.2))) bt = some (.tup t.v.vals) := upd_same
    generalize upd H bt (.tup ((Six.kvs t.v).map (·.2))) = H1 at *
    have W1 := W.same s1
    refine ⟨_, rfl, _, rfl, O.sl, _, _, .ref a, rfl, rfl, SqL.of W1.sl, ixa, _, rfl, a, O.sd, rfl, d, t.v, s1 _ _ ta, W1.sd, ok.ok, fun p lp pp H2 fp fpp s2 p2 lp2 pp2 => ?_⟩
    refine ⟨p, _, 1, .ref pp, rfl, rfl, SqT.of p2, rfl, ?_⟩
    have W2 := W1.same s2
    refine ⟨_, rfl, O.cl, _, rfl, .inl (SqL.of W2.cl), fun ol hol => ?_⟩
    have s3 := Same.new (o := .lst (ivs t.cs)) (Same.refl H2) hol
    have o3 : upd H2 ol (.lst (ivs t.cs)) ol = some (.lst (ivs t.cs)) := upd_same
    generalize upd H2 ol (.lst (ivs t.cs)) = H3 at *
    have W3 := W2.same s3
    have s13 := s1.trans (s2.trans s3)
    have b3 := (s2.trans s3) _ _ b1
    have pp3 := s3 _ _ pp2
    refine ⟨_, rfl, _, rfl, O.sl, _, _, .ref a, rfl, rfl, SqL.of W3.sl, ixa, _, rfl, _, rfl, _, rfl, a, O.sd, O.cl, O.ll, rfl, d, t.v, t.cs, t.lv, s13 _ _ ta, W3.sd, W3.cl, W3.ll, ok.len.symm, ok.ok, dok, fun hs q z x y H4 s4 e4 hz => ?_, fun kk v' cs' ch hs q H4 k4 d4 c4 e4 => ?_⟩
    · refine ⟨_, rfl, q, _, 0, .str z, rfl, rfl, SqT.of e4, rfl, ?_⟩
      rw [ga, hs] at k
      refine ⟨rfl, _, rfl, ?_⟩
      rw [show decide (V.str z = V.str "on") = false from decide_eq_false fun q => hz (V.str.inj q)]
      exact iteT (k H4 (Kp.same (s13.trans s4)) ⟨od, ⟨es, W3.same s4, L.same nt (s13.trans s4)⟩, sub, nt.same (s13.trans s4)⟩)
    · refine ⟨_, rfl, q, _, 0, .str "on", rfl, rfl, SqT.of e4, rfl, ?_⟩
      rw [ga, hs] at k
      have ncl := sd_cl W3.sd W3.cl
      have k4' : Kp O.mu H3 H4 := k4.mono (by unfold Od.mu; intro a h; simp at h ⊢; rcases h with z | z <;> simp [z])
      have far : ∀ {b o}, H3 b = some o → b ≠ O.sd → b ≠ O.cl → H4 b = some o := fun {b o} e n1 n2 => k4 _ _ (by simp [n1, n2]) e
      have nsd : ∀ {b xs}, H3 b = some (.lst xs) → b ≠ O.sd := fun {b xs} e z => by rw [z, W3.sd] at e; cases e
      have tsd : ∀ {b xs}, H3 b = some (.tup xs) → b ≠ O.sd := fun {b xs} e z => by rw [z, W3.sd] at e; cases e
      have tcl : ∀ {b xs}, H3 b = some (.tup xs) → b ≠ O.cl := fun {b xs} e z => by rw [z, W3.cl] at e; cases e
      have l4 := far W3.lg (nsd W3.lg) (Ne.symm od.cg)
      have s4 := far W3.sl (nsd W3.sl) od.sc
      have w4 := far W3.ow (nsd W3.ow) od.oc
      have ll4 := far W3.ll (nsd W3.ll) (Ne.symm od.cl)
      have bt4 := far b3 (tsd b3) (tcl b3)
      have pp4 := far pp3 (nsd pp3) (Ne.symm (ne_of_none W1.cl fpp))
      have ol4 := far o3 (nsd o3) (Ne.symm (ne_of_none W2.cl hol))
      refine ⟨rfl, _, rfl, iteF ?_⟩
      refine ⟨_, rfl, .inl ⟨rfl, _, SqL.of l4⟩, _, rfl, _, rfl, _, rfl, pp, rfl, ⟨_, SqL.of pp4⟩, fun D hD => ?_⟩
      have F := step_f hs ok.len.symm ok.ok dok ok.c60
      have hD3 : H3 D = none := by
        cases z : H3 D with
        | none => rfl
        | some o =>
          exfalso
          by_cases n1 : D = O.sd
          · rw [n1, d4] at hD
            cases hD
          · by_cases n2 : D = O.cl
            · rw [n2, c4] at hD
              cases hD
            · rw [far z n1 n2] at hD
              cases hD
      have hD0 : H D = none := s13.free hD3
      refine lc_list (xs := ivs (putsM d t.v)) (fun i H5 => ∃ ts, Same H4 H5 ∧ H5 D = some (.lst (ts.map V.ref)) ∧ ChI H5 ts (ch.take i)) ⟨[], Same.new (Same.refl H4) hD, upd_same, ChI.nil⟩ (fun i H5 _ q => by obtain ⟨ts, q1, _⟩ := q; exact SqL.of (q1 _ _ pp4)) ?_ ?_
      · rintro i x H5 hx ⟨ts, q1, q2, q3⟩
        obtain ⟨c, ec, rfl⟩ := ivs_get hx
        have hc : c ∈ putsM d t.v := List.mem_of_getElem? ec
        have rg := F.rg c hc
        have ee : ch[i]? = some (c, at_ t.cs c, at_ cs' c) := by rw [F.eq, List.getElem?_map, ec]; rfl
        refine ⟨rfl, _, rfl, _, rfl, _, rfl, ol, _, _, _, rfl, rfl, SqL.of (q1 _ _ ol4), at_ivs rg.1 rg.2, _, rfl, _, rfl, O.cl, _, _, _, rfl, rfl, SqL.of (q1 _ _ c4), at_ivs rg.1 (by rw [F.len]; exact rg.2), sz_ (by simp), fun e he => ?_⟩
        have s5 := Same.new (o := .tup [.int c, .int (at_ t.cs c), .int (at_ cs' c)]) (Same.refl H5) he
        have d5 := s5 _ _ q2
        have l5 : ts.length = (ch.take i).length := q3.1
        have neD : e ≠ D := Ne.symm (ne_of_none q2 he)
        refine ⟨ts.map V.ref, d5, by rw [List.length_map, l5, List.length_take]; have := F.two; exact Nat.lt_of_le_of_lt (show min i ch.length ≤ 2 by omega) (by decide), ts ++ [e], ?_, ?_, ?_⟩
        · intro b o hb
          rw [upd_ne (ne_of_none hb hD)]
          exact s5 _ _ (q1 _ _ hb)
        · rw [upd_same, List.map_append]
          rfl
        · rw [take_succ' ee]
          have q3' := q3.nt (S := []) (Kp.same s5) (by simp)
          have q3'' : ChI (upd (upd H5 e (.tup [.int c, .int (at_ t.cs c), .int (at_ cs' c)])) D (.lst (ts.map V.ref ++ [.ref e]))) ts (ch.take i) := q3'.nt (S := [D]) (Kp.refl.set (by simp)) (fun a h xs z => by
            rw [List.mem_singleton.mp h, d5] at z
            cases z)
          exact q3''.snoc (upd_far neD upd_same)
      · rintro H5 ⟨ts, q1, q2, q3⟩
        have lp' : (ivs (putsM d t.v)).length = ch.length := by rw [F.eq]; simp
        rw [lp', List.take_length] at q3
        refine ⟨sz_ (by simp), fun e he => ?_⟩
        have s5 := Same.new (o := .tup [.int t.at', .ref bt, .ref D]) q1 he
        have e5 : upd H5 e (.tup [.int t.at', .ref bt, .ref D]) e = some (.tup [.int t.at', .ref bt, .ref D]) := upd_same
        have D5 := upd_keep (u := .tup [.int t.at', .ref bt, .ref D]) q2 he
        have C5 : ChI (upd H5 e (.tup [.int t.at', .ref bt, .ref D])) ts ch := q3.nt (S := []) (Kp.same (Same.new (Same.refl H5) he)) (by simp)
        generalize upd H5 e (.tup [.int t.at', .ref bt, .ref D]) = H6 at *
        refine ⟨O.lg, _, _, rfl, rfl, s5 _ _ l4, by rw [List.length_map, L.1]; exact Nat.lt_of_le_of_lt l1 (by decide), ?_⟩
        have h6 := fun {b o} (z : H4 b = some o) => s5 b o z
        have nlg : ∀ {b xs}, H6 b = some (.tup xs) → b ≠ O.lg := fun {b xs} z y => by rw [y, h6 l4] at z; cases z
        have up : ∀ {b o}, H6 b = some o → b ≠ O.lg → upd H6 O.lg (.lst (es.map V.ref ++ [.ref e])) b = some o := fun {b o} z n => upd_far n z
        have g7 : upd H6 O.lg (.lst (es.map V.ref ++ [.ref e])) O.lg = some (.lst ((es ++ [e]).map V.ref)) := by
          rw [upd_same, List.map_append]
          rfl
        have k7 : Kp O.mu H (upd H6 O.lg (.lst (es.map V.ref ++ [.ref e]))) := ((Kp.same s13).trans (k4'.trans (Kp.same s5))).set (by simp [Od.mu])
        have w7 := up (h6 w4) od.og
        have sl7 := up (h6 s4) od.sg
        have sd7 := up (h6 d4) (Ne.symm (nsd W3.lg))
        have cl7 := up (h6 c4) od.cg
        have ll7 := up (h6 ll4) od.lg
        have q7 := up (h6 e4) (nlg (h6 e4))
        have bt7 := up (h6 bt4) (nlg (h6 bt4))
        have e7 := up e5 (nlg e5)
        have nDg : D ≠ O.lg := Ne.symm (ne_of_none W.lg hD0)
        have D7 := up D5 nDg
        have C7 : ChI (upd H6 O.lg (.lst (es.map V.ref ++ [.ref e]))) ts ch := C5.nt (S := [O.lg]) (Kp.refl.set (by simp)) (fun a h xs z => by
            rw [List.mem_singleton.mp h, h6 l4] at z
            cases z)
        generalize upd H6 O.lg (.lst (es.map V.ref ++ [.ref e])) = H7 at *
        refine ⟨_, rfl, _, rfl, q, _, 1, .int kk, rfl, rfl, SqT.of q7, rfl, _, _, rfl, rfl, _, rfl, _, _, rfl, .inl (SqL.of sl7), _, _, rfl, _, rfl, O.ow, _, 1, _, rfl, rfl, w7, rfl, ?_⟩
        have us : (owV O t.at').set (Int.toNat 1) (.int (if (((O.ss.map V.ref).length : Nat) : Int) < t.at' + kk then (((O.ss.map V.ref).length : Nat) : Int) else t.at' + kk)) = owV O (minM (t.at' + kk) sp.length) := by
          rw [List.length_map, W.ss.1]
          rfl
        rw [us]
        have k8 := k7.set (x := O.ow) (o := .lst (owV O (minM (t.at' + kk) sp.length))) (by simp [Od.mu])
        have far8 : ∀ {b o}, H7 b = some o → b ≠ O.ow → upd H7 O.ow (.lst (owV O (minM (t.at' + kk) sp.length))) b = some o := fun {b o} z n => upd_far n z
        have now : ∀ {b xs}, H7 b = some (.tup xs) → b ≠ O.ow := fun {b xs} z y => by rw [y, w7] at z; cases z
        have w8 : upd H7 O.ow (.lst (owV O (minM (t.at' + kk) sp.length))) O.ow = some (.lst (owV O (minM (t.at' + kk) sp.length))) := upd_same
        have nsdo : O.sd ≠ O.ow := fun y => by rw [y, w7] at sd7; cases sd7
        have nDo : D ≠ O.ow := Ne.symm (ne_of_none W.ow hD0)
        have C8 : ChI (upd H7 O.ow (.lst (owV O (minM (t.at' + kk) sp.length)))) ts ch := C7.nt (S := [O.ow]) (Kp.refl.set (by simp)) (fun a h xs z => by
            rw [List.mem_singleton.mp h, w7] at z
            cases z)
        have W8 : OwI O (upd H7 O.ow (.lst (owV O (minM (t.at' + kk) sp.length)))) sp (minM (t.at' + kk) sp.length) v' cs' t.lv (es ++ [e]) := by
          refine ⟨w8, far8 sl7 (Ne.symm od.os), ⟨W.ss.1, fun i a d h1 h2 => ?_⟩, far8 sd7 nsdo, far8 cl7 (Ne.symm od.oc), far8 ll7 (Ne.symm od.ol), far8 g7 (Ne.symm od.og)⟩
          exact k8 _ _ (fun z => nt.no _ (sub _ z) _ (W.ss.2 i a d h1 h2)) (W.ss.2 i a d h1 h2)
        have E8 : EnI S (upd H7 O.ow (.lst (owV O (minM (t.at' + kk) sp.length)))) e (t.at', t.v, ch) := ⟨bt, D, ts, far8 e7 (now e7), far8 bt7 (now bt7), far8 D7 nDo, nt.nw hD0, C8⟩
        have L8 := L.kp nt k8 sub
        have nt8 : NT S (upd H7 O.ow (.lst (owV O (minM (t.at' + kk) sp.length)))) := nt.kp k8 (fun a h _ => by
          unfold Od.mu at h
          simp only [List.mem_cons, List.not_mem_nil, or_false] at h
          rcases h with z | z | z | z | z <;> subst z
          · exact ⟨_, W8.ow, fun xs z => by cases z⟩
          · exact ⟨_, W8.sd, fun xs z => by cases z⟩
          · exact ⟨_, W8.cl, fun xs z => by cases z⟩
          · exact ⟨_, W8.ll, fun xs z => by cases z⟩
          · exact ⟨_, W8.lg, fun xs z => by cases z⟩)
        exact k _ k8 ⟨od, ⟨_, W8, L8.snoc E8⟩, sub, nt8⟩
theorem good_law_go (T : Txt K mg) : Good P w K mg base 4 (He.ga K "_law_go") [] (sp_go K) := by
  obtain ⟨fd, F⟩ := T.d__law_go
  exact ⟨⟨fd, _, [], ok_law_go T F, F.bindsN fun _ _ _ _ _ _ us hl => match us, hl with | [_], _ => rfl, .nil⟩, F.kp⟩
end
end HB


namespace HB
open PySem PySem.Spec PyProof.Rows L2
local macro_rules | `(tactic| walk_at "ne") => `(tactic| first | assumption | (apply Ne.symm; assumption) | exact ne_of_none (by assumption) (by assumption) | exact ne_new (by assumption) (by assumption) | (intro q; cases q; done))
local macro_rules | `(tactic| walk_at "hp") => `(tactic| first
  | assumption
  | exact upd_same
  | (refine upd_keep ?_ (by assumption); walk_at "hp")
  | (refine upd_far (by walk_at "ne") ?_; walk_at "hp")
  | (refine Same.get (by assumption) ?_; walk_at "hp")
  | (refine Kp.get (by assumption) ?_ (notin1 (by walk_at "ne")); walk_at "hp"))
local macro_rules | `(tactic| walk_at "same") => `(tactic| first
  | assumption
  | exact Same.refl _
  | (refine Same.new ?_ (by assumption); walk_at "same")
  | (refine Same.trans ?_ (by assumption); walk_at "same"))
/-- one row of a reading -/
local macro_rules | `(tactic| walk_at "r1") => `(tactic| first
  | refine ⟨_, rfl, ?_⟩
  | refine ⟨_, _, rfl, rfl, ?_⟩
  | refine ⟨rfl, ?_⟩
  | refine ⟨_, _, _, _, _, rfl, (by walk_at "hp"), (by assumption), (by assumption), rfl, ?_⟩
  | refine ⟨sz_ (by decide), fun _ _ => ?_⟩)
local macro_rules | `(tactic| walk_at "rd") => `(tactic| repeat walk_at "r1")
section
variable {P : Program} {w : World} {K : PySem.W.Frag} {mg : Str → Option Value} {base : Heap}
theorem Od.kpmu {O : Od} {R : List Addr} (h : ∀ a ∈ R, a ∈ [O.ow, O.sd, O.cl, O.ll, O.lg]) : ∀ a ∈ R, a ∈ O.mu := h
theorem OwI.stepped {O : Od} {S : List Addr} {H H' : Hp} {sp : List Spc} {at' at2 : Int} {v v' : Six} {cs cs' : List Int} {lv lv' : List Lv} {es es' : List Addr} (W : OwI O H sp at' v cs lv es) (od : Odd O) (nt : NT S H) (sub : ∀ a ∈ O.mu, a ∈ S) (k : Kp O.mu H H')
    (w : H' O.ow = some (.lst (owV O at2))) (d : H' O.sd = some (.dK (Six.kvs v'))) (c : H' O.cl = some (.lst (ivs cs'))) (l : H' O.ll = some (.lst (lvs lv'))) (g : H' O.lg = some (.lst (es'.map V.ref))) : OwI O H' sp at2 v' cs' lv' es' := by
  refine ⟨w, k _ _ (fun z => ?_) W.sl, ⟨W.ss.1, fun i a d h1 h2 => k _ _ (fun z => nt.no _ (sub _ z) _ (W.ss.2 i a d h1 h2)) (W.ss.2 i a d h1 h2)⟩, d, c, l, g⟩
  unfold Od.mu at z
  simp only [List.mem_cons, List.not_mem_nil, or_false] at z
  rcases z with z | z | z | z | z
  · exact od.os z.symm
  · have := W.sl
    rw [z, W.sd] at this
    cases this
  · exact od.sc z
  · exact od.sl z
  · exact od.sg z
theorem OwI.nt {O : Od} {S : List Addr} {H H' : Hp} {sp : List Spc} {at' : Int} {v : Six} {cs : List Int} {lv : List Lv} {es : List Addr} (W : OwI O H' sp at' v cs lv es) (nt : NT S H) (k : Kp O.mu H H') : NT S H' := nt.kp k (fun a h _ => by
  unfold Od.mu at h
  simp only [List.mem_cons, List.not_mem_nil, or_false] at h
  rcases h with z | z | z | z | z <;> subst z
  · exact ⟨_, W.ow, fun xs z => by cases z⟩
  · exact ⟨_, W.sd, fun xs z => by cases z⟩
  · exact ⟨_, W.cl, fun xs z => by cases z⟩
  · exact ⟨_, W.ll, fun xs z => by cases z⟩
  · exact ⟨_, W.lg, fun xs z => by cases z⟩)
theorem OwI.far {O : Od} {H : Hp} {sp : List Spc} {at' : Int} {v : Six} {cs : List Int} {lv : List Lv} {es : List Addr} (W : OwI O H sp at' v cs lv es) : O.sd ≠ O.ow ∧ O.sd ≠ O.cl ∧ O.sd ≠ O.ll ∧ O.sd ≠ O.lg :=
  ⟨ne_of W.sd W.ow (by intro z; cases z), ne_of W.sd W.cl (by intro z; cases z), ne_of W.sd W.ll (by intro z; cases z), ne_of W.sd W.lg (by intro z; cases z)⟩
def sp_undo (K : PySem.W.Frag) : Sp := fun vs H Q _ => ∃ (ow : Addr) (n : Int), vs = [.ref ow, .int n] ∧ ∃ (O : Od) (S : List Addr) (sp : List Spc) (t : MS), O.ow = ow ∧ OwnI O S H sp t ∧ MSok sp t ∧ t.log.length ≤ 10000 ∧ 0 ≤ n ∧ n ≤ (t.log.length : Int) ∧
  ∀ H', Kp O.mu H H' → OwnI O S H' sp (backM n.toNat t) → Q .non H'
def nm_law_undo : List Str := ["_law_own_here", "_law_many", "_law_k", "_law_at", "_law_boxes_here", "_law_changes", "_law_box", "_law_number", "_law_cell", "_law_before", "_law_behind"]
theorem sc_law_undo : FnScope nm_law_undo ["_law_own_here", "_law_many"] (defScope s_law_undo) := ⟨rfl, rfl, rfl, by decide +kernel, rfl, by decide +kernel, by decide +kernel⟩
theorem ok_law_undo (T : Txt K mg) {f : Addr} {fd : FuncData} {dv : List V} {kw : List (Str × V)} (F : FunD K "_law_undo" "_law_undo" (defArgs s_law_undo) (defBody s_law_undo) (defScope s_law_undo) dv kw f fd) : FnOk P w K mg base (CXr P w) 1 f fd ["_law_own_here", "_law_many"] (sp_undo K) := by
  refine F.ok sc_law_undo (fun vs H Q E h => ?_) (fun cdv A outer s H vs Q E hr h => ?_)
  · obtain ⟨ow, n, rfl, _⟩ := h
    rfl
  · obtain ⟨ow, n, rfl, h⟩ := h
    refine ⟨_, (pss_one (ps_for po_cx rfl (pi_range1 rfl T.f_range (pa_cons (pv 1) pa_nil)) (pg_name (i := 2) sc_law_undo.nd rfl (Or.inl rfl)) (pss_cons (ps_asg (pe_bm0 PySem.F.plainAttrs_list PySem.F.slot_list_pop PySem.F.type_list_pop mt_pop (pe_ix ix_list (pv 0) pe_int (fun _ _ => rfl))) (pg_tup rfl (pgs_cons (pg_name (i := 3) sc_law_undo.nd rfl (Or.inl rfl)) (pgs_cons (pg_name (i := 4) sc_law_undo.nd rfl (Or.inl rfl)) (pgs_cons (pg_name (i := 5) sc_law_undo.nd rfl (Or.inl rfl)) pgs_nil))))) (pss_cons (ps_asg (pv 3) (pg_sub (pv 0) pe_int set_list)) (pss_cons (ps_for po_cx rfl (pi_zipK .l .t (by rfl) T.f_zip (pa_cons (pe_callTy (T := "list") (call_list_dK rfl) (by rfl) T.f_list (by decide +kernel) (pa_cons (pe_ix ix_list (pv 0) pe_int (fun _ _ => rfl)) pa_nil)) (pa_cons (pv 4) pa_nil))) (pg_tup rfl (pgs_cons (pg_name (i := 6) sc_law_undo.nd rfl (Or.inl rfl)) (pgs_cons (pg_name (i := 7) sc_law_undo.nd rfl (Or.inl rfl)) pgs_nil))) (pss_one (ps_dput (hu_of hr) (pe_ix ix_list (pv 0) pe_int (fun _ _ => rfl)) (pv 6) (pv 7) rfl))) (pss_one (ps_for po_cx rfl (pi_list (pe_revL (pv 5))) (pg_tup rfl (pgs_cons (pg_name (i := 8) sc_law_undo.nd rfl (Or.inl rfl)) (pgs_cons (pg_name (i := 9) sc_law_undo.nd rfl (Or.inl rfl)) (pgs_cons (pg_name (i := 10) sc_law_undo.nd rfl (Or.inl rfl)) pgs_nil)))) (pss_one (ps_asg (pv 9) (pg_sub (pe_ix ix_list (pv 0) pe_int (fun _ _ => rfl)) (pv 8) set_list)))))))))), ?_⟩
    obtain ⟨O, S, sp, t, rfl, own, ok, l1, n0, n1, k⟩ := h
    refine ⟨_, rfl, n, rfl, by omega, by omega, for_range (lo := 0) (n := n.toNat) (fun i σ H1 => (∃ v1 v2 v3 v4 v5 v6 v7 v8 v9 : Option V, σ = [some (.ref O.ow), some (.int n), v1, v2, v3, v4, v5, v6, v7, v8, v9]) ∧ Kp O.mu H H1 ∧ OwnI O S H1 sp (backM i t)) ⟨⟨_, _, _, _, _, _, _, _, _, rfl⟩, Kp.refl, own⟩ ?_ ?_⟩
    · rintro i σ H1 hi ⟨⟨v1, v2, v3, v4, v5, v6, v7, v8, v9, rfl⟩, q1, ⟨od, ⟨es1, W1, L1⟩, sub, nt1⟩⟩
      have ok1 := backM_ok ok i
      have len1 := backM_len t i
      obtain ⟨x, ex⟩ : ∃ x, (backM i t).log.getLast? = some x := by
        cases e : (backM i t).log.getLast? with
        | none =>
          have := List.getLast?_eq_none_iff.mp e
          rw [this] at len1
          simp at len1
          omega
        | some x => exact ⟨x, rfl⟩
      have eb : backM (i + 1) t = { at' := x.1, v := x.2.1, cs := undoM (backM i t).cs x.2.2, lv := (backM i t).lv, log := (backM i t).log.dropLast } := by
        show back1 (backM i t) = _
        unfold back1
        rw [ex]
      rw [eb]
      have esp := last_split ex
      have hx : x ∈ (backM i t).log := List.mem_of_getLast? ex
      obtain ⟨⟨x1, x2⟩, x3, x4⟩ := ok1.log x hx
      generalize backM i t = u at *
      obtain ⟨es2, e, rfl⟩ : ∃ es2 e, es1 = es2 ++ [e] := by
        have hl := L1.1
        rw [esp, List.length_append, List.length_singleton] at hl
        have hn : es1 ≠ [] := fun z => by rw [z] at hl; simp at hl
        exact ⟨_, _, (List.dropLast_concat_getLast hn).symm⟩
      rw [esp] at L1
      obtain ⟨L2, E⟩ := L1.pop
      obtain ⟨bt, cl, ts, h1, h2, h3, h4, h5⟩ := E.ex
      refine ⟨_, rfl, O.ow, _, 5, .ref O.lg, rfl, rfl, SqL.of W1.ow, rfl, .inl ⟨rfl, _, SqL.of W1.lg⟩, O.lg, _, _, rfl, rfl, W1.lg, map_last, ?_⟩
      rw [map_drop]
      obtain ⟨f1, f2, f3, f4⟩ := W1.far
      have k2 : Kp O.mu H1 (upd H1 O.lg (.lst (es2.map V.ref))) := Kp.refl.set (by simp [Od.mu])
      have far2 : ∀ {b o}, H1 b = some o → b ≠ O.lg → upd H1 O.lg (.lst (es2.map V.ref)) b = some o := fun {b o} z n => upd_far n z
      have W2 := W1.stepped (at2 := u.at') (es' := es2) od nt1 sub k2 (far2 W1.ow od.og) (far2 W1.sd f4) (far2 W1.cl od.cg) (far2 W1.ll od.lg) upd_same
      generalize upd H1 O.lg (.lst (es2.map V.ref)) = H2 at *
      have nt2 := W2.nt nt1 k2
      have t2 : ∀ {b xs}, H1 b = some (.tup xs) → H2 b = some (.tup xs) := fun {b xs} h => k2 _ _ (fun z => nt1.no _ (sub _ z) _ h) h
      refine ⟨e, _, rfl, SqT.of (t2 h1), rfl, _, _, rfl, _, _, rfl, _, _, rfl, rfl, ?_⟩
      refine ⟨_, rfl, _, rfl, O.ow, _, 1, _, rfl, rfl, W2.ow, rfl, ?_⟩
      have es3 : (owV O u.at').set (Int.toNat 1) (.int x.1) = owV O x.1 := rfl
      rw [es3]
      have k3 : Kp O.mu H2 (upd H2 O.ow (.lst (owV O x.1))) := Kp.refl.set (by simp [Od.mu])
      have far3 : ∀ {b o}, H2 b = some o → b ≠ O.ow → upd H2 O.ow (.lst (owV O x.1)) b = some o := fun {b o} z n => upd_far n z
      have W3 := W2.stepped (at2 := x.1) od nt2 sub k3 upd_same (far3 W2.sd f1) (far3 W2.cl (Ne.symm od.oc)) (far3 W2.ll (Ne.symm od.ol)) (far3 W2.lg (Ne.symm od.og))
      generalize upd H2 O.ow (.lst (owV O x.1)) = H3 at *
      have nt3 := W3.nt nt2 k3
      have bt3 : H3 bt = some (.tup x.2.1.vals) := k3 _ _ (fun z => nt2.no _ (sub _ z) _ (t2 h2)) (t2 h2)
      refine ⟨_, rfl, O.ow, _, 2, .ref O.sd, rfl, rfl, SqL.of W3.ow, rfl, O.sd, _, rfl, W3.sd, fun ql hql => ?_⟩
      have s4 := Same.new (o := .lst ((Six.kvs u.v).map fun kv => kV kv.1)) (Same.refl H3) hql
      have ql4 : upd H3 ql (.lst ((Six.kvs u.v).map fun kv => kV kv.1)) ql = some (.lst boxesV) := upd_same
      generalize upd H3 ql (.lst ((Six.kvs u.v).map fun kv => kV kv.1)) = H4 at *
      have W4 := W3.same s4
      have bt4 := s4 _ _ bt3
      have nt4 := nt3.same s4
      have nqd : ql ≠ O.sd := Ne.symm (ne_of_none W3.sd hql)
      have nbd : bt ≠ O.sd := fun z => by rw [z, W4.sd] at bt4; cases bt4
      refine ⟨_, rfl, _, _, boxesV, x.2.1.vals, rfl, SqL.of ql4, SqT.of bt4, for_it (walkK (xs := boxesV) (ys := x.2.1.vals) rfl) (fun j σ H5 => (∃ v1 v2 v3 v4 v5 : Option V, σ = [some (.ref O.ow), some (.int n), some (.int (0 + (i : Nat))), some (.int x.1), some (.ref bt), some (.ref cl), v1, v2, v3, v4, v5]) ∧
        Kp [O.sd] H4 H5 ∧ H5 O.sd = some (.dK (Six.kvs (Six.mix j x.2.1 u.v)))) ⟨⟨_, _, _, _, _, rfl⟩, Kp.refl, W4.sd⟩ (fun j σ H5 _ q => ⟨SqL.of (q.2.1 _ _ (notin1 nqd) ql4), SqT.of (q.2.1 _ _ (notin1 nbd) bt4)⟩) ?_ ?_⟩
      · rintro j y σ H5 H6 hj ⟨⟨v1, v2, v3, v4, v5, rfl⟩, r1, d5⟩ ⟨t', x', y', rfl, ht, rfl, ey1, ey2⟩
        obtain ⟨c, rfl, rfl, rfl⟩ := pair_ix ey1 ey2
        have s6 := Same.new (o := .tup [.str c.nm, .int (x.2.1.get c)]) (Same.refl H5) ht
        have w6 := s6 _ _ (r1 _ _ (notin1 (Ne.symm f1)) W4.ow)
        have d6 := s6 _ _ d5
        refine ⟨t', _, rfl, SqT.of upd_same, rfl, _, _, rfl, _, _, rfl, rfl, ?_⟩
        refine ⟨_, rfl, _, rfl, O.ow, _, 2, .ref O.sd, rfl, rfl, SqL.of w6, rfl, _, rfl, O.sd, _, rfl, dputK d6 c _, ?_⟩
        refine ⟨⟨_, _, _, _, _, rfl⟩, (r1.trans (Kp.same s6)).set (by simp), ?_⟩
        rw [mix_step]
        exact upd_same
      · rintro σ H5 ⟨⟨v1, v2, v3, v4, v5, rfl⟩, r1, d5⟩
        have d5 : H5 O.sd = some (.dK (Six.kvs x.2.1)) := d5
        have k5 : Kp O.mu H4 H5 := r1.mono (by intro a h; simp at h; simp [Od.mu, h])
        have W5 := W4.stepped (at2 := x.1) od nt4 sub k5 (r1 _ _ (notin1 (Ne.symm f1)) W4.ow) d5 (r1 _ _ (notin1 (Ne.symm f2)) W4.cl) (r1 _ _ (notin1 (Ne.symm f3)) W4.ll) (r1 _ _ (notin1 (Ne.symm f4)) W4.lg)
        have nt5 := W5.nt nt4 k5
        have k15 : Kp O.mu H1 H5 := ((k2.trans k3).trans (Kp.same s4)).trans k5
        have cl5 : H5 cl = some (.lst (ts.map V.ref)) := k15 _ _ (fun z => h4 (sub _ z)) h3
        obtain ⟨hl, ht⟩ : ChI H5 ts x.2.2 := h5.nt k15 (fun a h => nt1.no a (sub _ h))
        refine ⟨_, rfl, cl, _, rfl, SqL.of cl5, fun p hp => ?_⟩
        have s6 := Same.new (o := .lst (ts.map V.ref).reverse) (Same.refl H5) hp
        have W6 := W5.same s6
        have nt6 := nt5.same s6
        have p6 : upd H5 p (.lst (ts.map V.ref).reverse) p = some (.lst (ts.map V.ref).reverse) := upd_same
        generalize upd H5 p (.lst (ts.map V.ref).reverse) = H6 at *
        have npc : p ≠ O.cl := Ne.symm (ne_of_none W5.cl hp)
        refine ⟨p, rfl, ⟨_, SqL.of p6⟩, for_list (K := K) (a := p) (xs := (ts.map V.ref).reverse) (fun j σ H7 => (∃ v1 v2 v3 v4 v5 : Option V, σ = [some (.ref O.ow), some (.int n), some (.int (0 + (i : Nat))), some (.int x.1), some (.ref bt), some (.ref cl), v1, v2, v3, v4, v5]) ∧ Kp [O.cl] H6 H7 ∧
          H7 O.cl = some (.lst (ivs ((x.2.2.reverse.take j).foldl (fun cs e => st_ cs e.1 e.2.1) u.cs))) ∧ ((x.2.2.reverse.take j).foldl (fun cs e => st_ cs e.1 e.2.1) u.cs).length = u.cs.length) ⟨⟨_, _, _, _, _, rfl⟩, Kp.refl, W6.cl, rfl⟩ (fun j σ H7 _ q => SqL.of (q.2.1 _ _ (notin1 npc) p6)) ?_ fun σ H7 q => ?_⟩
        · rintro j y σ H7 hj ⟨⟨v1, v2, v3, v4, v5, rfl⟩, q1, q3, q4⟩
          rw [← List.map_reverse, List.getElem?_map] at hj
          obtain ⟨a, et, rfl⟩ : ∃ a, ts.reverse[j]? = some a ∧ y = V.ref a := by
            cases e : ts.reverse[j]? with
            | none =>
              rw [e] at hj
              cases hj
            | some a =>
              rw [e] at hj
              exact ⟨a, rfl, (Option.some.inj hj).symm⟩
          have hj' : j < ts.length := by
            have := (List.getElem?_eq_some_iff.mp et).1
            simpa using this
          have et' : ts[ts.length - 1 - j]? = some a := by
            rw [List.getElem?_reverse hj'] at et
            exact et
          obtain ⟨e, ee⟩ : ∃ e, x.2.2[ts.length - 1 - j]? = some e := ⟨x.2.2[ts.length - 1 - j]'(by omega), by simp⟩
          have ee' : x.2.2.reverse[j]? = some e := by
            rw [List.getElem?_reverse (by omega), ← hl]
            exact ee
          have tt := s6 _ _ (ht _ _ _ et' ee)
          have ntk : a ≠ O.cl := ne_of tt W6.cl (by intro z; cases z)
          obtain ⟨i0, i1⟩ := x4 e (List.mem_of_getElem? ee)
          refine ⟨a, _, rfl, SqT.of (q1 _ _ (notin1 ntk) tt), rfl, _, _, rfl, _, _, rfl, _, _, rfl, rfl, ?_⟩
          refine ⟨_, rfl, _, rfl, O.ow, _, 3, .ref O.cl, rfl, rfl, SqL.of (q1 _ _ (notin1 od.oc) W6.ow), rfl, _, rfl, O.cl, _, _, _, rfl, rfl, q3, ixN_int i0 (by rw [List.length_map, q4]; exact i1), ?_⟩
          rw [set_ivs]
          have fe : (x.2.2.reverse.take (j + 1)).foldl (fun cs e => st_ cs e.1 e.2.1) u.cs = st_ ((x.2.2.reverse.take j).foldl (fun cs e => st_ cs e.1 e.2.1) u.cs) e.1 e.2.1 := by
            rw [take_succ' ee', List.foldl_append]
            rfl
          refine ⟨⟨_, _, _, _, _, rfl⟩, q1.set (by simp), ?_, ?_⟩
          · rw [upd_same, fe]
          · rw [fe, st_len]
            exact q4
        · obtain ⟨⟨v1, v2, v3, v4, v5, rfl⟩, q7, q3, q4⟩ := q
          rw [List.take_of_length_le (by simp; omega)] at q3
          have k7 : Kp O.mu H6 H7 := q7.mono (by intro a h; simp at h; simp [Od.mu, h])
          have W7 := W6.stepped (at2 := x.1) (cs' := undoM u.cs x.2.2) od nt6 sub k7 (q7 _ _ (notin1 od.oc) W6.ow) (q7 _ _ (notin1 f2) W6.sd) q3 (q7 _ _ (notin1 (Ne.symm od.cl)) W6.ll) (q7 _ _ (notin1 (Ne.symm od.cg)) W6.lg)
          have kk : Kp O.mu H1 H7 := (k15.trans (Kp.same s6)).trans k7
          exact ⟨⟨_, _, _, _, _, _, _, _, _, rfl⟩, q1.trans kk, od, ⟨es2, W7, L2.kp nt1 kk sub⟩, sub, W7.nt nt6 k7⟩
    · rintro σ H1 ⟨⟨v1, v2, v3, v4, v5, v6, v7, v8, v9, rfl⟩, q1, q2⟩
      exact k H1 q1 q2
theorem good_law_undo (T : Txt K mg) : Good P w K mg base 1 (He.ga K "_law_undo") [] (sp_undo K) := by
  obtain ⟨fd, F⟩ := T.d__law_undo
  exact ⟨⟨fd, _, [], ok_law_undo T F, F.bindsN fun _ _ _ _ _ _ us hl => match us, hl with | [_, _], _ => rfl, .nil⟩, F.kp⟩
end
end HB


namespace HB
open PySem PySem.Spec PyProof.Rows L2
local macro_rules | `(tactic| walk_at "ne") => `(tactic| first | assumption | (apply Ne.symm; assumption) | exact ne_of_none (by assumption) (by assumption) | exact ne_new (by assumption) (by assumption) | (intro q; cases q; done))
local macro_rules | `(tactic| walk_at "hp") => `(tactic| first
  | assumption
  | exact upd_same
  | (refine upd_keep ?_ (by assumption); walk_at "hp")
  | (refine upd_far (by walk_at "ne") ?_; walk_at "hp")
  | (refine Same.get (by assumption) ?_; walk_at "hp")
  | (refine Kp.get (by assumption) ?_ (notin1 (by walk_at "ne")); walk_at "hp"))
local macro_rules | `(tactic| walk_at "same") => `(tactic| first
  | assumption
  | exact Same.refl _
  | (refine Same.new ?_ (by assumption); walk_at "same")
  | (refine Same.trans ?_ (by assumption); walk_at "same"))
/-- one row of a reading -/
local macro_rules | `(tactic| walk_at "r1") => `(tactic| first
  | refine ⟨_, rfl, ?_⟩
  | refine ⟨_, _, rfl, rfl, ?_⟩
  | refine ⟨rfl, ?_⟩
  | refine ⟨_, _, _, _, _, rfl, (by walk_at "hp"), (by assumption), (by assumption), rfl, ?_⟩
  | refine ⟨sz_ (by decide), fun _ _ => ?_⟩)
local macro_rules | `(tactic| walk_at "rd") => `(tactic| repeat walk_at "r1")
section
variable {P : Program} {w : World} {K : PySem.W.Frag} {mg : Str → Option Value} {base : Heap}
/-! ### both stand alike -/
def sp_lstate (K : PySem.W.Frag) : Sp := fun vs H Q _ => ∃ (ow : Addr), vs = [.ref ow] ∧ ∃ (O : Od) (sp : List Spc) (at' : Int) (v : Six) (cs : List Int) (lv : List Lv) (es : List Addr), O.ow = ow ∧ OwI O H sp at' v cs lv es ∧
  ∀ p bt l H', H p = none → Same H H' → H' p = some (.tup [.int at', .ref bt, .ref l]) → H' bt = some (.tup v.vals) → H' l = some (.lst (ivs cs)) → Q (.ref p) H'
def nm_law_state : List Str := ["_law_own_here"]
theorem sc_law_state : FnScope nm_law_state ["_law_own_here"] (defScope s_law_state) := ⟨rfl, rfl, rfl, by decide +kernel, rfl, by decide +kernel, by decide +kernel⟩
theorem ok_law_state (T : Txt K mg) {f : Addr} {fd : FuncData} {dv : List V} {kw : List (Str × V)} (F : FunD K "_law_state" "_law_state" (defArgs s_law_state) (defBody s_law_state) (defScope s_law_state) dv kw f fd) : FnOk P w K mg base (CXr P w) 1 f fd ["_law_own_here"] (sp_lstate K) := by
  refine F.ok sc_law_state (fun vs H Q E h => ?_) (fun cdv A outer s H vs Q E hr h => ?_)
  · obtain ⟨ow, rfl, _⟩ := h
    rfl
  · obtain ⟨ow, rfl, h⟩ := h
    refine ⟨_, (pss_one (ps_ret (pe_tup (pa_cons (pe_ix ix_list (pv 0) pe_int (fun _ _ => rfl)) (pa_cons (pe_tupVals (.inl rfl) (pe_ix ix_list (pv 0) pe_int (fun _ _ => rfl)) (by rfl) T.f_tuple) (pa_cons (pe_callTy (T := "list") call_list_of (by rfl) T.f_list (by decide +kernel) (pa_cons (pe_ix ix_list (pv 0) pe_int (fun _ _ => rfl)) pa_nil)) pa_nil)))))), ?_⟩
    obtain ⟨O, sp, at', v, cs, lv, es, rfl, W, k⟩ := h
    refine ⟨_, rfl, O.ow, _, 1, _, rfl, rfl, SqL.of W.ow, rfl, _, rfl, O.ow, _, 2, .ref O.sd, rfl, rfl, SqL.of W.ow, rfl, O.sd, _, rfl, W.sd, fun bt hbt => ?_⟩
    have s1 := Same.new (o := .tup ((Six.kvs v).map (·.2))) (Same.refl H) hbt
    have b1 : upd H bt (.tup ((Six.kvs v).map (·.2))) bt = some (.tup v.vals) := upd_same
    generalize upd H bt (.tup ((Six.kvs v).map (·.2))) = H1 at *
    have W1 := W.same s1
    refine ⟨_, rfl, O.ow, _, 3, .ref O.cl, rfl, rfl, SqL.of W1.ow, rfl, O.cl, _, rfl, .inl (SqL.of W1.cl), fun l hl => ?_⟩
    have s2 := Same.new (o := .lst (ivs cs)) s1 hl
    have s2' := Same.new (o := .lst (ivs cs)) (Same.refl H1) hl
    have l2 : upd H1 l (.lst (ivs cs)) l = some (.lst (ivs cs)) := upd_same
    generalize upd H1 l (.lst (ivs cs)) = H2 at *
    refine ⟨sz_ (by simp), fun p hp => ?_⟩
    exact k p bt l _ (s2.free hp) (Same.new s2 hp) upd_same (upd_keep (s2' _ _ b1) hp) (upd_keep l2 hp)
theorem okH_law_state (T : Txt K mg) {f : Addr} {fd : FuncData} {dv : List V} {kw : List (Str × V)} (F : FunD K "_law_state" "_law_state" (defArgs s_law_state) (defBody s_law_state) (defScope s_law_state) dv kw f fd) : L2H.FnH P w K mg base (CXr P w) 1 f fd ["_law_own_here"] (sp_lstate K) := by
  refine funD_okH F sc_law_state (fun vs H Q E h => ?_) (fun cdv A outer s H vs Q E p hot hr h => ?_)
  · obtain ⟨ow, rfl, _⟩ := h
    rfl
  · obtain ⟨ow, rfl, h⟩ := h
    have hc : L2H.HotC (cxHr P w K mg base nm_law_state "_law_state" (defScope s_law_state) f cdv A outer s H E p) := hotc hot
    refine ⟨_, (pss_one (ps_ret (pe_tup (pa_cons (pe_ix ix_list (pv 0) pe_int (fun _ _ => rfl)) (pa_cons (pe_tupVals (.inr hc) (pe_ix ix_list (pv 0) pe_int (fun _ _ => rfl)) (by rfl) T.f_tuple) (pa_cons (pe_callTy (T := "list") call_list_of (by rfl) T.f_list (by decide +kernel) (pa_cons (pe_ix ix_list (pv 0) pe_int (fun _ _ => rfl)) pa_nil)) pa_nil)))))), ?_⟩
    obtain ⟨O, sp, at', v, cs, lv, es, rfl, W, k⟩ := h
    refine ⟨_, rfl, O.ow, _, 1, _, rfl, rfl, SqL.of W.ow, rfl, _, rfl, O.ow, _, 2, .ref O.sd, rfl, rfl, SqL.of W.ow, rfl, O.sd, _, rfl, W.sd, fun bt hbt => ?_⟩
    have s1 := Same.new (o := .tup ((Six.kvs v).map (·.2))) (Same.refl H) hbt
    have b1 : upd H bt (.tup ((Six.kvs v).map (·.2))) bt = some (.tup v.vals) := upd_same
    generalize upd H bt (.tup ((Six.kvs v).map (·.2))) = H1 at *
    have W1 := W.same s1
    refine ⟨_, rfl, O.ow, _, 3, .ref O.cl, rfl, rfl, SqL.of W1.ow, rfl, O.cl, _, rfl, .inl (SqL.of W1.cl), fun l hl => ?_⟩
    have s2 := Same.new (o := .lst (ivs cs)) s1 hl
    have s2' := Same.new (o := .lst (ivs cs)) (Same.refl H1) hl
    have l2 : upd H1 l (.lst (ivs cs)) l = some (.lst (ivs cs)) := upd_same
    generalize upd H1 l (.lst (ivs cs)) = H2 at *
    refine ⟨sz_ (by simp), fun p hp => ?_⟩
    exact k p bt l _ (s2.free hp) (Same.new s2 hp) upd_same (upd_keep (s2' _ _ b1) hp) (upd_keep l2 hp)
theorem good_law_state (T : Txt K mg) : Good P w K mg base 1 (He.ga K "_law_state") [] (sp_lstate K) := by
  obtain ⟨fd, F⟩ := T.d__law_state
  exact ⟨⟨fd, _, [], ok_law_state T F, F.bindsN fun _ _ _ _ _ _ us hl => match us, hl with | [_], _ => rfl, .nil⟩, F.kp⟩
theorem goodH_law_state (T : Txt K mg) : GoodH P w K mg base 1 (He.ga K "_law_state") (sp_lstate K) := by
  obtain ⟨fd, F⟩ := T.d__law_state
  exact ⟨⟨fd, _, okH_law_state T F, F.bindsN fun _ _ _ _ _ _ us hl => match us, hl with | [_], _ => rfl⟩, F.kp⟩
def stD (at' : Int) (v : Six) (cs : List Int) : PyData := .tuple [.int at', .tuple (v.vals.map toD), .list ((ivs cs).map toD)]
def chD (e : Int × Int × Int) : PyData := .tuple ([.int e.1, .int e.2.1, .int e.2.2].map toD)
def enD (x : En) : PyData := .tuple [.int x.1, .tuple (x.2.1.vals.map toD), .list (x.2.2.map chD)]
theorem flatS (v : Six) : ∀ x ∈ v.vals, FlatV x := fun x hx => by
  unfold Six.vals at hx
  simp only [List.mem_cons, List.not_mem_nil, or_false] at hx
  rcases hx with z | z | z | z | z | z <;> rw [z] <;> trivial
theorem flatI (cs : List Int) : ∀ x ∈ ivs cs, FlatV x := fun x hx => by
  obtain ⟨i, _, rfl⟩ := List.mem_map.mp hx
  trivial
theorem flatLvs (lv : List Lv) : ∀ x ∈ lvs lv, FlatV x := fun x hx => by
  obtain ⟨l, _, rfl⟩ := List.mem_map.mp hx
  exact flatLv l
theorem flatE (e : Int × Int × Int) : ∀ x ∈ [V.int e.1, .int e.2.1, .int e.2.2], FlatV x := fun x hx => by
  simp only [List.mem_cons, List.not_mem_nil, or_false] at hx
  rcases hx with z | z | z <;> rw [z] <;> trivial
theorem okI (i : Int) (k : Nat) : OkD (.int i) k := OkD.mono (okF (v := .int i) trivial) (Nat.zero_le k)
theorem ok3 {a b c : PyData} {k : Nat} (ha : OkD a k) (hb : OkD b k) (hc : OkD c k) : OkD (.tuple [a, b, c]) (k + 1) := okT fun d hd => by
  simp only [List.mem_cons, List.not_mem_nil, or_false] at hd
  rcases hd with z | z | z <;> rw [z] <;> assumption
theorem stD_ok (at' : Int) (v : Six) (cs : List Int) : OkD (stD at' v cs) 2 := ok3 (okI _ _) (okT (okFs (flatS v))) (okL (okFs (flatI cs)))
theorem chD_ok (e : Int × Int × Int) : OkD (chD e) 1 := okT (okFs (flatE e))
theorem enD_ok (x : En) : OkD (enD x) 3 := ok3 (okI _ _) ((okT (okFs (flatS _))).mono (by decide)) (okL fun d hd => by
  obtain ⟨e, _, rfl⟩ := List.mem_map.mp hd
  exact chD_ok e)
theorem logD_ok (log : List En) : OkD (.list (log.map enD)) 4 := okL fun d hd => by
  obtain ⟨e, _, rfl⟩ := List.mem_map.mp hd
  exact enD_ok e
theorem lvD_ok (lv : List Lv) : OkD (.list ((lvs lv).map toD)) 1 := okL (okFs (flatLvs lv))
theorem stDp {H : Hp} {p bt l : Addr} {at' : Int} {v : Six} {cs : List Int} (h1 : H p = some (.tup [.int at', .ref bt, .ref l])) (h2 : H bt = some (.tup v.vals)) (h3 : H l = some (.lst (ivs cs))) : Dp K H (.ref p) (stD at' v cs) :=
  .tup (SqT.of h1) (.cons (.int _) (.cons (.tup (SqT.of h2) (dpFs (flatS v))) (.cons (.lst (SqL.of h3) (dpFs (flatI cs))) .nil)))
theorem ChI.dp {H : Hp} : ∀ {ts : List Addr} {ch : Ch}, ChI H ts ch → DpAll K H (ts.map V.ref) (ch.map chD)
  | [], [], _ => .nil
  | [], _ :: _, h => by cases h.1
  | _ :: _, [], h => by cases h.1
  | t :: ts, e :: ch, h => .cons (.tup (SqT.of (h.2 0 t e rfl rfl)) (dpFs (flatE e))) (ChI.dp ⟨by have := h.1; simpa using this, fun i b e h1 h2 => h.2 (i + 1) b e h1 h2⟩)
theorem EnI.dp {S : List Addr} {H : Hp} {e : Addr} {x : En} (E : EnI S H e x) : Dp K H (.ref e) (enD x) := by
  obtain ⟨bt, cl, ts, h1, h2, h3, _, h5⟩ := E.ex
  exact .tup (SqT.of h1) (.cons (.int _) (.cons (.tup (SqT.of h2) (dpFs (flatS _))) (.cons (.lst (SqL.of h3) h5.dp) .nil)))
theorem LogI.dp {S : List Addr} {H : Hp} : ∀ {es : List Addr} {log : List En}, LogI S H es log → DpAll K H (es.map V.ref) (log.map enD)
  | [], [], _ => .nil
  | [], _ :: _, h => by cases h.1
  | _ :: _, [], h => by cases h.1
  | e :: es, x :: log, h => .cons (h.2 0 e x rfl rfl).dp (LogI.dp ⟨by have := h.1; simpa using this, fun i b e h1 h2 => h.2 (i + 1) b e h1 h2⟩)
theorem eqv_self {d : PyData} {k : Nat} (h : OkD d k) : PyData.eqv d d = true := SeqAt.eqv_refl _ h.1
def sp_stands (K : PySem.W.Frag) : Sp := fun vs H Q _ => ∃ (m ow : Addr), vs = [.ref m, .ref ow] ∧ ∃ (M : Md) (O : Od) (S : List Addr) (sp : List Spc) (t : MS), M.m = m ∧ O.ow = ow ∧ MchI K M S H sp t ∧ OwnI O S H sp t ∧ t.log.length ≤ 10000 ∧ (∀ x ∈ t.log, x.2.2.length ≤ 2) ∧
  ∀ H', Same H H' → Q (.bl true) H'
def nm_law_stands : List Str := ["_law_machine", "_law_own_here"]
theorem sc_law_stands : FnScope nm_law_stands ["_law_machine", "_law_own_here"] (defScope s_law_stands) := ⟨rfl, rfl, rfl, by decide +kernel, rfl, by decide +kernel, by decide +kernel⟩
theorem ok_law_stands (T : Txt K mg) {f : Addr} {fd : FuncData} {dv : List V} {kw : List (Str × V)} (F : FunD K "_law_stands" "_law_stands" (defArgs s_law_stands) (defBody s_law_stands) (defScope s_law_stands) dv kw f fd) : FnOk P w K mg base (CXr P w) 3 f fd ["_law_machine", "_law_own_here"] (sp_stands K) := by
  refine F.ok sc_law_stands (fun vs H Q E h => ?_) (fun cdv A outer s H vs Q E hr h => ?_)
  · obtain ⟨m, ow, rfl, _⟩ := h
    rfl
  · obtain ⟨m, ow, rfl, h⟩ := h
    refine ⟨_, (pss_cons (ps_if (PW.pt (pw_or (pt_cmpR (op_neD (Nat.lt_of_succ_lt (hu65 hr))) (pe_methG0 (pv 0) T.c_Watched T.m_Watched_state (good_Watched_state T) (hr.mono (by decide)) hx_cx) (pe_callG (good_law_state T) (hr.mono (by decide)) T.g__law_state hx_cx (pa_cons (pv 1) pa_nil)) (nomark _)) (pw_or1 (pt_cmpR (op_neD (Nat.lt_of_succ_lt (hu65 hr))) (pe_methG0 (pv 0) T.c_Watched T.m_Watched_leaves (good_Watched_leaves T) (hr.mono (by decide)) hx_cx) (pe_ix ix_list (pv 1) pe_int (fun _ _ => rfl)) (nomark _))))) (pss_one (ps_ret pe_bl)) pss_nil) (pss_one (ps_ret (pe_cmpR (op_eqD (Nat.lt_of_succ_lt (hu65 hr))) (pe_methG0 (pv 0) T.c_Watched T.m_Watched_log (good_Watched_log T) (hr.mono (by decide)) hx_cx) (pe_ix ix_list (pv 1) pe_int (fun _ _ => rfl)) (nomark _))))), ?_⟩
    obtain ⟨M, O, S, sp, t, rfl, rfl, ⟨nd, ⟨ps, em, W, L⟩, sub, nt⟩, ⟨od, ⟨eo, Wo, Lo⟩, sub2, _⟩, l1, l2, k⟩ := h
    refine ⟨_, rfl, M.m, M.mx, _, rfl, W.mac, rfl, M.m, rfl, M, sp, t.at', t.v, t.cs, t.lv, ps, em, rfl, W, fun p bt l H1 fp s1 p1 b1 l1' => ?_⟩
    have Wo1 := Wo.same s1
    refine ⟨_, rfl, O.ow, rfl, O, sp, t.at', t.v, t.cs, t.lv, eo, rfl, Wo1, fun q bq lq H2 fq s2 q2 bq2 lq2 => ?_⟩
    refine ⟨stD t.at' t.v t.cs, stD t.at' t.v t.cs, stDp (s2 _ _ p1) (s2 _ _ b1) (s2 _ _ l1'), stDp q2 bq2 lq2, (stD_ok _ _ _).shaped (by decide), (stD_ok _ _ _).shaped (by decide), ?_⟩
    rw [eqv_self (stD_ok _ _ _)]
    have s12 := s1.trans s2
    have W2 := W.same s12
    refine ⟨_, rfl, iteF ⟨_, rfl, M.m, M.mx, _, rfl, W2.mac, rfl, M.m, rfl, M, sp, t.at', t.v, t.cs, t.lv, ps, em, rfl, W2, fun l hl => ?_⟩⟩
    have s3 := Same.new (o := .lst (lvs t.lv)) s12 hl
    have l3 : upd H2 l (.lst (lvs t.lv)) l = some (.lst (lvs t.lv)) := upd_same
    generalize upd H2 l (.lst (lvs t.lv)) = H3 at *
    have W3 := W.same s3
    have Wo3 := Wo.same s3
    refine ⟨_, rfl, O.ow, _, 4, .ref O.ll, rfl, rfl, SqL.of Wo3.ow, rfl, .list ((lvs t.lv).map toD), .list ((lvs t.lv).map toD), .lst (SqL.of l3) (dpFs (flatLvs _)), .lst (SqL.of Wo3.ll) (dpFs (flatLvs _)), (lvD_ok _).shaped (by decide), (lvD_ok _).shaped (by decide), ?_⟩
    rw [eqv_self (lvD_ok _)]
    refine ⟨_, rfl, iteF ?_⟩
    refine ⟨_, rfl, M.m, M.mx, _, rfl, W3.mac, rfl, M.m, rfl, M, S, sp, t, ps, em, rfl, W3, L.same nt s3, nt.same s3, l1, l2, fun p' es' H4 fp s4 p4 L4 => ?_⟩
    have s14 := s3.trans s4
    have Wo4 := Wo.same s14
    refine ⟨_, rfl, O.ow, _, 5, .ref O.lg, rfl, rfl, SqL.of Wo4.ow, rfl, .list (t.log.map enD), .list (t.log.map enD), .lst (SqL.of p4) L4.dp, .lst (SqL.of Wo4.lg) (Lo.same nt s14).dp, (logD_ok _).shaped (by decide), (logD_ok _).shaped (by decide), ?_⟩
    rw [eqv_self (logD_ok _)]
    exact k H4 s14
theorem okH_law_stands (T : Txt K mg) {f : Addr} {fd : FuncData} {dv : List V} {kw : List (Str × V)} (F : FunD K "_law_stands" "_law_stands" (defArgs s_law_stands) (defBody s_law_stands) (defScope s_law_stands) dv kw f fd) : L2H.FnH P w K mg base (CXr P w) 3 f fd ["_law_machine", "_law_own_here"] (sp_stands K) := by
  refine funD_okH F sc_law_stands (fun vs H Q E h => ?_) (fun cdv A outer s H vs Q E p hot hr h => ?_)
  · obtain ⟨m, ow, rfl, _⟩ := h
    rfl
  · obtain ⟨m, ow, rfl, h⟩ := h
    have hc : L2H.HotC (cxHr P w K mg base nm_law_stands "_law_stands" (defScope s_law_stands) f cdv A outer s H E p) := hotc hot
    refine ⟨_, (pss_cons (ps_if (PW.pt (pw_or (pt_cmpR (op_neD (Nat.lt_of_succ_lt (huH65 hr))) (pe_methGH0 (pv 0) T.c_Watched T.m_Watched_state (goodH_Watched_state T) (hr.mono (by decide)) hc) (pe_callGH (goodH_law_state T) (hr.mono (by decide)) hc T.g__law_state (pa_cons (pv 1) pa_nil)) (nomark _)) (pw_or1 (pt_cmpR (op_neD (Nat.lt_of_succ_lt (huH65 hr))) (pe_methGH0 (pv 0) T.c_Watched T.m_Watched_leaves (goodH_Watched_leaves T) (hr.mono (by decide)) hc) (pe_ix ix_list (pv 1) pe_int (fun _ _ => rfl)) (nomark _))))) (pss_one (ps_ret pe_bl)) pss_nil) (pss_one (ps_ret (pe_cmpR (op_eqD (Nat.lt_of_succ_lt (huH65 hr))) (pe_methGH0 (pv 0) T.c_Watched T.m_Watched_log (goodH_Watched_log T) (hr.mono (by decide)) hc) (pe_ix ix_list (pv 1) pe_int (fun _ _ => rfl)) (nomark _))))), ?_⟩
    obtain ⟨M, O, S, sp, t, rfl, rfl, ⟨nd, ⟨ps, em, W, L⟩, sub, nt⟩, ⟨od, ⟨eo, Wo, Lo⟩, sub2, _⟩, l1, l2, k⟩ := h
    refine ⟨_, rfl, M.m, M.mx, _, rfl, W.mac, rfl, M.m, rfl, M, sp, t.at', t.v, t.cs, t.lv, ps, em, rfl, W, fun p bt l H1 fp s1 p1 b1 l1' => ?_⟩
    have Wo1 := Wo.same s1
    refine ⟨_, rfl, O.ow, rfl, O, sp, t.at', t.v, t.cs, t.lv, eo, rfl, Wo1, fun q bq lq H2 fq s2 q2 bq2 lq2 => ?_⟩
    refine ⟨stD t.at' t.v t.cs, stD t.at' t.v t.cs, stDp (s2 _ _ p1) (s2 _ _ b1) (s2 _ _ l1'), stDp q2 bq2 lq2, (stD_ok _ _ _).shaped (by decide), (stD_ok _ _ _).shaped (by decide), ?_⟩
    rw [eqv_self (stD_ok _ _ _)]
    have s12 := s1.trans s2
    have W2 := W.same s12
    refine ⟨_, rfl, iteF ⟨_, rfl, M.m, M.mx, _, rfl, W2.mac, rfl, M.m, rfl, M, sp, t.at', t.v, t.cs, t.lv, ps, em, rfl, W2, fun l hl => ?_⟩⟩
    have s3 := Same.new (o := .lst (lvs t.lv)) s12 hl
    have l3 : upd H2 l (.lst (lvs t.lv)) l = some (.lst (lvs t.lv)) := upd_same
    generalize upd H2 l (.lst (lvs t.lv)) = H3 at *
    have W3 := W.same s3
    have Wo3 := Wo.same s3
    refine ⟨_, rfl, O.ow, _, 4, .ref O.ll, rfl, rfl, SqL.of Wo3.ow, rfl, .list ((lvs t.lv).map toD), .list ((lvs t.lv).map toD), .lst (SqL.of l3) (dpFs (flatLvs _)), .lst (SqL.of Wo3.ll) (dpFs (flatLvs _)), (lvD_ok _).shaped (by decide), (lvD_ok _).shaped (by decide), ?_⟩
    rw [eqv_self (lvD_ok _)]
    refine ⟨_, rfl, iteF ?_⟩
    refine ⟨_, rfl, M.m, M.mx, _, rfl, W3.mac, rfl, M.m, rfl, M, S, sp, t, ps, em, rfl, W3, L.same nt s3, nt.same s3, l1, l2, fun p' es' H4 fp s4 p4 L4 => ?_⟩
    have s14 := s3.trans s4
    have Wo4 := Wo.same s14
    refine ⟨_, rfl, O.ow, _, 5, .ref O.lg, rfl, rfl, SqL.of Wo4.ow, rfl, .list (t.log.map enD), .list (t.log.map enD), .lst (SqL.of p4) L4.dp, .lst (SqL.of Wo4.lg) (Lo.same nt s14).dp, (logD_ok _).shaped (by decide), (logD_ok _).shaped (by decide), ?_⟩
    rw [eqv_self (logD_ok _)]
    exact k H4 s14
theorem good_law_stands (T : Txt K mg) : Good P w K mg base 3 (He.ga K "_law_stands") [] (sp_stands K) := by
  obtain ⟨fd, F⟩ := T.d__law_stands
  exact ⟨⟨fd, _, [], ok_law_stands T F, F.bindsN fun _ _ _ _ _ _ us hl => match us, hl with | [_, _], _ => rfl, .nil⟩, F.kp⟩
theorem goodH_law_stands (T : Txt K mg) : GoodH P w K mg base 3 (He.ga K "_law_stands") (sp_stands K) := by
  obtain ⟨fd, F⟩ := T.d__law_stands
  exact ⟨⟨fd, _, okH_law_stands T F, F.bindsN fun _ _ _ _ _ _ us hl => match us, hl with | [_, _], _ => rfl⟩, F.kp⟩
end
end HB


namespace HB
open PySem PySem.Spec PyProof.Rows L2
local macro_rules | `(tactic| walk_at "ne") => `(tactic| first | assumption | (apply Ne.symm; assumption) | exact ne_of_none (by assumption) (by assumption) | exact ne_new (by assumption) (by assumption) | (intro q; cases q; done))
local macro_rules | `(tactic| walk_at "hp") => `(tactic| first
  | assumption
  | exact upd_same
  | (refine upd_keep ?_ (by assumption); walk_at "hp")
  | (refine upd_far (by walk_at "ne") ?_; walk_at "hp")
  | (refine Same.get (by assumption) ?_; walk_at "hp")
  | (refine Kp.get (by assumption) ?_ (notin1 (by walk_at "ne")); walk_at "hp"))
local macro_rules | `(tactic| walk_at "same") => `(tactic| first
  | assumption
  | exact Same.refl _
  | (refine Same.new ?_ (by assumption); walk_at "same")
  | (refine Same.trans ?_ (by assumption); walk_at "same"))
/-- one row of a reading -/
local macro_rules | `(tactic| walk_at "r1") => `(tactic| first
  | refine ⟨_, rfl, ?_⟩
  | refine ⟨_, _, rfl, rfl, ?_⟩
  | refine ⟨rfl, ?_⟩
  | refine ⟨_, _, _, _, _, rfl, (by walk_at "hp"), (by assumption), (by assumption), rfl, ?_⟩
  | refine ⟨sz_ (by decide), fun _ _ => ?_⟩)
local macro_rules | `(tactic| walk_at "rd") => `(tactic| repeat walk_at "r1")
section
variable {P : Program} {w : World} {K : PySem.W.Frag} {mg : Str → Option Value} {base : Heap}
/-! ### both side by side -/
def Md.ad (M : Md) : List Addr := [M.m, M.dl, M.A.s, M.A.b, M.A.nl, M.A.kl, M.A.gl, M.A.pl, M.el]
theorem Md.mu_ad {M : Md} : ∀ a ∈ M.mu, a ∈ M.ad := fun a h => by
  unfold Md.mu at h
  simp only [List.mem_cons, List.not_mem_nil, or_false] at h
  unfold Md.ad
  rcases h with z | z | z | z | z | z <;> simp [z]
theorem MI.kpo {M : Md} {R : List Addr} {H H' : Hp} {sp : List Spc} {at' : Int} {v : Six} {cs : List Int} {lv : List Lv} {ps : List V} {es : List Addr} (W : MI K M H sp at' v cs lv ps es) (k : Kp R H H') (d : ∀ a ∈ R, a ∉ M.ad) (di : ∀ a ∈ R, ∀ C dx fs, H a ≠ some (.ins C dx fs)) : MI K M H' sp at' v cs lv ps es := by
  have o : ∀ {b o}, H b = some o → b ∈ M.ad → H' b = some o := fun {b o} e i => k _ _ (fun z => d _ z i) e
  have w := W.wd
  exact ⟨o W.mac (by simp [Md.ad]), o W.dl (by simp [Md.ad]), ⟨W.ds.1, fun i a d h1 h2 => let ⟨dx, e⟩ := W.ds.2 i a d h1 h2; ⟨dx, k _ _ (fun z => di _ z _ _ _ e) e⟩⟩, ⟨o w.box (by simp [Md.ad]), o w.num (by simp [Md.ad]), o w.sto (by simp [Md.ad]), ⟨o w.cel.k (by simp [Md.ad]), o w.cel.g (by simp [Md.ad]), w.cel.len⟩, o w.put (by simp [Md.ad])⟩, o W.el (by simp [Md.ad])⟩
theorem MchI.kpo {M : Md} {S R : List Addr} {H H' : Hp} {sp : List Spc} {t : MS} (W : MchI K M S H sp t) (k : Kp R H H') (nt' : NT S H') (sub : ∀ a ∈ R, a ∈ S) (d : ∀ a ∈ R, a ∉ M.ad) (di : ∀ a ∈ R, ∀ C dx fs, H a ≠ some (.ins C dx fs)) : MchI K M S H' sp t := by
  obtain ⟨nd, ⟨ps, es, W1, L⟩, s, nt⟩ := W
  exact ⟨nd, ⟨ps, es, W1.kpo k d di, L.kp nt k sub⟩, s, nt'⟩
theorem OwI.kpo {O : Od} {S R : List Addr} {H H' : Hp} {sp : List Spc} {at' : Int} {v : Six} {cs : List Int} {lv : List Lv} {es : List Addr} (W : OwI O H sp at' v cs lv es) (k : Kp R H H') (nt : NT S H) (sub : ∀ a ∈ R, a ∈ S) (d : ∀ a ∈ R, a ∉ O.sl :: O.mu) : OwI O H' sp at' v cs lv es := by
  have o : ∀ {b o}, H b = some o → b ∈ O.sl :: O.mu → H' b = some o := fun {b o} e i => k _ _ (fun z => d _ z i) e
  exact ⟨o W.ow (by simp [Od.mu]), o W.sl (by simp), ⟨W.ss.1, fun i a d h1 h2 => k _ _ (fun z => nt.no _ (sub _ z) _ (W.ss.2 i a d h1 h2)) (W.ss.2 i a d h1 h2)⟩, o W.sd (by simp [Od.mu]), o W.cl (by simp [Od.mu]), o W.ll (by simp [Od.mu]), o W.lg (by simp [Od.mu])⟩
theorem OwnI.kpo {O : Od} {S R : List Addr} {H H' : Hp} {sp : List Spc} {t : MS} (W : OwnI O S H sp t) (k : Kp R H H') (nt' : NT S H') (sub : ∀ a ∈ R, a ∈ S) (d : ∀ a ∈ R, a ∉ O.sl :: O.mu) : OwnI O S H' sp t := by
  obtain ⟨od, ⟨es, W1, L⟩, s, nt⟩ := W
  exact ⟨od, ⟨es, W1.kpo k nt sub d, L.kp nt k sub⟩, s, nt'⟩
theorem OwI.not_ins {O : Od} {H : Hp} {sp : List Spc} {at' : Int} {v : Six} {cs : List Int} {lv : List Lv} {es : List Addr} (W : OwI O H sp at' v cs lv es) : ∀ a ∈ O.mu, ∀ C dx fs, H a ≠ some (.ins C dx fs) := fun a h C dx fs z => by
  unfold Od.mu at h
  simp only [List.mem_cons, List.not_mem_nil, or_false] at h
  rcases h with y | y | y | y | y <;> subst y
  · rw [W.ow] at z
    cases z
  · rw [W.sd] at z
    cases z
  · rw [W.cl] at z
    cases z
  · rw [W.ll] at z
    cases z
  · rw [W.lg] at z
    cases z
structure Bo (K : PySem.W.Frag) (M : Md) (O : Od) (hd hc : Addr) (N : Int) (S : List Addr) (H : Hp) (sp : List Spc) (tm tl : MS) : Prop where
  mch : MchI K M S H sp tm
  own : OwnI O S H sp tl
  ha : HaI H hd hc N
  hne : hd ≠ hc
  dm : ∀ a ∈ hd :: O.mu, a ∉ M.ad
  sm : O.sl ∉ M.mu
  cm : hc ∉ M.mu
  ho : hd ∉ O.sl :: O.mu
  co : hc ∉ O.mu
  hS : hd ∈ S
section
variable {M : Md} {O : Od} {hd hc : Addr} {N : Int} {S : List Addr} {H H' : Hp} {sp : List Spc} {tm tl t' : MS}
theorem Bo.pres (B : Bo K M O hd hc N S H sp tm tl) : ∀ a ∈ hd :: O.mu, H a ≠ none := fun a h z => by
  rcases List.mem_cons.mp h with y | y
  · obtain ⟨xs, e⟩ := B.ha.hd
    rw [y, e] at z
    cases z
  · obtain ⟨o, e, _⟩ := B.own.nt a (B.own.sub _ y)
    rw [e] at z
    cases z
theorem Bo.m (B : Bo K M O hd hc N S H sp tm tl) {pl : Addr} (hpl : H pl = none) (k : Kp M.mu H H') (n : MchI K { M with A := { M.A with pl := pl } } S H' sp t') : Bo K { M with A := { M.A with pl := pl } } O hd hc N S H' sp t' tl := by
  have mu : Md.mu { M with A := { M.A with pl := pl } } = M.mu := rfl
  refine ⟨n, B.own.kpo k n.nt B.mch.sub (fun a ha z => ?_), B.ha.kp k (fun z => B.dm hd (by simp) (Md.mu_ad _ z)) B.cm, B.hne, fun a h z => ?_, by rw [mu]; exact B.sm, by rw [mu]; exact B.cm, B.ho, B.co, B.hS⟩
  · rcases List.mem_cons.mp z with y | y
    · exact B.sm (by rw [← y]; exact ha)
    · exact B.dm a (List.mem_cons_of_mem _ y) (Md.mu_ad _ ha)
  · have d := B.dm a h
    have p := B.pres a h
    unfold Md.ad at z d
    simp only [List.mem_cons, List.not_mem_nil, or_false, not_or] at z d
    rcases z with y | y | y | y | y | y | y | y | y
    · exact d.1 y
    · exact d.2.1 y
    · exact d.2.2.1 y
    · exact d.2.2.2.1 y
    · exact d.2.2.2.2.1 y
    · exact d.2.2.2.2.2.1 y
    · exact d.2.2.2.2.2.2.1 y
    · exact p (by rw [y]; exact hpl)
    · exact d.2.2.2.2.2.2.2.2 y
theorem Bo.m0 (B : Bo K M O hd hc N S H sp tm tl) (k : Kp M.mu H H') (n : MchI K M S H' sp t') : Bo K M O hd hc N S H' sp t' tl := by
  refine ⟨n, B.own.kpo k n.nt B.mch.sub (fun a ha z => ?_), B.ha.kp k (fun z => B.dm hd (by simp) (Md.mu_ad _ z)) B.cm, B.hne, B.dm, B.sm, B.cm, B.ho, B.co, B.hS⟩
  rcases List.mem_cons.mp z with y | y
  · exact B.sm (by rw [← y]; exact ha)
  · exact B.dm a (List.mem_cons_of_mem _ y) (Md.mu_ad _ ha)
theorem Bo.o (B : Bo K M O hd hc N S H sp tm tl) (k : Kp O.mu H H') (n : OwnI O S H' sp t') : Bo K M O hd hc N S H' sp tm t' := by
  obtain ⟨od, ⟨es, W, L⟩, sub, nt⟩ := B.own
  exact ⟨B.mch.kpo k n.nt sub (fun a h => B.dm a (List.mem_cons_of_mem _ h)) W.not_ins, n, B.ha.kp k (fun z => B.ho (List.mem_cons_of_mem _ z)) B.co, B.hne, B.dm, B.sm, B.cm, B.ho, B.co, B.hS⟩
theorem Bo.h (B : Bo K M O hd hc N S H sp tm tl) {N' : Int} (k : Kp [hd] H H') (y : HaI H' hd hc N') : Bo K M O hd hc N' S H' sp tm tl := by
  have nt' : NT S H' := B.mch.nt.kp k (fun a ha _ => by
    rw [List.mem_singleton.mp ha]
    obtain ⟨xs, e⟩ := y.hd
    exact ⟨_, e, fun xs z => by cases z⟩)
  have s1 : ∀ a ∈ [hd], a ∈ S := fun a h => by rw [List.mem_singleton.mp h]; exact B.hS
  refine ⟨B.mch.kpo k nt' s1 (fun a h => B.dm a (by rw [List.mem_singleton.mp h]; simp)) (fun a h C dx fs z => ?_), B.own.kpo k nt' s1 (fun a h => by rw [List.mem_singleton.mp h]; exact B.ho), y, B.hne, B.dm, B.sm, B.cm, B.ho, B.co, B.hS⟩
  rw [List.mem_singleton.mp h] at z
  obtain ⟨xs, e⟩ := B.ha.hd
  rw [e] at z
  cases z
theorem Bo.same (B : Bo K M O hd hc N S H sp tm tl) (s : Same H H') : Bo K M O hd hc N S H' sp tm tl :=
  ⟨B.mch.kpo (R := []) (Kp.same s) (B.mch.nt.same s) (by simp) (by simp) (by simp), B.own.kpo (R := []) (Kp.same s) (B.mch.nt.same s) (by simp) (by simp), B.ha.same s, B.hne, B.dm, B.sm, B.cm, B.ho, B.co, B.hS⟩
theorem Bo.mono (B : Bo K M O hd hc N S H sp tm tl) {N' : Int} (h : N ≤ N') : Bo K M O hd hc N' S H sp tm tl := ⟨B.mch, B.own, B.ha.mono h, B.hne, B.dm, B.sm, B.cm, B.ho, B.co, B.hS⟩
end
/-- what holds of the values alone -/
structure Tk (sp : List Spc) (t : MS) (b : Nat) : Prop where
  ok : MSok sp t
  two : ∀ x ∈ t.log, x.2.2.length ≤ 2
  len : t.log.length ≤ b
theorem Tk.go {sp : List Spc} {t : MS} {b : Nat} (h : Tk sp t b) (sok : ∀ d ∈ sp, d.ok) : Tk sp (goM sp t).2 (b + 1) := ⟨goM_ok h.ok sok, goM_two h.ok sok h.two, Nat.le_trans (goM_len sp t) (Nat.succ_le_succ h.len)⟩
theorem Tk.back {sp : List Spc} {t : MS} {b : Nat} (h : Tk sp t b) (n : Nat) : Tk sp (backM n t) b := ⟨backM_ok h.ok n, backM_two h.two n, by rw [backM_len]; have := h.len; omega⟩
theorem Tk.mono {sp : List Spc} {t : MS} {b c : Nat} (h : Tk sp t b) (z : b ≤ c) : Tk sp t c := ⟨h.ok, h.two, Nat.le_trans h.len z⟩
def lvT (t : MS) (lv : List Lv) : MS := { at' := t.at', v := t.v, cs := t.cs, lv := lv, log := t.log }
theorem Tk.lv {sp : List Spc} {t : MS} {b : Nat} (h : Tk sp t b) {lv : List Lv} (e : lv.length = t.lv.length) : Tk sp (lvT t lv) b := ⟨⟨h.ok.a0, h.ok.a1, h.ok.ok, h.ok.c1, h.ok.c60, e.trans h.ok.len, h.ok.log⟩, h.two, h.len⟩
theorem MchI.lv {M : Md} {S : List Addr} {H H' : Hp} {sp : List Spc} {t : MS} {lv : List Lv} (W : MchI K M S H sp t) (k : Kp [M.A.gl] H H') (g : H' M.A.gl = some (.lst (lvs lv))) (e : lv.length = t.lv.length) : MchI K M S H' sp (lvT t lv) := by
  obtain ⟨nd, ⟨ps, es, W1, L⟩, s, nt⟩ := W
  have w := W1.wd
  have sub : ∀ a ∈ [M.A.gl], a ∈ M.mu := by intro a h; simp at h; simp [h, Md.mu]
  refine ⟨nd, ⟨ps, es, W1.keep nd k (by intro a h; simp at h; simp [h, Md.mu]) (k _ _ (notin1 (ref_m W1.mac w.cel.g)) W1.mac) ⟨k _ _ (notin1 (ref_m w.box w.cel.g)) w.box, k _ _ (notin1 nd.a.ng) w.num, k _ _ (notin1 (ref_m w.sto w.cel.g)) w.sto, ⟨k _ _ (notin1 nd.a.kg) w.cel.k, g, w.cel.len.trans e.symm⟩, k _ _ (notin1 ?_) w.put⟩ (k _ _ (notin1 nd.eg) W1.el), L.kp nt k (fun a h => s _ (sub _ h))⟩, s, nt.kp k (fun a h _ => ?_)⟩
  · exact Ne.symm nd.a.gp
  · rw [List.mem_singleton.mp h]
    exact ⟨_, g, fun xs z => by cases z⟩
theorem OwnI.lv {O : Od} {S : List Addr} {H H' : Hp} {sp : List Spc} {t : MS} {lv : List Lv} (W : OwnI O S H sp t) (k : Kp [O.ll] H H') (g : H' O.ll = some (.lst (lvs lv))) : OwnI O S H' sp (lvT t lv) := by
  obtain ⟨od, ⟨es, W1, L⟩, s, nt⟩ := W
  have km : Kp O.mu H H' := k.mono (by intro a h; simp at h; simp [h, Od.mu])
  have W2 := W1.stepped (at2 := t.at') od nt s km (k _ _ (notin1 od.ol) W1.ow) (k _ _ (notin1 W1.far.2.2.1) W1.sd) (k _ _ (notin1 od.cl) W1.cl) g (k _ _ (notin1 (Ne.symm od.lg)) W1.lg)
  exact ⟨od, ⟨es, W2, L.kp nt km s⟩, s, W2.nt nt km⟩
theorem lvSet_l (X : List Lv) (a b : Nat) (l : Lv) : (lvSet X a b l).length = X.length := lvSet_len X a b l
theorem lvSet_succ (X : List Lv) (a b : Nat) (l : Lv) (h : a ≤ b) : (lvSet X a b l).set b l = lvSet X a (b + 1) l := by
  refine List.ext_getElem? fun j => ?_
  rw [List.getElem?_set, lvSet_get, lvSet_get, lvSet_l]
  by_cases z : b = j
  · subst z
    rw [if_pos rfl]
    by_cases y : b < X.length
    · rw [if_pos y]
      have : X[b]? = some (X[b]'y) := by simp [y]
      rw [this]
      show some l = some (if a ≤ b ∧ b < b + 1 then l else _)
      rw [if_pos ⟨h, Nat.lt_succ_self _⟩]
    · rw [if_neg y, List.getElem?_eq_none (by omega)]
      rfl
  · rw [if_neg z]
    cases X[j]? with
    | none => rfl
    | some x =>
      show some (if a ≤ j ∧ j < b then l else x) = some (if a ≤ j ∧ j < b + 1 then l else x)
      by_cases y : a ≤ j ∧ j < b
      · rw [if_pos y, if_pos ⟨y.1, by omega⟩]
      · rw [if_neg y, if_neg (by omega)]
theorem lvSet_self (X : List Lv) (a : Nat) (l : Lv) : lvSet X a a l = X := by
  refine List.ext_getElem? fun j => ?_
  rw [lvSet_get]
  cases X[j]? with
  | none => rfl
  | some x =>
    show some (if a ≤ j ∧ j < a then l else x) = some x
    rw [if_neg (by omega)]
end
end HB


namespace HB
open PySem PySem.Spec PyProof.Rows L2
local macro_rules | `(tactic| walk_at "ne") => `(tactic| first | assumption | (apply Ne.symm; assumption) | exact ne_of_none (by assumption) (by assumption) | exact ne_new (by assumption) (by assumption) | (intro q; cases q; done))
local macro_rules | `(tactic| walk_at "hp") => `(tactic| first
  | assumption
  | exact upd_same
  | (refine upd_keep ?_ (by assumption); walk_at "hp")
  | (refine upd_far (by walk_at "ne") ?_; walk_at "hp")
  | (refine Same.get (by assumption) ?_; walk_at "hp")
  | (refine Kp.get (by assumption) ?_ (notin1 (by walk_at "ne")); walk_at "hp"))
local macro_rules | `(tactic| walk_at "same") => `(tactic| first
  | assumption
  | exact Same.refl _
  | (refine Same.new ?_ (by assumption); walk_at "same")
  | (refine Same.trans ?_ (by assumption); walk_at "same"))
/-- one row of a reading -/
local macro_rules | `(tactic| walk_at "r1") => `(tactic| first
  | refine ⟨_, rfl, ?_⟩
  | refine ⟨_, _, rfl, rfl, ?_⟩
  | refine ⟨rfl, ?_⟩
  | refine ⟨_, _, _, _, _, rfl, (by walk_at "hp"), (by assumption), (by assumption), rfl, ?_⟩
  | refine ⟨sz_ (by decide), fun _ _ => ?_⟩)
local macro_rules | `(tactic| walk_at "rd") => `(tactic| repeat walk_at "r1")
section
variable {P : Program} {w : World} {K : PySem.W.Frag} {mg : Str → Option Value} {base : Heap}
theorem MchI.mac {M : Md} {S : List Addr} {H : Hp} {sp : List Spc} {t : MS} (W : MchI K M S H sp t) : H M.m = some (.ins (He.ga K "Watched") M.mx (wF M t.at')) := by
  obtain ⟨_, ⟨_, _, W1, _⟩, _, _⟩ := W
  exact W1.mac
def sp_forth (K : PySem.W.Frag) : Sp := fun vs H Q _ => ∃ (m ow : Addr) (n : Int), vs = [.ref m, .ref ow, .int n] ∧ ∃ (M : Md) (O : Od) (hd hc : Addr) (N : Int) (S : List Addr) (sp : List Spc) (t : MS) (b : Nat), M.m = m ∧ O.ow = ow ∧ Bo K M O hd hc N S H sp t t ∧ Tk sp t b ∧ b ≤ 9000 ∧ (∀ d ∈ sp, d.ok) ∧ 0 ≤ n ∧ n ≤ 25 ∧
  ∀ M' t' H', M'.m = M.m → Bo K M' O hd hc N S H' sp t' t' → Tk sp t' (b + 26) → Q (.bl true) H'
def nm_law_forth : List Str := ["_law_machine", "_law_own_here", "_law_most", "_law_word", "_law_step_here"]
theorem sc_law_forth : FnScope nm_law_forth ["_law_machine", "_law_own_here", "_law_most"] (defScope s_law_forth) := ⟨rfl, rfl, rfl, by decide +kernel, rfl, by decide +kernel, by decide +kernel⟩
theorem ok_law_forth (T : Txt K mg) {f : Addr} {fd : FuncData} {dv : List V} {kw : List (Str × V)} (F : FunD K "_law_forth" "_law_forth" (defArgs s_law_forth) (defBody s_law_forth) (defScope s_law_forth) dv kw f fd) : FnOk P w K mg base (CXr P w) 10 f fd ["_law_machine", "_law_own_here", "_law_most"] (sp_forth K) := by
  refine F.ok sc_law_forth (fun vs H Q E h => ?_) (fun cdv A outer s H vs Q E hr h => ?_)
  · obtain ⟨m, ow, n, rfl, _⟩ := h
    rfl
  · obtain ⟨m, ow, n, rfl, h⟩ := h
    refine ⟨_, (pss_cons (ps_set (i := 3) sc_law_forth.nd rfl (Or.inl rfl) pe_str) (pss_cons (ps_for po_cx rfl (pi_range1 rfl T.f_range (pa_cons (pv 2) pa_nil)) (pg_name (i := 4) sc_law_forth.nd rfl (Or.inl rfl)) (pss_one (ps_if (pt_cmpR op_eq (pv 3) pe_str (nomark _)) (pss_cons (ps_set (i := 3) sc_law_forth.nd rfl (Or.inl rfl) (pe_callG (good_law_go T) (hr.mono (by decide)) T.g__law_go hx_cx (pa_cons (pv 1) pa_nil))) (pss_one (ps_if (pt_cmpR op_ne (pe_methG0 (pv 0) T.c_Watched T.m_Watched_step (good_Watched_step T) (hr.mono (by decide)) hx_cx) (pv 3) (nomark _)) (pss_one (ps_ret pe_bl)) pss_nil))) pss_nil))) (pss_one (ps_ret (pe_cmpR op_eq (pe_methG0 (pv 0) T.c_Watched T.m_Watched_step (good_Watched_step T) (hr.mono (by decide)) hx_cx) (pe_callG (good_law_go T) (hr.mono (by decide)) T.g__law_go hx_cx (pa_cons (pv 1) pa_nil)) (nomark _)))))), ?_⟩
    obtain ⟨M, O, hd, hc, N, S, sp, t, b, rfl, rfl, B, tk, b9, sok, n0, n1, k⟩ := h
    refine ⟨_, rfl, n, rfl, by omega, by omega, for_range (lo := 0) (n := n.toNat) (fun i σ H1 => (∃ (z : Str) (v : Option V), σ = [some (.ref M.m), some (.ref O.ow), some (.int n), some (.str z), v]) ∧ ∃ M' t', M'.m = M.m ∧ Bo K M' O hd hc N S H1 sp t' t' ∧ Tk sp t' (b + i)) ⟨⟨_, _, rfl⟩, M, t, rfl, B, tk⟩ ?_ ?_⟩
    · rintro i σ H1 hi ⟨⟨z, v, rfl⟩, M1, t1, e1, B1, tk1⟩
      refine ⟨_, rfl, rfl, _, rfl, ?_⟩
      by_cases hz : z = "on"
      · rw [show decide (V.str z = V.str "on") = true from decide_eq_true (by rw [hz])]
        refine iteT ⟨_, rfl, O.ow, rfl, O, S, sp, t1, rfl, B1.own, tk1.ok, sok, by have := tk1.len; omega, fun H2 k2 o2 => ?_⟩
        have B2 := B1.o k2 o2
        have mac2 := B2.mch.mac
        rw [e1] at mac2
        refine ⟨_, rfl, M.m, M1.mx, _, rfl, mac2, rfl, M.m, rfl, M1, S, sp, t1, e1, B2.mch, tk1.ok, by have := tk1.len; omega, fun pl H3 hpl k3 n3 => ?_⟩
        refine ⟨_, rfl, rfl, _, rfl, ?_⟩
        rw [show decide (V.str (goM sp t1).1 = V.str (goM sp t1).1) = true from decide_eq_true rfl]
        exact iteF ⟨⟨_, _, rfl⟩, { M1 with A := { M1.A with pl := pl } }, _, e1, B2.m hpl k3 n3, tk1.go sok⟩
      · rw [show decide (V.str z = V.str "on") = false from decide_eq_false fun q => hz (V.str.inj q)]
        exact iteF ⟨⟨_, _, rfl⟩, M1, t1, e1, B1, tk1.mono (by omega)⟩
    · rintro σ H1 ⟨⟨z, v, rfl⟩, M1, t1, e1, B1, tk1⟩
      have mac1 := B1.mch.mac
      rw [e1] at mac1
      refine ⟨_, rfl, M.m, M1.mx, _, rfl, mac1, rfl, M.m, rfl, M1, S, sp, t1, e1, B1.mch, tk1.ok, by have := tk1.len; omega, fun pl H2 hpl k2 n2 => ?_⟩
      have B2 := B1.m hpl k2 n2
      refine ⟨_, rfl, O.ow, rfl, O, S, sp, t1, rfl, B2.own, tk1.ok, sok, by have := tk1.len; omega, fun H3 k3 o3 => ?_⟩
      refine ⟨rfl, ?_⟩
      rw [show decide (V.str (goM sp t1).1 = V.str (goM sp t1).1) = true from decide_eq_true rfl]
      exact k { M1 with A := { M1.A with pl := pl } } _ H3 e1 (B2.o k3 o3) ((tk1.go sok).mono (by omega))
theorem good_law_forth (T : Txt K mg) : Good P w K mg base 10 (He.ga K "_law_forth") [] (sp_forth K) := by
  obtain ⟨fd, F⟩ := T.d__law_forth
  exact ⟨⟨fd, _, [], ok_law_forth T F, F.bindsN fun _ _ _ _ _ _ us hl => match us, hl with | [_, _, _], _ => rfl, .nil⟩, F.kp⟩
theorem way3 {r : Int} (h0 : 0 ≤ r) (h1 : r < 3) : ∃ (l : Lv) (u : Bool), atI [V.str "open", V.str "look", V.str "shut"] r = some l.v ∧ ∀ x : Int, atI [V.int 0, V.int x, V.int 0] r = some (.int (if u then x else 0)) := by
  obtain ⟨n, rfl⟩ := Int.eq_ofNat_of_zero_le h0
  match n, h1 with
  | 0, _ => exact ⟨.op, false, rfl, fun _ => rfl⟩
  | 1, _ => exact ⟨.lk, true, rfl, fun _ => rfl⟩
  | 2, _ => exact ⟨.sh, false, rfl, fun _ => rfl⟩
  | n + 3, h => exact absurd h (by omega)
def sp_open (K : PySem.W.Frag) : Sp := fun vs H Q _ => ∃ (h m ow : Addr), vs = [.ref h, .ref m, .ref ow] ∧ ∃ (M : Md) (O : Od) (hd hc : Addr) (N : Int) (S : List Addr) (sp : List Spc) (t : MS) (b : Nat), hd = h ∧ M.m = m ∧ O.ow = ow ∧ Bo K M O hd hc N S H sp t t ∧ Tk sp t b ∧ N ≤ 999999900 ∧
  ∀ t' H', Bo K M O hd hc (N + 2) S H' sp t' t' → Tk sp t' b → t'.log = t.log → Q .non H'
def nm_law_open : List Str := ["_law_hand_here", "_law_machine", "_law_own_here", "_law_way", "_law_size", "_law_low", "_law_word", "_law_cell"]
theorem sc_law_open : FnScope nm_law_open ["_law_hand_here", "_law_machine", "_law_own_here"] (defScope s_law_open) := ⟨rfl, rfl, rfl, by decide +kernel, rfl, by decide +kernel, by decide +kernel⟩
theorem ok_law_open (T : Txt K mg) {f : Addr} {fd : FuncData} {dv : List V} {kw : List (Str × V)} (F : FunD K "_law_open" "_law_open" (defArgs s_law_open) (defBody s_law_open) (defScope s_law_open) dv kw f fd) : FnOk P w K mg base (CXr P w) 5 f fd ["_law_hand_here", "_law_machine", "_law_own_here"] (sp_open K) := by
  refine F.ok sc_law_open (fun vs H Q E h => ?_) (fun cdv A outer s H vs Q E hr h => ?_)
  · obtain ⟨h, m, ow, rfl, _⟩ := h
    rfl
  · obtain ⟨h, m, ow, rfl, h⟩ := h
    refine ⟨_, (pss_cons (ps_set (i := 3) sc_law_open.nd rfl (Or.inl rfl) (pe_callG (good_law_draw T) (hr.mono (by decide)) T.g__law_draw hx_cx (pa_cons (pv 0) (pa_cons pe_int pa_nil)))) (pss_cons (ps_set (i := 4) sc_law_open.nd rfl (Or.inl rfl) (pe_callB call_len_seq (by rfl) T.f_len PySem.boot_len (pa_cons (pe_ix ix_list (pv 2) pe_int (fun _ _ => rfl)) pa_nil))) (pss_cons (ps_set (i := 5) sc_law_open.nd rfl (Or.inl rfl) (pe_ix ix_list (pe_lst (pa_cons pe_int (pa_cons (pe_callG (good_law_draw T) (hr.mono (by decide)) T.g__law_draw hx_cx (pa_cons (pv 0) (pa_cons (pv 4) pa_nil))) (pa_cons pe_int pa_nil)))) (pv 3) (fun _ _ => rfl))) (pss_cons (ps_set (i := 6) sc_law_open.nd rfl (Or.inl rfl) (pe_ix ix_list (pe_lst (pa_cons pe_str (pa_cons pe_str (pa_cons pe_str pa_nil)))) (pv 3) (fun _ _ => rfl))) (pss_cons (ps_expr (pe_methG (pv 1) T.c_Watched T.m_Watched_leave (good_Watched_leave T) (hr.mono (by decide)) hx_cx (pa_cons (pv 5) (pa_cons (pv 4) (pa_cons (pv 6) pa_nil))))) (pss_one (ps_for po_cx rfl (pi_range2 rfl T.f_range (pa_cons (pv 5) (pa_cons (pv 4) pa_nil))) (pg_name (i := 7) sc_law_open.nd rfl (Or.inl rfl)) (pss_one (ps_asg (pv 6) (pg_sub (pe_ix ix_list (pv 2) pe_int (fun _ _ => rfl)) (pv 7) set_list)))))))))), ?_⟩
    obtain ⟨M, O, hd, hc, N, S, sp, t, b, rfl, rfl, rfl, B, tk, hN, k⟩ := h
    have y0 := B.ha
    have hne := B.hne
    have c60 := tk.ok.c60
    have c1 := tk.ok.c1
    have len := tk.ok.len
    refine ⟨_, rfl, hd, _, rfl, hc, _, y0, hne, by omega, by omega, by omega, fun r1 H1 a1 b1 k1 y1 => ?_⟩
    have B1 := B.h k1 y1
    obtain ⟨od, ⟨es1, W1, _⟩, sub, nt1⟩ := B1.own
    refine ⟨_, rfl, O.ow, _, 3, .ref O.cl, rfl, rfl, SqL.of W1.ow, rfl, _, _, rfl, .inl (SqL.of W1.cl), ?_⟩
    have lc : ((ivs t.cs).length : Int) = t.cs.length := by simp
    rw [lc]
    refine ⟨_, rfl, _, rfl, hd, _, rfl, hc, _, y1, hne, by omega, by omega, by omega, fun r2 H2 a2 b2 k2 y2 => ?_⟩
    have B2 := B1.h k2 y2
    refine ⟨sz_ (by simp), fun u hu => ?_⟩
    have s3 := Same.new (o := .lst [.int 0, .int r2, .int 0]) (Same.refl H2) hu
    obtain ⟨l, uu, el, ei⟩ := way3 a1 b1
    refine ⟨_, rfl, u, _, _, _, rfl, rfl, SqL.of upd_same, ei r2, ?_⟩
    have B3 := B2.same s3
    generalize upd H2 u (.lst [.int 0, .int r2, .int 0]) = H3 at *
    refine ⟨sz_ (by simp), fun u' hu' => ?_⟩
    have s4 := Same.new (o := .lst [.str "open", .str "look", .str "shut"]) (Same.refl H3) hu'
    refine ⟨_, rfl, u', _, _, _, rfl, rfl, SqL.of upd_same, el, ?_⟩
    have B4 := B3.same s4
    generalize upd H3 u' (.lst [.str "open", .str "look", .str "shut"]) = H4 at *
    obtain ⟨lo, elo⟩ : ∃ lo, lo = (if uu then r2 else 0) := ⟨_, rfl⟩
    rw [← elo]
    have lo0 : 0 ≤ lo ∧ lo ≤ t.cs.length := by
      rw [elo]
      cases uu
      · exact ⟨Int.le_refl _, by show (0 : Int) ≤ _; omega⟩
      · exact ⟨a2, Int.le_of_lt b2⟩
    obtain ⟨nd, ⟨ps, em, W4, _⟩, _, _⟩ := B4.mch
    refine ⟨_, rfl, M.m, M.mx, _, rfl, W4.mac, rfl, _, rfl, _, rfl, _, rfl, M.m, lo, some (t.cs.length : Int), l.nm, rfl, M, sp, t.at', t.v, t.cs, t.lv, ps, em, rfl, W4, c60, .inl ⟨_, l, rfl, rfl, lo0.1, lo0.2, by omega, fun H5 k5 g5 => ?_⟩⟩
    have e5 : (lvSet t.lv lo.toNat (t.cs.length : Int).toNat l).length = t.lv.length := lvSet_l _ _ _ _
    have B5 := B4.m0 (k5.mono (by intro a h; simp at h; simp [h, Md.mu])) (B4.mch.lv k5 g5 e5)
    obtain ⟨_, ⟨es5, W5, _⟩, _, _⟩ := B5.own
    refine ⟨_, rfl, _, rfl, _, _, rfl, ⟨by omega, by omega, by omega, by omega⟩, for_range (lo := lo) (n := ((t.cs.length : Int) - lo).toNat) (fun i σ H6 => (∃ v : Option V, σ = [some (.ref hd), some (.ref M.m), some (.ref O.ow), some (.int r1), some (.int t.cs.length), some (.int lo), some (.str l.nm), v]) ∧ Kp [O.ll] H5 H6 ∧ H6 O.ll = some (.lst (lvs (lvSet t.lv lo.toNat (lo.toNat + i) l)))) ⟨⟨_, rfl⟩, Kp.refl, by rw [Nat.add_zero, lvSet_self]; exact W5.ll⟩ ?_ ?_⟩
    · rintro i σ H6 hi ⟨⟨v, rfl⟩, q1, q2⟩
      have hj : (lo + (i : Nat)).toNat = lo.toNat + i := by omega
      refine ⟨_, rfl, _, rfl, O.ow, _, 4, .ref O.ll, rfl, rfl, SqL.of (q1 _ _ (notin1 od.ol) W5.ow), rfl, _, rfl, O.ll, _, _, _, rfl, rfl, q2, ixN_int (by omega) (by rw [List.length_map, lvSet_l]; omega), ?_⟩
      refine ⟨⟨_, rfl⟩, q1.set (by simp), ?_⟩
      rw [upd_same, hj, ← Nat.add_assoc, ← lvSet_succ _ _ _ _ (Nat.le_add_right _ _)]
      show some (HO.lst ((List.map Lv.v _).set _ (Lv.v l))) = some (HO.lst (List.map Lv.v _))
      rw [List.map_set]
    · rintro σ H6 ⟨⟨v, rfl⟩, q1, q2⟩
      have hn : lo.toNat + ((t.cs.length : Int) - lo).toNat = (t.cs.length : Int).toNat := by omega
      rw [hn] at q2
      have B6 := B5.o (q1.mono (by intro a h; simp at h; simp [h, Od.mu])) (B5.own.lv q1 q2)
      exact k _ H6 (B6.mono (by omega)) (tk.lv e5) rfl
theorem good_law_open (T : Txt K mg) : Good P w K mg base 5 (He.ga K "_law_open") [] (sp_open K) := by
  obtain ⟨fd, F⟩ := T.d__law_open
  exact ⟨⟨fd, _, [], ok_law_open T F, F.bindsN fun _ _ _ _ _ _ us hl => match us, hl with | [_, _, _], _ => rfl, .nil⟩, F.kp⟩
end
end HB


namespace HB
open PySem PySem.Spec PyProof.Rows L2
local macro_rules | `(tactic| walk_at "ne") => `(tactic| first | assumption | (apply Ne.symm; assumption) | exact ne_of_none (by assumption) (by assumption) | exact ne_new (by assumption) (by assumption) | (intro q; cases q; done))
local macro_rules | `(tactic| walk_at "hp") => `(tactic| first
  | assumption
  | exact upd_same
  | (refine upd_keep ?_ (by assumption); walk_at "hp")
  | (refine upd_far (by walk_at "ne") ?_; walk_at "hp")
  | (refine Same.get (by assumption) ?_; walk_at "hp")
  | (refine Kp.get (by assumption) ?_ (notin1 (by walk_at "ne")); walk_at "hp"))
local macro_rules | `(tactic| walk_at "same") => `(tactic| first
  | assumption
  | exact Same.refl _
  | (refine Same.new ?_ (by assumption); walk_at "same")
  | (refine Same.trans ?_ (by assumption); walk_at "same"))
/-- one row of a reading -/
local macro_rules | `(tactic| walk_at "r1") => `(tactic| first
  | refine ⟨_, rfl, ?_⟩
  | refine ⟨_, _, rfl, rfl, ?_⟩
  | refine ⟨rfl, ?_⟩
  | refine ⟨_, _, _, _, _, rfl, (by walk_at "hp"), (by assumption), (by assumption), rfl, ?_⟩
  | refine ⟨sz_ (by decide), fun _ _ => ?_⟩)
local macro_rules | `(tactic| walk_at "rd") => `(tactic| repeat walk_at "r1")
section
variable {P : Program} {w : World} {K : PySem.W.Frag} {mg : Str → Option Value} {base : Heap}
def Bad (n lo : Int) (be : Option Int) (z : Str) : Prop := be = none ∨ (∃ j, be = some j ∧ ¬ (0 ≤ lo ∧ lo ≤ j ∧ j ≤ n)) ∨ (∃ j, be = some j ∧ (0 ≤ lo ∧ lo ≤ j ∧ j ≤ n) ∧ ∀ l : Lv, z ≠ l.nm)
theorem wrong5 {H : Hp} {n r : Int} {a0 a1 a2 a3 a4 : Addr} (hn : 0 ≤ n) (h0 : 0 ≤ r) (h1 : r < 5) (e0 : H a0 = some (.tup [.int 0, .int (n + 1), .str "shut"])) (e1 : H a1 = some (.tup [.int (-1), .int n, .str "shut"])) (e2 : H a2 = some (.tup [.int 1, .int 0, .str "look"])) (e3 : H a3 = some (.tup [.int 0, .int n, .str "closed"])) (e4 : H a4 = some (.tup [.int 0, .non, .str "open"])) :
    ∃ a lo be z, atI [V.ref a0, .ref a1, .ref a2, .ref a3, .ref a4] r = some (.ref a) ∧ H a = some (.tup [.int lo, onV be, .str z]) ∧ FlatV (.str z) ∧ Bad n lo be z := by
  have f : ∀ l : Lv, FlatV (.str l.nm) := fun l => flatLv l
  obtain ⟨m, rfl⟩ := Int.eq_ofNat_of_zero_le h0
  match m, h1 with
  | 0, _ => exact ⟨a0, 0, some (n + 1), "shut", rfl, e0, f .sh, .inr (.inl ⟨_, rfl, by omega⟩)⟩
  | 1, _ => exact ⟨a1, -1, some n, "shut", rfl, e1, f .sh, .inr (.inl ⟨_, rfl, by omega⟩)⟩
  | 2, _ => exact ⟨a2, 1, some 0, "look", rfl, e2, f .lk, .inr (.inl ⟨_, rfl, by omega⟩)⟩
  | 3, _ => exact ⟨a3, 0, some n, "closed", rfl, e3, (by show (PyData.canLay0 _) = true; decide +kernel), .inr (.inr ⟨_, rfl, ⟨by omega, hn, by omega⟩, fun l => by cases l <;> decide⟩)⟩
  | 4, _ => exact ⟨a4, 0, none, "open", rfl, e4, f .op, .inl rfl⟩
  | m + 5, h => exact absurd h (by omega)
theorem flatN {lo : Int} {be : Option Int} {z : Str} (h : FlatV (.str z)) : ∀ x ∈ [V.int lo, onV be, .str z], FlatV x := fun x hx => by
  simp only [List.mem_cons, List.not_mem_nil, or_false] at hx
  rcases hx with y | y | y <;> rw [y]
  · trivial
  · exact flatO be
  · exact h
def sp_no_leave (K : PySem.W.Frag) : Sp := fun vs H Q _ => ∃ (h m ow : Addr), vs = [.ref h, .ref m, .ref ow] ∧ ∃ (M : Md) (O : Od) (hd hc : Addr) (N : Int) (S : List Addr) (sp : List Spc) (t : MS) (b : Nat), hd = h ∧ M.m = m ∧ O.ow = ow ∧ Bo K M O hd hc N S H sp t t ∧ Tk sp t b ∧ b ≤ 9000 ∧ N ≤ 999999900 ∧
  ∀ H', Bo K M O hd hc (N + 1) S H' sp t t → Q (.bl true) H'
def nm_law_no_leave : List Str := ["_law_hand_here", "_law_machine", "_law_own_here", "_law_size", "_law_wrong", "_law_one", "e"]
theorem sc_law_no_leave : FnScope nm_law_no_leave ["_law_hand_here", "_law_machine", "_law_own_here"] (defScope s_law_no_leave) := ⟨rfl, rfl, rfl, by decide +kernel, rfl, by decide +kernel, by decide +kernel⟩
theorem ok_law_no_leave (T : Txt K mg) {f : Addr} {fd : FuncData} {dv : List V} {kw : List (Str × V)} (F : FunD K "_law_no_leave" "_law_no_leave" (defArgs s_law_no_leave) (defBody s_law_no_leave) (defScope s_law_no_leave) dv kw f fd) : FnOk P w K mg base (CXr P w) 5 f fd ["_law_hand_here", "_law_machine", "_law_own_here"] (sp_no_leave K) := by
  refine F.ok sc_law_no_leave (fun vs H Q E h => ?_) (fun cdv A outer s H vs Q E hr h => ?_)
  · obtain ⟨h, m, ow, rfl, _⟩ := h
    rfl
  · obtain ⟨h, m, ow, rfl, h⟩ := h
    refine ⟨_, (pss_cons (ps_set (i := 3) sc_law_no_leave.nd rfl (Or.inl rfl) (pe_callB call_len_seq (by rfl) T.f_len PySem.boot_len (pa_cons (pe_ix ix_list (pv 2) pe_int (fun _ _ => rfl)) pa_nil))) (pss_cons (ps_set (i := 4) sc_law_no_leave.nd rfl (Or.inl rfl) (pe_lst (pa_cons (pe_tup (pa_cons pe_int (pa_cons (pe_op op_add (pv 3) pe_int) (pa_cons pe_str pa_nil)))) (pa_cons (pe_tup (pa_cons (pe_un un_neg pe_int) (pa_cons (pv 3) (pa_cons pe_str pa_nil)))) (pa_cons (pe_tup (pa_cons pe_int (pa_cons pe_int (pa_cons pe_str pa_nil)))) (pa_cons (pe_tup (pa_cons pe_int (pa_cons (pv 3) (pa_cons pe_str pa_nil)))) (pa_cons (pe_tup (pa_cons pe_int (pa_cons pe_non (pa_cons pe_str pa_nil)))) pa_nil))))))) (pss_cons (ps_set (i := 5) sc_law_no_leave.nd rfl (Or.inl rfl) (pe_ix ix_list (pv 4) (pe_callG (good_law_draw T) (hr.mono (by decide)) T.g__law_draw hx_cx (pa_cons (pv 0) (pa_cons pe_int pa_nil))) (fun _ _ => rfl))) (pss_cons (L2N.ps_try_as (i := 6) (tb := fun W => tDrop (tMethVS P w K mg base "leave" 4 (WE W) (tVar 1) (tCons (tOp (rIxT K) (tVar 5) (tC (.int 0))) (tCons (tOp (rIxT K) (tVar 5) (tC (.int 1))) (tCons (tOp (rIxT K) (tVar 5) (tC (.int 2))) tNil))))) (ts := fun a cls d => tRet (tAndV (tOp (rEqD K) (tTup (tCons (tXf a cls d (He.ga K "NoLeave") "low" (tVar 6)) (tCons (tXf a cls d (He.ga K "NoLeave") "behind" (tVar 6)) (tCons (tXf a cls d (He.ga K "NoLeave") "word" (tVar 6)) tNil)))) (tVar 5)) (tCall (sp_stands K) [] E0 (tCons (tVar 1) (tCons (tVar 2) tNil))))) rfl rfl sc_law_no_leave.nd rfl rfl ⟨rfl, by decide, .inl T.g_NoLeave⟩ tk_cx (fun W pn xe tk _ => (pss_one (ps_expr (pe_methVS (k := 4) (pv 1) (hr.mono (by decide)) (fun σ => L2N.passAt tk σ) (pa_cons (pe_ix ix_tup (pv 5) pe_int (fun _ _ => rfl)) (pa_cons (pe_ix ix_tup (pv 5) pe_int (fun _ _ => rfl)) (pa_cons (pe_ix ix_tup (pv 5) pe_int (fun _ _ => rfl)) pa_nil))))))) (fun a oe cls d pn hz hf => (pss_one (ps_ret (pe_and (pe_cmpR (op_eqD (have z := hu65 hr; Nat.lt_of_succ_lt z)) (pe_tup (pa_cons (pe_xf T.xf_NoLeave T.n_NoLeave_low hz.zc hf (pv 6)) (pa_cons (pe_xf T.xf_NoLeave T.n_NoLeave_behind hz.zc hf (pv 6)) (pa_cons (pe_xf T.xf_NoLeave T.n_NoLeave_word hz.zc hf (pv 6)) pa_nil)))) (pv 5) (nomark _)) (pe_one (pe_callGH (goodH_law_stands T) (have z : L2H.RoomH 3 _ := L2H.roomH_of (hr.mono (by decide)); ⟨z.dp, z.un⟩) ⟨(a, oe), ⟨rfl, hf.elim fun vs e => ⟨vs, e, hz.2.2 vs e⟩⟩, List.mem_cons_self⟩ T.g__law_stands (pa_cons (pv 1) (pa_cons (pv 2) pa_nil))))))))) (pss_one (ps_ret pe_bl)))))), ?_⟩
    obtain ⟨M, O, hd, hc, N, S, sp, t, b, rfl, rfl, rfl, B, tk, b9, hN, k⟩ := h
    have y0 := B.ha
    have hne := B.hne
    have c60 := tk.ok.c60
    have c1 := tk.ok.c1
    have len := tk.ok.len
    obtain ⟨od, ⟨es1, W1, _⟩, sub, nt1⟩ := B.own
    refine ⟨_, rfl, O.ow, _, 3, .ref O.cl, rfl, rfl, SqL.of W1.ow, rfl, _, _, rfl, .inl (SqL.of W1.cl), ?_⟩
    have lc : ((ivs t.cs).length : Int) = t.cs.length := by simp
    rw [lc]
    refine ⟨_, rfl, _, _, rfl, rfl, sz_ (by simp), fun a1 h1 => ?_⟩
    have s1 := Same.new (o := .tup [.int 0, .int ((t.cs.length : Int) + 1), .str "shut"]) (Same.refl H) h1
    have e1 : upd H a1 (.tup [.int 0, .int ((t.cs.length : Int) + 1), .str "shut"]) a1 = some (.tup [.int 0, .int ((t.cs.length : Int) + 1), .str "shut"]) := upd_same
    generalize upd H a1 (.tup [.int 0, .int ((t.cs.length : Int) + 1), .str "shut"]) = H1 at *
    refine ⟨_, rfl, _, rfl, sz_ (by simp), fun a2 h2 => ?_⟩
    have s2 := Same.new (o := .tup [.int (-1), .int (t.cs.length : Int), .str "shut"]) (Same.refl H1) h2
    have e2 : upd H1 a2 (.tup [.int (-1), .int (t.cs.length : Int), .str "shut"]) a2 = some (.tup [.int (-1), .int (t.cs.length : Int), .str "shut"]) := upd_same
    generalize upd H1 a2 (.tup [.int (-1), .int (t.cs.length : Int), .str "shut"]) = H2 at *
    refine ⟨sz_ (by simp), fun a3 h3 => ?_⟩
    have s3 := Same.new (o := .tup [.int 1, .int 0, .str "look"]) (Same.refl H2) h3
    have e3 : upd H2 a3 (.tup [.int 1, .int 0, .str "look"]) a3 = some (.tup [.int 1, .int 0, .str "look"]) := upd_same
    generalize upd H2 a3 (.tup [.int 1, .int 0, .str "look"]) = H3 at *
    refine ⟨_, rfl, sz_ (by simp), fun a4 h4 => ?_⟩
    have s4 := Same.new (o := .tup [.int 0, .int (t.cs.length : Int), .str "closed"]) (Same.refl H3) h4
    have e4 : upd H3 a4 (.tup [.int 0, .int (t.cs.length : Int), .str "closed"]) a4 = some (.tup [.int 0, .int (t.cs.length : Int), .str "closed"]) := upd_same
    generalize upd H3 a4 (.tup [.int 0, .int (t.cs.length : Int), .str "closed"]) = H4 at *
    refine ⟨sz_ (by simp), fun a5 h5 => ?_⟩
    have s5 := Same.new (o := .tup [.int 0, .non, .str "open"]) (Same.refl H4) h5
    have e5 : upd H4 a5 (.tup [.int 0, .non, .str "open"]) a5 = some (.tup [.int 0, .non, .str "open"]) := upd_same
    generalize upd H4 a5 (.tup [.int 0, .non, .str "open"]) = H5 at *
    refine ⟨sz_ (by simp), fun u hu => ?_⟩
    have s6 := Same.new (o := .lst [.ref a1, .ref a2, .ref a3, .ref a4, .ref a5]) (Same.refl H5) hu
    have e6 : upd H5 u (.lst [.ref a1, .ref a2, .ref a3, .ref a4, .ref a5]) u = some (.lst [.ref a1, .ref a2, .ref a3, .ref a4, .ref a5]) := upd_same
    generalize upd H5 u (.lst [.ref a1, .ref a2, .ref a3, .ref a4, .ref a5]) = H6 at *
    have S06 : Same H H6 := s1.trans (s2.trans (s3.trans (s4.trans (s5.trans s6))))
    have B6 := B.same S06
    have y6 := B6.ha
    have e1 := (s2.trans (s3.trans (s4.trans (s5.trans s6)))) _ _ e1
    have e2 := (s3.trans (s4.trans (s5.trans s6))) _ _ e2
    have e3 := (s4.trans (s5.trans s6)) _ _ e3
    have e4 := (s5.trans s6) _ _ e4
    have e5 := s6 _ _ e5
    have nhd : ∀ {b xs}, H6 b = some (.tup xs) → b ≠ hd := fun {b xs} e z => by
      obtain ⟨ys, q⟩ := y6.hd
      rw [z, q] at e
      cases e
    have nu : u ≠ hd := Ne.symm ((B.same (s1.trans (s2.trans (s3.trans (s4.trans s5))))).ha.nh hu)
    refine ⟨_, rfl, _, rfl, hd, _, rfl, hc, _, y6, hne, by omega, by omega, by omega, fun r7 H7 a7 b7 k7 y7 => ?_⟩
    have B7 := B6.h k7 y7
    obtain ⟨q, lo, be, z, eq, eq', fz, bad⟩ := wrong5 (n := (t.cs.length : Int)) (by omega) a7 b7 e1 e2 e3 e4 e5
    have u7 := k7 _ _ (notin1 nu) e6
    have q7 := k7 _ _ (notin1 (nhd eq')) eq'
    refine ⟨u, _, _, _, rfl, rfl, SqL.of u7, eq, ?_⟩
    obtain ⟨nd, ⟨ps, em, W7, _⟩, _, _⟩ := B7.mch
    have bad' : be = none ∨ (∃ j, be = some j ∧ ¬ (0 ≤ lo ∧ lo ≤ j ∧ j ≤ t.lv.length)) ∨ (∃ j, be = some j ∧ (0 ≤ lo ∧ lo ≤ j ∧ j ≤ t.lv.length) ∧ ∀ l : Lv, z ≠ l.nm) := by
      rw [len]
      exact bad
    refine ⟨_, rfl, M.m, _, M.mx, _, _, _, rfl, W7.mac, rfl, T.c_Watched, T.m_Watched_leave, good_Watched_leave T, _, rfl, q, _, 0, .int lo, rfl, rfl, SqT.of q7, rfl, _, rfl, q, _, 1, onV be, rfl, rfl, SqT.of q7, rfl, _, rfl, q, _, 2, .str z, rfl, rfl, SqT.of q7, rfl, ?_⟩
    refine ⟨M.m, lo, be, z, rfl, M, sp, t.at', t.v, t.cs, t.lv, ps, em, rfl, W7, c60, .inr ⟨bad', fun d H8 s8 e8 => ?_⟩⟩
    refine ⟨true, T.x_NoLeave_NoLeave, fun _ a ha => ?_, fun q => Bool.noConfusion q⟩
    have B8 := B7.same s8
    have q8 := s8 _ _ q7
    refine ⟨_, rfl, rfl, rfl, d, _, _, rfl, e8, rfl, _, rfl, rfl, rfl, d, _, _, rfl, e8, rfl, _, rfl, rfl, rfl, d, _, _, rfl, e8, rfl, sz_ (by simp), fun p hp => ?_⟩
    have s9 := Same.new (o := .tup [.int lo, onV be, .str z]) (Same.refl H8) hp
    have e9 : upd H8 p (.tup [.int lo, onV be, .str z]) p = some (.tup [.int lo, onV be, .str z]) := upd_same
    have q9 := s9 _ _ q8
    have B9 := B8.same s9
    generalize upd H8 p (.tup [.int lo, onV be, .str z]) = H9 at *
    have okd : OkD (.tuple ([V.int lo, onV be, .str z].map toD)) 1 := okT (okFs (flatN fz))
    refine ⟨_, rfl, _, _, .tup (SqT.of e9) (dpFs (flatN fz)), .tup (SqT.of q9) (dpFs (flatN fz)), okd.shaped (by decide), okd.shaped (by decide), ?_⟩
    rw [eqv_self okd]
    refine ⟨_, rfl, iteT ?_⟩
    exact ⟨_, rfl, _, rfl, M.m, O.ow, rfl, M, O, S, sp, t, rfl, rfl, B9.mch, B9.own, Nat.le_trans tk.len (Nat.le_trans b9 (by decide)), tk.two, fun H' s' => k H' (B9.same s' |>.mono (by omega))⟩
theorem good_law_no_leave (T : Txt K mg) : Good P w K mg base 5 (He.ga K "_law_no_leave") [] (sp_no_leave K) := by
  obtain ⟨fd, F⟩ := T.d__law_no_leave
  exact ⟨⟨fd, _, [], ok_law_no_leave T F, F.bindsN fun _ _ _ _ _ _ us hl => match us, hl with | [_, _, _], _ => rfl, .nil⟩, F.kp⟩
end
end HB


namespace HB
open PySem PySem.Spec PyProof.Rows L2
local macro_rules | `(tactic| walk_at "ne") => `(tactic| first | assumption | (apply Ne.symm; assumption) | exact ne_of_none (by assumption) (by assumption) | exact ne_new (by assumption) (by assumption) | (intro q; cases q; done))
local macro_rules | `(tactic| walk_at "hp") => `(tactic| first
  | assumption
  | exact upd_same
  | (refine upd_keep ?_ (by assumption); walk_at "hp")
  | (refine upd_far (by walk_at "ne") ?_; walk_at "hp")
  | (refine Same.get (by assumption) ?_; walk_at "hp")
  | (refine Kp.get (by assumption) ?_ (notin1 (by walk_at "ne")); walk_at "hp"))
local macro_rules | `(tactic| walk_at "same") => `(tactic| first
  | assumption
  | exact Same.refl _
  | (refine Same.new ?_ (by assumption); walk_at "same")
  | (refine Same.trans ?_ (by assumption); walk_at "same"))
/-- one row of a reading -/
local macro_rules | `(tactic| walk_at "r1") => `(tactic| first
  | refine ⟨_, rfl, ?_⟩
  | refine ⟨_, _, rfl, rfl, ?_⟩
  | refine ⟨rfl, ?_⟩
  | refine ⟨_, _, _, _, _, rfl, (by walk_at "hp"), (by assumption), (by assumption), rfl, ?_⟩
  | refine ⟨sz_ (by decide), fun _ _ => ?_⟩)
local macro_rules | `(tactic| walk_at "rd") => `(tactic| repeat walk_at "r1")
section
variable {P : Program} {w : World} {K : PySem.W.Frag} {mg : Str → Option Value} {base : Heap}
theorem pg_allS {X : Cx} {o : Expr} {to : TE} {p2 pos : Pos} (ho : PE X o to)
    (ha : ∀ v, assign (.Subscript o (.Slice none none none p2) pos) X.env v = (do
      let ov ← holding [v] (eval o X.env)
      let iv ← holding [v, ov] (eval (.Slice none none none p2) X.env)
      standAt pos
      holding [v, ov, iv] (setItem ov iv v)
      release [iv, v, ov] []) := by intro _; rfl) : PG X (.Subscript o (.Slice none none none p2) pos) (gAll to) := by
  refine ⟨fun pins s σ H v u Q I r h => ?_⟩
  rw [ha]
  refine wpAny_bind (wpAny_holding (thn (ho.run pins s σ H _ I h) fun ov s1 ⟨x, H1, I1, r1, l, b, xs, ys, ex, ev, hne, hl, hb, hz, q⟩ => ?_))
  subst ex
  subst ev
  cases r
  cases r1
  refine wpAny_bind (wpAny_holding (wpAny_Slice ?_))
  rw [evalPart_none]
  refine wpAny_pure (wpAny_pure (wpAny_pure ?_))
  refine wpAny_bind (wpAny_standAt (wpAny_bind (wpAny_holding ?_)))
  have I4 : Inv X pins σ H1 { s1 with heap := s1.heap.push { cls := .type "slice", data := .fields #[.none, .none, .none] } } := I1.kept (t' := s1.toks) fun b ob q => Heap.get?_push_of_some _ q
  obtain ⟨z, its, n, rr, el, e⟩ := I4.lstM hl
  obtain ⟨z2, its2, n2, r2, el2, e2⟩ := I4.lstM hb
  refine setItem_all e e2 hne (Heap.IsSliceOf.new ..) (by simp only [List.size_toArray]; omega) ?_
  refine wpAny_release ⟨σ, _, I4.lset (its' := its2) (t' := s1.toks) hl e ?_ r2 (by omega), q⟩
  apply Array.toList_inj.mp
  simp
theorem HaI.ne {H : Hp} {hd hc : Addr} {N : Int} (y : HaI H hd hc N) : hd ≠ hc := fun z => by
  obtain ⟨xs, f, i, r, n, a, b, _⟩ := y.ex
  rw [z, b] at a
  cases xs with
  | nil => cases a
  | cons x xs => cases a
theorem OwI.nto {O : Od} {H : Hp} {sp : List Spc} {at' : Int} {v : Six} {cs : List Int} {lv : List Lv} {es : List Addr} (W : OwI O H sp at' v cs lv es) : NT O.mu H := fun a h => by
  unfold Od.mu at h
  simp only [List.mem_cons, List.not_mem_nil, or_false] at h
  rcases h with z | z | z | z | z <;> subst z
  · exact ⟨_, W.ow, fun xs z => by cases z⟩
  · exact ⟨_, W.sd, fun xs z => by cases z⟩
  · exact ⟨_, W.cl, fun xs z => by cases z⟩
  · exact ⟨_, W.ll, fun xs z => by cases z⟩
  · exact ⟨_, W.lg, fun xs z => by cases z⟩
theorem bo_start {M : Md} {O : Od} {hd hc : Addr} {N N1 : Int} {H1 H2 H3 : Hp} {sp : List Spc} {at' : Int} {v : Six} {cs : List Int} {lv : List Lv} (fO : ∀ a ∈ [O.ow, O.sl, O.sd, O.cl, O.ll, O.lg], H1 a = none) (od : Odd O) (y1 : HaI H1 hd hc N1) (k2 : Kp [hd] H1 H2) (y2 : HaI H2 hd hc N) (W2 : OwI O H2 sp at' v cs lv [])
    (fm : H2 M.m = none) (fM : Fresh M H2) (s3 : Same H2 H3) (nd : Ndm M) (W3 : MI K M H3 sp at' v cs lv [] []) : Bo K M O hd hc N (M.mu ++ (hd :: O.mu)) H3 sp { at' := at', v := v, cs := cs, lv := lv, log := [] } { at' := at', v := v, cs := cs, lv := lv, log := [] } := by
  have W2' := W2.same s3
  have y3 := y2.same s3
  have ad : ∀ a ∈ M.ad, H2 a = none := fun a h => by
    unfold Md.ad at h
    rcases List.mem_cons.mp h with z | z
    · rw [z]; exact fm
    · exact fM.f a z
  have pr : ∀ a ∈ hd :: O.mu, H2 a ≠ none := fun a h z => by
    rcases List.mem_cons.mp h with q | q
    · obtain ⟨xs, e⟩ := y2.hd
      rw [q, e] at z
      cases z
    · obtain ⟨o, e, _⟩ := W2.nto a q
      rw [e] at z
      cases z
  have nt : NT (M.mu ++ (hd :: O.mu)) H3 := fun a h => by
    rcases List.mem_append.mp h with q | q
    · exact W3.nt a q
    · rcases List.mem_cons.mp q with q | q
      · obtain ⟨xs, e⟩ := y3.hd
        exact ⟨_, by rw [q]; exact e, fun xs z => by cases z⟩
      · exact W2'.nto a q
  have nl : ∀ {S : List Addr}, LogI S H3 [] [] := fun {S} => ⟨rfl, fun i e x h _ => by simp at h⟩
  refine ⟨⟨nd, ⟨[], [], W3, nl⟩, fun a h => List.mem_append_left _ h, nt⟩, ⟨od, ⟨[], W2', nl⟩, fun a h => List.mem_append_right _ (List.mem_cons_of_mem _ h), nt⟩, y3, y3.ne, fun a h z => pr a h (ad a z), fun z => ?_, fun z => ?_, fun z => ?_, fun z => ?_, by simp⟩
  · have := ad _ (Md.mu_ad _ z)
    rw [W2.sl] at this
    cases this
  · have := ad _ (Md.mu_ad _ z)
    obtain ⟨xs, e⟩ := y2.hc
    rw [e] at this
    cases this
  · have := fO hd (by unfold Od.mu at z; simp only [List.mem_cons, List.not_mem_nil, or_false] at z ⊢; rcases z with z | z | z | z | z | z <;> simp [z])
    obtain ⟨xs, e⟩ := y1.hd
    rw [e] at this
    cases this
  · have := fO hc (by unfold Od.mu at z; simp only [List.mem_cons, List.not_mem_nil, or_false] at z ⊢; rcases z with z | z | z | z | z <;> simp [z])
    obtain ⟨xs, e⟩ := y1.hc
    rw [e] at this
    cases this
theorem lvSet_all (X : List Lv) (n : Nat) (l : Lv) (h : n = X.length) : lvSet X 0 n l = List.replicate X.length l := by
  refine List.ext_getElem? fun j => ?_
  rw [lvSet_get]
  by_cases z : j < X.length
  · have e : X[j]? = some (X[j]'z) := by simp [z]
    rw [e]
    show some (if 0 ≤ j ∧ j < n then l else _) = _
    rw [if_pos ⟨Nat.zero_le _, by omega⟩]
    simp [z]
  · rw [List.getElem?_eq_none (by omega)]
    simp
    omega
def sp_law (K : PySem.W.Frag) : Sp := fun vs H Q _ => ∃ (l : Addr), vs = [.ref l] ∧ ∃ xs, SqL K H l (ivs xs) ∧ ∀ H', Q (.bl true) H'
def nm_law : List Str := ["_law_script", "_law_hand_here", "_law_own_here", "_law_machine", "_law_turn", "_law_most", "_law_many"]
theorem sc_law : FnScope nm_law ["_law_script"] (defScope s_law) := ⟨rfl, rfl, rfl, by decide +kernel, rfl, by decide +kernel, by decide +kernel⟩
theorem ok_law (T : Txt K mg) {f : Addr} {fd : FuncData} {dv : List V} {kw : List (Str × V)} (F : FunD K "law" "law" (defArgs s_law) (defBody s_law) (defScope s_law) dv kw f fd) : FnOk P w K mg base (CXr P w) 12 f fd ["_law_script"] (sp_law K) := by
  refine F.ok sc_law (fun vs H Q E h => ?_) (fun cdv A outer s H vs Q E hr h => ?_)
  · obtain ⟨l, rfl, _⟩ := h
    rfl
  · obtain ⟨l, rfl, h⟩ := h
    refine ⟨_, (pss_cons (ps_set (i := 1) sc_law.nd rfl (Or.inl rfl) (pe_callG (good_law_hand T) (hr.mono (by decide)) T.g__law_hand hx_cx (pa_cons (pv 0) pa_nil))) (pss_cons (ps_set (i := 2) sc_law.nd rfl (Or.inl rfl) (pe_callG (good_law_own T) (hr.mono (by decide)) T.g__law_own hx_cx (pa_cons (pv 1) (pa_cons pe_int (pa_cons pe_bl pa_nil))))) (pss_cons (ps_set (i := 3) sc_law.nd rfl (Or.inl rfl) (pe_callG (good_law_watched T) (hr.mono (by decide)) T.g__law_watched hx_cx (pa_cons (pv 2) pa_nil))) (pss_cons (ps_for po_cx rfl (pi_range1 rfl T.f_range (pa_cons pe_int pa_nil)) (pg_name (i := 4) sc_law.nd rfl (Or.inl rfl)) (pss_cons (ps_set (i := 5) sc_law.nd rfl (Or.inl rfl) (pe_ix ix_list (pe_lst (pa_cons pe_int (pa_cons pe_int (pa_cons pe_int (pa_cons pe_int pa_nil))))) (pe_callG (good_law_draw T) (hr.mono (by decide)) T.g__law_draw hx_cx (pa_cons (pv 1) (pa_cons pe_int pa_nil))) (fun _ _ => rfl))) (pss_cons (ps_if (PW.pt (pw_or (pt_not (pt_val (pe_callG (good_law_forth T) (hr.mono (by decide)) T.g__law_forth hx_cx (pa_cons (pv 3) (pa_cons (pv 2) (pa_cons (pv 5) pa_nil)))))) (pw_or1 (pt_not (pt_val (pe_callG (good_law_stands T) (hr.mono (by decide)) T.g__law_stands hx_cx (pa_cons (pv 3) (pa_cons (pv 2) pa_nil)))))))) (pss_one (ps_ret pe_bl)) pss_nil) (pss_cons (ps_if (pt_not (pt_val (pe_callG (good_law_no_leave T) (hr.mono (by decide)) T.g__law_no_leave hx_cx (pa_cons (pv 1) (pa_cons (pv 3) (pa_cons (pv 2) pa_nil)))))) (pss_one (ps_ret pe_bl)) pss_nil) (pss_cons (ps_expr (pe_callG (good_law_open T) (hr.mono (by decide)) T.g__law_open hx_cx (pa_cons (pv 1) (pa_cons (pv 3) (pa_cons (pv 2) pa_nil))))) (pss_cons (ps_set (i := 6) sc_law.nd rfl (Or.inl rfl) (pe_callG (good_law_draw T) (hr.mono (by decide)) T.g__law_draw hx_cx (pa_cons (pv 1) (pa_cons (pe_callB (call_min2 rfl) (by rfl) T.f_min (by decide +kernel) (pa_cons pe_int (pa_cons (pe_op op_add (pe_callB call_len_seq (by rfl) T.f_len PySem.boot_len (pa_cons (pe_ix ix_list (pv 2) pe_int (fun _ _ => rfl)) pa_nil)) pe_int) pa_nil))) pa_nil)))) (pss_cons (ps_expr (pe_methG (pv 3) T.c_Watched T.m_Watched_back (good_Watched_back T) (hr.mono (by decide)) hx_cx (pa_cons (pv 6) pa_nil))) (pss_cons (ps_expr (pe_callG (good_law_undo T) (hr.mono (by decide)) T.g__law_undo hx_cx (pa_cons (pv 2) (pa_cons (pv 6) pa_nil)))) (pss_cons (ps_if (pt_not (pt_val (pe_callG (good_law_stands T) (hr.mono (by decide)) T.g__law_stands hx_cx (pa_cons (pv 3) (pa_cons (pv 2) pa_nil))))) (pss_one (ps_ret pe_bl)) pss_nil) (pss_one (ps_if (pt_cmpR op_eq (pe_callG (good_law_draw T) (hr.mono (by decide)) T.g__law_draw hx_cx (pa_cons (pv 1) (pa_cons pe_int pa_nil))) pe_int (nomark _)) (pss_cons (ps_expr (pe_methG (pv 3) T.c_Watched T.m_Watched_leave (good_Watched_leave T) (hr.mono (by decide)) hx_cx (pa_cons pe_int (pa_cons (pe_callB call_len_seq (by rfl) T.f_len PySem.boot_len (pa_cons (pe_ix ix_list (pv 2) pe_int (fun _ _ => rfl)) pa_nil)) (pa_cons pe_str pa_nil))))) (pss_one (ps_asg (pe_op op_rep (pe_lst (pa_cons pe_str pa_nil)) (pe_callB call_len_seq (by rfl) T.f_len PySem.boot_len (pa_cons (pe_ix ix_list (pv 2) pe_int (fun _ _ => rfl)) pa_nil))) (pg_allS (pe_ix ix_list (pv 2) pe_int (fun _ _ => rfl)))))) pss_nil))))))))))) (pss_one (ps_ret (pe_callG (good_law_stands T) (hr.mono (by decide)) T.g__law_stands hx_cx (pa_cons (pv 3) (pa_cons (pv 2) pa_nil))))))))), ?_⟩
    obtain ⟨xs, hl, k⟩ := h
    refine ⟨_, rfl, l, rfl, xs, hl, fun hd hc H1 fh fc s1 y1 => ?_⟩
    have hne : hd ≠ hc := y1.ne
    refine ⟨_, rfl, hd, rfl, hc, _, y1, hne, by decide, fun O sp at' v cs lv H2 fO od k2 y2 W2 n1 n2 sok a0 a1 vok c1 c2 hin len => ?_⟩
    refine ⟨_, rfl, O.ow, rfl, O, sp, at', v, cs, lv, [], rfl, W2, sok, n1, n2, vok, a0, a1, len, c1, by omega, hin, fun M H3 fm fM s3 nd W3 => ?_⟩
    obtain ⟨t0, et⟩ : ∃ t0 : MS, t0 = { at' := at', v := v, cs := cs, lv := lv, log := [] } := ⟨_, rfl⟩
    obtain ⟨S, eS⟩ : ∃ S, S = M.mu ++ (hd :: O.mu) := ⟨_, rfl⟩
    have B0 : Bo K M O hd hc (0 + 1000) S H3 sp t0 t0 := by
      rw [et, eS]
      exact bo_start fO od y1 k2 y2 W2 fm fM s3 nd W3
    have tk0 : Tk sp t0 0 := by
      rw [et]
      exact ⟨⟨a0, a1, vok, c1, by show cs.length ≤ 60; omega, len, by simp⟩, by simp, Nat.le_refl 0⟩
    refine ⟨8, rfl, by decide, by decide, for_range (lo := 0) (n := 8) (fun i σ H4 => (∃ v1 v2 v3 : Option V, σ = [some (.ref l), some (.ref hd), some (.ref O.ow), some (.ref M.m), v1, v2, v3]) ∧ ∃ M1 t, M1.m = M.m ∧ Bo K M1 O hd hc (1000 + 6 * (i : Nat)) S H4 sp t t ∧ Tk sp t (26 * i)) ⟨⟨_, _, _, rfl⟩, M, t0, rfl, B0, tk0⟩ ?_ ?_⟩
    · rintro i σ H4 hi ⟨⟨v1, v2, v3, rfl⟩, M1, t, e1, B4, tk4⟩
      refine ⟨sz_ (by simp), fun u hu => ?_⟩
      have s4 := Same.new (o := .lst [.int 0, .int 2, .int 8, .int 25]) (Same.refl H4) hu
      have u5 : upd H4 u (.lst [.int 0, .int 2, .int 8, .int 25]) u = some (.lst [.int 0, .int 2, .int 8, .int 25]) := upd_same
      have nu : u ≠ hd := Ne.symm (B4.ha.nh hu)
      have B5 := B4.same s4
      generalize upd H4 u (.lst [.int 0, .int 2, .int 8, .int 25]) = H5 at *
      have y5 := B5.ha
      refine ⟨_, rfl, hd, _, rfl, hc, _, y5, hne, by omega, by omega, by omega, fun r6 H6 a6 b6 k6 y6 => ?_⟩
      obtain ⟨mn, hmn, emn⟩ := at_memI (is := [0, 2, 8, 25]) (r := r6) a6 (by simp; omega)
      have hmn : 0 ≤ mn ∧ mn ≤ 25 := by
        simp only [List.mem_cons, List.not_mem_nil, or_false] at hmn
        omega
      refine ⟨u, _, _, .int mn, rfl, rfl, SqL.of (k6 _ _ (notin1 nu) u5), emn, ?_⟩
      have B6 := B5.h k6 y6
      refine ⟨_, rfl, _, rfl, _, rfl, M.m, O.ow, mn, rfl, M1, O, hd, hc, _, S, sp, t, _, e1, rfl, B6, tk4, by omega, sok, hmn.1, hmn.2, fun M2 t2 H7 e2 B7 tk7 => ?_⟩
      have e2 : M2.m = M.m := e2.trans e1
      refine ⟨_, rfl, iteF ⟨_, rfl, _, rfl, M.m, O.ow, rfl, M2, O, S, sp, t2, e2, rfl, B7.mch, B7.own, by have := tk7.len; omega, tk7.two, fun H8 s8 => ⟨_, rfl, iteF ?_⟩⟩⟩
      have B8 := B7.same s8
      refine ⟨_, rfl, _, rfl, _, rfl, hd, M.m, O.ow, rfl, M2, O, hd, hc, _, S, sp, t2, _, rfl, e2, rfl, B8, tk7, by omega, by omega, fun H9 B9 => ⟨_, rfl, iteF ?_⟩⟩
      refine ⟨_, rfl, _, rfl, _, rfl, hd, M.m, O.ow, rfl, M2, O, hd, hc, _, S, sp, t2, _, rfl, e2, rfl, B9, tk7, by omega, fun t3 H10 B10 tk10 el => ?_⟩
      have y10 := B10.ha
      obtain ⟨_, ⟨es10, W10, L10⟩, _, _⟩ := B10.own
      refine ⟨_, rfl, _, rfl, O.ow, _, 5, .ref O.lg, rfl, rfl, SqL.of W10.ow, rfl, _, _, rfl, .inl (SqL.of W10.lg), _, _, rfl, rfl, _, _, rfl, ?_⟩
      rw [List.length_map, L10.1]
      obtain ⟨m, em⟩ : ∃ m : Int, m = (if (t3.log.length : Int) + 1 < 9 then (t3.log.length : Int) + 1 else 9) := ⟨_, rfl⟩
      rw [← em]
      have hm : 1 ≤ m ∧ m ≤ 9 ∧ m ≤ (t3.log.length : Int) + 1 := by
        rw [em]
        split <;> omega
      refine ⟨hd, m, rfl, hc, _, y10, hne, by omega, by omega, by omega, fun r11 H11 a11 b11 k11 y11 => ?_⟩
      have B11 := B10.h k11 y11
      have mac11 := B11.mch.mac
      rw [e2] at mac11
      have l11 := tk10.len
      have nn : ((r11.toNat : Nat) : Int) = r11 := Int.toNat_of_nonneg a11
      refine ⟨_, rfl, M.m, M2.mx, _, rfl, mac11, rfl, _, rfl, M.m, r11, rfl, M2, S, sp, t3, e2, B11.mch, tk10.ok, by omega, a11, by omega, fun H12 k12 n12 => ?_⟩
      have B12 := B11.m0 k12 n12
      refine ⟨_, rfl, _, rfl, O.ow, r11, rfl, O, S, sp, t3, rfl, B12.own, tk10.ok, by omega, a11, by omega, fun H13 k13 o13 => ?_⟩
      have B13 := B12.o k13 o13
      have tk13 := tk10.back r11.toNat
      generalize backM r11.toNat t3 = t4 at *
      refine ⟨_, rfl, _, rfl, M.m, O.ow, rfl, M2, O, S, sp, t4, e2, rfl, B13.mch, B13.own, by have := tk13.len; omega, tk13.two, fun H14 s14 => ⟨_, rfl, iteF ?_⟩⟩
      have B14 := B13.same s14
      have y14 := B14.ha
      refine ⟨_, rfl, hd, _, rfl, hc, _, y14, hne, by omega, by omega, by omega, fun r15 H15 a15 b15 k15 y15 => ?_⟩
      have B15 := B14.h k15 y15
      refine ⟨rfl, _, rfl, ?_⟩
      by_cases r0 : r15 = 0
      · rw [show decide (V.int r15 = V.int 0) = true from dI_t r0]
        have mac15 := B15.mch.mac
        rw [e2] at mac15
        obtain ⟨nd5, ⟨ps, em5, W15, _⟩, _, _⟩ := B15.mch
        obtain ⟨_, ⟨es15, Wo15, _⟩, _, _⟩ := B15.own
        have c60 := tk13.ok.c60
        have len4 := tk13.ok.len
        refine iteT ⟨_, rfl, M.m, M2.mx, _, rfl, mac15, rfl, _, rfl, O.ow, _, 3, .ref O.cl, rfl, rfl, SqL.of Wo15.ow, rfl, _, _, rfl, .inl (SqL.of Wo15.cl), ?_⟩
        have lc : ((ivs t4.cs).length : Int) = t4.cs.length := by simp
        rw [lc]
        refine ⟨M.m, 0, some (t4.cs.length : Int), "open", rfl, M2, sp, t4.at', t4.v, t4.cs, t4.lv, ps, em5, e2, W15, c60, .inl ⟨_, .op, rfl, rfl, Int.le_refl 0, by omega, by omega, fun H16 k16 g16 => ?_⟩⟩
        rw [show lvSet t4.lv (0 : Int).toNat (t4.cs.length : Int).toNat .op = List.replicate t4.lv.length .op from lvSet_all _ _ _ (by omega)] at g16
        have el : (List.replicate t4.lv.length Lv.op).length = t4.lv.length := List.length_replicate
        have B16 := B15.m0 (k16.mono (by intro a h; simp at h; simp [h, Md.mu])) (B15.mch.lv k16 g16 el)
        refine ⟨sz_ (by simp), fun q hq => ?_⟩
        have s17 := Same.new (o := .lst [.str "open"]) (Same.refl H16) hq
        have q17 : upd H16 q (.lst [.str "open"]) q = some (.lst [.str "open"]) := upd_same
        have B17 := B16.same s17
        generalize upd H16 q (.lst [.str "open"]) = H17 at *
        obtain ⟨od17, ⟨es17, Wo17, _⟩, _, _⟩ := B17.own
        refine ⟨_, rfl, O.ow, _, 3, .ref O.cl, rfl, rfl, SqL.of Wo17.ow, rfl, _, _, rfl, .inl (SqL.of Wo17.cl), ?_⟩
        rw [lc]
        refine ⟨q, _, _, rfl, rfl, q17, by omega, by omega, sz_ (by simp; omega), fun l0 hl0 => ?_⟩
        have ef : (List.replicate (t4.cs.length : Int).toNat [V.str "open"]).flatten = lvs (List.replicate t4.lv.length .op) := by
          rw [len4]
          exact fold_op _
        rw [ef]
        have s18 := Same.new (o := .lst (lvs (List.replicate t4.lv.length .op))) (Same.refl H17) hl0
        have l18 : upd H17 l0 (.lst (lvs (List.replicate t4.lv.length .op))) l0 = some (.lst (lvs (List.replicate t4.lv.length .op))) := upd_same
        have B18 := B17.same s18
        have nl : O.ll ≠ l0 := ne_of_none Wo17.ll hl0
        generalize upd H17 l0 (.lst (lvs (List.replicate t4.lv.length .op))) = H18 at *
        have Wo18 := Wo17.same s18
        refine ⟨_, rfl, O.ow, _, 4, .ref O.ll, rfl, rfl, SqL.of Wo18.ow, rfl, O.ll, l0, _, _, rfl, rfl, nl, Wo18.ll, l18, ?_, ?_⟩
        · show (lvs t4.lv).length + (lvs (List.replicate t4.lv.length .op)).length ≤ sizeLine
          rw [List.length_map, List.length_map, el]
          exact Nat.le_trans (show t4.lv.length + t4.lv.length ≤ 120 by omega) (by decide)
        · have kl : Kp [O.ll] H18 (upd H18 O.ll (.lst (lvs (List.replicate t4.lv.length .op)))) := Kp.refl.set (by simp)
          have B19 := B18.o (kl.mono (by intro a h; simp at h; simp [h, Od.mu])) (B18.own.lv (t := t4) kl upd_same)
          exact ⟨⟨_, _, _, rfl⟩, M2, _, e2, B19.mono (by omega), (tk13.lv el).mono (by omega)⟩
      · rw [show decide (V.int r15 = V.int 0) = false from dI_f r0]
        exact iteF ⟨⟨_, _, _, rfl⟩, M2, t4, e2, B15.mono (by omega), tk13.mono (by omega)⟩
    · rintro σ H4 ⟨⟨v1, v2, v3, rfl⟩, M1, t, e1, B4, tk4⟩
      refine ⟨_, rfl, _, rfl, M.m, O.ow, rfl, M1, O, S, sp, t, e1, rfl, B4.mch, B4.own, by have := tk4.len; omega, tk4.two, fun H' _ => k H'⟩
theorem good_law (T : Txt K mg) : Good P w K mg base 12 (He.ga K "law") [] (sp_law K) := by
  obtain ⟨fd, F⟩ := T.d_law
  exact ⟨⟨fd, _, [], ok_law T F, F.bindsN fun _ _ _ _ _ _ us hl => match us, hl with | [_], _ => rfl, .nil⟩, F.kp⟩
end
end HB


/-! the end: the facts, the walk, the row -/
namespace HB
open PySem PySem.Spec PyProof.Rows L2
theorem walk_E {l : PySem.W.OpenLaw} {n k : Nat} {q : Program} {loose : List Str} {XP : (Str → Option Value) → Heap → Prop} {YP : World → Heap → Prop} {d : DefRec} {CX : World → CXT} {x : Str}
    (hn : l.most = some n) (hn2 : n ≤ sizeLine) (hdf : d.params.defaults = []) (hr : Room k callerA)
    (F : ∀ (w : World) (mg : Str → Option Value) (fa : Addr) (h : Heap), YP w h → h.Ns mainGlobals mg → mg d.name = some (.ref fa) →
      ∃ (K : PySem.W.Frag) (fd : FuncData) (sp : Sp), K.In h ∧ (∀ (s : Shared) (u : Value), BindsTo s fd ⟨[u], []⟩ [(x, u)]) ∧
        (∀ (H : Hp) (a : Addr) (ns : List Int), ns.length ≤ n → Only H → SqL K H a (ns.map V.int) → sp [.ref a] H (fun v _ => v = .bl true) fun _ _ _ => False) ∧
        ∀ base : Heap, K.In base → base.Ns mainGlobals mg → FnOk l.prog w K mg base (CX w) k fa fd [x] sp)
    (hCX : ∀ (w : World) (H : Hp) (s : Shared) (e : Value) (s' : Shared), CX w [] H s (fun _ _ _ => False) e s' → False) :
    PySem.W.WalkO q loose XP YP l.row.toRowW d [] (fun f vs => PySem.call f vs) := by
  refine Att.attach_call hn hdf fun w s₀ s₁ mg mb fa o pm cd doc a vs ns G Y ho hd hcd hmg hobj hints hlen hg => ?_
  obtain ⟨K, fd, sp, KX, hb, hsp, hF⟩ := F w mg fa _ Y G.T.g hmg
  exact law_call KX G.T.g G.T.b G.T.builtins G.T.nolimit hg hobj hints (Nat.le_trans hlen hn2) hr hF hb (fun H hO hS => hsp H a ns hlen hO hS) fun H e s' => hCX w H s₁ e s'
theorem saysZ {K : PySem.W.Frag} (h : obsZ K = valZ) : He.SaysD fa fn K ∧ (exs.all fun f => f K) = true := by
  have h1 : He.obsD fa fn K = He.valD fn := congrArg Prod.fst h
  have h2 : (exs.all fun f => f K) = true := congrArg Prod.snd h
  exact ⟨h1, h2⟩
theorem facts {P : Program} {w : World} {K : PySem.W.Frag} {h : Heap} {mg : Str → Option Value} {f : Addr} (X : K.In h) (G : h.Ns mainGlobals mg) (hfa : mg ("law" : Str) = some (.ref f)) (c : obsZ K = valZ) :
    ∃ fd : FuncData, (∀ (s : Shared) (v : Value), BindsTo s fd ⟨[v], []⟩ [("_law_script", v)]) ∧ ∀ base : Heap, K.In base → base.Ns mainGlobals mg → FnOk P w K mg base (CXr P w) 12 f fd ["_law_script"] (sp_law K) := by
  obtain ⟨c1, c2⟩ := saysZ c
  have T : Txt K mg := ⟨c1, c2, h, X, G⟩
  obtain ⟨fd, F⟩ := T.d_law
  have e := hfa.symm.trans T.g_law
  cases e
  have b := FunD.bindsA (ps := ["_law_script"]) F fun _ _ _ _ _ _ us hl => match us, hl with | [_], _ => rfl
  exact ⟨fd, fun s v => b s [v] rfl, fun base _ _ => ok_law T F⟩
end HB
open PySem PySem.W PySem.Calls PyProof.Rows
theorem PySem.Challenge.cw_haulbell_k58_whole_stops_and_back_holds : PySem.Challenge.rw_haulbell_k58_whole_stops_and_back.Holds := by
  w_on; o_law
  refine HandSHeadRun.head_any (r := OpenLaw.row PySem.Challenge.rw_haulbell_k58_whole_stops_and_back) (q := view (OpenLaw.row PySem.Challenge.rw_haulbell_k58_whole_stops_and_back).prog [88]) (H := HB.hk) (ob := HB.ob) (M := 40000) (loose := HB.loose) (d := HandSHeadRun.topDef (OpenLaw.row PySem.Challenge.rw_haulbell_k58_whole_stops_and_back).prog 88) (kwd := []) HB.ob_eq
    (by kernel_rfl) (fun s => by kernel_rfl) HB.run (by kernel_rfl) (by kernel_rfl) (by kernel_rfl) (by rfl) (by first | assumption | decide +kernel) (by decide +kernel) ⟨rfl, rfl, rfl, rfl, rfl, by decide +kernel⟩ ?hw ?hc
  case hw => w_witness2
  case hc =>
    refine HB.walk_E (l := PySem.Challenge.rw_haulbell_k58_whole_stops_and_back) (n := 63) (k := 12) (x := "_law_script") (CX := HB.CXr PySem.Challenge.rw_haulbell_k58_whole_stops_and_back.prog) rfl (by decide) (by kernel_rfl) ⟨rfl, by decide, by decide⟩ ?F (fun w H s e s' z => by
      obtain ⟨_, _, _, _, _, _, _, _, _, _, _, _, q⟩ := z
      exact q)
    intro w mg fa h Y G hmg0
    obtain ⟨K, KX, c⟩ := Y
    have hmg : mg ("law" : PySem.Str) = some (.ref fa) := by
      have e : (HandSHeadRun.topDef (OpenLaw.row PySem.Challenge.rw_haulbell_k58_whole_stops_and_back).prog 88).name = ("law" : PySem.Str) := by kernel_rfl
      rw [← e]
      exact hmg0
    obtain ⟨fd, hb, hF⟩ := HB.facts (P := (PySem.Challenge.rw_haulbell_k58_whole_stops_and_back).prog) (w := w) KX G hmg c
    exact ⟨K, fd, HB.sp_law K, KX, hb, fun H a ns hl _ hS => ⟨a, rfl, ns, hS, fun _ => rfl⟩, hF⟩

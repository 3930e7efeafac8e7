import PyProof.Rows.All
import Wide.All
import OpenK.AllK
import Wide.FinOn
import KE.KStateDown
import HandS.ForMost
import HandS.ForExc
import HandS.Codes
import HandS.Defaults
import HandS.IsInst
import HandS.Wide
import HandS.Lambda
import HandS.EndTab
import HandS.HeadHook4
import HandS.HeadWalk
import HandS.ExcIs
import HandS.Head2
import HandS.ListItems
import HandS.NoneIn
import HandS.Flow
import HandS.Conv
import HandS.DictComp
import HandS.Walk
import PySem.Challenge.RW_toothyard_k44_whole_meetings_counted
set_option Elab.async false
set_option linter.all false
set_option maxRecDepth 100000
/-! Toothyard, law k44: the text by places and what the head says of it. Printed by gen_text.py. -/
namespace Ty
open PySem PySem.Spec PyProof.Rows L2
def top (i : Nat) : Stmt := PySem.Challenge.pw_toothyard_k44_whole_meetings_counted.main.body.getD i (.Pass ⟨0, 0, 0, 0⟩)
abbrev sDcommon : Stmt := top 9
abbrev sDbefore : Stmt := top 11
abbrev sDbegin_of : Stmt := top 27
abbrev sDhand_of : Stmt := top 28
abbrev sDlead_of : Stmt := top 29
abbrev sDceiling : Stmt := top 30
abbrev sDmeeting : Stmt := top 31
abbrev sDnumbers_of : Stmt := top 32
abbrev sDfound_of : Stmt := top 33
abbrev sDmeetings : Stmt := top 34
abbrev sDcount_of : Stmt := top 35
abbrev sDwheels_of : Stmt := top 38
abbrev sDarbors_of : Stmt := top 39
abbrev sDasked_by_wheels : Stmt := top 40
abbrev sDasked_by : Stmt := top 41
abbrev sDall_asked : Stmt := top 42
abbrev sDtake : Stmt := top 43
abbrev sDsolved_by : Stmt := top 44
abbrev sDsolved_all : Stmt := top 46
abbrev sDspeeds : Stmt := top 47
abbrev sDlaw_drawn : Stmt := top 51
abbrev sDlaw_mix : Stmt := top 52
abbrev sDlaw_ratio : Stmt := top 53
abbrev sDlaw_name : Stmt := top 54
abbrev sDlaw_turned_rows : Stmt := top 55
abbrev sDlaw_arbors : Stmt := top 56
abbrev sDlaw_bell : Stmt := top 57
abbrev sDlaw_shown : Stmt := top 58
abbrev sDlaw_clock : Stmt := top 59
abbrev sDlaw_no_ask : Stmt := top 60
abbrev sDlaw_hands : Stmt := top 61
abbrev sDlaw_ahead : Stmt := top 62
abbrev sDlaw_due : Stmt := top 63
abbrev sDlaw_part_right : Stmt := top 64
abbrev sDlaw : Stmt := top 65
abbrev sRatio_init : Stmt := inClass (top 10) 0
abbrev sRatio_plus : Stmt := inClass (top 10) 1
abbrev sRatio_minus : Stmt := inClass (top 10) 2
abbrev sRatio_times : Stmt := inClass (top 10) 3
abbrev sRatio_over : Stmt := inClass (top 10) 4
abbrev sRatio_turned : Stmt := inClass (top 10) 5
abbrev sRatio_sign : Stmt := inClass (top 10) 6
abbrev sRatio_floor : Stmt := inClass (top 10) 7
abbrev sRatio_rest : Stmt := inClass (top 10) 8
abbrev sArbor_init : Stmt := inClass (top 15) 0
abbrev sWheel_init : Stmt := inClass (top 16) 0
abbrev sMesh_init : Stmt := inClass (top 17) 0
abbrev sRing_init : Stmt := inClass (top 17) 0
abbrev sDrive_init : Stmt := inClass (top 20) 0
abbrev sStill_init : Stmt := inClass (top 21) 0
abbrev sHand_init : Stmt := inClass (top 22) 0
abbrev sCount_init : Stmt := inClass (top 23) 0
abbrev sBell_init : Stmt := inClass (top 24) 0
abbrev sAsked_init : Stmt := inClass (top 37) 0
abbrev sAsked_add : Stmt := inClass (top 37) 1
abbrev sAsked_without : Stmt := inClass (top 37) 2
abbrev sAsked_by_first : Stmt := inClass (top 37) 3
abbrev sWork_init : Stmt := inClass (top 49) 0
abbrev sWork_its_rows : Stmt := inClass (top 49) 1
abbrev sWork_speed : Stmt := inClass (top 49) 3
/-! ### defs as data -/
def dDcommon : He.DefD := ⟨("common", none), "common", "common", defArgs sDcommon, defBody sDcommon, defScope sDcommon, [], []⟩
def dDbefore : He.DefD := ⟨("before", none), "before", "before", defArgs sDbefore, defBody sDbefore, defScope sDbefore, [], []⟩
def dDbegin_of : He.DefD := ⟨("begin_of", none), "begin_of", "begin_of", defArgs sDbegin_of, defBody sDbegin_of, defScope sDbegin_of, [], []⟩
def dDhand_of : He.DefD := ⟨("hand_of", none), "hand_of", "hand_of", defArgs sDhand_of, defBody sDhand_of, defScope sDhand_of, [], []⟩
def dDlead_of : He.DefD := ⟨("lead_of", none), "lead_of", "lead_of", defArgs sDlead_of, defBody sDlead_of, defScope sDlead_of, [], []⟩
def dDceiling : He.DefD := ⟨("ceiling", none), "ceiling", "ceiling", defArgs sDceiling, defBody sDceiling, defScope sDceiling, [], []⟩
def dDmeeting : He.DefD := ⟨("meeting", none), "meeting", "meeting", defArgs sDmeeting, defBody sDmeeting, defScope sDmeeting, [], []⟩
def dDnumbers_of : He.DefD := ⟨("numbers_of", none), "numbers_of", "numbers_of", defArgs sDnumbers_of, defBody sDnumbers_of, defScope sDnumbers_of, [], []⟩
def dDfound_of : He.DefD := ⟨("found_of", none), "found_of", "found_of", defArgs sDfound_of, defBody sDfound_of, defScope sDfound_of, [], []⟩
def dDmeetings : He.DefD := ⟨("meetings", none), "meetings", "meetings", defArgs sDmeetings, defBody sDmeetings, defScope sDmeetings, [], []⟩
def dDcount_of : He.DefD := ⟨("count_of", none), "count_of", "count_of", defArgs sDcount_of, defBody sDcount_of, defScope sDcount_of, [], []⟩
def dDwheels_of : He.DefD := ⟨("wheels_of", none), "wheels_of", "wheels_of", defArgs sDwheels_of, defBody sDwheels_of, defScope sDwheels_of, [], []⟩
def dDarbors_of : He.DefD := ⟨("arbors_of", none), "arbors_of", "arbors_of", defArgs sDarbors_of, defBody sDarbors_of, defScope sDarbors_of, [], []⟩
def dDasked_by_wheels : He.DefD := ⟨("asked_by_wheels", none), "asked_by_wheels", "asked_by_wheels", defArgs sDasked_by_wheels, defBody sDasked_by_wheels, defScope sDasked_by_wheels, [], []⟩
def dDasked_by : He.DefD := ⟨("asked_by", none), "asked_by", "asked_by", defArgs sDasked_by, defBody sDasked_by, defScope sDasked_by, [], []⟩
def dDall_asked : He.DefD := ⟨("all_asked", none), "all_asked", "all_asked", defArgs sDall_asked, defBody sDall_asked, defScope sDall_asked, [], []⟩
def dDtake : He.DefD := ⟨("take", none), "take", "take", defArgs sDtake, defBody sDtake, defScope sDtake, [], []⟩
def dDsolved_by : He.DefD := ⟨("solved_by", none), "solved_by", "solved_by", defArgs sDsolved_by, defBody sDsolved_by, defScope sDsolved_by, [.non], []⟩
def dDsolved_all : He.DefD := ⟨("solved_all", none), "solved_all", "solved_all", defArgs sDsolved_all, defBody sDsolved_all, defScope sDsolved_all, [], []⟩
def dDspeeds : He.DefD := ⟨("speeds", none), "speeds", "speeds", defArgs sDspeeds, defBody sDspeeds, defScope sDspeeds, [], []⟩
def dDlaw_drawn : He.DefD := ⟨("_law_drawn", none), "_law_drawn", "_law_drawn", defArgs sDlaw_drawn, defBody sDlaw_drawn, defScope sDlaw_drawn, [], []⟩
def dDlaw_mix : He.DefD := ⟨("_law_mix", none), "_law_mix", "_law_mix", defArgs sDlaw_mix, defBody sDlaw_mix, defScope sDlaw_mix, [], []⟩
def dDlaw_ratio : He.DefD := ⟨("_law_ratio", none), "_law_ratio", "_law_ratio", defArgs sDlaw_ratio, defBody sDlaw_ratio, defScope sDlaw_ratio, [], []⟩
def dDlaw_name : He.DefD := ⟨("_law_name", none), "_law_name", "_law_name", defArgs sDlaw_name, defBody sDlaw_name, defScope sDlaw_name, [], []⟩
def dDlaw_turned_rows : He.DefD := ⟨("_law_turned_rows", none), "_law_turned_rows", "_law_turned_rows", defArgs sDlaw_turned_rows, defBody sDlaw_turned_rows, defScope sDlaw_turned_rows, [], []⟩
def dDlaw_arbors : He.DefD := ⟨("_law_arbors", none), "_law_arbors", "_law_arbors", defArgs sDlaw_arbors, defBody sDlaw_arbors, defScope sDlaw_arbors, [], []⟩
def dDlaw_bell : He.DefD := ⟨("_law_bell", none), "_law_bell", "_law_bell", defArgs sDlaw_bell, defBody sDlaw_bell, defScope sDlaw_bell, [], []⟩
def dDlaw_shown : He.DefD := ⟨("_law_shown", none), "_law_shown", "_law_shown", defArgs sDlaw_shown, defBody sDlaw_shown, defScope sDlaw_shown, [], []⟩
def dDlaw_clock : He.DefD := ⟨("_law_clock", none), "_law_clock", "_law_clock", defArgs sDlaw_clock, defBody sDlaw_clock, defScope sDlaw_clock, [], []⟩
def dDlaw_no_ask : He.DefD := ⟨("_law_no_ask", none), "_law_no_ask", "_law_no_ask", defArgs sDlaw_no_ask, defBody sDlaw_no_ask, defScope sDlaw_no_ask, [], []⟩
def dDlaw_hands : He.DefD := ⟨("_law_hands", none), "_law_hands", "_law_hands", defArgs sDlaw_hands, defBody sDlaw_hands, defScope sDlaw_hands, [], []⟩
def dDlaw_ahead : He.DefD := ⟨("_law_ahead", none), "_law_ahead", "_law_ahead", defArgs sDlaw_ahead, defBody sDlaw_ahead, defScope sDlaw_ahead, [], []⟩
def dDlaw_due : He.DefD := ⟨("_law_due", none), "_law_due", "_law_due", defArgs sDlaw_due, defBody sDlaw_due, defScope sDlaw_due, [], []⟩
def dDlaw_part_right : He.DefD := ⟨("_law_part_right", none), "_law_part_right", "_law_part_right", defArgs sDlaw_part_right, defBody sDlaw_part_right, defScope sDlaw_part_right, [], []⟩
def dDlaw : He.DefD := ⟨("law", none), "law", "law", defArgs sDlaw, defBody sDlaw, defScope sDlaw, [], []⟩
def dRatio_init : He.DefD := ⟨("Ratio", some "__init__"), "__init__", "Ratio.__init__", defArgs sRatio_init, defBody sRatio_init, defScope sRatio_init, [.int 1], []⟩
def dRatio_plus : He.DefD := ⟨("Ratio", some "plus"), "plus", "Ratio.plus", defArgs sRatio_plus, defBody sRatio_plus, defScope sRatio_plus, [], []⟩
def dRatio_minus : He.DefD := ⟨("Ratio", some "minus"), "minus", "Ratio.minus", defArgs sRatio_minus, defBody sRatio_minus, defScope sRatio_minus, [], []⟩
def dRatio_times : He.DefD := ⟨("Ratio", some "times"), "times", "Ratio.times", defArgs sRatio_times, defBody sRatio_times, defScope sRatio_times, [], []⟩
def dRatio_over : He.DefD := ⟨("Ratio", some "over"), "over", "Ratio.over", defArgs sRatio_over, defBody sRatio_over, defScope sRatio_over, [], []⟩
def dRatio_turned : He.DefD := ⟨("Ratio", some "turned"), "turned", "Ratio.turned", defArgs sRatio_turned, defBody sRatio_turned, defScope sRatio_turned, [], []⟩
def dRatio_sign : He.DefD := ⟨("Ratio", some "sign"), "sign", "Ratio.sign", defArgs sRatio_sign, defBody sRatio_sign, defScope sRatio_sign, [], []⟩
def dRatio_floor : He.DefD := ⟨("Ratio", some "floor"), "floor", "Ratio.floor", defArgs sRatio_floor, defBody sRatio_floor, defScope sRatio_floor, [], []⟩
def dRatio_rest : He.DefD := ⟨("Ratio", some "rest"), "rest", "Ratio.rest", defArgs sRatio_rest, defBody sRatio_rest, defScope sRatio_rest, [], []⟩
def dArbor_init : He.DefD := ⟨("Arbor", some "__init__"), "__init__", "Arbor.__init__", defArgs sArbor_init, defBody sArbor_init, defScope sArbor_init, [], []⟩
def dWheel_init : He.DefD := ⟨("Wheel", some "__init__"), "__init__", "Wheel.__init__", defArgs sWheel_init, defBody sWheel_init, defScope sWheel_init, [], []⟩
def dMesh_init : He.DefD := ⟨("Mesh", some "__init__"), "__init__", "Pair.__init__", defArgs sMesh_init, defBody sMesh_init, defScope sMesh_init, [.non], []⟩
def dRing_init : He.DefD := ⟨("Ring", some "__init__"), "__init__", "Pair.__init__", defArgs sRing_init, defBody sRing_init, defScope sRing_init, [.non], []⟩
def dDrive_init : He.DefD := ⟨("Drive", some "__init__"), "__init__", "Drive.__init__", defArgs sDrive_init, defBody sDrive_init, defScope sDrive_init, [], []⟩
def dStill_init : He.DefD := ⟨("Still", some "__init__"), "__init__", "Still.__init__", defArgs sStill_init, defBody sStill_init, defScope sStill_init, [], []⟩
def dHand_init : He.DefD := ⟨("Hand", some "__init__"), "__init__", "Hand.__init__", defArgs sHand_init, defBody sHand_init, defScope sHand_init, [.non], []⟩
def dCount_init : He.DefD := ⟨("Count", some "__init__"), "__init__", "Count.__init__", defArgs sCount_init, defBody sCount_init, defScope sCount_init, [.int 0], []⟩
def dBell_init : He.DefD := ⟨("Bell", some "__init__"), "__init__", "Bell.__init__", defArgs sBell_init, defBody sBell_init, defScope sBell_init, [], []⟩
def dAsked_init : He.DefD := ⟨("Asked", some "__init__"), "__init__", "Asked.__init__", defArgs sAsked_init, defBody sAsked_init, defScope sAsked_init, [], []⟩
def dAsked_add : He.DefD := ⟨("Asked", some "add"), "add", "Asked.add", defArgs sAsked_add, defBody sAsked_add, defScope sAsked_add, [], []⟩
def dAsked_without : He.DefD := ⟨("Asked", some "without"), "without", "Asked.without", defArgs sAsked_without, defBody sAsked_without, defScope sAsked_without, [], []⟩
def dAsked_by_first : He.DefD := ⟨("Asked", some "by_first"), "by_first", "Asked.by_first", defArgs sAsked_by_first, defBody sAsked_by_first, defScope sAsked_by_first, [], []⟩
def dWork_init : He.DefD := ⟨("Work", some "__init__"), "__init__", "Work.__init__", defArgs sWork_init, defBody sWork_init, defScope sWork_init, [], []⟩
def dWork_its_rows : He.DefD := ⟨("Work", some "its_rows"), "its_rows", "Work.its_rows", defArgs sWork_its_rows, defBody sWork_its_rows, defScope sWork_its_rows, [], []⟩
def dWork_speed : He.DefD := ⟨("Work", some "speed"), "speed", "Work.speed", defArgs sWork_speed, defBody sWork_speed, defScope sWork_speed, [], []⟩
def faL : List He.Fa := [He.Fa.glo "common", He.Fa.glo "before", He.Fa.glo "begin_of", He.Fa.glo "hand_of", He.Fa.glo "lead_of", He.Fa.glo "ceiling", He.Fa.glo "meeting", He.Fa.glo "numbers_of", He.Fa.glo "found_of", He.Fa.glo "meetings", He.Fa.glo "count_of", He.Fa.glo "wheels_of", He.Fa.glo "arbors_of", He.Fa.glo "asked_by_wheels", He.Fa.glo "asked_by", He.Fa.glo "all_asked", He.Fa.glo "take", He.Fa.glo "solved_by", He.Fa.glo "solved_all", He.Fa.glo "speeds", He.Fa.glo "_law_drawn", He.Fa.glo "_law_mix", He.Fa.glo "_law_ratio", He.Fa.glo "_law_name", He.Fa.glo "_law_turned_rows", He.Fa.glo "_law_arbors", He.Fa.glo "_law_bell", He.Fa.glo "_law_shown", He.Fa.glo "_law_clock", He.Fa.glo "_law_no_ask"] ++ ([He.Fa.glo "_law_hands", He.Fa.glo "_law_ahead", He.Fa.glo "_law_due", He.Fa.glo "_law_part_right", He.Fa.glo "law", He.Fa.glo "Ratio", He.Fa.glo "Arbor", He.Fa.glo "Wheel", He.Fa.glo "Mesh", He.Fa.glo "Ring", He.Fa.glo "Drive", He.Fa.glo "Still", He.Fa.glo "Hand", He.Fa.glo "Count", He.Fa.glo "Bell", He.Fa.glo "Asked", He.Fa.glo "Work", He.Fa.glo "NoAsk", He.Fa.glo "NoRatio", He.Fa.glo "RowError", He.Fa.glo "Stuck", He.Fa.glo "Free", He.Fa.glo "WorkError", He.Fa.free "len", He.Fa.free "abs", He.Fa.free "int", He.Fa.free "str", He.Fa.free "sum", He.Fa.free "min", He.Fa.free "max"] ++ ([He.Fa.free "isinstance", He.Fa.free "dict", He.Fa.free "list", He.Fa.free "tuple", He.Fa.free "range", He.Fa.free "enumerate", He.Fa.free "reversed", He.Fa.cls "Ratio", He.Fa.mkr "Ratio", He.Fa.meth "Ratio" "plus", He.Fa.meth "Ratio" "minus", He.Fa.meth "Ratio" "times", He.Fa.meth "Ratio" "over", He.Fa.meth "Ratio" "turned", He.Fa.meth "Ratio" "sign", He.Fa.meth "Ratio" "floor", He.Fa.meth "Ratio" "rest", He.Fa.noat "Ratio" "top", He.Fa.noat "Ratio" "bottom", He.Fa.cls "Arbor", He.Fa.mkr "Arbor", He.Fa.noat "Arbor" "way", He.Fa.noat "Arbor" "name", He.Fa.cls "Wheel", He.Fa.mkr "Wheel", He.Fa.noat "Wheel" "way", He.Fa.noat "Wheel" "name", He.Fa.noat "Wheel" "arbor", He.Fa.noat "Wheel" "teeth", He.Fa.cls "Mesh"] ++ ([He.Fa.mkr "Mesh", He.Fa.noat "Mesh" "way", He.Fa.noat "Mesh" "one", He.Fa.noat "Mesh" "other", He.Fa.noat "Mesh" "arm", He.Fa.cls "Ring", He.Fa.mkr "Ring", He.Fa.noat "Ring" "way", He.Fa.noat "Ring" "one", He.Fa.noat "Ring" "other", He.Fa.noat "Ring" "arm", He.Fa.cls "Drive", He.Fa.mkr "Drive", He.Fa.noat "Drive" "way", He.Fa.noat "Drive" "arbor", He.Fa.noat "Drive" "ratio", He.Fa.cls "Still", He.Fa.mkr "Still", He.Fa.noat "Still" "way", He.Fa.noat "Still" "arbor", He.Fa.cls "Hand", He.Fa.mkr "Hand", He.Fa.noat "Hand" "way", He.Fa.noat "Hand" "name", He.Fa.noat "Hand" "arbor", He.Fa.noat "Hand" "marks", He.Fa.noat "Hand" "begin", He.Fa.cls "Count", He.Fa.mkr "Count", He.Fa.noat "Count" "way"] ++ ([He.Fa.noat "Count" "name", He.Fa.noat "Count" "arbor", He.Fa.noat "Count" "teeth", He.Fa.noat "Count" "begin", He.Fa.cls "Bell", He.Fa.mkr "Bell", He.Fa.noat "Bell" "way", He.Fa.noat "Bell" "name", He.Fa.noat "Bell" "counter", He.Fa.noat "Bell" "strokes", He.Fa.cls "Asked", He.Fa.mkr "Asked", He.Fa.meth "Asked" "add", He.Fa.meth "Asked" "without", He.Fa.meth "Asked" "by_first", He.Fa.noat "Asked" "terms", He.Fa.noat "Asked" "total", He.Fa.cls "Work", He.Fa.mkr "Work", He.Fa.meth "Work" "its_rows", He.Fa.meth "Work" "speed", He.Fa.noat "Work" "all_rows", He.Fa.noat "Work" "known", He.Fa.noat "Work" "by_names", He.Fa.noat "Work" "moment", He.Fa.exc "NoAsk", He.Fa.exm "NoAsk" "WorkError" true, He.Fa.int "MOST_MOMENTS" 1000]))))
def fnL : List He.DefD := [dDcommon, dDbefore, dDbegin_of, dDhand_of, dDlead_of, dDceiling, dDmeeting, dDnumbers_of, dDfound_of, dDmeetings, dDcount_of, dDwheels_of, dDarbors_of, dDasked_by_wheels, dDasked_by, dDall_asked, dDtake, dDsolved_by, dDsolved_all, dDspeeds, dDlaw_drawn, dDlaw_mix, dDlaw_ratio, dDlaw_name, dDlaw_turned_rows, dDlaw_arbors, dDlaw_bell, dDlaw_shown, dDlaw_clock, dDlaw_no_ask] ++ ([dDlaw_hands, dDlaw_ahead, dDlaw_due, dDlaw_part_right, dDlaw, dRatio_init, dRatio_plus, dRatio_minus, dRatio_times, dRatio_over, dRatio_turned, dRatio_sign, dRatio_floor, dRatio_rest, dArbor_init, dWheel_init, dMesh_init, dRing_init, dDrive_init, dStill_init, dHand_init, dCount_init, dBell_init, dAsked_init, dAsked_add, dAsked_without, dAsked_by_first, dWork_init, dWork_its_rows, dWork_speed])
/-! ### what isinstance asks -/
def insB (K : PySem.W.Frag) (c : Str) : Bool := He.eqO (PySem.W.findIn K (.ref (He.ga K c)) "__class__") (some (some (.builtin "object.__class__"))) && decide (PySem.W.mroIn K (He.ga K c) (.type "object") = some true)
def kitB (K : PySem.W.Frag) (c d : Str) : Bool := decide (PySem.W.kitOne K (.ref (He.ga K c)) (.ref (He.ga K d)) = some (decide (c = d)))
def rowsL : List Str := ["Arbor", "Wheel", "Mesh", "Ring", "Drive", "Still", "Hand", "Count", "Bell"]
def excL : List Str := ["NoAsk", "Free", "NoRatio", "RowError", "Stuck"]
def excB (K : PySem.W.Frag) : Bool := He.eqO (PySem.W.findIn K (.ref (He.ga K "NoAsk")) "__getattribute__") (some (some (.builtin "BaseException.__getattribute__"))) && (He.eqO (PySem.W.findIn K (.ref (He.ga K "NoAsk")) "__getattr__") (some none) && (decide (PySem.W.hasDictIn K (He.ga K "NoAsk") = true) && (insB K "NoAsk" && (excL.all (fun d => kitB K "NoAsk" d) && decide (PySem.W.kitOne K (.type "NoneType") (.ref (He.ga K "NoAsk")) = some false)))))
def exB (K : PySem.W.Frag) : Bool := decide (PySem.W.specialIn K (.builtin "object.__class__") "__get__" = some (some (.builtin "getset_descriptor.__get__"))) && (decide (PySem.W.takesIn K (.builtin "object.__class__") = some true) && (rowsL.all (fun c => insB K c) && (rowsL.all (fun c => rowsL.all (fun d => kitB K c d)) && excB K)))
abbrev R : PySem.W.OpenRow := PySem.W.OpenLaw.row PySem.Challenge.rw_toothyard_k44_whole_meetings_counted
abbrev qv : Program := PySem.W.view R.prog [65]
def loose0 : List PySem.Str := ["_wall", "WorkError", "NoRatio", "NoAsk", "RowError", "Stuck", "Free", "common", "Ratio", "before", "Row", "Named", "Arbor", "Wheel", "Pair", "Mesh"]
def loose1 : List PySem.Str := ["Ring", "Drive", "Still", "Hand", "Count", "Bell", "MOST_MOMENTS", "begin_of", "hand_of", "lead_of", "ceiling", "meeting", "numbers_of", "found_of", "meetings", "count_of"]
def loose2 : List PySem.Str := ["Asked", "wheels_of", "arbors_of", "asked_by_wheels", "asked_by", "all_asked", "take", "solved_by", "needed", "solved_all", "speeds", "Work", "_law_drawn", "_law_mix", "_law_ratio", "_law_name"]
def loose3 : List PySem.Str := ["_law_turned_rows", "_law_arbors", "_law_bell", "_law_shown", "_law_clock", "_law_no_ask", "_law_hands", "_law_ahead", "_law_due", "_law_part_right"]
def loose : List PySem.Str := loose0 ++ (loose1 ++ (loose2 ++ (loose3)))
def tfL : List He.Defn := [("law", none)]
abbrev hk : PySem.W.Hook := He.hookX 4 faL fnL [] tfL exB
def ob (s : PySem.W.SharedT) : He.AlX := He.obsX 4 faL fnL [] tfL exB (HandSHeadRun.getT s)
theorem ob_eq (s : PySem.W.SharedT) : ob s = hk.obs s.abs := He.obsX_eq (HandSHeadRun.getT_eq s)
end Ty
set_option Elab.async false
set_option linter.all false
set_option maxRecDepth 100000
set_option maxHeartbeats 0
namespace Ty
open PySem PySem.Spec PyProof.Rows L2
theorem run (w : World) : HandSHeadRun.RunEq R qv hk ob 30000 loose w := by
  intro os
  kernel_rfl
end Ty
set_option Elab.async false
set_option linter.all false
set_option maxRecDepth 100000
set_option maxHeartbeats 2000000
/-! The facts by name. Printed by gen_text.py. -/
namespace Ty
open PySem PySem.Spec PyProof.Rows L2
/-- what the head says of the written part K and the module's names mg -/
structure Tx (K : PySem.W.Frag) (mg : Str → Option Value) : Prop where
  c : He.SaysD faL fnL K
  e : exB K = true
  x : ∃ h : Heap, K.In h ∧ h.Ns mainGlobals mg
section
variable {K : PySem.W.Frag} {mg : Str → Option Value}
theorem Tx.gl (T : Tx K mg) {x : Str} (i : Nat) (h : faL[i]? = some (.glo x) := by rfl) : mg x = some (.ref (He.ga K x)) := by
  obtain ⟨hp, X, G⟩ := T.x
  exact He.glo_ok X G (T.c.fact i h)
theorem Tx.fr (T : Tx K mg) {x : Str} (i : Nat) (h : faL[i]? = some (.free x) := by rfl) : mg x = none := by
  obtain ⟨hp, X, G⟩ := T.x
  exact He.free_ok X G (T.c.fact i h)
theorem Tx.i1 (T : Tx K mg) {x : Str} {n : Int} (i : Nat) (h : faL[i]? = some (.int x n) := by rfl) : ∃ t, mg x = some (.int n t) := by
  obtain ⟨hp, X, G⟩ := T.x
  exact He.int_ok X G (T.c.fact i h)
theorem Tx.g_common (T : Tx K mg) : mg "common" = some (.ref (He.ga K "common")) := T.gl 0
theorem Tx.g_before (T : Tx K mg) : mg "before" = some (.ref (He.ga K "before")) := T.gl 1
theorem Tx.g_begin_of (T : Tx K mg) : mg "begin_of" = some (.ref (He.ga K "begin_of")) := T.gl 2
theorem Tx.g_hand_of (T : Tx K mg) : mg "hand_of" = some (.ref (He.ga K "hand_of")) := T.gl 3
theorem Tx.g_lead_of (T : Tx K mg) : mg "lead_of" = some (.ref (He.ga K "lead_of")) := T.gl 4
theorem Tx.g_ceiling (T : Tx K mg) : mg "ceiling" = some (.ref (He.ga K "ceiling")) := T.gl 5
theorem Tx.g_meeting (T : Tx K mg) : mg "meeting" = some (.ref (He.ga K "meeting")) := T.gl 6
theorem Tx.g_numbers_of (T : Tx K mg) : mg "numbers_of" = some (.ref (He.ga K "numbers_of")) := T.gl 7
theorem Tx.g_found_of (T : Tx K mg) : mg "found_of" = some (.ref (He.ga K "found_of")) := T.gl 8
theorem Tx.g_meetings (T : Tx K mg) : mg "meetings" = some (.ref (He.ga K "meetings")) := T.gl 9
theorem Tx.g_count_of (T : Tx K mg) : mg "count_of" = some (.ref (He.ga K "count_of")) := T.gl 10
theorem Tx.g_wheels_of (T : Tx K mg) : mg "wheels_of" = some (.ref (He.ga K "wheels_of")) := T.gl 11
theorem Tx.g_arbors_of (T : Tx K mg) : mg "arbors_of" = some (.ref (He.ga K "arbors_of")) := T.gl 12
theorem Tx.g_asked_by_wheels (T : Tx K mg) : mg "asked_by_wheels" = some (.ref (He.ga K "asked_by_wheels")) := T.gl 13
theorem Tx.g_asked_by (T : Tx K mg) : mg "asked_by" = some (.ref (He.ga K "asked_by")) := T.gl 14
theorem Tx.g_all_asked (T : Tx K mg) : mg "all_asked" = some (.ref (He.ga K "all_asked")) := T.gl 15
theorem Tx.g_take (T : Tx K mg) : mg "take" = some (.ref (He.ga K "take")) := T.gl 16
theorem Tx.g_solved_by (T : Tx K mg) : mg "solved_by" = some (.ref (He.ga K "solved_by")) := T.gl 17
theorem Tx.g_solved_all (T : Tx K mg) : mg "solved_all" = some (.ref (He.ga K "solved_all")) := T.gl 18
theorem Tx.g_speeds (T : Tx K mg) : mg "speeds" = some (.ref (He.ga K "speeds")) := T.gl 19
theorem Tx.g_law_drawn (T : Tx K mg) : mg "_law_drawn" = some (.ref (He.ga K "_law_drawn")) := T.gl 20
theorem Tx.g_law_mix (T : Tx K mg) : mg "_law_mix" = some (.ref (He.ga K "_law_mix")) := T.gl 21
theorem Tx.g_law_ratio (T : Tx K mg) : mg "_law_ratio" = some (.ref (He.ga K "_law_ratio")) := T.gl 22
theorem Tx.g_law_name (T : Tx K mg) : mg "_law_name" = some (.ref (He.ga K "_law_name")) := T.gl 23
theorem Tx.g_law_turned_rows (T : Tx K mg) : mg "_law_turned_rows" = some (.ref (He.ga K "_law_turned_rows")) := T.gl 24
theorem Tx.g_law_arbors (T : Tx K mg) : mg "_law_arbors" = some (.ref (He.ga K "_law_arbors")) := T.gl 25
theorem Tx.g_law_bell (T : Tx K mg) : mg "_law_bell" = some (.ref (He.ga K "_law_bell")) := T.gl 26
theorem Tx.g_law_shown (T : Tx K mg) : mg "_law_shown" = some (.ref (He.ga K "_law_shown")) := T.gl 27
theorem Tx.g_law_clock (T : Tx K mg) : mg "_law_clock" = some (.ref (He.ga K "_law_clock")) := T.gl 28
theorem Tx.g_law_no_ask (T : Tx K mg) : mg "_law_no_ask" = some (.ref (He.ga K "_law_no_ask")) := T.gl 29
theorem Tx.g_law_hands (T : Tx K mg) : mg "_law_hands" = some (.ref (He.ga K "_law_hands")) := T.gl 30
theorem Tx.g_law_ahead (T : Tx K mg) : mg "_law_ahead" = some (.ref (He.ga K "_law_ahead")) := T.gl 31
theorem Tx.g_law_due (T : Tx K mg) : mg "_law_due" = some (.ref (He.ga K "_law_due")) := T.gl 32
theorem Tx.g_law_part_right (T : Tx K mg) : mg "_law_part_right" = some (.ref (He.ga K "_law_part_right")) := T.gl 33
theorem Tx.g_law (T : Tx K mg) : mg "law" = some (.ref (He.ga K "law")) := T.gl 34
theorem Tx.g_Ratio (T : Tx K mg) : mg "Ratio" = some (.ref (He.ga K "Ratio")) := T.gl 35
theorem Tx.g_Arbor (T : Tx K mg) : mg "Arbor" = some (.ref (He.ga K "Arbor")) := T.gl 36
theorem Tx.g_Wheel (T : Tx K mg) : mg "Wheel" = some (.ref (He.ga K "Wheel")) := T.gl 37
theorem Tx.g_Mesh (T : Tx K mg) : mg "Mesh" = some (.ref (He.ga K "Mesh")) := T.gl 38
theorem Tx.g_Ring (T : Tx K mg) : mg "Ring" = some (.ref (He.ga K "Ring")) := T.gl 39
theorem Tx.g_Drive (T : Tx K mg) : mg "Drive" = some (.ref (He.ga K "Drive")) := T.gl 40
theorem Tx.g_Still (T : Tx K mg) : mg "Still" = some (.ref (He.ga K "Still")) := T.gl 41
theorem Tx.g_Hand (T : Tx K mg) : mg "Hand" = some (.ref (He.ga K "Hand")) := T.gl 42
theorem Tx.g_Count (T : Tx K mg) : mg "Count" = some (.ref (He.ga K "Count")) := T.gl 43
theorem Tx.g_Bell (T : Tx K mg) : mg "Bell" = some (.ref (He.ga K "Bell")) := T.gl 44
theorem Tx.g_Asked (T : Tx K mg) : mg "Asked" = some (.ref (He.ga K "Asked")) := T.gl 45
theorem Tx.g_Work (T : Tx K mg) : mg "Work" = some (.ref (He.ga K "Work")) := T.gl 46
theorem Tx.g_NoAsk (T : Tx K mg) : mg "NoAsk" = some (.ref (He.ga K "NoAsk")) := T.gl 47
theorem Tx.g_NoRatio (T : Tx K mg) : mg "NoRatio" = some (.ref (He.ga K "NoRatio")) := T.gl 48
theorem Tx.g_RowError (T : Tx K mg) : mg "RowError" = some (.ref (He.ga K "RowError")) := T.gl 49
theorem Tx.g_Stuck (T : Tx K mg) : mg "Stuck" = some (.ref (He.ga K "Stuck")) := T.gl 50
theorem Tx.g_Free (T : Tx K mg) : mg "Free" = some (.ref (He.ga K "Free")) := T.gl 51
theorem Tx.g_WorkError (T : Tx K mg) : mg "WorkError" = some (.ref (He.ga K "WorkError")) := T.gl 52
theorem Tx.b_len (T : Tx K mg) : mg "len" = none := T.fr 53
theorem Tx.b_abs (T : Tx K mg) : mg "abs" = none := T.fr 54
theorem Tx.b_int (T : Tx K mg) : mg "int" = none := T.fr 55
theorem Tx.b_str (T : Tx K mg) : mg "str" = none := T.fr 56
theorem Tx.b_sum (T : Tx K mg) : mg "sum" = none := T.fr 57
theorem Tx.b_min (T : Tx K mg) : mg "min" = none := T.fr 58
theorem Tx.b_max (T : Tx K mg) : mg "max" = none := T.fr 59
theorem Tx.b_isinstance (T : Tx K mg) : mg "isinstance" = none := T.fr 60
theorem Tx.b_dict (T : Tx K mg) : mg "dict" = none := T.fr 61
theorem Tx.b_list (T : Tx K mg) : mg "list" = none := T.fr 62
theorem Tx.b_tuple (T : Tx K mg) : mg "tuple" = none := T.fr 63
theorem Tx.b_range (T : Tx K mg) : mg "range" = none := T.fr 64
theorem Tx.b_enumerate (T : Tx K mg) : mg "enumerate" = none := T.fr 65
theorem Tx.b_reversed (T : Tx K mg) : mg "reversed" = none := T.fr 66
theorem Tx.g_MOST (T : Tx K mg) : ∃ t, mg "MOST_MOMENTS" = some (.int 1000 t) := T.i1 147
theorem Tx.cl_Ratio (T : Tx K mg) : Cls K (He.ga K "Ratio") := He.cls_ok (T.c.fact 67)
theorem Tx.mk_Ratio (T : Tx K mg) : Mk K (He.ga K "Ratio") (He.ma K (He.ga K "Ratio") "__init__") := He.mkr_ok (T.c.fact 68)
theorem Tx.me_Ratio_plus (T : Tx K mg) : Meth K (He.ga K "Ratio") "plus" (He.ma K (He.ga K "Ratio") "plus") := He.meth_ok (T.c.fact 69)
theorem Tx.me_Ratio_minus (T : Tx K mg) : Meth K (He.ga K "Ratio") "minus" (He.ma K (He.ga K "Ratio") "minus") := He.meth_ok (T.c.fact 70)
theorem Tx.me_Ratio_times (T : Tx K mg) : Meth K (He.ga K "Ratio") "times" (He.ma K (He.ga K "Ratio") "times") := He.meth_ok (T.c.fact 71)
theorem Tx.me_Ratio_over (T : Tx K mg) : Meth K (He.ga K "Ratio") "over" (He.ma K (He.ga K "Ratio") "over") := He.meth_ok (T.c.fact 72)
theorem Tx.me_Ratio_turned (T : Tx K mg) : Meth K (He.ga K "Ratio") "turned" (He.ma K (He.ga K "Ratio") "turned") := He.meth_ok (T.c.fact 73)
theorem Tx.me_Ratio_sign (T : Tx K mg) : Meth K (He.ga K "Ratio") "sign" (He.ma K (He.ga K "Ratio") "sign") := He.meth_ok (T.c.fact 74)
theorem Tx.me_Ratio_floor (T : Tx K mg) : Meth K (He.ga K "Ratio") "floor" (He.ma K (He.ga K "Ratio") "floor") := He.meth_ok (T.c.fact 75)
theorem Tx.me_Ratio_rest (T : Tx K mg) : Meth K (He.ga K "Ratio") "rest" (He.ma K (He.ga K "Ratio") "rest") := He.meth_ok (T.c.fact 76)
theorem Tx.na_Ratio_top (T : Tx K mg) : NoAttr K (He.ga K "Ratio") "top" := He.noat_ok (T.c.fact 77)
theorem Tx.na_Ratio_bottom (T : Tx K mg) : NoAttr K (He.ga K "Ratio") "bottom" := He.noat_ok (T.c.fact 78)
theorem Tx.cl_Arbor (T : Tx K mg) : Cls K (He.ga K "Arbor") := He.cls_ok (T.c.fact 79)
theorem Tx.mk_Arbor (T : Tx K mg) : Mk K (He.ga K "Arbor") (He.ma K (He.ga K "Arbor") "__init__") := He.mkr_ok (T.c.fact 80)
theorem Tx.na_Arbor_way (T : Tx K mg) : NoAttr K (He.ga K "Arbor") "way" := He.noat_ok (T.c.fact 81)
theorem Tx.na_Arbor_name (T : Tx K mg) : NoAttr K (He.ga K "Arbor") "name" := He.noat_ok (T.c.fact 82)
theorem Tx.cl_Wheel (T : Tx K mg) : Cls K (He.ga K "Wheel") := He.cls_ok (T.c.fact 83)
theorem Tx.mk_Wheel (T : Tx K mg) : Mk K (He.ga K "Wheel") (He.ma K (He.ga K "Wheel") "__init__") := He.mkr_ok (T.c.fact 84)
theorem Tx.na_Wheel_way (T : Tx K mg) : NoAttr K (He.ga K "Wheel") "way" := He.noat_ok (T.c.fact 85)
theorem Tx.na_Wheel_name (T : Tx K mg) : NoAttr K (He.ga K "Wheel") "name" := He.noat_ok (T.c.fact 86)
theorem Tx.na_Wheel_arbor (T : Tx K mg) : NoAttr K (He.ga K "Wheel") "arbor" := He.noat_ok (T.c.fact 87)
theorem Tx.na_Wheel_teeth (T : Tx K mg) : NoAttr K (He.ga K "Wheel") "teeth" := He.noat_ok (T.c.fact 88)
theorem Tx.cl_Mesh (T : Tx K mg) : Cls K (He.ga K "Mesh") := He.cls_ok (T.c.fact 89)
theorem Tx.mk_Mesh (T : Tx K mg) : Mk K (He.ga K "Mesh") (He.ma K (He.ga K "Mesh") "__init__") := He.mkr_ok (T.c.fact 90)
theorem Tx.na_Mesh_way (T : Tx K mg) : NoAttr K (He.ga K "Mesh") "way" := He.noat_ok (T.c.fact 91)
theorem Tx.na_Mesh_one (T : Tx K mg) : NoAttr K (He.ga K "Mesh") "one" := He.noat_ok (T.c.fact 92)
theorem Tx.na_Mesh_other (T : Tx K mg) : NoAttr K (He.ga K "Mesh") "other" := He.noat_ok (T.c.fact 93)
theorem Tx.na_Mesh_arm (T : Tx K mg) : NoAttr K (He.ga K "Mesh") "arm" := He.noat_ok (T.c.fact 94)
theorem Tx.cl_Ring (T : Tx K mg) : Cls K (He.ga K "Ring") := He.cls_ok (T.c.fact 95)
theorem Tx.mk_Ring (T : Tx K mg) : Mk K (He.ga K "Ring") (He.ma K (He.ga K "Ring") "__init__") := He.mkr_ok (T.c.fact 96)
theorem Tx.na_Ring_way (T : Tx K mg) : NoAttr K (He.ga K "Ring") "way" := He.noat_ok (T.c.fact 97)
theorem Tx.na_Ring_one (T : Tx K mg) : NoAttr K (He.ga K "Ring") "one" := He.noat_ok (T.c.fact 98)
theorem Tx.na_Ring_other (T : Tx K mg) : NoAttr K (He.ga K "Ring") "other" := He.noat_ok (T.c.fact 99)
theorem Tx.na_Ring_arm (T : Tx K mg) : NoAttr K (He.ga K "Ring") "arm" := He.noat_ok (T.c.fact 100)
theorem Tx.cl_Drive (T : Tx K mg) : Cls K (He.ga K "Drive") := He.cls_ok (T.c.fact 101)
theorem Tx.mk_Drive (T : Tx K mg) : Mk K (He.ga K "Drive") (He.ma K (He.ga K "Drive") "__init__") := He.mkr_ok (T.c.fact 102)
theorem Tx.na_Drive_way (T : Tx K mg) : NoAttr K (He.ga K "Drive") "way" := He.noat_ok (T.c.fact 103)
theorem Tx.na_Drive_arbor (T : Tx K mg) : NoAttr K (He.ga K "Drive") "arbor" := He.noat_ok (T.c.fact 104)
theorem Tx.na_Drive_ratio (T : Tx K mg) : NoAttr K (He.ga K "Drive") "ratio" := He.noat_ok (T.c.fact 105)
theorem Tx.cl_Still (T : Tx K mg) : Cls K (He.ga K "Still") := He.cls_ok (T.c.fact 106)
theorem Tx.mk_Still (T : Tx K mg) : Mk K (He.ga K "Still") (He.ma K (He.ga K "Still") "__init__") := He.mkr_ok (T.c.fact 107)
theorem Tx.na_Still_way (T : Tx K mg) : NoAttr K (He.ga K "Still") "way" := He.noat_ok (T.c.fact 108)
theorem Tx.na_Still_arbor (T : Tx K mg) : NoAttr K (He.ga K "Still") "arbor" := He.noat_ok (T.c.fact 109)
theorem Tx.cl_Hand (T : Tx K mg) : Cls K (He.ga K "Hand") := He.cls_ok (T.c.fact 110)
theorem Tx.mk_Hand (T : Tx K mg) : Mk K (He.ga K "Hand") (He.ma K (He.ga K "Hand") "__init__") := He.mkr_ok (T.c.fact 111)
theorem Tx.na_Hand_way (T : Tx K mg) : NoAttr K (He.ga K "Hand") "way" := He.noat_ok (T.c.fact 112)
theorem Tx.na_Hand_name (T : Tx K mg) : NoAttr K (He.ga K "Hand") "name" := He.noat_ok (T.c.fact 113)
theorem Tx.na_Hand_arbor (T : Tx K mg) : NoAttr K (He.ga K "Hand") "arbor" := He.noat_ok (T.c.fact 114)
theorem Tx.na_Hand_marks (T : Tx K mg) : NoAttr K (He.ga K "Hand") "marks" := He.noat_ok (T.c.fact 115)
theorem Tx.na_Hand_begin (T : Tx K mg) : NoAttr K (He.ga K "Hand") "begin" := He.noat_ok (T.c.fact 116)
theorem Tx.cl_Count (T : Tx K mg) : Cls K (He.ga K "Count") := He.cls_ok (T.c.fact 117)
theorem Tx.mk_Count (T : Tx K mg) : Mk K (He.ga K "Count") (He.ma K (He.ga K "Count") "__init__") := He.mkr_ok (T.c.fact 118)
theorem Tx.na_Count_way (T : Tx K mg) : NoAttr K (He.ga K "Count") "way" := He.noat_ok (T.c.fact 119)
theorem Tx.na_Count_name (T : Tx K mg) : NoAttr K (He.ga K "Count") "name" := He.noat_ok (T.c.fact 120)
theorem Tx.na_Count_arbor (T : Tx K mg) : NoAttr K (He.ga K "Count") "arbor" := He.noat_ok (T.c.fact 121)
theorem Tx.na_Count_teeth (T : Tx K mg) : NoAttr K (He.ga K "Count") "teeth" := He.noat_ok (T.c.fact 122)
theorem Tx.na_Count_begin (T : Tx K mg) : NoAttr K (He.ga K "Count") "begin" := He.noat_ok (T.c.fact 123)
theorem Tx.cl_Bell (T : Tx K mg) : Cls K (He.ga K "Bell") := He.cls_ok (T.c.fact 124)
theorem Tx.mk_Bell (T : Tx K mg) : Mk K (He.ga K "Bell") (He.ma K (He.ga K "Bell") "__init__") := He.mkr_ok (T.c.fact 125)
theorem Tx.na_Bell_way (T : Tx K mg) : NoAttr K (He.ga K "Bell") "way" := He.noat_ok (T.c.fact 126)
theorem Tx.na_Bell_name (T : Tx K mg) : NoAttr K (He.ga K "Bell") "name" := He.noat_ok (T.c.fact 127)
theorem Tx.na_Bell_counter (T : Tx K mg) : NoAttr K (He.ga K "Bell") "counter" := He.noat_ok (T.c.fact 128)
theorem Tx.na_Bell_strokes (T : Tx K mg) : NoAttr K (He.ga K "Bell") "strokes" := He.noat_ok (T.c.fact 129)
theorem Tx.cl_Asked (T : Tx K mg) : Cls K (He.ga K "Asked") := He.cls_ok (T.c.fact 130)
theorem Tx.mk_Asked (T : Tx K mg) : Mk K (He.ga K "Asked") (He.ma K (He.ga K "Asked") "__init__") := He.mkr_ok (T.c.fact 131)
theorem Tx.me_Asked_add (T : Tx K mg) : Meth K (He.ga K "Asked") "add" (He.ma K (He.ga K "Asked") "add") := He.meth_ok (T.c.fact 132)
theorem Tx.me_Asked_without (T : Tx K mg) : Meth K (He.ga K "Asked") "without" (He.ma K (He.ga K "Asked") "without") := He.meth_ok (T.c.fact 133)
theorem Tx.me_Asked_by_first (T : Tx K mg) : Meth K (He.ga K "Asked") "by_first" (He.ma K (He.ga K "Asked") "by_first") := He.meth_ok (T.c.fact 134)
theorem Tx.na_Asked_terms (T : Tx K mg) : NoAttr K (He.ga K "Asked") "terms" := He.noat_ok (T.c.fact 135)
theorem Tx.na_Asked_total (T : Tx K mg) : NoAttr K (He.ga K "Asked") "total" := He.noat_ok (T.c.fact 136)
theorem Tx.cl_Work (T : Tx K mg) : Cls K (He.ga K "Work") := He.cls_ok (T.c.fact 137)
theorem Tx.mk_Work (T : Tx K mg) : Mk K (He.ga K "Work") (He.ma K (He.ga K "Work") "__init__") := He.mkr_ok (T.c.fact 138)
theorem Tx.me_Work_its_rows (T : Tx K mg) : Meth K (He.ga K "Work") "its_rows" (He.ma K (He.ga K "Work") "its_rows") := He.meth_ok (T.c.fact 139)
theorem Tx.me_Work_speed (T : Tx K mg) : Meth K (He.ga K "Work") "speed" (He.ma K (He.ga K "Work") "speed") := He.meth_ok (T.c.fact 140)
theorem Tx.na_Work_all_rows (T : Tx K mg) : NoAttr K (He.ga K "Work") "all_rows" := He.noat_ok (T.c.fact 141)
theorem Tx.na_Work_known (T : Tx K mg) : NoAttr K (He.ga K "Work") "known" := He.noat_ok (T.c.fact 142)
theorem Tx.na_Work_by_names (T : Tx K mg) : NoAttr K (He.ga K "Work") "by_names" := He.noat_ok (T.c.fact 143)
theorem Tx.na_Work_moment (T : Tx K mg) : NoAttr K (He.ga K "Work") "moment" := He.noat_ok (T.c.fact 144)
abbrev FDcommon (K : PySem.W.Frag) (fd : FuncData) : Prop := FunD K "common" "common" (defArgs sDcommon) (defBody sDcommon) (defScope sDcommon) [] [] (He.ga K "common") fd
theorem Tx.f_Dcommon (T : Tx K mg) : ∃ fd, FDcommon K fd := T.c.def_ 0 (d := dDcommon) rfl
theorem bi_Dcommon {fd : FuncData} (F : FDcommon K fd) : Binds K fd ["one", "other"] [] := FunD.bindsN F fun _ _ _ _ _ _ us hl => match us, hl with | [_, _], _ => rfl
abbrev FDbefore (K : PySem.W.Frag) (fd : FuncData) : Prop := FunD K "before" "before" (defArgs sDbefore) (defBody sDbefore) (defScope sDbefore) [] [] (He.ga K "before") fd
theorem Tx.f_Dbefore (T : Tx K mg) : ∃ fd, FDbefore K fd := T.c.def_ 1 (d := dDbefore) rfl
theorem bi_Dbefore {fd : FuncData} (F : FDbefore K fd) : Binds K fd ["one", "other"] [] := FunD.bindsN F fun _ _ _ _ _ _ us hl => match us, hl with | [_, _], _ => rfl
abbrev FDbegin_of (K : PySem.W.Frag) (fd : FuncData) : Prop := FunD K "begin_of" "begin_of" (defArgs sDbegin_of) (defBody sDbegin_of) (defScope sDbegin_of) [] [] (He.ga K "begin_of") fd
theorem Tx.f_Dbegin_of (T : Tx K mg) : ∃ fd, FDbegin_of K fd := T.c.def_ 2 (d := dDbegin_of) rfl
theorem bi_Dbegin_of {fd : FuncData} (F : FDbegin_of K fd) : Binds K fd ["hand"] [] := FunD.bindsN F fun _ _ _ _ _ _ us hl => match us, hl with | [_], _ => rfl
abbrev FDhand_of (K : PySem.W.Frag) (fd : FuncData) : Prop := FunD K "hand_of" "hand_of" (defArgs sDhand_of) (defBody sDhand_of) (defScope sDhand_of) [] [] (He.ga K "hand_of") fd
theorem Tx.f_Dhand_of (T : Tx K mg) : ∃ fd, FDhand_of K fd := T.c.def_ 3 (d := dDhand_of) rfl
theorem bi_Dhand_of {fd : FuncData} (F : FDhand_of K fd) : Binds K fd ["work", "name"] [] := FunD.bindsN F fun _ _ _ _ _ _ us hl => match us, hl with | [_, _], _ => rfl
abbrev FDlead_of (K : PySem.W.Frag) (fd : FuncData) : Prop := FunD K "lead_of" "lead_of" (defArgs sDlead_of) (defBody sDlead_of) (defScope sDlead_of) [] [] (He.ga K "lead_of") fd
theorem Tx.f_Dlead_of (T : Tx K mg) : ∃ fd, FDlead_of K fd := T.c.def_ 4 (d := dDlead_of) rfl
theorem bi_Dlead_of {fd : FuncData} (F : FDlead_of K fd) : Binds K fd ["work", "one", "other", "off"] [] := FunD.bindsN F fun _ _ _ _ _ _ us hl => match us, hl with | [_, _, _, _], _ => rfl
abbrev FDceiling (K : PySem.W.Frag) (fd : FuncData) : Prop := FunD K "ceiling" "ceiling" (defArgs sDceiling) (defBody sDceiling) (defScope sDceiling) [] [] (He.ga K "ceiling") fd
theorem Tx.f_Dceiling (T : Tx K mg) : ∃ fd, FDceiling K fd := T.c.def_ 5 (d := dDceiling) rfl
theorem bi_Dceiling {fd : FuncData} (F : FDceiling K fd) : Binds K fd ["ratio"] [] := FunD.bindsN F fun _ _ _ _ _ _ us hl => match us, hl with | [_], _ => rfl
abbrev FDmeeting (K : PySem.W.Frag) (fd : FuncData) : Prop := FunD K "meeting" "meeting" (defArgs sDmeeting) (defBody sDmeeting) (defScope sDmeeting) [] [] (He.ga K "meeting") fd
theorem Tx.f_Dmeeting (T : Tx K mg) : ∃ fd, FDmeeting K fd := T.c.def_ 6 (d := dDmeeting) rfl
theorem bi_Dmeeting {fd : FuncData} (F : FDmeeting K fd) : Binds K fd ["work", "one", "other", "off"] [] := FunD.bindsN F fun _ _ _ _ _ _ us hl => match us, hl with | [_, _, _, _], _ => rfl
abbrev FDnumbers_of (K : PySem.W.Frag) (fd : FuncData) : Prop := FunD K "numbers_of" "numbers_of" (defArgs sDnumbers_of) (defBody sDnumbers_of) (defScope sDnumbers_of) [] [] (He.ga K "numbers_of") fd
theorem Tx.f_Dnumbers_of (T : Tx K mg) : ∃ fd, FDnumbers_of K fd := T.c.def_ 7 (d := dDnumbers_of) rfl
theorem bi_Dnumbers_of {fd : FuncData} (F : FDnumbers_of K fd) : Binds K fd ["first", "period", "begin", "end"] [] := FunD.bindsN F fun _ _ _ _ _ _ us hl => match us, hl with | [_, _, _, _], _ => rfl
abbrev FDfound_of (K : PySem.W.Frag) (fd : FuncData) : Prop := FunD K "found_of" "found_of" (defArgs sDfound_of) (defBody sDfound_of) (defScope sDfound_of) [] [] (He.ga K "found_of") fd
theorem Tx.f_Dfound_of (T : Tx K mg) : ∃ fd, FDfound_of K fd := T.c.def_ 8 (d := dDfound_of) rfl
theorem bi_Dfound_of {fd : FuncData} (F : FDfound_of K fd) : Binds K fd ["work", "one", "other", "off"] [] := FunD.bindsN F fun _ _ _ _ _ _ us hl => match us, hl with | [_, _, _, _], _ => rfl
abbrev FDmeetings (K : PySem.W.Frag) (fd : FuncData) : Prop := FunD K "meetings" "meetings" (defArgs sDmeetings) (defBody sDmeetings) (defScope sDmeetings) [] [] (He.ga K "meetings") fd
theorem Tx.f_Dmeetings (T : Tx K mg) : ∃ fd, FDmeetings K fd := T.c.def_ 9 (d := dDmeetings) rfl
theorem bi_Dmeetings {fd : FuncData} (F : FDmeetings K fd) : Binds K fd ["work", "one", "other", "off", "begin", "end"] [] := FunD.bindsN F fun _ _ _ _ _ _ us hl => match us, hl with | [_, _, _, _, _, _], _ => rfl
abbrev FDcount_of (K : PySem.W.Frag) (fd : FuncData) : Prop := FunD K "count_of" "count_of" (defArgs sDcount_of) (defBody sDcount_of) (defScope sDcount_of) [] [] (He.ga K "count_of") fd
theorem Tx.f_Dcount_of (T : Tx K mg) : ∃ fd, FDcount_of K fd := T.c.def_ 10 (d := dDcount_of) rfl
theorem bi_Dcount_of {fd : FuncData} (F : FDcount_of K fd) : Binds K fd ["work", "one", "other", "off", "begin", "end"] [] := FunD.bindsN F fun _ _ _ _ _ _ us hl => match us, hl with | [_, _, _, _, _, _], _ => rfl
abbrev FDwheels_of (K : PySem.W.Frag) (fd : FuncData) : Prop := FunD K "wheels_of" "wheels_of" (defArgs sDwheels_of) (defBody sDwheels_of) (defScope sDwheels_of) [] [] (He.ga K "wheels_of") fd
theorem Tx.f_Dwheels_of (T : Tx K mg) : ∃ fd, FDwheels_of K fd := T.c.def_ 11 (d := dDwheels_of) rfl
theorem bi_Dwheels_of {fd : FuncData} (F : FDwheels_of K fd) : Binds K fd ["rows"] [] := FunD.bindsN F fun _ _ _ _ _ _ us hl => match us, hl with | [_], _ => rfl
abbrev FDarbors_of (K : PySem.W.Frag) (fd : FuncData) : Prop := FunD K "arbors_of" "arbors_of" (defArgs sDarbors_of) (defBody sDarbors_of) (defScope sDarbors_of) [] [] (He.ga K "arbors_of") fd
theorem Tx.f_Darbors_of (T : Tx K mg) : ∃ fd, FDarbors_of K fd := T.c.def_ 12 (d := dDarbors_of) rfl
theorem bi_Darbors_of {fd : FuncData} (F : FDarbors_of K fd) : Binds K fd ["rows"] [] := FunD.bindsN F fun _ _ _ _ _ _ us hl => match us, hl with | [_], _ => rfl
abbrev FDasked_by_wheels (K : PySem.W.Frag) (fd : FuncData) : Prop := FunD K "asked_by_wheels" "asked_by_wheels" (defArgs sDasked_by_wheels) (defBody sDasked_by_wheels) (defScope sDasked_by_wheels) [] [] (He.ga K "asked_by_wheels") fd
theorem Tx.f_Dasked_by_wheels (T : Tx K mg) : ∃ fd, FDasked_by_wheels K fd := T.c.def_ 13 (d := dDasked_by_wheels) rfl
theorem bi_Dasked_by_wheels {fd : FuncData} (F : FDasked_by_wheels K fd) : Binds K fd ["one", "other", "arm"] [] := FunD.bindsN F fun _ _ _ _ _ _ us hl => match us, hl with | [_, _, _], _ => rfl
abbrev FDasked_by (K : PySem.W.Frag) (fd : FuncData) : Prop := FunD K "asked_by" "asked_by" (defArgs sDasked_by) (defBody sDasked_by) (defScope sDasked_by) [] [] (He.ga K "asked_by") fd
theorem Tx.f_Dasked_by (T : Tx K mg) : ∃ fd, FDasked_by K fd := T.c.def_ 14 (d := dDasked_by) rfl
theorem bi_Dasked_by {fd : FuncData} (F : FDasked_by K fd) : Binds K fd ["row", "wheels"] [] := FunD.bindsN F fun _ _ _ _ _ _ us hl => match us, hl with | [_, _], _ => rfl
abbrev FDall_asked (K : PySem.W.Frag) (fd : FuncData) : Prop := FunD K "all_asked" "all_asked" (defArgs sDall_asked) (defBody sDall_asked) (defScope sDall_asked) [] [] (He.ga K "all_asked") fd
theorem Tx.f_Dall_asked (T : Tx K mg) : ∃ fd, FDall_asked K fd := T.c.def_ 15 (d := dDall_asked) rfl
theorem bi_Dall_asked {fd : FuncData} (F : FDall_asked K fd) : Binds K fd ["rows"] [] := FunD.bindsN F fun _ _ _ _ _ _ us hl => match us, hl with | [_], _ => rfl
abbrev FDtake (K : PySem.W.Frag) (fd : FuncData) : Prop := FunD K "take" "take" (defArgs sDtake) (defBody sDtake) (defScope sDtake) [] [] (He.ga K "take") fd
theorem Tx.f_Dtake (T : Tx K mg) : ∃ fd, FDtake K fd := T.c.def_ 16 (d := dDtake) rfl
theorem bi_Dtake {fd : FuncData} (F : FDtake K fd) : Binds K fd ["solved", "asked"] [] := FunD.bindsN F fun _ _ _ _ _ _ us hl => match us, hl with | [_, _], _ => rfl
abbrev FDsolved_by (K : PySem.W.Frag) (fd : FuncData) : Prop := FunD K "solved_by" "solved_by" (defArgs sDsolved_by) (defBody sDsolved_by) (defScope sDsolved_by) [V.non] [] (He.ga K "solved_by") fd
theorem Tx.f_Dsolved_by (T : Tx K mg) : ∃ fd, FDsolved_by K fd := T.c.def_ 17 (d := dDsolved_by) rfl
theorem bi_Dsolved_by_1 {fd : FuncData} (F : FDsolved_by K fd) : ∃ ds, Vals [V.non] ds ∧ Binds K fd ["rows", "places"] ds := FunD.binds1 F 1 0 (by simp) rfl fun _ _ _ _ _ _ _ us its hl hi => match us, its, hl, hi with | [_], [_], _, _ => ⟨_, rfl, rfl⟩
theorem bi_Dsolved_by_2 {fd : FuncData} (F : FDsolved_by K fd) : ∃ ds, Vals [] ds ∧ Binds K fd ["rows", "places"] ds := FunD.binds1 F 2 1 (by simp) rfl fun _ _ _ _ _ _ _ us its hl hi => match us, its, hl, hi with | [_, _], [_], _, _ => ⟨_, rfl, rfl⟩
abbrev FDsolved_all (K : PySem.W.Frag) (fd : FuncData) : Prop := FunD K "solved_all" "solved_all" (defArgs sDsolved_all) (defBody sDsolved_all) (defScope sDsolved_all) [] [] (He.ga K "solved_all") fd
theorem Tx.f_Dsolved_all (T : Tx K mg) : ∃ fd, FDsolved_all K fd := T.c.def_ 18 (d := dDsolved_all) rfl
theorem bi_Dsolved_all {fd : FuncData} (F : FDsolved_all K fd) : Binds K fd ["rows"] [] := FunD.bindsN F fun _ _ _ _ _ _ us hl => match us, hl with | [_], _ => rfl
abbrev FDspeeds (K : PySem.W.Frag) (fd : FuncData) : Prop := FunD K "speeds" "speeds" (defArgs sDspeeds) (defBody sDspeeds) (defScope sDspeeds) [] [] (He.ga K "speeds") fd
theorem Tx.f_Dspeeds (T : Tx K mg) : ∃ fd, FDspeeds K fd := T.c.def_ 19 (d := dDspeeds) rfl
theorem bi_Dspeeds {fd : FuncData} (F : FDspeeds K fd) : Binds K fd ["rows"] [] := FunD.bindsN F fun _ _ _ _ _ _ us hl => match us, hl with | [_], _ => rfl
abbrev FDlaw_drawn (K : PySem.W.Frag) (fd : FuncData) : Prop := FunD K "_law_drawn" "_law_drawn" (defArgs sDlaw_drawn) (defBody sDlaw_drawn) (defScope sDlaw_drawn) [] [] (He.ga K "_law_drawn") fd
theorem Tx.f_Dlaw_drawn (T : Tx K mg) : ∃ fd, FDlaw_drawn K fd := T.c.def_ 20 (d := dDlaw_drawn) rfl
theorem bi_Dlaw_drawn {fd : FuncData} (F : FDlaw_drawn K fd) : Binds K fd ["_law_script", "_law_k"] [] := FunD.bindsN F fun _ _ _ _ _ _ us hl => match us, hl with | [_, _], _ => rfl
abbrev FDlaw_mix (K : PySem.W.Frag) (fd : FuncData) : Prop := FunD K "_law_mix" "_law_mix" (defArgs sDlaw_mix) (defBody sDlaw_mix) (defScope sDlaw_mix) [] [] (He.ga K "_law_mix") fd
theorem Tx.f_Dlaw_mix (T : Tx K mg) : ∃ fd, FDlaw_mix K fd := T.c.def_ 21 (d := dDlaw_mix) rfl
theorem bi_Dlaw_mix {fd : FuncData} (F : FDlaw_mix K fd) : Binds K fd ["_law_number", "_law_k"] [] := FunD.bindsN F fun _ _ _ _ _ _ us hl => match us, hl with | [_, _], _ => rfl
abbrev FDlaw_ratio (K : PySem.W.Frag) (fd : FuncData) : Prop := FunD K "_law_ratio" "_law_ratio" (defArgs sDlaw_ratio) (defBody sDlaw_ratio) (defScope sDlaw_ratio) [] [] (He.ga K "_law_ratio") fd
theorem Tx.f_Dlaw_ratio (T : Tx K mg) : ∃ fd, FDlaw_ratio K fd := T.c.def_ 22 (d := dDlaw_ratio) rfl
theorem bi_Dlaw_ratio {fd : FuncData} (F : FDlaw_ratio K fd) : Binds K fd ["_law_one", "_law_other"] [] := FunD.bindsN F fun _ _ _ _ _ _ us hl => match us, hl with | [_, _], _ => rfl
abbrev FDlaw_name (K : PySem.W.Frag) (fd : FuncData) : Prop := FunD K "_law_name" "_law_name" (defArgs sDlaw_name) (defBody sDlaw_name) (defScope sDlaw_name) [] [] (He.ga K "_law_name") fd
theorem Tx.f_Dlaw_name (T : Tx K mg) : ∃ fd, FDlaw_name K fd := T.c.def_ 23 (d := dDlaw_name) rfl
theorem bi_Dlaw_name {fd : FuncData} (F : FDlaw_name K fd) : Binds K fd ["_law_base", "_law_k"] [] := FunD.bindsN F fun _ _ _ _ _ _ us hl => match us, hl with | [_, _], _ => rfl
abbrev FDlaw_turned_rows (K : PySem.W.Frag) (fd : FuncData) : Prop := FunD K "_law_turned_rows" "_law_turned_rows" (defArgs sDlaw_turned_rows) (defBody sDlaw_turned_rows) (defScope sDlaw_turned_rows) [] [] (He.ga K "_law_turned_rows") fd
theorem Tx.f_Dlaw_turned_rows (T : Tx K mg) : ∃ fd, FDlaw_turned_rows K fd := T.c.def_ 24 (d := dDlaw_turned_rows) rfl
theorem bi_Dlaw_turned_rows {fd : FuncData} (F : FDlaw_turned_rows K fd) : Binds K fd ["_law_base", "_law_k", "_law_number"] [] := FunD.bindsN F fun _ _ _ _ _ _ us hl => match us, hl with | [_, _, _], _ => rfl
abbrev FDlaw_arbors (K : PySem.W.Frag) (fd : FuncData) : Prop := FunD K "_law_arbors" "_law_arbors" (defArgs sDlaw_arbors) (defBody sDlaw_arbors) (defScope sDlaw_arbors) [] [] (He.ga K "_law_arbors") fd
theorem Tx.f_Dlaw_arbors (T : Tx K mg) : ∃ fd, FDlaw_arbors K fd := T.c.def_ 25 (d := dDlaw_arbors) rfl
theorem bi_Dlaw_arbors {fd : FuncData} (F : FDlaw_arbors K fd) : Binds K fd ["_law_script", "_law_base", "_law_many"] [] := FunD.bindsN F fun _ _ _ _ _ _ us hl => match us, hl with | [_, _, _], _ => rfl
abbrev FDlaw_bell (K : PySem.W.Frag) (fd : FuncData) : Prop := FunD K "_law_bell" "_law_bell" (defArgs sDlaw_bell) (defBody sDlaw_bell) (defScope sDlaw_bell) [] [] (He.ga K "_law_bell") fd
theorem Tx.f_Dlaw_bell (T : Tx K mg) : ∃ fd, FDlaw_bell K fd := T.c.def_ 26 (d := dDlaw_bell) rfl
theorem bi_Dlaw_bell {fd : FuncData} (F : FDlaw_bell K fd) : Binds K fd ["_law_number", "_law_way", "_law_name_here", "_law_counter"] [] := FunD.bindsN F fun _ _ _ _ _ _ us hl => match us, hl with | [_, _, _, _], _ => rfl
abbrev FDlaw_shown (K : PySem.W.Frag) (fd : FuncData) : Prop := FunD K "_law_shown" "_law_shown" (defArgs sDlaw_shown) (defBody sDlaw_shown) (defScope sDlaw_shown) [] [] (He.ga K "_law_shown") fd
theorem Tx.f_Dlaw_shown (T : Tx K mg) : ∃ fd, FDlaw_shown K fd := T.c.def_ 27 (d := dDlaw_shown) rfl
theorem bi_Dlaw_shown {fd : FuncData} (F : FDlaw_shown K fd) : Binds K fd ["_law_number", "_law_cell", "_law_way", "_law_name_here", "_law_arbor"] [] := FunD.bindsN F fun _ _ _ _ _ _ us hl => match us, hl with | [_, _, _, _, _], _ => rfl
abbrev FDlaw_clock (K : PySem.W.Frag) (fd : FuncData) : Prop := FunD K "_law_clock" "_law_clock" (defArgs sDlaw_clock) (defBody sDlaw_clock) (defScope sDlaw_clock) [] [] (He.ga K "_law_clock") fd
theorem Tx.f_Dlaw_clock (T : Tx K mg) : ∃ fd, FDlaw_clock K fd := T.c.def_ 28 (d := dDlaw_clock) rfl
theorem bi_Dlaw_clock {fd : FuncData} (F : FDlaw_clock K fd) : Binds K fd ["_law_script", "_law_most"] [] := FunD.bindsN F fun _ _ _ _ _ _ us hl => match us, hl with | [_, _], _ => rfl
abbrev FDlaw_no_ask (K : PySem.W.Frag) (fd : FuncData) : Prop := FunD K "_law_no_ask" "_law_no_ask" (defArgs sDlaw_no_ask) (defBody sDlaw_no_ask) (defScope sDlaw_no_ask) [] [] (He.ga K "_law_no_ask") fd
theorem Tx.f_Dlaw_no_ask (T : Tx K mg) : ∃ fd, FDlaw_no_ask K fd := T.c.def_ 29 (d := dDlaw_no_ask) rfl
theorem bi_Dlaw_no_ask {fd : FuncData} (F : FDlaw_no_ask K fd) : Binds K fd ["_law_call"] [] := FunD.bindsN F fun _ _ _ _ _ _ us hl => match us, hl with | [_], _ => rfl
abbrev FDlaw_hands (K : PySem.W.Frag) (fd : FuncData) : Prop := FunD K "_law_hands" "_law_hands" (defArgs sDlaw_hands) (defBody sDlaw_hands) (defScope sDlaw_hands) [] [] (He.ga K "_law_hands") fd
theorem Tx.f_Dlaw_hands (T : Tx K mg) : ∃ fd, FDlaw_hands K fd := T.c.def_ 30 (d := dDlaw_hands) rfl
theorem bi_Dlaw_hands {fd : FuncData} (F : FDlaw_hands K fd) : Binds K fd ["_law_rows", "_law_number"] [] := FunD.bindsN F fun _ _ _ _ _ _ us hl => match us, hl with | [_, _], _ => rfl
abbrev FDlaw_ahead (K : PySem.W.Frag) (fd : FuncData) : Prop := FunD K "_law_ahead" "_law_ahead" (defArgs sDlaw_ahead) (defBody sDlaw_ahead) (defScope sDlaw_ahead) [] [] (He.ga K "_law_ahead") fd
theorem Tx.f_Dlaw_ahead (T : Tx K mg) : ∃ fd, FDlaw_ahead K fd := T.c.def_ 31 (d := dDlaw_ahead) rfl
theorem bi_Dlaw_ahead {fd : FuncData} (F : FDlaw_ahead K fd) : Binds K fd ["_law_told", "_law_rows", "_law_one", "_law_other", "_law_moment"] [] := FunD.bindsN F fun _ _ _ _ _ _ us hl => match us, hl with | [_, _, _, _, _], _ => rfl
abbrev FDlaw_due (K : PySem.W.Frag) (fd : FuncData) : Prop := FunD K "_law_due" "_law_due" (defArgs sDlaw_due) (defBody sDlaw_due) (defScope sDlaw_due) [] [] (He.ga K "_law_due") fd
theorem Tx.f_Dlaw_due (T : Tx K mg) : ∃ fd, FDlaw_due K fd := T.c.def_ 32 (d := dDlaw_due) rfl
theorem bi_Dlaw_due {fd : FuncData} (F : FDlaw_due K fd) : Binds K fd ["_law_low", "_law_high", "_law_gain"] [] := FunD.bindsN F fun _ _ _ _ _ _ us hl => match us, hl with | [_, _, _], _ => rfl
abbrev FDlaw_part_right (K : PySem.W.Frag) (fd : FuncData) : Prop := FunD K "_law_part_right" "_law_part_right" (defArgs sDlaw_part_right) (defBody sDlaw_part_right) (defScope sDlaw_part_right) [] [] (He.ga K "_law_part_right") fd
theorem Tx.f_Dlaw_part_right (T : Tx K mg) : ∃ fd, FDlaw_part_right K fd := T.c.def_ 33 (d := dDlaw_part_right) rfl
theorem bi_Dlaw_part_right {fd : FuncData} (F : FDlaw_part_right K fd) : Binds K fd ["_law_work", "_law_pair", "_law_off", "_law_begin", "_law_end", "_law_due_here"] [] := FunD.bindsN F fun _ _ _ _ _ _ us hl => match us, hl with | [_, _, _, _, _, _], _ => rfl
abbrev FDlaw (K : PySem.W.Frag) (fd : FuncData) : Prop := FunD K "law" "law" (defArgs sDlaw) (defBody sDlaw) (defScope sDlaw) [] [] (He.ga K "law") fd
theorem Tx.f_Dlaw (T : Tx K mg) : ∃ fd, FDlaw K fd := T.c.def_ 34 (d := dDlaw) rfl
theorem bi_Dlaw {fd : FuncData} (F : FDlaw K fd) : Binds K fd ["_law_script"] [] := FunD.bindsN F fun _ _ _ _ _ _ us hl => match us, hl with | [_], _ => rfl
abbrev FRatio_init (K : PySem.W.Frag) (fd : FuncData) : Prop := FunD K "__init__" "Ratio.__init__" (defArgs sRatio_init) (defBody sRatio_init) (defScope sRatio_init) [V.int 1] [] (He.ma K (He.ga K "Ratio") "__init__") fd
theorem Tx.f_Ratio_init (T : Tx K mg) : ∃ fd, FRatio_init K fd := T.c.def_ 35 (d := dRatio_init) rfl
theorem bi_Ratio_init_2 {fd : FuncData} (F : FRatio_init K fd) : ∃ ds, Vals [V.int 1] ds ∧ Binds K fd ["self", "top", "bottom"] ds := FunD.binds1 F 2 0 (by simp) rfl fun _ _ _ _ _ _ _ us its hl hi => match us, its, hl, hi with | [_, _], [_], _, _ => ⟨_, rfl, rfl⟩
theorem bi_Ratio_init_3 {fd : FuncData} (F : FRatio_init K fd) : ∃ ds, Vals [] ds ∧ Binds K fd ["self", "top", "bottom"] ds := FunD.binds1 F 3 1 (by simp) rfl fun _ _ _ _ _ _ _ us its hl hi => match us, its, hl, hi with | [_, _, _], [_], _, _ => ⟨_, rfl, rfl⟩
abbrev FRatio_plus (K : PySem.W.Frag) (fd : FuncData) : Prop := FunD K "plus" "Ratio.plus" (defArgs sRatio_plus) (defBody sRatio_plus) (defScope sRatio_plus) [] [] (He.ma K (He.ga K "Ratio") "plus") fd
theorem Tx.f_Ratio_plus (T : Tx K mg) : ∃ fd, FRatio_plus K fd := T.c.def_ 36 (d := dRatio_plus) rfl
theorem bi_Ratio_plus {fd : FuncData} (F : FRatio_plus K fd) : Binds K fd ["self", "other"] [] := FunD.bindsN F fun _ _ _ _ _ _ us hl => match us, hl with | [_, _], _ => rfl
abbrev FRatio_minus (K : PySem.W.Frag) (fd : FuncData) : Prop := FunD K "minus" "Ratio.minus" (defArgs sRatio_minus) (defBody sRatio_minus) (defScope sRatio_minus) [] [] (He.ma K (He.ga K "Ratio") "minus") fd
theorem Tx.f_Ratio_minus (T : Tx K mg) : ∃ fd, FRatio_minus K fd := T.c.def_ 37 (d := dRatio_minus) rfl
theorem bi_Ratio_minus {fd : FuncData} (F : FRatio_minus K fd) : Binds K fd ["self", "other"] [] := FunD.bindsN F fun _ _ _ _ _ _ us hl => match us, hl with | [_, _], _ => rfl
abbrev FRatio_times (K : PySem.W.Frag) (fd : FuncData) : Prop := FunD K "times" "Ratio.times" (defArgs sRatio_times) (defBody sRatio_times) (defScope sRatio_times) [] [] (He.ma K (He.ga K "Ratio") "times") fd
theorem Tx.f_Ratio_times (T : Tx K mg) : ∃ fd, FRatio_times K fd := T.c.def_ 38 (d := dRatio_times) rfl
theorem bi_Ratio_times {fd : FuncData} (F : FRatio_times K fd) : Binds K fd ["self", "other"] [] := FunD.bindsN F fun _ _ _ _ _ _ us hl => match us, hl with | [_, _], _ => rfl
abbrev FRatio_over (K : PySem.W.Frag) (fd : FuncData) : Prop := FunD K "over" "Ratio.over" (defArgs sRatio_over) (defBody sRatio_over) (defScope sRatio_over) [] [] (He.ma K (He.ga K "Ratio") "over") fd
theorem Tx.f_Ratio_over (T : Tx K mg) : ∃ fd, FRatio_over K fd := T.c.def_ 39 (d := dRatio_over) rfl
theorem bi_Ratio_over {fd : FuncData} (F : FRatio_over K fd) : Binds K fd ["self", "other"] [] := FunD.bindsN F fun _ _ _ _ _ _ us hl => match us, hl with | [_, _], _ => rfl
abbrev FRatio_turned (K : PySem.W.Frag) (fd : FuncData) : Prop := FunD K "turned" "Ratio.turned" (defArgs sRatio_turned) (defBody sRatio_turned) (defScope sRatio_turned) [] [] (He.ma K (He.ga K "Ratio") "turned") fd
theorem Tx.f_Ratio_turned (T : Tx K mg) : ∃ fd, FRatio_turned K fd := T.c.def_ 40 (d := dRatio_turned) rfl
theorem bi_Ratio_turned {fd : FuncData} (F : FRatio_turned K fd) : Binds K fd ["self"] [] := FunD.bindsN F fun _ _ _ _ _ _ us hl => match us, hl with | [_], _ => rfl
abbrev FRatio_sign (K : PySem.W.Frag) (fd : FuncData) : Prop := FunD K "sign" "Ratio.sign" (defArgs sRatio_sign) (defBody sRatio_sign) (defScope sRatio_sign) [] [] (He.ma K (He.ga K "Ratio") "sign") fd
theorem Tx.f_Ratio_sign (T : Tx K mg) : ∃ fd, FRatio_sign K fd := T.c.def_ 41 (d := dRatio_sign) rfl
theorem bi_Ratio_sign {fd : FuncData} (F : FRatio_sign K fd) : Binds K fd ["self"] [] := FunD.bindsN F fun _ _ _ _ _ _ us hl => match us, hl with | [_], _ => rfl
abbrev FRatio_floor (K : PySem.W.Frag) (fd : FuncData) : Prop := FunD K "floor" "Ratio.floor" (defArgs sRatio_floor) (defBody sRatio_floor) (defScope sRatio_floor) [] [] (He.ma K (He.ga K "Ratio") "floor") fd
theorem Tx.f_Ratio_floor (T : Tx K mg) : ∃ fd, FRatio_floor K fd := T.c.def_ 42 (d := dRatio_floor) rfl
theorem bi_Ratio_floor {fd : FuncData} (F : FRatio_floor K fd) : Binds K fd ["self"] [] := FunD.bindsN F fun _ _ _ _ _ _ us hl => match us, hl with | [_], _ => rfl
abbrev FRatio_rest (K : PySem.W.Frag) (fd : FuncData) : Prop := FunD K "rest" "Ratio.rest" (defArgs sRatio_rest) (defBody sRatio_rest) (defScope sRatio_rest) [] [] (He.ma K (He.ga K "Ratio") "rest") fd
theorem Tx.f_Ratio_rest (T : Tx K mg) : ∃ fd, FRatio_rest K fd := T.c.def_ 43 (d := dRatio_rest) rfl
theorem bi_Ratio_rest {fd : FuncData} (F : FRatio_rest K fd) : Binds K fd ["self"] [] := FunD.bindsN F fun _ _ _ _ _ _ us hl => match us, hl with | [_], _ => rfl
abbrev FArbor_init (K : PySem.W.Frag) (fd : FuncData) : Prop := FunD K "__init__" "Arbor.__init__" (defArgs sArbor_init) (defBody sArbor_init) (defScope sArbor_init) [] [] (He.ma K (He.ga K "Arbor") "__init__") fd
theorem Tx.f_Arbor_init (T : Tx K mg) : ∃ fd, FArbor_init K fd := T.c.def_ 44 (d := dArbor_init) rfl
theorem bi_Arbor_init {fd : FuncData} (F : FArbor_init K fd) : Binds K fd ["self", "way", "name"] [] := FunD.bindsN F fun _ _ _ _ _ _ us hl => match us, hl with | [_, _, _], _ => rfl
abbrev FWheel_init (K : PySem.W.Frag) (fd : FuncData) : Prop := FunD K "__init__" "Wheel.__init__" (defArgs sWheel_init) (defBody sWheel_init) (defScope sWheel_init) [] [] (He.ma K (He.ga K "Wheel") "__init__") fd
theorem Tx.f_Wheel_init (T : Tx K mg) : ∃ fd, FWheel_init K fd := T.c.def_ 45 (d := dWheel_init) rfl
theorem bi_Wheel_init {fd : FuncData} (F : FWheel_init K fd) : Binds K fd ["self", "way", "name", "arbor", "teeth"] [] := FunD.bindsN F fun _ _ _ _ _ _ us hl => match us, hl with | [_, _, _, _, _], _ => rfl
abbrev FMesh_init (K : PySem.W.Frag) (fd : FuncData) : Prop := FunD K "__init__" "Pair.__init__" (defArgs sMesh_init) (defBody sMesh_init) (defScope sMesh_init) [V.non] [] (He.ma K (He.ga K "Mesh") "__init__") fd
theorem Tx.f_Mesh_init (T : Tx K mg) : ∃ fd, FMesh_init K fd := T.c.def_ 46 (d := dMesh_init) rfl
theorem bi_Mesh_init_4 {fd : FuncData} (F : FMesh_init K fd) : ∃ ds, Vals [V.non] ds ∧ Binds K fd ["self", "way", "one", "other", "arm"] ds := FunD.binds1 F 4 0 (by simp) rfl fun _ _ _ _ _ _ _ us its hl hi => match us, its, hl, hi with | [_, _, _, _], [_], _, _ => ⟨_, rfl, rfl⟩
theorem bi_Mesh_init_5 {fd : FuncData} (F : FMesh_init K fd) : ∃ ds, Vals [] ds ∧ Binds K fd ["self", "way", "one", "other", "arm"] ds := FunD.binds1 F 5 1 (by simp) rfl fun _ _ _ _ _ _ _ us its hl hi => match us, its, hl, hi with | [_, _, _, _, _], [_], _, _ => ⟨_, rfl, rfl⟩
abbrev FRing_init (K : PySem.W.Frag) (fd : FuncData) : Prop := FunD K "__init__" "Pair.__init__" (defArgs sRing_init) (defBody sRing_init) (defScope sRing_init) [V.non] [] (He.ma K (He.ga K "Ring") "__init__") fd
theorem Tx.f_Ring_init (T : Tx K mg) : ∃ fd, FRing_init K fd := T.c.def_ 47 (d := dRing_init) rfl
theorem bi_Ring_init_4 {fd : FuncData} (F : FRing_init K fd) : ∃ ds, Vals [V.non] ds ∧ Binds K fd ["self", "way", "one", "other", "arm"] ds := FunD.binds1 F 4 0 (by simp) rfl fun _ _ _ _ _ _ _ us its hl hi => match us, its, hl, hi with | [_, _, _, _], [_], _, _ => ⟨_, rfl, rfl⟩
theorem bi_Ring_init_5 {fd : FuncData} (F : FRing_init K fd) : ∃ ds, Vals [] ds ∧ Binds K fd ["self", "way", "one", "other", "arm"] ds := FunD.binds1 F 5 1 (by simp) rfl fun _ _ _ _ _ _ _ us its hl hi => match us, its, hl, hi with | [_, _, _, _, _], [_], _, _ => ⟨_, rfl, rfl⟩
abbrev FDrive_init (K : PySem.W.Frag) (fd : FuncData) : Prop := FunD K "__init__" "Drive.__init__" (defArgs sDrive_init) (defBody sDrive_init) (defScope sDrive_init) [] [] (He.ma K (He.ga K "Drive") "__init__") fd
theorem Tx.f_Drive_init (T : Tx K mg) : ∃ fd, FDrive_init K fd := T.c.def_ 48 (d := dDrive_init) rfl
theorem bi_Drive_init {fd : FuncData} (F : FDrive_init K fd) : Binds K fd ["self", "way", "arbor", "ratio"] [] := FunD.bindsN F fun _ _ _ _ _ _ us hl => match us, hl with | [_, _, _, _], _ => rfl
abbrev FStill_init (K : PySem.W.Frag) (fd : FuncData) : Prop := FunD K "__init__" "Still.__init__" (defArgs sStill_init) (defBody sStill_init) (defScope sStill_init) [] [] (He.ma K (He.ga K "Still") "__init__") fd
theorem Tx.f_Still_init (T : Tx K mg) : ∃ fd, FStill_init K fd := T.c.def_ 49 (d := dStill_init) rfl
theorem bi_Still_init {fd : FuncData} (F : FStill_init K fd) : Binds K fd ["self", "way", "arbor"] [] := FunD.bindsN F fun _ _ _ _ _ _ us hl => match us, hl with | [_, _, _], _ => rfl
abbrev FHand_init (K : PySem.W.Frag) (fd : FuncData) : Prop := FunD K "__init__" "Hand.__init__" (defArgs sHand_init) (defBody sHand_init) (defScope sHand_init) [V.non] [] (He.ma K (He.ga K "Hand") "__init__") fd
theorem Tx.f_Hand_init (T : Tx K mg) : ∃ fd, FHand_init K fd := T.c.def_ 50 (d := dHand_init) rfl
theorem bi_Hand_init_5 {fd : FuncData} (F : FHand_init K fd) : ∃ ds, Vals [V.non] ds ∧ Binds K fd ["self", "way", "name", "arbor", "marks", "begin"] ds := FunD.binds1 F 5 0 (by simp) rfl fun _ _ _ _ _ _ _ us its hl hi => match us, its, hl, hi with | [_, _, _, _, _], [_], _, _ => ⟨_, rfl, rfl⟩
theorem bi_Hand_init_6 {fd : FuncData} (F : FHand_init K fd) : ∃ ds, Vals [] ds ∧ Binds K fd ["self", "way", "name", "arbor", "marks", "begin"] ds := FunD.binds1 F 6 1 (by simp) rfl fun _ _ _ _ _ _ _ us its hl hi => match us, its, hl, hi with | [_, _, _, _, _, _], [_], _, _ => ⟨_, rfl, rfl⟩
abbrev FCount_init (K : PySem.W.Frag) (fd : FuncData) : Prop := FunD K "__init__" "Count.__init__" (defArgs sCount_init) (defBody sCount_init) (defScope sCount_init) [V.int 0] [] (He.ma K (He.ga K "Count") "__init__") fd
theorem Tx.f_Count_init (T : Tx K mg) : ∃ fd, FCount_init K fd := T.c.def_ 51 (d := dCount_init) rfl
theorem bi_Count_init_5 {fd : FuncData} (F : FCount_init K fd) : ∃ ds, Vals [V.int 0] ds ∧ Binds K fd ["self", "way", "name", "arbor", "teeth", "begin"] ds := FunD.binds1 F 5 0 (by simp) rfl fun _ _ _ _ _ _ _ us its hl hi => match us, its, hl, hi with | [_, _, _, _, _], [_], _, _ => ⟨_, rfl, rfl⟩
theorem bi_Count_init_6 {fd : FuncData} (F : FCount_init K fd) : ∃ ds, Vals [] ds ∧ Binds K fd ["self", "way", "name", "arbor", "teeth", "begin"] ds := FunD.binds1 F 6 1 (by simp) rfl fun _ _ _ _ _ _ _ us its hl hi => match us, its, hl, hi with | [_, _, _, _, _, _], [_], _, _ => ⟨_, rfl, rfl⟩
abbrev FBell_init (K : PySem.W.Frag) (fd : FuncData) : Prop := FunD K "__init__" "Bell.__init__" (defArgs sBell_init) (defBody sBell_init) (defScope sBell_init) [] [] (He.ma K (He.ga K "Bell") "__init__") fd
theorem Tx.f_Bell_init (T : Tx K mg) : ∃ fd, FBell_init K fd := T.c.def_ 52 (d := dBell_init) rfl
theorem bi_Bell_init {fd : FuncData} (F : FBell_init K fd) : Binds K fd ["self", "way", "name", "counter", "strokes"] [] := FunD.bindsN F fun _ _ _ _ _ _ us hl => match us, hl with | [_, _, _, _, _], _ => rfl
abbrev FAsked_init (K : PySem.W.Frag) (fd : FuncData) : Prop := FunD K "__init__" "Asked.__init__" (defArgs sAsked_init) (defBody sAsked_init) (defScope sAsked_init) [] [] (He.ma K (He.ga K "Asked") "__init__") fd
theorem Tx.f_Asked_init (T : Tx K mg) : ∃ fd, FAsked_init K fd := T.c.def_ 53 (d := dAsked_init) rfl
theorem bi_Asked_init {fd : FuncData} (F : FAsked_init K fd) : Binds K fd ["self", "terms", "total"] [] := FunD.bindsN F fun _ _ _ _ _ _ us hl => match us, hl with | [_, _, _], _ => rfl
abbrev FAsked_add (K : PySem.W.Frag) (fd : FuncData) : Prop := FunD K "add" "Asked.add" (defArgs sAsked_add) (defBody sAsked_add) (defScope sAsked_add) [] [] (He.ma K (He.ga K "Asked") "add") fd
theorem Tx.f_Asked_add (T : Tx K mg) : ∃ fd, FAsked_add K fd := T.c.def_ 54 (d := dAsked_add) rfl
theorem bi_Asked_add {fd : FuncData} (F : FAsked_add K fd) : Binds K fd ["self", "arbor", "number"] [] := FunD.bindsN F fun _ _ _ _ _ _ us hl => match us, hl with | [_, _, _], _ => rfl
abbrev FAsked_without (K : PySem.W.Frag) (fd : FuncData) : Prop := FunD K "without" "Asked.without" (defArgs sAsked_without) (defBody sAsked_without) (defScope sAsked_without) [] [] (He.ma K (He.ga K "Asked") "without") fd
theorem Tx.f_Asked_without (T : Tx K mg) : ∃ fd, FAsked_without K fd := T.c.def_ 55 (d := dAsked_without) rfl
theorem bi_Asked_without {fd : FuncData} (F : FAsked_without K fd) : Binds K fd ["self", "arbor", "other"] [] := FunD.bindsN F fun _ _ _ _ _ _ us hl => match us, hl with | [_, _, _], _ => rfl
abbrev FAsked_by_first (K : PySem.W.Frag) (fd : FuncData) : Prop := FunD K "by_first" "Asked.by_first" (defArgs sAsked_by_first) (defBody sAsked_by_first) (defScope sAsked_by_first) [] [] (He.ma K (He.ga K "Asked") "by_first") fd
theorem Tx.f_Asked_by_first (T : Tx K mg) : ∃ fd, FAsked_by_first K fd := T.c.def_ 56 (d := dAsked_by_first) rfl
theorem bi_Asked_by_first {fd : FuncData} (F : FAsked_by_first K fd) : Binds K fd ["self"] [] := FunD.bindsN F fun _ _ _ _ _ _ us hl => match us, hl with | [_], _ => rfl
abbrev FWork_init (K : PySem.W.Frag) (fd : FuncData) : Prop := FunD K "__init__" "Work.__init__" (defArgs sWork_init) (defBody sWork_init) (defScope sWork_init) [] [] (He.ma K (He.ga K "Work") "__init__") fd
theorem Tx.f_Work_init (T : Tx K mg) : ∃ fd, FWork_init K fd := T.c.def_ 57 (d := dWork_init) rfl
theorem bi_Work_init {fd : FuncData} (F : FWork_init K fd) : Binds K fd ["self", "rows"] [] := FunD.bindsN F fun _ _ _ _ _ _ us hl => match us, hl with | [_, _], _ => rfl
abbrev FWork_its_rows (K : PySem.W.Frag) (fd : FuncData) : Prop := FunD K "its_rows" "Work.its_rows" (defArgs sWork_its_rows) (defBody sWork_its_rows) (defScope sWork_its_rows) [] [] (He.ma K (He.ga K "Work") "its_rows") fd
theorem Tx.f_Work_its_rows (T : Tx K mg) : ∃ fd, FWork_its_rows K fd := T.c.def_ 58 (d := dWork_its_rows) rfl
theorem bi_Work_its_rows {fd : FuncData} (F : FWork_its_rows K fd) : Binds K fd ["self"] [] := FunD.bindsN F fun _ _ _ _ _ _ us hl => match us, hl with | [_], _ => rfl
abbrev FWork_speed (K : PySem.W.Frag) (fd : FuncData) : Prop := FunD K "speed" "Work.speed" (defArgs sWork_speed) (defBody sWork_speed) (defScope sWork_speed) [] [] (He.ma K (He.ga K "Work") "speed") fd
theorem Tx.f_Work_speed (T : Tx K mg) : ∃ fd, FWork_speed K fd := T.c.def_ 59 (d := dWork_speed) rfl
theorem bi_Work_speed {fd : FuncData} (F : FWork_speed K fd) : Binds K fd ["self", "arbor"] [] := FunD.bindsN F fun _ _ _ _ _ _ us hl => match us, hl with | [_, _], _ => rfl
end
end Ty
set_option Elab.async false
set_option linter.all false
/-! Ratios: what Ratio's arithmetic comes to, in Rat; bounds by powers of two. -/
namespace Ty
/-- the signed divisor -/
def both (a b : Int) : Int := if b < 0 then -((Nat.gcd a.natAbs b.natAbs : Nat) : Int) else ((Nat.gcd a.natAbs b.natAbs : Nat) : Int)
theorem gcd_pos' {a b : Int} (hb : b ≠ 0) : 0 < Nat.gcd a.natAbs b.natAbs := Nat.gcd_pos_of_pos_right _ (Int.natAbs_pos.mpr hb)
theorem both_ne {a b : Int} (hb : b ≠ 0) : both a b ≠ 0 := by
  have := gcd_pos' (a := a) hb
  unfold both
  split <;> omega
theorem both_abs {a b : Int} : (both a b).natAbs = Nat.gcd a.natAbs b.natAbs := by
  unfold both
  split <;> omega
theorem divInt_pos {a b : Int} (hb : 0 < b) : Rat.divInt a b = Rat.normalize a b.natAbs (by omega) := by
  obtain ⟨n, rfl⟩ : ∃ n : Nat, b = (n : Int) := ⟨b.toNat, by omega⟩
  have hn : n ≠ 0 := by omega
  show mkRat a n = _
  unfold mkRat
  rw [dif_neg hn]
  simp
theorem divInt_neg' {a b : Int} (hb : b < 0) : Rat.divInt a b = Rat.normalize (-a) b.natAbs (by omega) := by
  obtain ⟨n, rfl⟩ : ∃ n : Nat, b = Int.negSucc n := ⟨(-b).toNat - 1, by omega⟩
  rfl
theorem rq_num {a b : Int} (hb : b ≠ 0) : a.fdiv (both a b) = (Rat.divInt a b).num := by
  have hg := gcd_pos' (a := a) hb
  by_cases h : b < 0
  · rw [divInt_neg' h, Rat.num_normalize]
    unfold both
    rw [if_pos h]
    rw [← Int.neg_fdiv_neg, Int.neg_neg, Int.fdiv_eq_ediv_of_nonneg _ (by omega), Int.natAbs_neg]
  · rw [divInt_pos (by omega), Rat.num_normalize]
    unfold both
    rw [if_neg h, Int.fdiv_eq_ediv_of_nonneg _ (by omega)]
theorem rq_den {a b : Int} (hb : b ≠ 0) : b.fdiv (both a b) = ((Rat.divInt a b).den : Int) := by
  have hg := gcd_pos' (a := a) hb
  by_cases h : b < 0
  · rw [divInt_neg' h, Rat.den_normalize]
    unfold both
    rw [if_pos h]
    rw [← Int.neg_fdiv_neg, Int.neg_neg, Int.fdiv_eq_ediv_of_nonneg _ (by omega), Int.natAbs_neg, Int.natCast_ediv]
    congr 1
    omega
  · rw [divInt_pos (by omega), Rat.den_normalize]
    unfold both
    rw [if_neg h, Int.fdiv_eq_ediv_of_nonneg _ (by omega), Int.natCast_ediv]
    congr 1
    omega
/-! ### the methods -/
theorem rq_self (q : Rat) : Rat.divInt q.num q.den = q := Rat.mkRat_self q
theorem den_ne (q : Rat) : (q.den : Int) ≠ 0 := by
  have := q.den_pos
  omega
theorem rden_ne (q : Rat) : (q.den : Rat) ≠ 0 := by
  have := q.den_nz
  simpa using this
theorem rq_add (a b : Rat) : Rat.divInt (a.num * b.den + b.num * a.den) (a.den * b.den) = a + b := by
  rw [Rat.add_def']
  rfl
theorem rq_mul (a b : Rat) : Rat.divInt (a.num * b.num) (a.den * b.den) = a * b := by
  rw [Rat.mul_def']
  rfl
theorem rq_neg (a : Rat) : Rat.divInt (-a.num) a.den = -a := by
  rw [← Rat.neg_divInt, rq_self]
theorem rq_div (a b : Rat) : Rat.divInt (a.num * b.den) (a.den * b.num) = a / b := by
  rw [Rat.div_def, Rat.inv_def, ← Rat.divInt_mul_divInt, rq_self]
/-- by how much it is above its floor -/
def rest (q : Rat) : Rat := q - (q.floor : Rat)
theorem rq_rest (q : Rat) : Rat.divInt (q.num % q.den) q.den = rest q := by
  have h : q.num % q.den = q.num - q.den * (q.num / q.den) := Int.emod_def ..
  have e := Rat.floor_def q
  unfold rest
  rw [h, e, Rat.divInt_eq_div, Rat.intCast_sub, Rat.intCast_mul]
  have hn : (q.num : Rat) / (q.den : Rat) = q := by
    have := rq_self q
    rw [Rat.divInt_eq_div] at this
    exact this
  have hd := rden_ne q
  generalize (q.num / (q.den : Int)) = f
  have e1 : ((q.den : Int) : Rat) = (q.den : Rat) := rfl
  rw [e1]
  have : (q.num : Rat) = q * q.den := by
    conv => rhs; lhs; rw [← hn]
    rw [Rat.div_mul_cancel hd]
  rw [this]
  grind
theorem rq_int (n : Int) : Rat.divInt n 1 = (n : Rat) := by
  have := rq_self (n : Rat)
  simpa using this
theorem sign_pos {q : Rat} : 0 < q.num ↔ 0 < q := by
  have := Rat.lt_iff 0 q
  simp at this
  rw [this]
theorem sign_neg {q : Rat} : q.num < 0 ↔ q < 0 := by
  have := Rat.lt_iff q 0
  simp at this
  rw [this]
/-- int(top > 0) - int(top < 0) -/
def sgn (q : Rat) : Int := (if 0 < q.num then 1 else 0) - (if q.num < 0 then 1 else 0)
theorem sgn_zero {q : Rat} : sgn q = 0 ↔ q = 0 := by
  unfold sgn
  rw [← Rat.num_eq_zero]
  split <;> split <;> omega
theorem sgn_pos {q : Rat} : 0 < sgn q ↔ 0 < q := by
  unfold sgn
  rw [← sign_pos]
  split <;> split <;> omega
theorem sgn_neg {q : Rat} : sgn q < 0 ↔ q < 0 := by
  unfold sgn
  rw [← sign_neg]
  split <;> split <;> omega
/-! ### bounds -/
/-- top and bottom lie below 2 ^ n -/
def Bd (n : Nat) (q : Rat) : Prop := q.num.natAbs < 2 ^ n ∧ q.den < 2 ^ n
theorem pow_le {m n : Nat} (h : m ≤ n) : 2 ^ m ≤ 2 ^ n := Nat.pow_le_pow_right (by decide) h
theorem Bd.mono {m n : Nat} {q : Rat} (b : Bd m q) (h : m ≤ n) : Bd n q := ⟨Nat.lt_of_lt_of_le b.1 (pow_le h), Nat.lt_of_lt_of_le b.2 (pow_le h)⟩
theorem bd_divInt {n : Nat} {a b : Int} (hb : b ≠ 0) (h1 : a.natAbs < 2 ^ n) (h2 : b.natAbs < 2 ^ n) : Bd n (Rat.divInt a b) := by
  have hg := gcd_pos' (a := a) hb
  have fl : ∀ x : Int, (x.fdiv (both a b)).natAbs ≤ x.natAbs ∨ ¬ (both a b ∣ x) := fun x => by
    by_cases hd : both a b ∣ x
    · left
      rw [Int.fdiv_eq_ediv_of_dvd hd]
      exact Int.natAbs_ediv_le_natAbs ..
    · exact .inr hd
  have d1 : both a b ∣ a := by
    rw [← Int.natAbs_dvd, both_abs, ← Int.dvd_natAbs, Int.ofNat_dvd]
    exact Nat.gcd_dvd_left ..
  have d2 : both a b ∣ b := by
    rw [← Int.natAbs_dvd, both_abs, ← Int.dvd_natAbs, Int.ofNat_dvd]
    exact Nat.gcd_dvd_right ..
  have f1 := (fl a).resolve_right (fun z => z d1)
  have f2 := (fl b).resolve_right (fun z => z d2)
  rw [rq_num hb] at f1
  rw [rq_den hb] at f2
  exact ⟨by omega, by omega⟩
theorem pow_add_mul {a b m n : Nat} (h1 : a < 2 ^ m) (h2 : b < 2 ^ n) : a * b < 2 ^ (m + n) := by
  rw [Nat.pow_add]
  exact Nat.mul_lt_mul'' h1 h2
theorem abs_mul_lt {a b : Int} {m n : Nat} (h1 : a.natAbs < 2 ^ m) (h2 : b.natAbs < 2 ^ n) : (a * b).natAbs < 2 ^ (m + n) := by
  rw [Int.natAbs_mul]
  exact pow_add_mul h1 h2
theorem abs_add_lt {a b : Int} {n : Nat} (h1 : a.natAbs < 2 ^ n) (h2 : b.natAbs < 2 ^ n) : (a + b).natAbs < 2 ^ (n + 1) := by
  rw [Nat.pow_succ]
  omega
theorem Bd.add_num {m n : Nat} {a b : Rat} (h : Bd m a) (k : Bd n b) : (a.num * b.den + b.num * a.den).natAbs < 2 ^ (m + n + 1) := by
  refine abs_add_lt (abs_mul_lt h.1 (by simpa using k.2)) ?_
  rw [Nat.add_comm m n]
  exact abs_mul_lt k.1 (by simpa using h.2)
theorem Bd.mul_den {m n : Nat} {a b : Rat} (h : Bd m a) (k : Bd n b) : ((a.den : Int) * b.den).natAbs < 2 ^ (m + n) := abs_mul_lt (by simpa using h.2) (by simpa using k.2)
theorem bd_add {m n : Nat} {a b : Rat} (h : Bd m a) (k : Bd n b) : Bd (m + n + 1) (a + b) := by
  rw [← rq_add]
  exact bd_divInt (Int.mul_ne_zero (den_ne a) (den_ne b)) (h.add_num k) (Nat.lt_of_lt_of_le (h.mul_den k) (pow_le (by omega)))
theorem bd_neg {n : Nat} {a : Rat} (h : Bd n a) : Bd n (-a) := by
  refine ⟨?_, h.2⟩
  show (-a.num).natAbs < _
  rw [Int.natAbs_neg]
  exact h.1
theorem bd_sub {m n : Nat} {a b : Rat} (h : Bd m a) (k : Bd n b) : Bd (m + n + 1) (a - b) := by
  rw [Rat.sub_eq_add_neg]
  exact bd_add h (bd_neg k)
theorem bd_mul {m n : Nat} {a b : Rat} (h : Bd m a) (k : Bd n b) : Bd (m + n) (a * b) := by
  rw [← rq_mul]
  exact bd_divInt (Int.mul_ne_zero (den_ne a) (den_ne b)) (abs_mul_lt h.1 k.1) (h.mul_den k)
theorem bd_div {m n : Nat} {a b : Rat} (hb : b ≠ 0) (h : Bd m a) (k : Bd n b) : Bd (m + n) (a / b) := by
  rw [← rq_div]
  have hn : b.num ≠ 0 := fun z => hb (Rat.num_eq_zero.mp z)
  exact bd_divInt (Int.mul_ne_zero (den_ne a) hn) (abs_mul_lt h.1 (by simpa using k.2)) (abs_mul_lt (by simpa using h.2) k.1)
theorem bd_rest {n : Nat} {a : Rat} (h : Bd n a) : Bd n (rest a) := by
  rw [← rq_rest]
  have hd := a.den_pos
  have h1 := Int.emod_nonneg a.num (den_ne a)
  have h2 := Int.emod_lt_of_pos a.num (show (0 : Int) < a.den by omega)
  have h3 := h.2
  exact bd_divInt (den_ne a) (by omega) (by omega)
theorem bd_int {n : Nat} {z : Int} (hn : 0 < n) (h : z.natAbs < 2 ^ n) : Bd n (z : Rat) := ⟨h, by
  show 1 < 2 ^ n
  exact Nat.one_lt_two_pow (by omega)⟩
/-- bounds of the Ratios that are reckoned with -/
abbrev Ok (q : Rat) : Prop := Bd 3900 q
end Ty
set_option Elab.async false
set_option linter.all false
set_option maxHeartbeats 1000000
/-! The solver on lists: dicts as lists of pairs, rows, what is taken in. -/
namespace Ty
section
variable {κ β : Type} [DecidableEq κ]
/-! ### dicts as lists -/
def getT (l : List (κ × β)) (k : κ) : Option β := (l.find? fun p => decide (p.1 = k)).map (·.2)
def putT (l : List (κ × β)) (k : κ) (v : β) : List (κ × β) := if (l.any fun p => decide (p.1 = k)) = true then l.map (fun p => if p.1 = k then (p.1, v) else p) else l ++ [(k, v)]
def dropT (l : List (κ × β)) (k : κ) : List (κ × β) := l.filter fun p => decide (p.1 ≠ k)
theorem getT_nil {k : κ} : getT ([] : List (κ × β)) k = none := rfl
theorem getT_pos {p : κ × β} {r : List (κ × β)} {k : κ} (e : p.1 = k) : getT (p :: r) k = some p.2 := by simp [getT, List.find?_cons, e]
theorem getT_neg {p : κ × β} {r : List (κ × β)} {k : κ} (e : ¬ p.1 = k) : getT (p :: r) k = getT r k := by simp [getT, List.find?_cons, e]
theorem getT_mem {l : List (κ × β)} {k : κ} {v : β} (h : getT l k = some v) : (k, v) ∈ l := by
  induction l with
  | nil => cases h
  | cons p r ih =>
    by_cases e : p.1 = k
    · rw [getT_pos e] at h
      cases h
      subst e
      exact List.mem_cons_self
    · rw [getT_neg e] at h
      exact List.mem_cons_of_mem _ (ih h)
theorem getT_none {l : List (κ × β)} {k : κ} : getT l k = none ↔ k ∉ l.map (·.1) := by
  induction l with
  | nil => simp [getT_nil]
  | cons p r ih =>
    by_cases e : p.1 = k
    · rw [getT_pos e]
      simp [e]
    · rw [getT_neg e, ih]
      simp only [List.map_cons, List.mem_cons, not_or]
      constructor
      · exact fun h => ⟨fun z => e z.symm, h⟩
      · exact fun h => h.2
theorem getT_of_mem {l : List (κ × β)} (nd : (l.map (·.1)).Nodup) {k : κ} {v : β} (h : (k, v) ∈ l) : getT l k = some v := by
  induction l with
  | nil => cases h
  | cons p r ih =>
    rw [List.map_cons, List.nodup_cons] at nd
    rcases List.mem_cons.mp h with e | h
    · subst e
      exact getT_pos rfl
    · have : ¬ p.1 = k := fun z => nd.1 (List.mem_map.mpr ⟨(k, v), h, z.symm⟩)
      rw [getT_neg this]
      exact ih nd.2 h
theorem any_iff {l : List (κ × β)} {k : κ} : (l.any fun p => decide (p.1 = k)) = true ↔ k ∈ l.map (·.1) := by
  simp only [List.any_eq_true, decide_eq_true_eq, List.mem_map]
theorem putT_new {l : List (κ × β)} {k : κ} {v : β} (h : k ∉ l.map (·.1)) : putT l k v = l ++ [(k, v)] := if_neg fun z => h (any_iff.mp z)
theorem getT_put {l : List (κ × β)} {k m : κ} {v : β} : getT (putT l k v) m = if m = k then some v else getT l m := by
  unfold putT
  by_cases h : (l.any fun p => decide (p.1 = k)) = true
  · rw [if_pos h]
    have hk := any_iff.mp h
    clear h
    induction l with
    | nil => simp at hk
    | cons p r ih =>
      rw [List.map_cons]
      by_cases e : p.1 = k
      · rw [if_pos e]
        by_cases em : m = k
        · rw [if_pos em, getT_pos (by show p.1 = m; rw [e, em])]
        · rw [if_neg em, getT_neg (by show ¬ p.1 = m; exact fun z => em (z.symm.trans e)), getT_neg (fun z => em (z.symm.trans e))]
          have : ∀ r : List (κ × β), getT (r.map fun p => if p.1 = k then (p.1, v) else p) m = getT r m := fun r => by
            induction r with
            | nil => rfl
            | cons q r ih2 =>
              rw [List.map_cons]
              by_cases e2 : q.1 = k
              · rw [if_pos e2, getT_neg (by show ¬ q.1 = m; exact fun z => em (z.symm.trans e2)), getT_neg (fun z => em (z.symm.trans e2)), ih2]
              · rw [if_neg e2]
                by_cases e3 : q.1 = m
                · rw [getT_pos e3, getT_pos e3]
                · rw [getT_neg e3, getT_neg e3, ih2]
          exact this r
      · rw [if_neg e]
        have hk2 : k ∈ r.map (·.1) := by
          rcases List.mem_cons.mp hk with z | z
          · exact absurd z.symm e
          · exact z
        by_cases e2 : p.1 = m
        · rw [getT_pos e2, getT_pos e2, if_neg (fun z => e (e2.trans z))]
        · rw [getT_neg e2, getT_neg e2, ih hk2]
  · rw [if_neg h]
    have hk : k ∉ l.map (·.1) := fun z => h (any_iff.mpr z)
    clear h
    induction l with
    | nil =>
      by_cases em : m = k
      · rw [if_pos em]
        exact getT_pos em.symm
      · rw [if_neg em]
        exact getT_neg (fun z => em z.symm)
    | cons p r ih =>
      rw [List.cons_append]
      have hk2 : k ∉ r.map (·.1) := fun z => hk (List.mem_cons_of_mem _ z)
      by_cases e2 : p.1 = m
      · rw [getT_pos e2, getT_pos e2, if_neg (fun z => hk (by rw [← z, ← e2]; exact List.mem_cons_self))]
      · rw [getT_neg e2, getT_neg e2, ih hk2]
theorem keys_put {l : List (κ × β)} {k : κ} {v : β} : (putT l k v).map (·.1) = if k ∈ l.map (·.1) then l.map (·.1) else l.map (·.1) ++ [k] := by
  unfold putT
  by_cases h : (l.any fun p => decide (p.1 = k)) = true
  · rw [if_pos h, if_pos (any_iff.mp h), List.map_map]
    apply List.map_congr_left
    intro p _
    show (if p.1 = k then (p.1, v) else p).1 = p.1
    split <;> rfl
  · rw [if_neg h, if_neg (fun z => h (any_iff.mpr z)), List.map_append] <;> rfl
theorem nodup_snoc {l : List κ} {k : κ} (h : l.Nodup) (hk : k ∉ l) : (l ++ [k]).Nodup := by
  rw [List.nodup_append]
  exact ⟨h, by simp, fun a ha b hb => by
    have : b = k := by simpa using hb
    rw [this]
    exact fun z => hk (by rw [← z]; exact ha)⟩
theorem nodup_put {l : List (κ × β)} {k : κ} {v : β} (h : (l.map (·.1)).Nodup) : ((putT l k v).map (·.1)).Nodup := by
  rw [keys_put]
  split
  · exact h
  · rename_i hk
    exact nodup_snoc h hk
theorem mem_put {l : List (κ × β)} {k : κ} {v : β} {p : κ × β} (h : p ∈ putT l k v) : p = (k, v) ∨ (p ∈ l) := by
  unfold putT at h
  split at h
  · obtain ⟨q, hq, e⟩ := List.mem_map.mp h
    split at e
    · rename_i z
      left
      rw [← e, z]
    · right
      rw [← e]
      exact hq
  · rcases List.mem_append.mp h with z | z
    · exact .inr z
    · left
      simpa using z
theorem nodup_drop {l : List (κ × β)} {k : κ} (h : (l.map (·.1)).Nodup) : ((dropT l k).map (·.1)).Nodup := List.Nodup.sublist (List.Sublist.map _ List.filter_sublist) h
theorem mem_drop {l : List (κ × β)} {k : κ} {p : κ × β} (h : p ∈ dropT l k) : p ∈ l := (List.mem_filter.mp h).1
theorem getT_drop {l : List (κ × β)} {k m : κ} : getT (dropT l k) m = if m = k then none else getT l m := by
  induction l with
  | nil => split <;> rfl
  | cons p r ih =>
    unfold dropT at ih ⊢
    by_cases e : p.1 = k
    · rw [List.filter_cons, if_neg (by simp [e]), ih]
      split
      · rfl
      · rename_i hm
        rw [getT_neg (fun z => hm (z.symm.trans e))]
    · rw [List.filter_cons, if_pos (by simp [e])]
      by_cases e2 : p.1 = m
      · rw [getT_pos e2, getT_pos e2, if_neg (fun z => e (e2.trans z))]
      · rw [getT_neg e2, getT_neg e2, ih]
theorem getT_map {γ : Type} {l : List (κ × β)} {f : β → γ} {k : κ} : getT (l.map fun p => (p.1, f p.2)) k = (getT l k).map f := by
  induction l with
  | nil => rfl
  | cons p r ih =>
    rw [List.map_cons]
    by_cases e : p.1 = k
    · rw [getT_pos (p := (p.1, f p.2)) e, getT_pos e] <;> rfl
    · rw [getT_neg (p := (p.1, f p.2)) e, getT_neg e, ih]
end
section
variable {κ : Type} [DecidableEq κ]
/-! ### terms -/
abbrev Terms (κ : Type) := List (κ × Rat)
/-- the number of a name, 0 where it doesn't stand -/
def cf (ts : Terms κ) (n : κ) : Rat := (getT ts n).getD 0
def addT (ts : Terms κ) (n : κ) (x : Rat) : Terms κ := if cf ts n + x = 0 then dropT ts n else putT ts n (cf ts n + x)
theorem cf_add {ts : Terms κ} {n m : κ} {x : Rat} : cf (addT ts n x) m = cf ts m + (if m = n then x else 0) := by
  unfold addT
  split
  · rename_i h
    unfold cf at h ⊢
    rw [getT_drop]
    split
    · rename_i e
      rw [e]
      exact h.symm
    · rw [Rat.add_zero]
  · unfold cf
    rw [getT_put]
    split
    · rename_i e
      rw [e] <;> rfl
    · rw [Rat.add_zero]
/-- no name twice, no number nought -/
structure Good (ts : Terms κ) : Prop where
  nd : (ts.map (·.1)).Nodup
  nz : ∀ p ∈ ts, p.2 ≠ 0
theorem Good.nil : Good ([] : Terms κ) := ⟨by simp, fun _ h => by cases h⟩
theorem Good.add {ts : Terms κ} (g : Good ts) (n : κ) (x : Rat) : Good (addT ts n x) := by
  unfold addT
  split
  · exact ⟨nodup_drop g.nd, fun p hp => g.nz p (mem_drop hp)⟩
  · rename_i h
    refine ⟨nodup_put g.nd, fun p hp => ?_⟩
    rcases mem_put hp with e | e
    · rw [e]
      exact h
    · exact g.nz p e
theorem Good.cf_mem {ts : Terms κ} (g : Good ts) {n : κ} {x : Rat} (h : (n, x) ∈ ts) : cf ts n = x := by
  unfold cf
  rw [getT_of_mem g.nd h] <;> rfl
theorem Good.cf_zero {ts : Terms κ} (g : Good ts) {n : κ} : cf ts n = 0 ↔ n ∉ ts.map (·.1) := by
  constructor
  · intro h hm
    obtain ⟨p, hp, e⟩ := List.mem_map.mp hm
    have h1 : (n, p.2) ∈ ts := by
      rw [← e]
      exact hp
    rw [g.cf_mem h1] at h
    exact g.nz p hp h
  · intro h
    unfold cf
    rw [getT_none.mpr h] <;> rfl
theorem Good.get {ts : Terms κ} (g : Good ts) {n : κ} : getT ts n = if cf ts n = 0 then none else some (cf ts n) := by
  split
  · rename_i h
    exact getT_none.mpr (g.cf_zero.mp h)
  · rename_i h
    cases e : getT ts n with
    | none => exact absurd (by unfold cf; rw [e]; rfl) h
    | some x => unfold cf; rw [e] <;> rfl
/-! ### rows -/
abbrev Rw (κ : Type) := Terms κ × Rat
/-- the names of o, one by one -/
def subT (k : Rat) (ts ots : Terms κ) : Terms κ := ots.foldl (fun acc p => addT acc p.1 (-(p.2 * k))) ts
def withoutR (r : Rw κ) (a : κ) (o : Rw κ) : Rw κ := match getT r.1 a with
  | none => r
  | some k => (subT k r.1 o.1, r.2 - o.2 * k)
theorem subT_nil {k : Rat} {ts : Terms κ} : subT k ts [] = ts := rfl
theorem subT_cons {k : Rat} {ts ots : Terms κ} {p : κ × Rat} : subT k ts (p :: ots) = subT k (addT ts p.1 (-(p.2 * k))) ots := rfl
theorem subT_snoc {k : Rat} {ts ots : Terms κ} {p : κ × Rat} : subT k ts (ots ++ [p]) = addT (subT k ts ots) p.1 (-(p.2 * k)) := by
  unfold subT
  rw [List.foldl_append] <;> rfl
theorem Good.sub {ts : Terms κ} (g : Good ts) (k : Rat) : ∀ ots : Terms κ, Good (subT k ts ots) := by
  intro ots
  induction ots generalizing ts with
  | nil => exact g
  | cons p r ih => exact ih (g.add _ _)
theorem cf_cons {ts : Terms κ} {p : κ × Rat} {m : κ} (nd : ((p :: ts).map (·.1)).Nodup) : cf (p :: ts) m = (if m = p.1 then p.2 else 0) + cf ts m := by
  rw [List.map_cons, List.nodup_cons] at nd
  unfold cf
  by_cases e : p.1 = m
  · rw [getT_pos e, if_pos e.symm, getT_none.mpr (by rw [← e]; exact nd.1)]
    show p.2 = p.2 + 0
    rw [Rat.add_zero]
  · rw [getT_neg e, if_neg (fun z => e z.symm), Rat.zero_add]
theorem cf_sub {k : Rat} {m : κ} : ∀ {ots ts : Terms κ}, (ots.map (·.1)).Nodup → cf (subT k ts ots) m = cf ts m - cf ots m * k := by
  intro ots
  induction ots with
  | nil =>
    intro ts _
    show cf ts m = cf ts m - 0 * k
    rw [Rat.zero_mul]
    grind
  | cons p r ih =>
    intro ts nd
    rw [subT_cons, ih (List.nodup_cons.mp nd).2, cf_add, cf_cons nd]
    split <;> grind
/-- on the way each number is the old or the new one -/
theorem cf_sub_part {k : Rat} {m : κ} {ts : Terms κ} : ∀ {a b : Terms κ}, ((a ++ b).map (·.1)).Nodup → cf (subT k ts a) m = cf ts m ∨ cf (subT k ts a) m = cf ts m - cf (a ++ b) m * k := by
  intro a b nd
  have nd1 : (a.map (·.1)).Nodup := by
    rw [List.map_append, List.nodup_append] at nd
    exact nd.1
  rw [cf_sub nd1]
  by_cases h : m ∈ a.map (·.1)
  · right
    congr 2
    unfold cf
    induction a with
    | nil => simp at h
    | cons p r ih =>
      rw [List.cons_append]
      by_cases e : p.1 = m
      · rw [getT_pos e, getT_pos e]
      · rw [getT_neg e, getT_neg e]
        refine ih (List.nodup_cons.mp nd).2 (List.nodup_cons.mp nd1).2 ?_
        rcases List.mem_cons.mp h with z | z
        · exact absurd z.symm e
        · exact z
  · left
    have : cf a m = 0 := by
      unfold cf
      rw [getT_none.mpr h] <;> rfl
    rw [this, Rat.zero_mul]
    grind
theorem cf_without {r o : Rw κ} {a m : κ} (nd : (o.1.map (·.1)).Nodup) : cf (withoutR r a o).1 m = cf r.1 m - cf o.1 m * cf r.1 a := by
  unfold withoutR
  cases e : getT r.1 a with
  | none =>
    have : cf r.1 a = 0 := by
      unfold cf
      rw [e] <;> rfl
    rw [this, Rat.mul_zero]
    show cf r.1 m = _
    grind
  | some k =>
    have : cf r.1 a = k := by
      unfold cf
      rw [e] <;> rfl
    rw [this]
    exact cf_sub nd
theorem tot_without {r o : Rw κ} {a : κ} : (withoutR r a o).2 = r.2 - o.2 * cf r.1 a := by
  unfold withoutR
  cases e : getT r.1 a with
  | none =>
    have : cf r.1 a = 0 := by
      unfold cf
      rw [e] <;> rfl
    rw [this, Rat.mul_zero]
    show r.2 = _
    grind
  | some k =>
    have : cf r.1 a = k := by
      unfold cf
      rw [e] <;> rfl
    rw [this]
theorem Good.without {r : Rw κ} (g : Good r.1) (a : κ) (o : Rw κ) : Good (withoutR r a o).1 := by
  unfold withoutR
  cases e : getT r.1 a with
  | none => exact g
  | some k => exact g.sub k o.1
/-! ### what is asked of an assignment -/
def dot (ts : Terms κ) (u : κ → Rat) : Rat := (ts.map fun p => p.2 * u p.1).sum
theorem sum_cons' {x : Rat} {l : List Rat} : (x :: l).sum = x + l.sum := by simp
theorem dot_cons {p : κ × Rat} {ts : Terms κ} {u : κ → Rat} : dot (p :: ts) u = p.2 * u p.1 + dot ts u := by
  unfold dot
  rw [List.map_cons, sum_cons']
theorem dot_append {a b : Terms κ} {u : κ → Rat} : dot (a ++ b) u = dot a u + dot b u := by
  induction a with
  | nil =>
    show dot b u = 0 + dot b u
    rw [Rat.zero_add]
  | cons p r ih =>
    rw [List.cons_append, dot_cons, dot_cons, ih]
    grind
theorem dot_drop {u : κ → Rat} {n : κ} : ∀ {ts : Terms κ}, (ts.map (·.1)).Nodup → dot (dropT ts n) u = dot ts u - cf ts n * u n := by
  intro ts
  induction ts with
  | nil =>
    intro _
    show (0 : Rat) = 0 - 0 * u n
    grind
  | cons p r ih =>
    intro nd
    have nd2 := List.nodup_cons.mp nd
    rw [dot_cons, cf_cons nd]
    unfold dropT at ih ⊢
    by_cases e : p.1 = n
    · have hz : cf r n = 0 := by
        unfold cf
        rw [getT_none.mpr (by rw [← e]; exact nd2.1)] <;> rfl
      rw [List.filter_cons, if_neg (by simp [e]), ih nd2.2, if_pos e.symm, hz, e]
      grind
    · rw [List.filter_cons, if_pos (by simp [e]), dot_cons, ih nd2.2, if_neg (fun z => e z.symm)]
      grind
theorem dot_put {u : κ → Rat} {n : κ} {x : Rat} : ∀ {ts : Terms κ}, (ts.map (·.1)).Nodup → dot (putT ts n x) u = dot ts u - cf ts n * u n + x * u n := by
  intro ts nd
  by_cases h : n ∈ ts.map (·.1)
  · unfold putT
    rw [if_pos (any_iff.mpr h)]
    induction ts with
    | nil => simp at h
    | cons p r ih =>
      have nd2 := List.nodup_cons.mp nd
      rw [List.map_cons, dot_cons, dot_cons, cf_cons nd]
      by_cases e : p.1 = n
      · have hz : cf r n = 0 := by
          unfold cf
          rw [getT_none.mpr (by rw [← e]; exact nd2.1)] <;> rfl
        have hm : (r.map fun p => if p.1 = n then (p.1, x) else p) = r := by
          conv => rhs; rw [← List.map_id r]
          apply List.map_congr_left
          intro q hq
          rw [if_neg (fun z => nd2.1 (List.mem_map.mpr ⟨q, hq, z.trans e.symm⟩))] <;> rfl
        rw [if_pos e, hm, if_pos e.symm, hz, e]
        grind
      · have hm : n ∈ r.map (·.1) := by
          rcases List.mem_cons.mp h with z | z
          · exact absurd z.symm e
          · exact z
        rw [if_neg e, ih nd2.2 hm, if_neg (fun z => e z.symm)]
        grind
  · rw [putT_new h, dot_append]
    have hz : cf ts n = 0 := by
      unfold cf
      rw [getT_none.mpr h] <;> rfl
    rw [hz, show dot [(n, x)] u = x * u n by rw [dot_cons]; show _ + (0 : Rat) = _; rw [Rat.add_zero]]
    grind
theorem dot_add {ts : Terms κ} {u : κ → Rat} {n : κ} {x : Rat} (nd : (ts.map (·.1)).Nodup) : dot (addT ts n x) u = dot ts u + x * u n := by
  unfold addT
  split
  · rename_i h
    rw [dot_drop nd]
    have : cf ts n = -x := by grind
    rw [this]
    grind
  · rw [dot_put nd]
    grind
theorem dot_sub {u : κ → Rat} {k : Rat} : ∀ {ots ts : Terms κ}, Good ts → dot (subT k ts ots) u = dot ts u - dot ots u * k := by
  intro ots
  induction ots with
  | nil =>
    intro ts _
    show dot ts u = dot ts u - 0 * k
    grind
  | cons p r ih =>
    intro ts g
    rw [subT_cons, ih (g.add _ _), dot_add g.nd, dot_cons]
    grind
def Sat (u : κ → Rat) (r : Rw κ) : Prop := dot r.1 u = r.2
theorem Sat.without {u : κ → Rat} {r o : Rw κ} {a : κ} (g : Good r.1) (h : Sat u r) (k : Sat u o) : Sat u (withoutR r a o) := by
  unfold withoutR
  cases e : getT r.1 a with
  | none => exact h
  | some x =>
    unfold Sat at h k ⊢
    show dot (subT x r.1 o.1) u = r.2 - o.2 * x
    rw [dot_sub g, h, k]
def divR (r : Rw κ) (k : Rat) : Rw κ := (r.1.map fun p => (p.1, p.2 / k), r.2 / k)
theorem Sat.div {u : κ → Rat} {r : Rw κ} (h : Sat u r) (k : Rat) : Sat u (divR r k) := by
  unfold Sat at h ⊢
  show dot (r.1.map fun p => (p.1, p.2 / k)) u = r.2 / k
  rw [← h]
  generalize r.1 = ts
  induction ts with
  | nil =>
    show (0 : Rat) = 0 / k
    rw [Rat.div_def, Rat.zero_mul]
  | cons p r ih =>
    rw [List.map_cons, dot_cons, dot_cons, ih]
    rw [Rat.div_def, Rat.div_def, Rat.div_def]
    grind
theorem cf_div {r : Rw κ} {k : Rat} {m : κ} : cf (divR r k).1 m = cf r.1 m / k := by
  unfold cf divR
  rw [getT_map (f := fun x : Rat => x / k)]
  cases getT r.1 m with
  | none =>
    show (0 : Rat) = 0 / k
    rw [Rat.div_def, Rat.zero_mul]
  | some x => rfl
theorem Good.div {r : Rw κ} (g : Good r.1) {k : Rat} (hk : k ≠ 0) : Good (divR r k).1 := by
  unfold divR
  refine ⟨by rw [List.map_map]; exact g.nd, fun p hp => ?_⟩
  obtain ⟨q, hq, e⟩ := List.mem_map.mp hp
  rw [← e]
  show q.2 / k ≠ 0
  intro z
  rw [Rat.div_def, Rat.mul_eq_zero] at z
  rcases z with z | z
  · exact g.nz q hq z
  · exact hk (by rw [← Rat.inv_inv k, z, Rat.inv_zero])
/-! ### taking in -/
abbrev Sys (κ : Type) := List (κ × Rw κ)
def elimR (S : Sys κ) (r : Rw κ) : Rw κ := S.foldl (fun r p => withoutR r p.1 p.2) r
def takeR (S : Sys κ) (r : Rw κ) : Bool × Sys κ := match (elimR S r).1 with
  | [] => (decide ((elimR S r).2 = 0), S)
  | (a, k) :: _ => (true, putT (S.map fun p => (p.1, withoutR p.2 a (divR (elimR S r) k))) a (divR (elimR S r) k))
end
end Ty
set_option Elab.async false
set_option linter.all false
set_option maxHeartbeats 1000000
/-! The solver's invariant: each name solved stands in its own row alone; all numbers over one bottom. -/
namespace Ty
/-- x is a whole number over D, of at most N -/
def Fr (D N : Nat) (x : Rat) : Prop := ∃ z : Int, x * (D : Rat) = (z : Rat) ∧ z.natAbs ≤ N
theorem natR_ne {D : Nat} (h : 0 < D) : (D : Rat) ≠ 0 := by
  intro z
  have := Rat.natCast_eq_zero_iff.mp z
  omega
theorem Fr.eq {D N : Nat} {x : Rat} (f : Fr D N x) (h : 0 < D) : ∃ z : Int, x = Rat.divInt z D ∧ z.natAbs ≤ N := by
  obtain ⟨z, e, hz⟩ := f
  refine ⟨z, ?_, hz⟩
  rw [Rat.divInt_eq_div, ← e]
  exact (Rat.mul_div_cancel (natR_ne h)).symm
theorem Fr.bd {D N n : Nat} {x : Rat} (f : Fr D N x) (h : 0 < D) (h1 : D < 2 ^ n) (h2 : N < 2 ^ n) : Bd n x := by
  obtain ⟨z, e, hz⟩ := f.eq h
  rw [e]
  exact bd_divInt (by omega) (by omega) (by simpa using h1)
theorem Fr.zero {D N : Nat} : Fr D N 0 := ⟨0, by rw [Rat.zero_mul]; rfl, by simp⟩
theorem Fr.mono {D N N' : Nat} {x : Rat} (f : Fr D N x) (h : N ≤ N') : Fr D N' x := by
  obtain ⟨z, e, hz⟩ := f
  exact ⟨z, e, by omega⟩
theorem Fr.sub {D N M : Nat} {x y : Rat} (f : Fr D N x) (g : Fr D M y) : Fr D (N + M) (x - y) := by
  obtain ⟨z, e, hz⟩ := f
  obtain ⟨w, e2, hw⟩ := g
  refine ⟨z - w, ?_, by omega⟩
  rw [Rat.intCast_sub, ← e, ← e2]
  grind
theorem Fr.mulInt {D N B : Nat} {x : Rat} {k : Int} (f : Fr D N x) (hk : k.natAbs ≤ B) : Fr D (N * B) (x * (k : Rat)) := by
  obtain ⟨z, e, hz⟩ := f
  refine ⟨z * k, ?_, by rw [Int.natAbs_mul]; exact Nat.mul_le_mul hz hk⟩
  rw [Rat.intCast_mul, ← e]
  grind
theorem Fr.mul {D E N M : Nat} {x y : Rat} (f : Fr D N x) (g : Fr E M y) : Fr (D * E) (N * M) (x * y) := by
  obtain ⟨z, e, hz⟩ := f
  obtain ⟨w, e2, hw⟩ := g
  refine ⟨z * w, ?_, by rw [Int.natAbs_mul]; exact Nat.mul_le_mul hz hw⟩
  rw [Rat.intCast_mul, ← e, ← e2, Rat.natCast_mul]
  grind
theorem Fr.scale {D E N : Nat} {x : Rat} (f : Fr D N x) : Fr (D * E) (N * E) x := by
  have h : Fr E E 1 := ⟨(E : Int), by rw [Rat.one_mul]; rfl, by simp⟩
  have := f.mul h
  rw [Rat.mul_one] at this
  exact this
theorem Fr.int {D : Nat} {k : Int} {B : Nat} (hk : k.natAbs ≤ B) : Fr D (B * D) (k : Rat) := by
  refine ⟨k * D, ?_, ?_⟩
  · rw [Rat.intCast_mul]
    rfl
  · rw [Int.natAbs_mul]
    exact Nat.mul_le_mul hk (by simp)
section
variable {κ : Type} [DecidableEq κ]
structure SInv (ns : List κ) (D b : Nat) (S : Sys κ) : Prop where
  kd : (S.map (·.1)).Nodup
  len : S.length ≤ 6
  good : ∀ p ∈ S, Good p.2.1
  inn : ∀ p ∈ S, p.1 ∈ ns
  sub : ∀ p ∈ S, ∀ n, cf p.2.1 n ≠ 0 → n ∈ ns
  rref : ∀ p ∈ S, ∀ p' ∈ S, cf p.2.1 p'.1 = if p'.1 = p.1 then 1 else 0
  d0 : 0 < D
  db : D ≤ 2 ^ b
  fr : ∀ p ∈ S, ∀ n, Fr D (2 ^ b) (cf p.2.1 n)
  frt : ∀ p ∈ S, Fr D (2 ^ b) p.2.2
/-- what a call of without asks -/
structure WOk (r : Rw κ) (a : κ) (o : Rw κ) : Prop where
  nd : (o.1.map (·.1)).Nodup
  lr : r.1.length ≤ 100
  lo : o.1.length ≤ 100
  ok : getT r.1 a ≠ none → (∀ n, Ok (cf r.1 n) ∧ Ok (cf o.1 n) ∧ Ok (cf o.1 n * cf r.1 a) ∧ Ok (cf r.1 n - cf o.1 n * cf r.1 a)) ∧ Ok r.2 ∧ Ok o.2 ∧ Ok (o.2 * cf r.1 a)
def ElimOk (S : Sys κ) (r : Rw κ) : Prop := ∀ a p b, S = a ++ p :: b → WOk (elimR a r) p.1 p.2
/-- what a call of take asks, its way through known -/
structure TakeOk (S : Sys κ) (r : Rw κ) : Prop where
  el : ElimOk S r
  ex : ∃ a k l, (elimR S r).1 = (a, k) :: l ∧ k ≠ 0 ∧ (elimR S r).1.length ≤ 100 ∧ ((elimR S r).1.map (·.1)).Nodup ∧ (∀ p ∈ (elimR S r).1, Ok p.2) ∧ Ok (elimR S r).2 ∧ ∀ p ∈ S, WOk p.2 a (divR (elimR S r) k)
theorem len_sub_names : ∀ {ns l : List κ}, l.Nodup → (∀ x ∈ l, x ∈ ns) → l.length ≤ ns.length := by
  intro ns
  induction ns with
  | nil =>
    intro l _ h
    cases l with
    | nil => simp
    | cons a l => exact absurd (h a List.mem_cons_self) (by simp)
  | cons a ns ih =>
    intro l nd h
    have h1 : (l.filter fun x => decide (x ≠ a)).length ≤ ns.length := by
      refine ih (nd.sublist List.filter_sublist) fun x hx => ?_
      obtain ⟨h2, h3⟩ := List.mem_filter.mp hx
      rcases List.mem_cons.mp (h x h2) with e | e
      · exact absurd e (of_decide_eq_true h3)
      · exact e
    have h2 : ∀ l : List κ, l.Nodup → l.length ≤ (l.filter fun x => decide (x ≠ a)).length + 1 := by
      intro l
      induction l with
      | nil => simp
      | cons b l ih2 =>
        intro nd
        obtain ⟨n1, n2⟩ := List.nodup_cons.mp nd
        by_cases e : b = a
        · have : (l.filter fun x => decide (x ≠ a)) = l := List.filter_eq_self.mpr fun x hx => decide_eq_true fun z => n1 (by rw [e, ← z]; exact hx)
          rw [List.filter_cons, if_neg (by simp [e]), this]
          simp
        · rw [List.filter_cons, if_pos (by simp [e])]
          have := ih2 n2
          simp only [List.length_cons]
          omega
    have := h2 l nd
    simp only [List.length_cons]
    omega
theorem Good.len {ts : Terms κ} (g : Good ts) {ns : List κ} (h : ∀ n, cf ts n ≠ 0 → n ∈ ns) : ts.length ≤ ns.length := by
  have := len_sub_names g.nd (ns := ns) fun x hx => h x fun z => g.cf_zero.mp z hx
  simpa using this
theorem elimR_snoc {S : Sys κ} {r : Rw κ} {p : κ × Rw κ} : elimR (S ++ [p]) r = withoutR (elimR S r) p.1 p.2 := by
  unfold elimR
  rw [List.foldl_append] <;> rfl
/-- a row of whole numbers, with a name that no row has -/
structure RIn (ns : List κ) (k : κ) (r : Rw κ) : Prop where
  good : Good r.1
  new : k ∉ ns
  nz : cf r.1 k ≠ 0
  sub : ∀ n, cf r.1 n ≠ 0 → n = k ∨ n ∈ ns
  whole : ∀ n, ∃ z : Int, cf r.1 n = (z : Rat) ∧ z.natAbs ≤ 2 ^ 10
  tot : r.2 = 0
structure EInv (ns : List κ) (D b : Nat) (k : κ) (r : Rw κ) (done todo : Sys κ) (q : Rw κ) : Prop where
  good : Good q.1
  htodo : ∀ p ∈ todo, cf q.1 p.1 = cf r.1 p.1
  hdone : ∀ p ∈ done, cf q.1 p.1 = 0
  new : cf q.1 k = cf r.1 k
  sub : ∀ n, cf q.1 n ≠ 0 → n = k ∨ n ∈ ns
  fr : ∀ n, Fr D ((1 + done.length) * 2 ^ (10 + b)) (cf q.1 n)
  frt : Fr D ((1 + done.length) * 2 ^ (10 + b)) q.2
variable {ns : List κ} {D b : Nat} {k : κ} {r : Rw κ} {S : Sys κ}
theorem p10 : 2 ^ (10 + b) = 2 ^ b * 2 ^ 10 := by rw [Nat.pow_add, Nat.mul_comm]
theorem SInv.notin (I : SInv ns D b S) {k : κ} (h : k ∉ ns) {p : κ × Rw κ} (hp : p ∈ S) : cf p.2.1 k = 0 := by
  cases Decidable.em (cf p.2.1 k = 0) with
  | inl z => exact z
  | inr z => exact absurd (I.sub p hp k z) h
theorem elim_inv (I : SInv ns D b S) (R : RIn ns k r) : ∀ (todo done : Sys κ), S = done ++ todo → EInv ns D b k r done todo (elimR done r) := by
  have key : ∀ (done todo : Sys κ), S = done ++ todo → EInv ns D b k r done todo (elimR done r) := by
    intro done
    induction hn : done.length generalizing done with
    | zero =>
      intro todo e
      have : done = [] := List.length_eq_zero_iff.mp hn
      subst this
      refine ⟨R.good, fun _ _ => rfl, fun _ h => (by cases h), rfl, R.sub, fun n => ?_, ?_⟩
      · obtain ⟨z, e1, hz⟩ := R.whole n
        show Fr D _ (cf r.1 n)
        rw [e1]
        refine (Fr.int hz).mono ?_
        rw [p10]
        have := I.db
        simp only [List.length_nil]
        rw [Nat.add_zero, Nat.one_mul, Nat.mul_comm]
        exact Nat.mul_le_mul_right _ this
      · show Fr D _ r.2
        rw [R.tot]
        exact Fr.zero
    | succ m ih =>
      intro todo e
      obtain ⟨d, p, rfl⟩ : ∃ d p, done = d ++ [p] := by
        refine ⟨done.dropLast, done.getLast (by intro z; rw [z] at hn; cases hn), ?_⟩
        exact (List.dropLast_concat_getLast _).symm
      have hd : d.length = m := by simpa using hn
      have e2 : S = d ++ p :: todo := by rw [e, List.append_assoc] <;> rfl
      have J := ih d hd (p :: todo) e2
      have hp : p ∈ S := by rw [e2]; simp
      have nd : (p.2.1.map (·.1)).Nodup := (I.good p hp).nd
      obtain ⟨z, ez, hz⟩ := R.whole p.1
      have ep : cf (elimR d r).1 p.1 = (z : Rat) := (J.htodo p List.mem_cons_self).trans ez
      have hform : ∀ n, cf (elimR (d ++ [p]) r).1 n = cf (elimR d r).1 n - cf p.2.1 n * (z : Rat) := fun n => by
        rw [elimR_snoc, cf_without nd, ep]
      have kd := I.kd
      rw [e2, List.map_append, List.map_cons, List.nodup_append] at kd
      obtain ⟨_, kd2, kd3⟩ := kd
      have kd4 := List.nodup_cons.mp kd2
      have bnd : ∀ x y : Rat, Fr D ((1 + d.length) * 2 ^ (10 + b)) x → Fr D (2 ^ b) y → Fr D ((1 + (d ++ [p]).length) * 2 ^ (10 + b)) (x - y * (z : Rat)) := fun x y hx hy => by
        refine (hx.sub (hy.mulInt hz)).mono ?_
        rw [p10, List.length_append, List.length_singleton]
        generalize 2 ^ b * 2 ^ 10 = w
        rw [Nat.add_mul, Nat.add_mul, Nat.add_mul]
        omega
      refine ⟨?_, fun q hq => ?_, fun q hq => ?_, ?_, fun n hn => ?_, fun n => ?_, ?_⟩
      · rw [elimR_snoc]
        exact J.good.without _ _
      · rw [hform, J.htodo q (List.mem_cons_of_mem _ hq), I.rref p hp q (by rw [e2]; exact List.mem_append_right _ (List.mem_cons_of_mem _ hq)), if_neg, Rat.zero_mul]
        · grind
        · exact fun z => kd4.1 (List.mem_map.mpr ⟨q, hq, z⟩)
      · rw [hform]
        rcases List.mem_append.mp hq with h | h
        · rw [J.hdone q h, I.rref p hp q (by rw [e2]; exact List.mem_append_left _ h), if_neg, Rat.zero_mul]
          · grind
          · exact fun z => kd3 q.1 (List.mem_map.mpr ⟨q, h, rfl⟩) p.1 List.mem_cons_self z
        · have : q = p := by simpa using h
          subst this
          rw [ep, I.rref q hp q hp, if_pos rfl]
          grind
      · rw [hform, J.new, I.notin R.new hp]
        grind
      · rw [hform] at hn
        by_cases h1 : cf (elimR d r).1 n = 0
        · by_cases h2 : cf p.2.1 n = 0
          · rw [h1, h2] at hn
            exact absurd (by grind) hn
          · exact .inr (I.sub p hp n h2)
        · exact J.sub n h1
      · rw [hform]
        exact bnd _ _ (J.fr n) (I.fr p hp n)
      · rw [elimR_snoc, tot_without, ep]
        exact bnd _ _ J.frt (I.frt p hp)
  exact fun todo done => key done todo
theorem pow2_lt {m n : Nat} (h : m < n) : 2 ^ m < 2 ^ n := Nat.pow_lt_pow_right (by decide) h
theorem seven (j : Nat) (h : j ≤ 6) : (1 + j) * 2 ^ (10 + b) ≤ 2 ^ (b + 13) := by
  have e : 2 ^ (b + 13) = 8 * 2 ^ (10 + b) := by
    rw [Nat.pow_add, p10]
    omega
  rw [e]
  exact Nat.mul_le_mul_right _ (by omega)
theorem Fr.ok13 {x : Rat} {j : Nat} (f : Fr D ((1 + j) * 2 ^ (10 + b)) x) (h0 : 0 < D) (hd : D ≤ 2 ^ b) (hj : j ≤ 6) : Bd (b + 14) x :=
  f.bd h0 (Nat.lt_of_le_of_lt hd (pow2_lt (by omega))) (Nat.lt_of_le_of_lt (seven j hj) (pow2_lt (by omega)))
theorem elim_ok (I : SInv ns D b S) (R : RIn ns k r) (hb : b + 14 ≤ 3900) (hns : ns.length ≤ 90) : ElimOk S r := by
  intro a p c e
  have J := elim_inv I R (p :: c) a e
  have hp : p ∈ S := by rw [e]; simp
  have hl : a.length + 1 ≤ 6 := by
    have := I.len
    rw [e, List.length_append, List.length_cons] at this
    omega
  obtain ⟨z, ez, hz⟩ := R.whole p.1
  have ep : cf (elimR a r).1 p.1 = (z : Rat) := (J.htodo p List.mem_cons_self).trans ez
  have J2 := elim_inv I R c (a ++ [p]) (by rw [e, List.append_assoc] <;> rfl)
  have prod : ∀ {y : Rat}, Fr D (2 ^ b) y → Ok (y * (z : Rat)) := fun hy =>
    ((hy.mulInt hz).bd (n := b + 14) I.d0 (Nat.lt_of_le_of_lt I.db (pow2_lt (by omega))) (by
      rw [← Nat.pow_add]
      exact pow2_lt (by omega))).mono hb
  have one : ∀ {y : Rat}, Fr D (2 ^ b) y → Ok y := fun hy =>
    (hy.bd (n := b + 14) I.d0 (Nat.lt_of_le_of_lt I.db (pow2_lt (by omega))) (pow2_lt (by omega))).mono hb
  have l1 := J.good.len (ns := k :: ns) fun n hn => (J.sub n hn).elim (fun z => by rw [z]; exact List.mem_cons_self) fun z => List.mem_cons_of_mem _ z
  have l2 := (I.good p hp).len (I.sub p hp)
  rw [List.length_cons] at l1
  refine ⟨(I.good p hp).nd, by omega, by omega, fun _ => ⟨fun n => ⟨?_, one (I.fr p hp n), ?_, ?_⟩, ?_, one (I.frt p hp), ?_⟩⟩
  · exact ((J.fr n).ok13 I.d0 I.db (by omega)).mono hb
  · rw [ep]
    exact prod (I.fr p hp n)
  · have h := (J2.fr n).ok13 I.d0 I.db (by rw [List.length_append, List.length_singleton]; omega)
    rw [elimR_snoc, cf_without (I.good p hp).nd] at h
    exact h.mono hb
  · exact (J.frt.ok13 I.d0 I.db (by omega)).mono hb
  · rw [ep]
    exact prod (I.frt p hp)
/-- the whole number over which all will be -/
theorem take_inv (I : SInv ns D b S) (R : RIn ns k r) (hb : 2 * b + 40 ≤ 3900) (hl : S.length + 1 ≤ 6) (hns : ns.length ≤ 90) : TakeOk S r ∧ (takeR S r).1 = true ∧ (∃ a g, a ∉ S.map (·.1) ∧ (takeR S r).2 = (S.map fun p => (p.1, withoutR p.2 a g)) ++ [(a, g)]) ∧ ∃ D', SInv (k :: ns) D' (2 * b + 40) (takeR S r).2 := by
  have J := elim_inv I R [] S (by rw [List.append_nil])
  have hS : S.length ≤ 6 := I.len
  generalize hq : elimR S r = q at J
  have hk : k ∈ q.1.map (·.1) := by
    cases Decidable.em (k ∈ q.1.map (·.1)) with
    | inl z => exact z
    | inr z => exact absurd (J.new.symm.trans (J.good.cf_zero.mpr z)) R.nz
  obtain ⟨a, x, l, e⟩ : ∃ a x l, q.1 = (a, x) :: l := by
    cases h : q.1 with
    | nil => rw [h] at hk; simp at hk
    | cons p l => exact ⟨p.1, p.2, l, rfl⟩
  have hx : x ≠ 0 := J.good.nz (a, x) (by rw [e]; exact List.mem_cons_self)
  have ca : cf q.1 a = x := J.good.cf_mem (by rw [e]; exact List.mem_cons_self)
  have nS : ∀ p ∈ S, p.1 ≠ a := fun p hp z => hx (by rw [← ca, ← z]; exact J.hdone p hp)
  have nk : a ∉ S.map (·.1) := fun z => by
    obtain ⟨p, hp, ep⟩ := List.mem_map.mp z
    exact nS p hp ep
  -- bounds
  have fr13 : ∀ n, Fr D (2 ^ (b + 13)) (cf q.1 n) := fun n => (J.fr n).mono (seven _ hS)
  have frt13 : Fr D (2 ^ (b + 13)) q.2 := J.frt.mono (seven _ hS)
  have bd13 : ∀ {y : Rat}, Fr D (2 ^ (b + 13)) y → Bd (b + 14) y := fun hy => hy.bd I.d0 (Nat.lt_of_le_of_lt I.db (pow2_lt (by omega))) (pow2_lt (by omega))
  obtain ⟨zq, eq1, hzq⟩ := fr13 a
  rw [ca] at eq1
  have hzq0 : zq ≠ 0 := fun z => by
    rw [z] at eq1
    have h0 : x * (D : Rat) = 0 := eq1
    rcases Rat.mul_eq_zero.mp h0 with h | h
    · exact hx h
    · exact natR_ne I.d0 h
  have hzn : 0 < zq.natAbs := Int.natAbs_pos.mpr hzq0
  -- x = ± |zq| / D, so y / x over |zq|
  have quo : ∀ {y : Rat}, Fr D (2 ^ (b + 13)) y → Fr zq.natAbs (2 ^ (b + 13)) (y / x) := fun {y} hy => by
    obtain ⟨z, e1, hz⟩ := hy
    have hD := natR_ne I.d0
    have e2 : y / x * (zq : Rat) = (z : Rat) := by
      rw [← eq1, ← e1]
      have : y / x * x = y := Rat.div_mul_cancel hx
      generalize y / x = t at this ⊢
      rw [← this]
      grind
    by_cases hs : 0 ≤ zq
    · refine ⟨z, ?_, hz⟩
      rw [← e2]
      congr 1
      rw [show ((zq.natAbs : Nat) : Rat) = ((zq.natAbs : Int) : Rat) from rfl]
      congr 1
      omega
    · refine ⟨-z, ?_, by omega⟩
      rw [Rat.intCast_neg, ← e2]
      rw [show ((zq.natAbs : Nat) : Rat) = ((zq.natAbs : Int) : Rat) from rfl]
      have : ((zq.natAbs : Int)) = -zq := by omega
      rw [this, Rat.intCast_neg, Rat.mul_neg]
  have gcf : ∀ n, cf (divR q x).1 n = cf q.1 n / x := fun n => cf_div
  have gfr : ∀ n, Fr zq.natAbs (2 ^ (b + 13)) (cf (divR q x).1 n) := fun n => by rw [gcf]; exact quo (fr13 n)
  have gfrt : Fr zq.natAbs (2 ^ (b + 13)) (divR q x).2 := quo frt13
  have gbd : ∀ {y : Rat}, Fr zq.natAbs (2 ^ (b + 13)) y → Bd (b + 14) y := fun hy => hy.bd hzn (Nat.lt_of_le_of_lt hzq (pow2_lt (by omega))) (pow2_lt (by omega))
  have gG : Good (divR q x).1 := J.good.div hx
  have ga1 : cf (divR q x).1 a = 1 := by
    rw [gcf, ca, Rat.div_def, Rat.mul_inv_cancel x hx]
  have gp0 : ∀ p ∈ S, cf (divR q x).1 p.1 = 0 := fun p hp => by
    rw [gcf, J.hdone p hp, Rat.div_def, Rat.zero_mul]
  have sbd : ∀ {y : Rat}, Fr D (2 ^ b) y → Bd (b + 1) y := fun hy => hy.bd I.d0 (Nat.lt_of_le_of_lt I.db (pow2_lt (by omega))) (pow2_lt (by omega))
  -- the others without a
  have diff : ∀ {s y t : Rat}, Fr D (2 ^ b) s → Fr zq.natAbs (2 ^ (b + 13)) y → Fr D (2 ^ b) t → Fr (D * zq.natAbs) (2 ^ (2 * b + 14)) (s - y * t) := fun {s y t} hs hy ht => by
    have h1 := (hs.scale (E := zq.natAbs)).mono (show 2 ^ b * zq.natAbs ≤ 2 ^ b * 2 ^ (b + 13) from Nat.mul_le_mul_left _ hzq)
    have h2 := ht.mul hy
    rw [show t * y = y * t from Rat.mul_comm _ _] at h2
    refine (h1.sub h2).mono ?_
    rw [← Nat.pow_add, show 2 * b + 14 = b + (b + 13) + 1 by omega, Nat.pow_succ]
    omega
  have D'0 : 0 < D * zq.natAbs := Nat.mul_pos I.d0 hzn
  have D'b : D * zq.natAbs ≤ 2 ^ (2 * b + 13) := by
    rw [show 2 * b + 13 = b + (b + 13) by omega, Nat.pow_add]
    exact Nat.mul_le_mul I.db hzq
  have dbd : ∀ {y : Rat}, Fr (D * zq.natAbs) (2 ^ (2 * b + 14)) y → Bd (2 * b + 15) y := fun hy => hy.bd D'0 (Nat.lt_of_le_of_lt D'b (pow2_lt (by omega))) (pow2_lt (by omega))
  have lq : q.1.length ≤ 100 := by
    have l1 := J.good.len (ns := k :: ns) fun n hn => (J.sub n hn).elim (fun z => by rw [z]; exact List.mem_cons_self) fun z => List.mem_cons_of_mem _ z
    rw [List.length_cons] at l1
    omega
  have lg : (divR q x).1.length ≤ 100 := by
    show (q.1.map fun p => (p.1, p.2 / x)).length ≤ 100
    rw [List.length_map]
    exact lq
  have wok : ∀ p ∈ S, WOk p.2 a (divR q x) := fun p hp => by
    have l2 := (I.good p hp).len (I.sub p hp)
    refine ⟨gG.nd, by omega, lg, fun _ => ⟨fun n => ⟨(sbd (I.fr p hp n)).mono (by omega), (gbd (gfr n)).mono (by omega), (bd_mul (gbd (gfr n)) (sbd (I.fr p hp a))).mono (by omega), (dbd (diff (I.fr p hp n) (gfr n) (I.fr p hp a))).mono (by omega)⟩,
      (sbd (I.frt p hp)).mono (by omega), (gbd gfrt).mono (by omega), (bd_mul (gbd gfrt) (sbd (I.fr p hp a))).mono (by omega)⟩⟩
  have tk : takeR S r = (true, (S.map fun p => (p.1, withoutR p.2 a (divR q x))) ++ [(a, divR q x)]) := by
    unfold takeR
    rw [hq, e]
    show (true, putT _ a (divR q x)) = _
    rw [putT_new]
    rw [List.map_map]
    exact nk
  refine ⟨⟨elim_ok I R (by omega) hns, a, x, l, by rw [hq]; exact e, hx, by rw [hq]; exact lq, by rw [hq]; exact J.good.nd, fun p hp => ?_, by rw [hq]; exact (bd13 frt13).mono (by omega), fun p hp => by rw [hq]; exact wok p hp⟩, by rw [tk], ⟨a, divR q x, nk, by rw [tk]⟩, D * zq.natAbs, ?_⟩
  · rw [hq] at hp
    have := bd13 (fr13 p.1)
    rw [J.good.cf_mem hp] at this
    exact this.mono (by omega)
  · rw [tk]
    have mem : ∀ p ∈ (S.map fun p => (p.1, withoutR p.2 a (divR q x))) ++ [(a, divR q x)], (∃ o ∈ S, p = (o.1, withoutR o.2 a (divR q x))) ∨ p = (a, divR q x) := fun p hp => by
      rcases List.mem_append.mp hp with h | h
      · obtain ⟨o, ho, e⟩ := List.mem_map.mp h
        exact .inl ⟨o, ho, e.symm⟩
      · exact .inr (by simpa using h)
    have wcf : ∀ o : κ × Rw κ, ∀ n, cf (withoutR o.2 a (divR q x)).1 n = cf o.2.1 n - cf (divR q x).1 n * cf o.2.1 a := fun o n => cf_without gG.nd
    have qn : ∀ n, cf q.1 n ≠ 0 → n ∈ k :: ns := fun n hn => by
      rcases J.sub n hn with h | h
      · rw [h]
        exact List.mem_cons_self
      · exact List.mem_cons_of_mem _ h
    have gn : ∀ n, cf (divR q x).1 n ≠ 0 → cf q.1 n ≠ 0 := fun n hn z => hn (by rw [gcf, z, Rat.div_def, Rat.zero_mul])
    refine ⟨?_, by simpa using hl, fun p hp => ?_, fun p hp => ?_, fun p hp n hn => ?_, fun p hp p' hp' => ?_, D'0, Nat.le_trans D'b (pow_le (by omega)), fun p hp n => ?_, fun p hp => ?_⟩
    · rw [List.map_append, List.map_map]
      exact nodup_snoc I.kd nk
    · rcases mem p hp with ⟨o, ho, rfl⟩ | rfl
      · exact (I.good o ho).without _ _
      · exact gG
    · rcases mem p hp with ⟨o, ho, rfl⟩ | rfl
      · exact List.mem_cons_of_mem _ (I.inn o ho)
      · exact qn a (by rw [ca]; exact hx)
    · rcases mem p hp with ⟨o, ho, rfl⟩ | rfl
      · have hn : cf (withoutR o.2 a (divR q x)).1 n ≠ 0 := hn
        rw [wcf] at hn
        by_cases h1 : cf o.2.1 n = 0
        · by_cases h2 : cf (divR q x).1 n = 0
          · rw [h1, h2] at hn
            exact absurd (by grind) hn
          · exact qn n (gn n h2)
        · exact List.mem_cons_of_mem _ (I.sub o ho n h1)
      · exact qn n (gn n hn)
    · rcases mem p hp with ⟨o, ho, rfl⟩ | rfl <;> rcases mem p' hp' with ⟨o', ho', rfl⟩ | rfl
      · show cf (withoutR o.2 a (divR q x)).1 o'.1 = if o'.1 = o.1 then 1 else 0
        rw [wcf, gp0 o' ho', I.rref o ho o' ho']
        split <;> grind
      · show cf (withoutR o.2 a (divR q x)).1 a = if a = o.1 then 1 else 0
        rw [wcf, ga1, if_neg (fun z => nS o ho z.symm)]
        grind
      · show cf (divR q x).1 o'.1 = if o'.1 = a then 1 else 0
        rw [gp0 o' ho', if_neg (nS o' ho')]
      · show cf (divR q x).1 a = if a = a then 1 else 0
        rw [ga1, if_pos rfl]
    · rcases mem p hp with ⟨o, ho, rfl⟩ | rfl
      · show Fr _ _ (cf (withoutR o.2 a (divR q x)).1 n)
        rw [wcf]
        exact (diff (I.fr o ho n) (gfr n) (I.fr o ho a)).mono (pow_le (by omega))
      · have h := (gfr n).scale (E := D)
        rw [Nat.mul_comm zq.natAbs D] at h
        refine h.mono ?_
        refine Nat.le_trans (Nat.mul_le_mul_left _ I.db) ?_
        rw [← Nat.pow_add]
        exact pow_le (by omega)
    · rcases mem p hp with ⟨o, ho, rfl⟩ | rfl
      · show Fr _ _ (withoutR o.2 a (divR q x)).2
        rw [tot_without]
        exact (diff (I.frt o ho) gfrt (I.fr o ho a)).mono (pow_le (by omega))
      · have h := gfrt.scale (E := D)
        rw [Nat.mul_comm zq.natAbs D] at h
        refine h.mono ?_
        refine Nat.le_trans (Nat.mul_le_mul_left _ I.db) ?_
        rw [← Nat.pow_add]
        exact pow_le (by omega)
end
end Ty
set_option Elab.async false
set_option linter.all false
set_option maxHeartbeats 1000000
/-! The whole run of the solver. -/
namespace Ty
section
variable {κ : Type} [DecidableEq κ]
variable {ns : List κ} {D b : Nat} {k : κ} {r : Rw κ} {S : Sys κ}
theorem SInv.free (I : SInv ns D b S) : SInv (k :: ns) D (2 * b + 40) S :=
  ⟨I.kd, I.len, I.good, fun p hp => List.mem_cons_of_mem _ (I.inn p hp), fun p hp n hn => List.mem_cons_of_mem _ (I.sub p hp n hn), I.rref, I.d0, Nat.le_trans I.db (pow_le (by omega)),
    fun p hp n => (I.fr p hp n).mono (pow_le (by omega)), fun p hp => (I.frt p hp).mono (pow_le (by omega))⟩
theorem one_div_one : (1 : Rat) / 1 = 1 := by rw [Rat.div_def, Rat.mul_inv_cancel 1 (by decide)]
theorem div_one' (x : Rat) : x / 1 = x := by
  have h := Rat.div_mul_cancel (a := x) (b := 1) (by decide)
  rw [Rat.mul_one] at h
  exact h
/-- a row that asks the name itself -/
def own (k : κ) (v : Rat) : Rw κ := ([(k, 1)], v)
theorem own_good (k : κ) (v : Rat) : Good (own k v).1 := ⟨by simp [own], fun p hp => by
  have : p = (k, 1) := by simpa [own] using hp
  rw [this]
  show (1 : Rat) ≠ 0
  decide⟩
theorem own_cf (k n : κ) (v : Rat) : cf (own k v).1 n = if n = k then 1 else 0 := by
  unfold own
  have z : cf ([] : Terms κ) n = 0 := rfl
  rw [cf_cons (by simp), z, Rat.add_zero]
theorem own_none {k n : κ} {v : Rat} (h : n ≠ k) : getT (own k v).1 n = none := by
  unfold own
  rw [getT_neg (by show ¬ k = n; exact fun z => h z.symm)] <;> rfl
theorem own_div (k : κ) (v : Rat) : divR (own k v) 1 = own k v := by
  unfold divR own
  show ([(k, (1 : Rat) / 1)], v / 1) = _
  rw [one_div_one, div_one']
theorem without_none {r o : Rw κ} {a : κ} (h : getT r.1 a = none) : withoutR r a o = r := by
  unfold withoutR
  rw [h]
theorem drive_inv (I : SInv ns D b S) (hk : k ∉ ns) {v : Rat} (h1 : v.num.natAbs ≤ 2 ^ 40) (h2 : v.den ≤ 2 ^ 20) (hb : 2 * b + 40 ≤ 3900) (hl : S.length + 1 ≤ 6) (hns : ns.length ≤ 90) :
    TakeOk S (own k v) ∧ (takeR S (own k v)).1 = true ∧ (∃ a g, a ∉ S.map (·.1) ∧ (takeR S (own k v)).2 = (S.map fun p => (p.1, withoutR p.2 a g)) ++ [(a, g)]) ∧ ∃ D', SInv (k :: ns) D' (2 * b + 40) (takeR S (own k v)).2 := by
  have nk : k ∉ S.map (·.1) := fun z => by
    obtain ⟨p, hp, e⟩ := List.mem_map.mp z
    exact hk (by rw [← e]; exact I.inn p hp)
  have gn : ∀ p ∈ S, getT (own k v).1 p.1 = none := fun p hp => by
    exact own_none fun z => nk (by rw [← z]; exact List.mem_map.mpr ⟨p, hp, rfl⟩)
  have el : ∀ T : Sys κ, (∀ p ∈ T, p ∈ S) → elimR T (own k v) = own k v := by
    intro T
    induction T with
    | nil => exact fun _ => rfl
    | cons p T ih =>
      intro h
      show elimR T (withoutR (own k v) p.1 p.2) = _
      rw [without_none (gn p (h p List.mem_cons_self))]
      exact ih fun q hq => h q (List.mem_cons_of_mem _ hq)
  have eS := el S fun _ h => h
  have sn : ∀ p ∈ S, getT p.2.1 k = none := fun p hp => by
    rw [(I.good p hp).get, if_pos (I.notin hk hp)]
  have tk : takeR S (own k v) = (true, (S.map fun p => (p.1, withoutR p.2 k (own k v))) ++ [(k, own k v)]) := by
    unfold takeR
    rw [eS]
    show (true, putT (S.map fun p => (p.1, withoutR p.2 k (divR (own k v) 1))) k (divR (own k v) 1)) = _
    rw [own_div, putT_new]
    rw [List.map_map]
    exact nk
  have ms : (S.map fun p => (p.1, withoutR p.2 k (own k v))) = S := by
    conv => rhs; rw [← List.map_id S]
    apply List.map_congr_left
    intro p hp
    rw [without_none (sn p hp)] <;> rfl
  have ok1 : Ok 1 := ⟨Nat.one_lt_two_pow (by decide), Nat.one_lt_two_pow (by decide)⟩
  have okv : Ok v := ⟨Nat.lt_of_le_of_lt h1 (pow2_lt (by decide)), Nat.lt_of_le_of_lt h2 (pow2_lt (by decide))⟩
  have vd := v.den_pos
  refine ⟨⟨fun a p c e => ?_, k, 1, [], by rw [eS]; rfl, by decide, by rw [eS]; show 1 ≤ 100; decide, by rw [eS]; exact (own_good k v).nd, fun p hp => ?_, by rw [eS]; exact okv, fun p hp => ⟨by rw [eS, own_div]; exact (own_good k v).nd, Nat.le_trans ((I.good p hp).len (I.sub p hp)) (by omega), by rw [eS, own_div]; show 1 ≤ 100; decide, fun z => absurd (sn p hp) z⟩⟩, by rw [tk], ⟨k, own k v, nk, by rw [tk]⟩, D * v.den, ?_⟩
  · have hp : p ∈ S := by rw [e]; simp
    have ea := el a (fun q hq => by rw [e]; exact List.mem_append_left _ hq)
    refine ⟨(I.good p hp).nd, by rw [ea]; show 1 ≤ 100; decide, Nat.le_trans ((I.good p hp).len (I.sub p hp)) (by omega), fun z => ?_⟩
    rw [el a (fun q hq => by rw [e]; exact List.mem_append_left _ hq)] at z
    exact absurd (gn p hp) z
  · rw [eS] at hp
    have : p = (k, 1) := by simpa [own] using hp
    rw [this]
    exact ok1
  · rw [tk, ms]
    have mem : ∀ p ∈ S ++ [(k, own k v)], p ∈ S ∨ p = (k, own k v) := fun p hp => by
      rcases List.mem_append.mp hp with h | h
      · exact .inl h
      · exact .inr (by simpa using h)
    have kn : ∀ o ∈ S, o.1 ≠ k := fun o ho z => nk (by rw [← z]; exact List.mem_map.mpr ⟨o, ho, rfl⟩)
    refine ⟨?_, by simpa using hl, fun p hp => ?_, fun p hp => ?_, fun p hp n hn => ?_, fun p hp p' hp' => ?_, Nat.mul_pos I.d0 vd, ?_, fun p hp n => ?_, fun p hp => ?_⟩
    · rw [List.map_append]
      exact nodup_snoc I.kd nk
    · rcases mem p hp with h | rfl
      · exact I.good p h
      · exact own_good k v
    · rcases mem p hp with h | rfl
      · exact List.mem_cons_of_mem _ (I.inn p h)
      · exact List.mem_cons_self
    · rcases mem p hp with h | rfl
      · exact List.mem_cons_of_mem _ (I.sub p h n hn)
      · have hn : cf (own k v).1 n ≠ 0 := hn
        rw [own_cf] at hn
        by_cases e : n = k
        · rw [e]
          exact List.mem_cons_self
        · rw [if_neg e] at hn
          exact absurd rfl hn
    · rcases mem p hp with h | rfl <;> rcases mem p' hp' with h' | rfl
      · exact I.rref p h p' h'
      · show cf p.2.1 k = if k = p.1 then 1 else 0
        rw [if_neg (fun z => kn p h z.symm)]
        exact I.notin hk h
      · show cf (own k v).1 p'.1 = if p'.1 = k then 1 else 0
        exact own_cf k p'.1 v
      · show cf (own k v).1 k = if k = k then 1 else 0
        exact own_cf k k v
    · refine Nat.le_trans (Nat.mul_le_mul I.db h2) ?_
      rw [← Nat.pow_add]
      exact pow_le (by omega)
    · rcases mem p hp with h | rfl
      · refine ((I.fr p h n).scale (E := v.den)).mono (Nat.le_trans (Nat.mul_le_mul_left _ h2) ?_)
        rw [← Nat.pow_add]
        exact pow_le (by omega)
      · show Fr _ _ (cf (own k v).1 n)
        rw [own_cf]
        split
        · refine (Fr.int (k := 1) (B := 1) (by decide)).mono ?_
          rw [Nat.one_mul]
          refine Nat.le_trans (Nat.mul_le_mul I.db h2) ?_
          rw [← Nat.pow_add]
          exact pow_le (by omega)
        · exact Fr.zero
    · rcases mem p hp with h | rfl
      · refine ((I.frt p h).scale (E := v.den)).mono (Nat.le_trans (Nat.mul_le_mul_left _ h2) ?_)
        rw [← Nat.pow_add]
        exact pow_le (by omega)
      · have h0 : Fr v.den (2 ^ 40) v := ⟨v.num, by
          have := rq_self v
          rw [Rat.divInt_eq_div] at this
          conv => lhs; lhs; rw [← this]
          exact Rat.div_mul_cancel (rden_ne v), h1⟩
        have h := h0.scale (E := D)
        rw [Nat.mul_comm v.den D] at h
        refine h.mono (Nat.le_trans (Nat.mul_le_mul_left _ I.db) ?_)
        rw [← Nat.pow_add]
        exact pow_le (by omega)
/-! ### all rows, one behind the other -/
/-- what is asked of an arbor: nothing; a row of wheels; its own speed -/
def Inp (ns : List κ) (k : κ) : Option (Rw κ) → Prop
  | none => True
  | some r => RIn ns k r ∨ (k ∉ ns ∧ ∃ v : Rat, r = own k v ∧ v.num.natAbs ≤ 2 ^ 40 ∧ v.den ≤ 2 ^ 20)
def Chain : List κ → List (κ × Option (Rw κ)) → Prop
  | _, [] => True
  | ns, (k, o) :: L => Inp ns k o ∧ Chain (k :: ns) L
def runR (rs : List (Rw κ)) (S : Sys κ) : Sys κ := rs.foldl (fun S r => (takeR S r).2) S
def RunOk : List (Rw κ) → Sys κ → Prop
  | [], _ => True
  | r :: rs, S => TakeOk S r ∧ (takeR S r).1 = true ∧ (takeR S r).2.length = S.length + 1 ∧ RunOk rs (takeR S r).2
def bb : Nat → Nat
  | 0 => 0
  | j + 1 => 2 * bb j + 40
theorem bb_mono : ∀ {i j : Nat}, i ≤ j → bb i ≤ bb j := by
  intro i j h
  induction h with
  | refl => exact Nat.le_refl _
  | step _ ih =>
    show _ ≤ 2 * bb _ + 40
    omega
theorem bb6 : bb 6 = 2520 := by decide
def rowsOf (L : List (κ × Option (Rw κ))) : List (Rw κ) := L.filterMap (·.2)
theorem run_inv : ∀ (L : List (κ × Option (Rw κ))) (ns : List κ) (S : Sys κ) (D : Nat), Chain ns L → ns.length + L.length ≤ 6 → S.length ≤ ns.length → SInv ns D (bb ns.length) S →
    RunOk (rowsOf L) S ∧ ∃ ns' D', SInv ns' D' (bb 6) (runR (rowsOf L) S) := by
  intro L
  induction L with
  | nil =>
    intro ns S D _ hn hs I
    refine ⟨trivial, ns, D, ?_⟩
    have hb := bb_mono (show ns.length ≤ 6 by simpa using hn)
    exact ⟨I.kd, I.len, I.good, I.inn, I.sub, I.rref, I.d0, Nat.le_trans I.db (pow_le hb), fun p hp n => (I.fr p hp n).mono (pow_le hb), fun p hp => (I.frt p hp).mono (pow_le hb)⟩
  | cons q L ih =>
    intro ns S D hc hn hs I
    obtain ⟨k, o⟩ := q
    obtain ⟨h1, h2⟩ := hc
    have hn2 : ns.length + 1 ≤ 6 := by
      rw [List.length_cons] at hn
      omega
    have hbb : 2 * bb ns.length + 40 ≤ 3900 := by
      have := bb_mono (show ns.length + 1 ≤ 6 from hn2)
      rw [bb6] at this
      have : 2 * bb ns.length + 40 ≤ 2520 := this
      omega
    cases o with
    | none => exact ih (k :: ns) S D h2 (by simp at hn ⊢; omega) (by simp; omega) (SInv.free I)
    | some r =>
      have main : TakeOk S r ∧ (takeR S r).1 = true ∧ (∃ a g, a ∉ S.map (·.1) ∧ (takeR S r).2 = (S.map fun p => (p.1, withoutR p.2 a g)) ++ [(a, g)]) ∧ ∃ D', SInv (k :: ns) D' (2 * bb ns.length + 40) (takeR S r).2 := by
        rcases h1 with R | ⟨hk, v, rfl, hv1, hv2⟩
        · exact take_inv I R hbb (by omega) (by omega)
        · exact drive_inv I hk hv1 hv2 hbb (by omega) (by omega)
      obtain ⟨t1, t2, ⟨a, g, na, eg⟩, D', I'⟩ := main
      obtain ⟨j1, j2⟩ := ih (k :: ns) (takeR S r).2 D' h2 (by simp at hn ⊢; omega) (by rw [eg]; simp; omega) I'
      exact ⟨⟨t1, t2, by rw [eg]; simp, j1⟩, j2⟩
theorem SInv.nil : SInv ([] : List κ) 1 0 ([] : Sys κ) :=
  ⟨by simp, by simp, fun _ h => (by cases h), fun _ h => (by cases h), fun _ h => (by cases h), fun _ h => (by cases h), by decide, by decide, fun _ h => (by cases h), fun _ h => (by cases h)⟩
/-! ### what is solved holds of each assignment that keeps the rows -/
theorem elim_sat {u : κ → Rat} : ∀ {S : Sys κ} {r : Rw κ}, (∀ p ∈ S, Sat u p.2) → Good r.1 → Sat u r → Sat u (elimR S r) ∧ Good (elimR S r).1 := by
  intro S
  induction S with
  | nil => exact fun _ g h => ⟨h, g⟩
  | cons p S ih =>
    intro r hS g h
    exact ih (fun q hq => hS q (List.mem_cons_of_mem _ hq)) (g.without _ _) (h.without g (hS p List.mem_cons_self))
theorem take_sat {u : κ → Rat} (hS : ∀ p ∈ S, Sat u p.2 ∧ Good p.2.1) (g : Good r.1) (h : Sat u r) : ∀ p ∈ (takeR S r).2, Sat u p.2 := by
  have hS1 : ∀ p ∈ S, Sat u p.2 := fun p hp => (hS p hp).1
  obtain ⟨e1, e2⟩ := elim_sat hS1 g h
  intro p hp
  unfold takeR at hp
  split at hp
  · exact hS1 p hp
  · rename_i a x l e
    rcases mem_put hp with rfl | hp
    · exact e1.div x
    · obtain ⟨o, ho, rfl⟩ := List.mem_map.mp hp
      exact ((hS o ho).1).without (hS o ho).2 (e1.div x)
/-- a row that asks a name alone stays -/
theorem own_stays {k : κ} {v : Rat} {a : κ} {g : Rw κ} (na : a ∉ S.map (·.1)) (eg : (takeR S r).2 = (S.map fun p => (p.1, withoutR p.2 a g)) ++ [(a, g)]) (h : (k, own k v) ∈ S) : (k, own k v) ∈ (takeR S r).2 := by
  rw [eg]
  refine List.mem_append_left _ (List.mem_map.mpr ⟨(k, own k v), h, ?_⟩)
  have : getT (own k v).1 a = none := by
    exact own_none fun z => na (by rw [z]; exact List.mem_map.mpr ⟨_, h, rfl⟩)
  show (k, withoutR (own k v) a g) = _
  rw [without_none this]
theorem run_sat {u : κ → Rat} : ∀ (L : List (κ × Option (Rw κ))) (ns : List κ) (S : Sys κ) (D : Nat), Chain ns L → ns.length + L.length ≤ 6 → S.length ≤ ns.length → SInv ns D (bb ns.length) S →
    (∀ p ∈ S, Sat u p.2) → (∀ r ∈ rowsOf L, Sat u r) → (∀ p ∈ runR (rowsOf L) S, Sat u p.2) ∧ ∀ k v, (k, own k v) ∈ S → (k, own k v) ∈ runR (rowsOf L) S := by
  intro L
  induction L with
  | nil =>
    intro ns S D _ hn hs I hS _
    exact ⟨hS, fun _ _ h => h⟩
  | cons q L ih =>
    intro ns S D hc hn hs I hS hr
    obtain ⟨k, o⟩ := q
    obtain ⟨h1, h2⟩ := hc
    have hn2 : ns.length + 1 ≤ 6 := by
      rw [List.length_cons] at hn
      omega
    have hbb : 2 * bb ns.length + 40 ≤ 3900 := by
      have := bb_mono (show ns.length + 1 ≤ 6 from hn2)
      rw [bb6] at this
      have : 2 * bb ns.length + 40 ≤ 2520 := this
      omega
    cases o with
    | none => exact ih (k :: ns) S D h2 (by simp at hn ⊢; omega) (by simp; omega) (SInv.free I) hS hr
    | some r =>
      have gr : Good r.1 := by
        rcases h1 with R | ⟨hk, v, rfl, hv1, hv2⟩
        · exact R.good
        · exact own_good _ _
      have main : TakeOk S r ∧ (takeR S r).1 = true ∧ (∃ a g, a ∉ S.map (·.1) ∧ (takeR S r).2 = (S.map fun p => (p.1, withoutR p.2 a g)) ++ [(a, g)]) ∧ ∃ D', SInv (k :: ns) D' (2 * bb ns.length + 40) (takeR S r).2 := by
        rcases h1 with R | ⟨hk, v, rfl, hv1, hv2⟩
        · exact take_inv I R hbb (by omega) (by omega)
        · exact drive_inv I hk hv1 hv2 hbb (by omega) (by omega)
      obtain ⟨t1, t2, ⟨a, g, na, eg⟩, D', I'⟩ := main
      obtain ⟨j1, j2⟩ := ih (k :: ns) (takeR S r).2 D' h2 (by simp at hn ⊢; omega) (by rw [eg]; simp; omega) I' (take_sat (fun p hp => ⟨hS p hp, I.good p hp⟩) gr (hr r List.mem_cons_self)) (fun q hq => hr q (List.mem_cons_of_mem _ hq))
      exact ⟨j1, fun k v h => j2 k v (own_stays na eg h)⟩
/-! ### what is told -/
def toldT (S : Sys κ) (n : κ) : Option Rat := match getT S n with
  | some r => if r.1.length = 1 then some r.2 else none
  | none => none
theorem told_sat {u : κ → Rat} (I : SInv ns D b S) (h : ∀ p ∈ S, Sat u p.2) {n : κ} {v : Rat} (e : toldT S n = some v) : v = u n := by
  unfold toldT at e
  split at e
  · rename_i r er
    split at e
    · rename_i hl
      cases e
      have hp := getT_mem er
      have c := I.rref _ hp _ hp
      rw [if_pos rfl] at c
      have hs := h _ hp
      obtain ⟨⟨m, x⟩, hm⟩ := List.length_eq_one_iff.mp hl
      have c : cf r.1 n = 1 := c
      have hs : dot r.1 u = r.2 := hs
      rw [hm] at c hs
      rw [cf_cons (by simp)] at c
      rw [dot_cons] at hs
      have z1 : cf ([] : Terms κ) n = 0 := rfl
      have z2 : dot ([] : Terms κ) u = 0 := rfl
      rw [z1, Rat.add_zero] at c
      rw [z2, Rat.add_zero] at hs
      by_cases e2 : n = m
      · rw [if_pos e2] at c
        have c : x = 1 := c
        have hs : x * u m = r.2 := hs
        rw [← hs, c, e2, Rat.one_mul]
      · rw [if_neg e2] at c
        exact absurd c (by decide)
    · cases e
  · cases e
theorem told_own (I : SInv ns D b S) {k : κ} {v : Rat} (h : (k, own k v) ∈ S) : toldT S k = some v := by
  unfold toldT
  rw [getT_of_mem I.kd h] <;> rfl
/-- all at once: the rows of L in order, from nothing -/
theorem solve_all {u : κ → Rat} {L : List (κ × Option (Rw κ))} (hc : Chain [] L) (hn : L.length ≤ 6) (hr : ∀ r ∈ rowsOf L, Sat u r) :
    RunOk (rowsOf L) [] ∧ (∀ n v, toldT (runR (rowsOf L) []) n = some v → v = u n) ∧ ∀ k v L', L = (k, some (own k v)) :: L' → toldT (runR (rowsOf L) []) k = some v := by
  obtain ⟨h1, ns, D, I⟩ := run_inv L [] [] 1 hc (by simpa using hn) (by simp) SInv.nil
  obtain ⟨s1, s2⟩ := run_sat (u := u) L [] [] 1 hc (by simpa using hn) (by simp) SInv.nil (fun _ h => by cases h) hr
  refine ⟨h1, fun n v e => told_sat I s1 e, fun k v L' e => ?_⟩
  subst e
  obtain ⟨c1, c2⟩ := hc
  have e0 : takeR ([] : Sys κ) (own k v) = (true, [(k, own k v)]) := by
    show (true, putT [] k (divR (own k v) 1)) = _
    rw [own_div] <;> rfl
  have hv : k ∉ ([] : List κ) := by simp
  refine told_own I ?_
  have m0 : TakeOk ([] : Sys κ) (own k v) ∧ (takeR ([] : Sys κ) (own k v)).1 = true ∧ (∃ a g, a ∉ ([] : Sys κ).map (·.1) ∧ (takeR ([] : Sys κ) (own k v)).2 = (([] : Sys κ).map fun p => (p.1, withoutR p.2 a g)) ++ [(a, g)]) ∧ ∃ D', SInv [k] D' (2 * 0 + 40) (takeR ([] : Sys κ) (own k v)).2 := by
    rcases c1 with R | ⟨hk, v', ev, hv1, hv2⟩
    · exact take_inv SInv.nil R (by decide) (by simp) (by simp)
    · rw [ev]
      exact drive_inv SInv.nil hk hv1 hv2 (by decide) (by simp) (by simp)
  obtain ⟨_, _, _, D1, I1⟩ := m0
  rw [e0] at I1
  have gk : ∀ p ∈ [(k, own k v)], Sat u p.2 := fun p hp => by
    have : p = (k, own k v) := by simpa using hp
    rw [this]
    exact hr _ List.mem_cons_self
  obtain ⟨_, s3⟩ := run_sat (u := u) L' [k] [(k, own k v)] D1 c2 (by simp at hn ⊢; omega) (by simp) I1 gk fun r hr2 => hr r (List.mem_cons_of_mem _ hr2)
  have e1 : runR (rowsOf ((k, some (own k v)) :: L')) [] = runR (rowsOf L') [(k, own k v)] := by
    show runR (rowsOf L') (takeR [] (own k v)).2 = _
    rw [e0]
  rw [e1]
  exact s3 k v (by simp)
end
end Ty
set_option Elab.async false
set_option linter.all false
set_option maxRecDepth 100000
set_option maxHeartbeats 4000000
/-! The class Ratio. -/
namespace Ty
open PySem PySem.Spec PyProof.Rows L2 C8
/-- the fields of a Ratio -/
def ratF (q : Rat) : List (Str × V) := [("top", .int q.num), ("bottom", .int q.den)]
theorem ratF_top (q : Rat) : (ratF q).lookup ("top" : Str) = some (V.int q.num) := rfl
theorem bt_ne : ¬ (("bottom" : Str) = "top") := by decide +kernel
theorem tb_ne : ¬ (("top" : Str) = "bottom") := by decide +kernel
theorem look2 {f g : Str} {a b : V} (h : ¬ g = f) : ([(f, a), (g, b)] : List (Str × V)).lookup g = some b := by
  have h1 : (g == f) = false := beq_eq_false_iff_ne.mpr h
  simp [List.lookup, h1]
theorem look1 {f : Str} {a : V} {r : List (Str × V)} : ((f, a) :: r).lookup f = some a := by simp [List.lookup]
theorem ratF_bottom (q : Rat) : (ratF q).lookup ("bottom" : Str) = some (V.int q.den) := look2 bt_ne
theorem ratF_no (q : Rat) {m : Str} (h1 : ¬ m = "top") (h2 : ¬ m = "bottom") : (ratF q).lookup m = none := by
  have e1 : (m == ("top" : Str)) = false := beq_eq_false_iff_ne.mpr h1
  have e2 : (m == ("bottom" : Str)) = false := beq_eq_false_iff_ne.mpr h2
  simp [ratF, List.lookup, e1, e2]
theorem ratF_put (q : Rat) : putF "bottom" (.int q.den) (putF "top" (.int q.num) []) = ratF q := by
  show (if ("top" : Str) = "bottom" then _ else (("top" : Str), V.int q.num) :: [(("bottom" : Str), V.int q.den)]) = _
  rw [if_neg tb_ne] <;> rfl
/-- at p stands the Ratio q -/
def RatAt (K : PySem.W.Frag) (H : Hp) (p : Addr) (q : Rat) : Prop := ∃ dx, H p = some (.ins (He.ga K "Ratio") dx (ratF q))
theorem RatAt.mono {K : PySem.W.Frag} {H H' : Hp} {p : Addr} {q : Rat} (r : RatAt K H p q) (s : Same H H') : RatAt K H' p q := r.elim fun dx h => ⟨dx, s _ _ h⟩
def spCommon : Sp := fun vs H Q _ => ∃ a b : Int, vs = [.int a, .int b] ∧ Q (.int ((Nat.gcd a.natAbs b.natAbs : Nat) : Int)) H
def spRatioI (K : PySem.W.Frag) : Sp := fun vs H Q _ => ∃ (p dx : Addr) (a b : Int), vs = [.ref p, .int a, .int b] ∧ b ≠ 0 ∧ a.natAbs < 2 ^ 8000 ∧ b.natAbs < 2 ^ 8000 ∧ H p = some (.ins (He.ga K "Ratio") dx []) ∧
  Q .non (upd H p (.ins (He.ga K "Ratio") dx (ratF (Rat.divInt a b))))
def spRat2 (K : PySem.W.Frag) (pre : Rat → Rat → Prop) (f : Rat → Rat → Rat) : Sp := fun vs H Q _ => ∃ (p p' : Addr) (q q' : Rat), vs = [.ref p, .ref p'] ∧ RatAt K H p q ∧ RatAt K H p' q' ∧ pre q q' ∧
  ∀ r H', Same H H' → RatAt K H' r (f q q') → Q (.ref r) H'
def spRat1 (K : PySem.W.Frag) (f : Rat → Rat) : Sp := fun vs H Q _ => ∃ (p : Addr) (q : Rat), vs = [.ref p] ∧ RatAt K H p q ∧ Ok q ∧ ∀ r H', Same H H' → RatAt K H' r (f q) → Q (.ref r) H'
def spRatV (K : PySem.W.Frag) (f : Rat → Int) : Sp := fun vs H Q _ => ∃ (p : Addr) (q : Rat), vs = [.ref p] ∧ RatAt K H p q ∧ Ok q ∧ Q (.int (f q)) H
def spBefore (K : PySem.W.Frag) : Sp := fun vs H Q _ => ∃ (p p' : Addr) (q q' : Rat), vs = [.ref p, .ref p'] ∧ RatAt K H p q ∧ RatAt K H p' q' ∧ Ok q ∧ Ok q' ∧ Q (.bl (decide (q < q'))) H
abbrev Ok2 (q q' : Rat) : Prop := Ok q ∧ Ok q'
abbrev OkO (q q' : Rat) : Prop := q' ≠ 0 ∧ Ok q ∧ Ok q'
/-- // by any divisor below 2 ^ 9000 -/
def CDivG (_ j : Int) : Prop := j ≠ 0 ∧ j.natAbs < 2 ^ 9000
theorem log2_9000 {n : Nat} (h : n < 2 ^ 9000) : n.log2 < 9000 := PySem.Flt.log2_lt_of (by decide) h
theorem op_fdivG {X : Cx} : OpR X (binaryOp .FloorDiv) (rI CDivG fun i j => .int (i.fdiv j)) := opI fun i j _ _ _ _ _ hc q =>
  floordiv_int hc.1 q (.inl (PyProof.noPylong_of_log2 (log2_9000 hc.2)))
/-- products of numbers below 2 ^ 100000 -/
def CMulR (i j : Int) : Prop := i.natAbs < 2 ^ 100000 ∧ j.natAbs < 2 ^ 100000
theorem op_mulX {X : Cx} : OpR X (binaryOp .Mult) (rI CMulR fun i j => .int (i * j)) := opI fun i j _ _ _ _ _ hc q => mul_int q (by
  refine CMulW.ok ?_
  exact wide_mul (a := 100000) (b := 100000) hc.1 hc.2 (by decide) (by decide) (by decide))
theorem cm {i j : Int} {n : Nat} (h1 : i.natAbs < 2 ^ n) (h2 : j.natAbs < 2 ^ n) (hn : n ≤ 100000) : CMulR i j := ⟨Nat.lt_of_lt_of_le h1 (pow_le hn), Nat.lt_of_lt_of_le h2 (pow_le hn)⟩
section
variable {P : Program} {w : World} {K : PySem.W.Frag} {mg : Str → Option Value} {base : Heap} {fd : FuncData}
/-! ### common -/
theorem sc_Dcommon : FnScope ["one", "other"] ["one", "other"] (defScope sDcommon) := C8.fnScope_by (by decide +kernel)
theorem ok_common (F : FDcommon K fd) (T : Tx K mg) : FnOk P w K mg base C8.CX0 1 (He.ga K "common") fd ["one", "other"] spCommon := by
  refine FunD.ok F sc_Dcommon (fun vs H Q E h => ?_) (fun cdv A outer s H vs Q E hr h => ?_)
  · obtain ⟨a, b, rfl, _⟩ := h
    rfl
  · obtain ⟨a, b, rfl, k⟩ := h
    refine ⟨_, PSs.nox (pss_cons (ps_set (i := 0) sc_Dcommon.nd rfl (Or.inl rfl) (pe_callB call_abs (by rfl) T.b_abs (by decide +kernel) (pa_cons (pv 0) pa_nil))) (pss_cons (ps_set (i := 1) sc_Dcommon.nd rfl (Or.inl rfl) (pe_callB call_abs (by rfl) T.b_abs (by decide +kernel) (pa_cons (pv 1) pa_nil))) (pss_cons (ps_while PassesOwn.never (pt_cmpR op_gt (pv 1) pe_int (nomark _)) (pss_one (ps_par rfl sc_Dcommon.nd (i := 0) (j := 1) rfl rfl (by decide) rfl rfl (pa_cons (pv 1) (pa_cons (pe_op op_mod (pv 0) (pv 1)) pa_nil)) rfl))) (pss_one (ps_ret (pv 0)))))), ?_⟩
    refine ⟨_, rfl, a, rfl, _, rfl, b, rfl, ?_⟩
    have ea : ∀ z : Int, (if z < 0 then -z else z) = (z.natAbs : Int) := fun z => by split <;> omega
    refine ⟨fun m σ H' => H' = H ∧ ∃ x y : Nat, σ = [some (.int x), some (.int y)] ∧ Nat.gcd x y = Nat.gcd a.natAbs b.natAbs ∧ m = y, ⟨_, rfl, a.natAbs, b.natAbs, ?_, rfl, rfl⟩, ?_⟩
    · show [some (V.int (if a < 0 then -a else a)), some (V.int (if b < 0 then -b else b))] = _
      rw [ea, ea]
    · rintro m σ H' ⟨rfl, x, y, rfl, hg, hm⟩
      cases hm
      refine ⟨_, rfl, _, _, rfl, rfl, _, rfl, ?_⟩
      refine ite2 (fun h => ?_) (fun h => ?_)
      · have hy : (0 : Int) < m := of_decide_eq_true h
        refine ⟨_, fun _ _ z => z, ?_⟩
        refine ⟨_, rfl, _, rfl, _, rfl, _, _, rfl, rfl, hy, _, _, rfl, ?_⟩
        refine ⟨x % m, Nat.mod_lt _ (by omega), rfl, m, x % m, ?_, ?_, rfl⟩
        · show [some (V.int (m : Int)), some (V.int ((x : Int) % (m : Int)))] = _
          rw [Int.natCast_emod]
        · rw [← hg, Nat.gcd_comm m, ← Nat.gcd_rec, Nat.gcd_comm]
      · have hy : ¬ (0 : Int) < m := fun z => h (decide_eq_true z)
        have e0 : m = 0 := by omega
        subst e0
        rw [Nat.gcd_zero_right] at hg
        refine ⟨_, rfl, ?_⟩
        show Q (.int (x : Int)) _
        rw [hg]
        exact k
theorem cal_common (T : Tx K mg) : Cal P w K mg base 1 "common" spCommon [] := by
  obtain ⟨fd, F⟩ := T.f_Dcommon
  exact ⟨_, fd, _, _, ok_common F T, T.g_common, F.kp, bi_Dcommon F, .nil⟩
/-! ### Ratio -/
theorem sc_Ratio_init : FnScope ["self", "top", "bottom", "both"] ["self", "top", "bottom"] (defScope sRatio_init) := C8.fnScope_by (by decide +kernel)
theorem ok_Ratio_init (F : FRatio_init K fd) (T : Tx K mg) : FnOk P w K mg base C8.CX0 2 (He.ma K (He.ga K "Ratio") "__init__") fd ["self", "top", "bottom"] (spRatioI K) := by
  refine FunD.ok F sc_Ratio_init (fun vs H Q E h => ?_) (fun cdv A outer s H vs Q E hr h => ?_)
  · obtain ⟨_, _, _, _, rfl, _⟩ := h
    rfl
  · obtain ⟨p, dx, a, b, rfl, hb, ba, bb, hp, k⟩ := h
    refine ⟨_, PSs.nox (pss_cons (ps_if (pt_cmpR op_eq (pv 2) pe_int (nomark _)) (pss_one ps_never) pss_nil) (pss_cons (ps_set (i := 3) sc_Ratio_init.nd rfl (Or.inl rfl) (pe_c (cal_common T) hr (by decide) rfl (pa_cons (pv 1) (pa_cons (pv 2) pa_nil)))) (pss_cons (ps_if (pt_cmpR op_lt (pv 2) pe_int (nomark _)) (pss_one (ps_set (i := 3) sc_Ratio_init.nd rfl (Or.inl rfl) (pe_un un_neg (pv 3)))) pss_nil) (pss_cons (ps_fld (pv 0) (pe_op op_fdivG (pv 1) (pv 3)) rfl) (pss_one (ps_fld (pv 0) (pe_op op_fdivG (pv 2) (pv 3)) rfl)))))), ?_⟩
    have hd : (both a b).natAbs < 2 ^ 9000 := by
      rw [both_abs]
      refine Nat.lt_of_le_of_lt (Nat.gcd_le_right _ (Int.natAbs_pos.mpr hb)) (Nat.lt_of_lt_of_le bb (pow_le (by decide)))
    have hne := both_ne (a := a) hb
    have fin : ∀ σ, σ = [some (V.ref p), some (V.int a), some (V.int b), some (V.int (both a b))] →
        tSeq (sFld K (tVar 0) (tOp (rI CDivG fun i j => .int (i.fdiv j)) (tVar 1) (tVar 3)) "top") (sFld K (tVar 0) (tOp (rI CDivG fun i j => .int (i.fdiv j)) (tVar 2) (tVar 3)) "bottom") { nx := fun _ H' => Q .non H', rt := Q } σ H := by
      rintro σ rfl
      refine ⟨_, rfl, _, rfl, _, _, rfl, rfl, ⟨hne, hd⟩, _, rfl, p, _, dx, _, rfl, hp, T.cl_Ratio, T.na_Ratio_top, (by decide), ?_⟩
      refine ⟨_, rfl, _, rfl, _, _, rfl, rfl, ⟨hne, hd⟩, _, rfl, p, _, dx, _, rfl, upd_same, T.cl_Ratio, T.na_Ratio_bottom, (by show 1 < 1000; decide), ?_⟩
      show Q V.non (upd (upd H p (.ins _ dx (putF "top" (.int (a.fdiv (both a b))) []))) p (.ins _ dx (putF "bottom" (.int (b.fdiv (both a b))) (putF "top" (.int (a.fdiv (both a b))) []))))
      rw [rq_num hb, rq_den hb, upd_upd, ratF_put]
      exact k
    refine ⟨_, rfl, rfl, _, rfl, ?_⟩
    refine ite2 (fun h => absurd (V.int.inj (of_decide_eq_true h)) hb) (fun _ => ?_)
    refine ⟨_, rfl, _, rfl, a, b, rfl, ?_⟩
    refine ⟨_, rfl, _, _, rfl, rfl, _, rfl, ?_⟩
    refine ite2 (fun h => ?_) (fun h => ?_)
    · have hb0 : b < 0 := of_decide_eq_true h
      refine ⟨_, rfl, _, rfl, ?_⟩
      refine fin _ ?_
      unfold both
      rw [if_pos hb0] <;> rfl
    · have hb0 : ¬ b < 0 := fun z => h (decide_eq_true z)
      refine fin _ ?_
      unfold both
      rw [if_neg hb0] <;> rfl
theorem mak_Ratio_2 (T : Tx K mg) : Mak P w K mg base 2 "Ratio" (He.ga K "Ratio") (spRatioI K) [] := by
  obtain ⟨fd, F⟩ := T.f_Ratio_init
  obtain ⟨ds, v, b⟩ := bi_Ratio_init_3 F
  exact ⟨_, fd, _, ds, T.mk_Ratio, ok_Ratio_init F T, T.g_Ratio, b, v⟩
theorem mak_Ratio_1 (T : Tx K mg) : Mak P w K mg base 2 "Ratio" (He.ga K "Ratio") (spRatioI K) [V.int 1] := by
  obtain ⟨fd, F⟩ := T.f_Ratio_init
  obtain ⟨ds, v, b⟩ := bi_Ratio_init_2 F
  exact ⟨_, fd, _, ds, T.mk_Ratio, ok_Ratio_init F T, T.g_Ratio, b, v⟩
end
/-- what a new Ratio leaves -/
theorem rat_new {K : PySem.W.Frag} {H : Hp} {a b : Int} {Q : Addr → Hp → Prop} {E : XK} (hb : b ≠ 0) (ba : a.natAbs < 2 ^ 8000) (bb : b.natAbs < 2 ^ 8000) (h : ∀ r H', Same H H' → RatAt K H' r (Rat.divInt a b) → Q r H') :
    ∀ x dx, H x = none → H dx = none → dx ≠ x → spRatioI K [.ref x, .int a, .int b] (upd (upd H dx (.own x)) x (.ins (He.ga K "Ratio") dx [])) (fun v H2 => v = .non ∧ Q x H2) E := by
  intro x dx nx nd nex
  refine ⟨x, dx, a, b, rfl, hb, ba, bb, upd_same, rfl, h x _ (fun c o e => ?_) ⟨dx, upd_same⟩⟩
  rw [upd_ne (ne_of_none e nx), upd_ne (ne_of_none e nx), upd_ne (ne_of_none e nd)]
  exact e
section
variable {P : Program} {w : World} {K : PySem.W.Frag} {mg : Str → Option Value} {base : Heap} {fd : FuncData}
theorem Bd.n {n : Nat} {q : Rat} (b : Bd n q) : q.num.natAbs < 2 ^ n := b.1
theorem Bd.d {n : Nat} {q : Rat} (b : Bd n q) : (q.den : Int).natAbs < 2 ^ n := by simpa using b.2
theorem le8 {a : Nat} {m : Nat} (h : a < 2 ^ m) (hm : m ≤ 8000) : a < 2 ^ 8000 := Nat.lt_of_lt_of_le h (pow_le hm)
theorem sc_Ratio_plus : FnScope ["self", "other"] ["self", "other"] (defScope sRatio_plus) := C8.fnScope_by (by decide +kernel)
theorem ok_Ratio_plus (F : FRatio_plus K fd) (T : Tx K mg) : FnOk P w K mg base C8.CX0 4 (He.ma K (He.ga K "Ratio") "plus") fd ["self", "other"] (spRat2 K Ok2 (· + ·)) := by
  refine FunD.ok F sc_Ratio_plus (fun vs H Q E h => ?_) (fun cdv A outer s H vs Q E hr h => ?_)
  · obtain ⟨_, _, _, _, rfl, _⟩ := h
    rfl
  · obtain ⟨p, p2, q, q2, rfl, ⟨d1, h1⟩, ⟨d2, h2⟩, ⟨o1, o2⟩, k⟩ := h
    refine ⟨_, PSs.nox (pss_one (ps_ret (pe_mk (mak_Ratio_2 T) hr (by decide) rfl (pa_cons (pe_op op_add (pe_op op_mulX (pe_fld (pv 0) rfl) (pe_fld (pv 1) rfl)) (pe_op op_mulX (pe_fld (pv 1) rfl) (pe_fld (pv 0) rfl))) (pa_cons (pe_op op_mulX (pe_fld (pv 0) rfl) (pe_fld (pv 1) rfl)) pa_nil))))), ?_⟩
    refine ⟨_, rfl, p, _, _, _, _, rfl, h1, T.cl_Ratio, T.na_Ratio_top, ratF_top q, _, rfl, p2, _, _, _, _, rfl, h2, T.cl_Ratio, T.na_Ratio_bottom, ratF_bottom q2, _, _, rfl, rfl, cm o1.n o2.d (by decide), _, rfl, p2, _, _, _, _, rfl, h2, T.cl_Ratio, T.na_Ratio_top, ratF_top q2, _, rfl, p, _, _, _, _, rfl, h1, T.cl_Ratio, T.na_Ratio_bottom, ratF_bottom q, _, _, rfl, rfl, cm o2.n o1.d (by decide), _, _, rfl, rfl, _, rfl, p, _, _, _, _, rfl, h1, T.cl_Ratio, T.na_Ratio_bottom, ratF_bottom q, _, rfl, p2, _, _, _, _, rfl, h2, T.cl_Ratio, T.na_Ratio_bottom, ratF_bottom q2, _, _, rfl, rfl, cm o1.d o2.d (by decide), ?_⟩
    exact rat_new (Int.mul_ne_zero (den_ne q) (den_ne q2)) (le8 (o1.add_num o2) (by decide)) (le8 (o1.mul_den o2) (by decide)) fun r H' sm R => k r H' sm (by rw [rq_add] at R; exact R)
theorem met_plus (T : Tx K mg) : Met P w K mg base 4 (He.ga K "Ratio") "plus" (spRat2 K Ok2 (· + ·)) [] := by
  obtain ⟨fd, F⟩ := T.f_Ratio_plus
  exact ⟨_, fd, _, _, T.cl_Ratio, T.me_Ratio_plus, ok_Ratio_plus F T, bi_Ratio_plus F, .nil⟩
theorem sc_Ratio_times : FnScope ["self", "other"] ["self", "other"] (defScope sRatio_times) := C8.fnScope_by (by decide +kernel)
theorem ok_Ratio_times (F : FRatio_times K fd) (T : Tx K mg) : FnOk P w K mg base C8.CX0 4 (He.ma K (He.ga K "Ratio") "times") fd ["self", "other"] (spRat2 K Ok2 (· * ·)) := by
  refine FunD.ok F sc_Ratio_times (fun vs H Q E h => ?_) (fun cdv A outer s H vs Q E hr h => ?_)
  · obtain ⟨_, _, _, _, rfl, _⟩ := h
    rfl
  · obtain ⟨p, p2, q, q2, rfl, ⟨d1, h1⟩, ⟨d2, h2⟩, ⟨o1, o2⟩, k⟩ := h
    refine ⟨_, PSs.nox (pss_one (ps_ret (pe_mk (mak_Ratio_2 T) hr (by decide) rfl (pa_cons (pe_op op_mulX (pe_fld (pv 0) rfl) (pe_fld (pv 1) rfl)) (pa_cons (pe_op op_mulX (pe_fld (pv 0) rfl) (pe_fld (pv 1) rfl)) pa_nil))))), ?_⟩
    refine ⟨_, rfl, p, _, _, _, _, rfl, h1, T.cl_Ratio, T.na_Ratio_top, ratF_top q, _, rfl, p2, _, _, _, _, rfl, h2, T.cl_Ratio, T.na_Ratio_top, ratF_top q2, _, _, rfl, rfl, cm o1.n o2.n (by decide), _, rfl, p, _, _, _, _, rfl, h1, T.cl_Ratio, T.na_Ratio_bottom, ratF_bottom q, _, rfl, p2, _, _, _, _, rfl, h2, T.cl_Ratio, T.na_Ratio_bottom, ratF_bottom q2, _, _, rfl, rfl, cm o1.d o2.d (by decide), ?_⟩
    exact rat_new (Int.mul_ne_zero (den_ne q) (den_ne q2)) (le8 (abs_mul_lt o1.n o2.n) (by decide)) (le8 (o1.mul_den o2) (by decide)) fun r H' sm R => k r H' sm (by rw [rq_mul] at R; exact R)
theorem met_times (T : Tx K mg) : Met P w K mg base 4 (He.ga K "Ratio") "times" (spRat2 K Ok2 (· * ·)) [] := by
  obtain ⟨fd, F⟩ := T.f_Ratio_times
  exact ⟨_, fd, _, _, T.cl_Ratio, T.me_Ratio_times, ok_Ratio_times F T, bi_Ratio_times F, .nil⟩
theorem sc_Ratio_over : FnScope ["self", "other"] ["self", "other"] (defScope sRatio_over) := C8.fnScope_by (by decide +kernel)
theorem ok_Ratio_over (F : FRatio_over K fd) (T : Tx K mg) : FnOk P w K mg base C8.CX0 4 (He.ma K (He.ga K "Ratio") "over") fd ["self", "other"] (spRat2 K OkO (· / ·)) := by
  refine FunD.ok F sc_Ratio_over (fun vs H Q E h => ?_) (fun cdv A outer s H vs Q E hr h => ?_)
  · obtain ⟨_, _, _, _, rfl, _⟩ := h
    rfl
  · obtain ⟨p, p2, q, q2, rfl, ⟨d1, h1⟩, ⟨d2, h2⟩, ⟨hn, o1, o2⟩, k⟩ := h
    refine ⟨_, PSs.nox (pss_one (ps_ret (pe_mk (mak_Ratio_2 T) hr (by decide) rfl (pa_cons (pe_op op_mulX (pe_fld (pv 0) rfl) (pe_fld (pv 1) rfl)) (pa_cons (pe_op op_mulX (pe_fld (pv 0) rfl) (pe_fld (pv 1) rfl)) pa_nil))))), ?_⟩
    refine ⟨_, rfl, p, _, _, _, _, rfl, h1, T.cl_Ratio, T.na_Ratio_top, ratF_top q, _, rfl, p2, _, _, _, _, rfl, h2, T.cl_Ratio, T.na_Ratio_bottom, ratF_bottom q2, _, _, rfl, rfl, cm o1.n o2.d (by decide), _, rfl, p, _, _, _, _, rfl, h1, T.cl_Ratio, T.na_Ratio_bottom, ratF_bottom q, _, rfl, p2, _, _, _, _, rfl, h2, T.cl_Ratio, T.na_Ratio_top, ratF_top q2, _, _, rfl, rfl, cm o1.d o2.n (by decide), ?_⟩
    exact rat_new (Int.mul_ne_zero (den_ne q) (fun z => hn (Rat.num_eq_zero.mp z))) (le8 (abs_mul_lt o1.n o2.d) (by decide)) (le8 (abs_mul_lt o1.d o2.n) (by decide)) fun r H' sm R => k r H' sm (by rw [rq_div] at R; exact R)
theorem met_over (T : Tx K mg) : Met P w K mg base 4 (He.ga K "Ratio") "over" (spRat2 K OkO (· / ·)) [] := by
  obtain ⟨fd, F⟩ := T.f_Ratio_over
  exact ⟨_, fd, _, _, T.cl_Ratio, T.me_Ratio_over, ok_Ratio_over F T, bi_Ratio_over F, .nil⟩
theorem sc_Ratio_turned : FnScope ["self"] ["self"] (defScope sRatio_turned) := C8.fnScope_by (by decide +kernel)
theorem ok_Ratio_turned (F : FRatio_turned K fd) (T : Tx K mg) : FnOk P w K mg base C8.CX0 4 (He.ma K (He.ga K "Ratio") "turned") fd ["self"] (spRat1 K (fun q => -q)) := by
  refine FunD.ok F sc_Ratio_turned (fun vs H Q E h => ?_) (fun cdv A outer s H vs Q E hr h => ?_)
  · obtain ⟨_, _, rfl, _⟩ := h
    rfl
  · obtain ⟨p, q, rfl, ⟨d1, h1⟩, o1, k⟩ := h
    refine ⟨_, PSs.nox (pss_one (ps_ret (pe_mk (mak_Ratio_2 T) hr (by decide) rfl (pa_cons (pe_un un_neg (pe_fld (pv 0) rfl)) (pa_cons (pe_fld (pv 0) rfl) pa_nil))))), ?_⟩
    refine ⟨_, rfl, p, _, _, _, _, rfl, h1, T.cl_Ratio, T.na_Ratio_top, ratF_top q, _, rfl, _, rfl, p, _, _, _, _, rfl, h1, T.cl_Ratio, T.na_Ratio_bottom, ratF_bottom q, ?_⟩
    exact rat_new (den_ne q) (le8 (by rw [Int.natAbs_neg]; exact o1.n) (by decide)) (le8 o1.d (by decide)) fun r H' sm R => k r H' sm (by rw [rq_neg] at R; exact R)
theorem met_turned (T : Tx K mg) : Met P w K mg base 4 (He.ga K "Ratio") "turned" (spRat1 K (fun q => -q)) [] := by
  obtain ⟨fd, F⟩ := T.f_Ratio_turned
  exact ⟨_, fd, _, _, T.cl_Ratio, T.me_Ratio_turned, ok_Ratio_turned F T, bi_Ratio_turned F, .nil⟩
theorem sc_Ratio_rest : FnScope ["self"] ["self"] (defScope sRatio_rest) := C8.fnScope_by (by decide +kernel)
theorem ok_Ratio_rest (F : FRatio_rest K fd) (T : Tx K mg) : FnOk P w K mg base C8.CX0 4 (He.ma K (He.ga K "Ratio") "rest") fd ["self"] (spRat1 K rest) := by
  refine FunD.ok F sc_Ratio_rest (fun vs H Q E h => ?_) (fun cdv A outer s H vs Q E hr h => ?_)
  · obtain ⟨_, _, rfl, _⟩ := h
    rfl
  · obtain ⟨p, q, rfl, ⟨d1, h1⟩, o1, k⟩ := h
    refine ⟨_, PSs.nox (pss_one (ps_ret (pe_mk (mak_Ratio_2 T) hr (by decide) rfl (pa_cons (pe_op op_mod (pe_fld (pv 0) rfl) (pe_fld (pv 0) rfl)) (pa_cons (pe_fld (pv 0) rfl) pa_nil))))), ?_⟩
    have hd : (0 : Int) < q.den := by have := q.den_pos; omega
    have e1 := Int.emod_nonneg q.num (den_ne q)
    have e2 := Int.emod_lt_of_pos q.num hd
    have e3 := o1.2
    refine ⟨_, rfl, p, _, _, _, _, rfl, h1, T.cl_Ratio, T.na_Ratio_top, ratF_top q, _, rfl, p, _, _, _, _, rfl, h1, T.cl_Ratio, T.na_Ratio_bottom, ratF_bottom q, _, _, rfl, rfl, hd, _, rfl, p, _, _, _, _, rfl, h1, T.cl_Ratio, T.na_Ratio_bottom, ratF_bottom q, ?_⟩
    exact rat_new (den_ne q) (le8 (m := 3900) (by omega) (by decide)) (le8 o1.d (by decide)) fun r H' sm R => k r H' sm (by rw [rq_rest] at R; exact R)
theorem met_rest (T : Tx K mg) : Met P w K mg base 4 (He.ga K "Ratio") "rest" (spRat1 K rest) [] := by
  obtain ⟨fd, F⟩ := T.f_Ratio_rest
  exact ⟨_, fd, _, _, T.cl_Ratio, T.me_Ratio_rest, ok_Ratio_rest F T, bi_Ratio_rest F, .nil⟩
theorem sc_Ratio_sign : FnScope ["self"] ["self"] (defScope sRatio_sign) := C8.fnScope_by (by decide +kernel)
theorem ok_Ratio_sign (F : FRatio_sign K fd) (T : Tx K mg) : FnOk P w K mg base C8.CX0 1 (He.ma K (He.ga K "Ratio") "sign") fd ["self"] (spRatV K sgn) := by
  refine FunD.ok F sc_Ratio_sign (fun vs H Q E h => ?_) (fun cdv A outer s H vs Q E hr h => ?_)
  · obtain ⟨_, _, rfl, _⟩ := h
    rfl
  · obtain ⟨p, q, rfl, ⟨d1, h1⟩, o1, k⟩ := h
    refine ⟨_, PSs.nox (pss_one (ps_ret (pe_op op_sub (pe_callTy call_int1 (by rfl) T.b_int (by decide +kernel) (pa_cons (pe_cmpR op_gt (pe_fld (pv 0) rfl) pe_int (nomark _)) pa_nil)) (pe_callTy call_int1 (by rfl) T.b_int (by decide +kernel) (pa_cons (pe_cmpR op_lt (pe_fld (pv 0) rfl) pe_int (nomark _)) pa_nil))))), ?_⟩
    refine ⟨_, rfl, p, _, _, _, _, rfl, h1, T.cl_Ratio, T.na_Ratio_top, ratF_top q, _, _, rfl, rfl, .inr ⟨_, rfl, _, rfl, p, _, _, _, _, rfl, h1, T.cl_Ratio, T.na_Ratio_top, ratF_top q, _, _, rfl, rfl, .inr ⟨_, rfl, _, _, rfl, rfl, ?_⟩⟩⟩
    show Q (.int ((if decide (0 < q.num) = true then 1 else 0) - (if decide (q.num < 0) = true then 1 else 0))) H
    simp only [decide_eq_true_eq]
    exact k
theorem met_sign (T : Tx K mg) : Met P w K mg base 1 (He.ga K "Ratio") "sign" (spRatV K sgn) [] := by
  obtain ⟨fd, F⟩ := T.f_Ratio_sign
  exact ⟨_, fd, _, _, T.cl_Ratio, T.me_Ratio_sign, ok_Ratio_sign F T, bi_Ratio_sign F, .nil⟩
theorem sc_Ratio_floor : FnScope ["self"] ["self"] (defScope sRatio_floor) := C8.fnScope_by (by decide +kernel)
theorem ok_Ratio_floor (F : FRatio_floor K fd) (T : Tx K mg) : FnOk P w K mg base C8.CX0 1 (He.ma K (He.ga K "Ratio") "floor") fd ["self"] (spRatV K Rat.floor) := by
  refine FunD.ok F sc_Ratio_floor (fun vs H Q E h => ?_) (fun cdv A outer s H vs Q E hr h => ?_)
  · obtain ⟨_, _, rfl, _⟩ := h
    rfl
  · obtain ⟨p, q, rfl, ⟨d1, h1⟩, o1, k⟩ := h
    refine ⟨_, PSs.nox (pss_one (ps_ret (pe_op op_fdivG (pe_fld (pv 0) rfl) (pe_fld (pv 0) rfl)))), ?_⟩
    have hd : (0 : Int) < q.den := by have := q.den_pos; omega
    refine ⟨_, rfl, p, _, _, _, _, rfl, h1, T.cl_Ratio, T.na_Ratio_top, ratF_top q, _, rfl, p, _, _, _, _, rfl, h1, T.cl_Ratio, T.na_Ratio_bottom, ratF_bottom q, _, _, rfl, rfl, ⟨den_ne q, Nat.lt_of_lt_of_le o1.d (pow_le (by decide))⟩, ?_⟩
    show Q (.int (q.num.fdiv q.den)) H
    rw [Int.fdiv_eq_ediv_of_nonneg _ (by omega), ← Rat.floor_def]
    exact k
theorem met_floor (T : Tx K mg) : Met P w K mg base 1 (He.ga K "Ratio") "floor" (spRatV K Rat.floor) [] := by
  obtain ⟨fd, F⟩ := T.f_Ratio_floor
  exact ⟨_, fd, _, _, T.cl_Ratio, T.me_Ratio_floor, ok_Ratio_floor F T, bi_Ratio_floor F, .nil⟩
theorem sc_Ratio_minus : FnScope ["self", "other"] ["self", "other"] (defScope sRatio_minus) := C8.fnScope_by (by decide +kernel)
theorem ok_Ratio_minus (F : FRatio_minus K fd) (T : Tx K mg) : FnOk P w K mg base C8.CX0 5 (He.ma K (He.ga K "Ratio") "minus") fd ["self", "other"] (spRat2 K Ok2 (· - ·)) := by
  refine FunD.ok F sc_Ratio_minus (fun vs H Q E h => ?_) (fun cdv A outer s H vs Q E hr h => ?_)
  · obtain ⟨_, _, _, _, rfl, _⟩ := h
    rfl
  · obtain ⟨p, p2, q, q2, rfl, r1, r2, ⟨o1, o2⟩, k⟩ := h
    obtain ⟨d1, h1⟩ := id r1
    obtain ⟨d2, h2⟩ := id r2
    refine ⟨_, PSs.nox (pss_one (ps_ret (pe_mt (met_plus T) hr (by decide) (pv 0) (pa_cons (pe_mt0 (met_turned T) hr (by decide) (pv 1)) pa_nil)))), ?_⟩
    refine ⟨_, rfl, p, _, _, rfl, h1, ratF_no _ (by decide +kernel) (by decide +kernel), _, rfl, p2, _, _, rfl, h2, ratF_no _ (by decide +kernel) (by decide +kernel), p2, q2, rfl, r2, o2, fun r H1 s1 R => ?_⟩
    refine ⟨p, r, q, -q2, rfl, r1.mono s1, R, ⟨o1, bd_neg o2⟩, fun r3 H2 s2 R2 => k r3 H2 (s1.trans s2) ?_⟩
    show RatAt K H2 r3 (q - q2)
    rw [Rat.sub_eq_add_neg]
    exact R2
theorem met_minus (T : Tx K mg) : Met P w K mg base 5 (He.ga K "Ratio") "minus" (spRat2 K Ok2 (· - ·)) [] := by
  obtain ⟨fd, F⟩ := T.f_Ratio_minus
  exact ⟨_, fd, _, _, T.cl_Ratio, T.me_Ratio_minus, ok_Ratio_minus F T, bi_Ratio_minus F, .nil⟩
theorem sc_Dbefore : FnScope ["one", "other"] ["one", "other"] (defScope sDbefore) := C8.fnScope_by (by decide +kernel)
theorem ok_before (F : FDbefore K fd) (T : Tx K mg) : FnOk P w K mg base C8.CX0 1 (He.ga K "before") fd ["one", "other"] (spBefore K) := by
  refine FunD.ok F sc_Dbefore (fun vs H Q E h => ?_) (fun cdv A outer s H vs Q E hr h => ?_)
  · obtain ⟨_, _, _, _, rfl, _⟩ := h
    rfl
  · obtain ⟨p, p2, q, q2, rfl, ⟨d1, h1⟩, ⟨d2, h2⟩, o1, o2, k⟩ := h
    refine ⟨_, PSs.nox (pss_one (ps_ret (pe_cmpR op_lt (pe_op op_mulX (pe_fld (pv 0) rfl) (pe_fld (pv 1) rfl)) (pe_op op_mulX (pe_fld (pv 1) rfl) (pe_fld (pv 0) rfl)) (nomark _)))), ?_⟩
    refine ⟨_, rfl, p, _, _, _, _, rfl, h1, T.cl_Ratio, T.na_Ratio_top, ratF_top q, _, rfl, p2, _, _, _, _, rfl, h2, T.cl_Ratio, T.na_Ratio_bottom, ratF_bottom q2, _, _, rfl, rfl, cm o1.n o2.d (by decide), _, rfl, p2, _, _, _, _, rfl, h2, T.cl_Ratio, T.na_Ratio_top, ratF_top q2, _, rfl, p, _, _, _, _, rfl, h1, T.cl_Ratio, T.na_Ratio_bottom, ratF_bottom q, _, _, rfl, rfl, cm o2.n o1.d (by decide), _, _, rfl, rfl, ?_⟩
    show Q (.bl (decide (q.num * q2.den < q2.num * q.den))) H
    rw [show decide (q.num * q2.den < q2.num * q.den) = decide (q < q2) from decide_eq_decide.mpr (Rat.lt_iff q q2).symm]
    exact k
theorem cal_before (T : Tx K mg) : Cal P w K mg base 1 "before" (spBefore K) [] := by
  obtain ⟨fd, F⟩ := T.f_Dbefore
  exact ⟨_, fd, _, _, ok_before F T, T.g_before, F.kp, bi_Dbefore F, .nil⟩
end
end Ty
set_option Elab.async false
set_option linter.all false
set_option maxRecDepth 100000
set_option maxHeartbeats 4000000
/-! The rows' constructors. Printed by gen_rows.py. -/
namespace Ty
open PySem PySem.Spec PyProof.Rows L2 C8
theorem put_nil {f : Str} {v : V} : putF f v [] = [(f, v)] := rfl
theorem put_ne {f g : Str} {v x : V} {r : List (Str × V)} (h : ¬ g = f) : putF f v ((g, x) :: r) = (g, x) :: putF f v r := by
  show (if g = f then _ else _) = _
  rw [if_neg h]
theorem put_lt {f : Str} {v : V} : ∀ {fs : List (Str × V)} {k : Nat}, fs.length < k → (putF f v fs).length < k + 1
  | [], k, h => by
    show 1 < k + 1
    simp at h
    omega
  | (g, x) :: r, k, h => by
    by_cases e : g = f
    · rw [show putF f v ((g, x) :: r) = (g, v) :: r by show (if g = f then _ else _) = _; rw [if_pos e]]
      simp at h ⊢
      omega
    · rw [put_ne e]
      cases k with
      | zero => simp at h
      | succ k =>
        have := put_lt (f := f) (v := v) (fs := r) (k := k) (by simpa using h)
        simp
        omega
theorem lookC {f g : Str} {a : V} {r : List (Str × V)} (h : ¬ g = f) : ((f, a) :: r).lookup g = r.lookup g := by
  have h1 : (g == f) = false := beq_eq_false_iff_ne.mpr h
  simp [List.lookup, h1]
/-- the promise of a row's __init__: names its fields, the first one a tuple -/
def spRow (K : PySem.W.Frag) (C : Str) (ns : List Str) : Sp := fun vs H Q _ => ∃ (p dx wp : Addr) (ws args : List V), vs = .ref p :: .ref wp :: args ∧ args.length + 1 = ns.length ∧ SqT K H wp ws ∧ H p = some (.ins (He.ga K C) dx []) ∧
  Q .non (upd H p (.ins (He.ga K C) dx (ns.zip (.ref wp :: args))))
/-- a new row -/
theorem row_new {K : PySem.W.Frag} {C : Str} {ns : List Str} {H : Hp} {wp : Addr} {ws args : List V} {Q : Addr → Hp → Prop} {E : XK} (hl : args.length + 1 = ns.length) (hw : SqT K H wp ws)
    (h : ∀ r dx H', Same H H' → H' r = some (.ins (He.ga K C) dx (ns.zip (.ref wp :: args))) → Q r H') :
    ∀ x dx, H x = none → H dx = none → dx ≠ x → spRow K C ns (.ref x :: .ref wp :: args) (upd (upd H dx (.own x)) x (.ins (He.ga K C) dx [])) (fun v H2 => v = .non ∧ Q x H2) E := by
  intro x dx nx nd nex
  have s1 : Same H (upd (upd H dx (.own x)) x (.ins (He.ga K C) dx [])) := fun c o e => by
    rw [upd_ne (ne_of_none e nx), upd_ne (ne_of_none e nd)]
    exact e
  refine ⟨x, dx, wp, ws, args, rfl, hl, ?_, upd_same, rfl, h x dx _ (fun c o e => ?_) upd_same⟩
  · rcases hw with (z | ⟨o, z⟩) | z
    · exact .inl (.inl (s1 _ _ z))
    · exact .inl (.inr ⟨o, s1 _ _ z⟩)
    · exact .inr z
  · rw [upd_ne (ne_of_none e nx)]
    exact s1 _ _ e
theorem Same.seqT {K : PySem.W.Frag} {H H' : Hp} {a : Addr} {xs : List V} (e : ∀ b ys, H b = some (.tup ys) → H' b = some (.tup ys)) (f : ∀ b o u, H b = some (.frz o u) → H' b = some (.frz o u)) (h : SqT K H a xs) : SqT K H' a xs := by
  rcases h with (h | ⟨o, h⟩) | h
  · exact .inl (.inl (e _ _ h))
  · exact .inl (.inr ⟨o, f _ _ _ h⟩)
  · exact .inr h
theorem seq_upd {K : PySem.W.Frag} {H : Hp} {a p C dx C' dx' : Addr} {fs fs' : List (Str × V)} {xs : List V} (hp : H p = some (.ins C dx fs)) (h : SqT K H a xs) : SqT K (upd H p (.ins C' dx' fs')) a xs :=
  Same.seqT (fun b ys e => by rw [upd_ne (ne_of e hp (fun z => by cases z))]; exact e) (fun b o u e => by rw [upd_ne (ne_of e hp (fun z => by cases z))]; exact e) h
section
variable {P : Program} {w : World} {K : PySem.W.Frag} {mg : Str → Option Value} {base : Heap} {fd : FuncData}
theorem put_Arbor {x0 x1 : V} : putF "name" x1 (putF "way" x0 []) = ([("way", x0), ("name", x1)] : List (Str × V)) := by
  have h01 : ¬ (("way" : Str) = "name") := by decide +kernel
  simp only [put_nil, put_ne h01]
theorem lk_Arbor_way {x0 x1 : V} : ([("way", x0), ("name", x1)] : List (Str × V)).lookup ("way" : Str) = some x0 := by
  exact look1
theorem lk_Arbor_name {x0 x1 : V} : ([("way", x0), ("name", x1)] : List (Str × V)).lookup ("name" : Str) = some x1 := by
  rw [lookC (by decide +kernel)]; exact look1
theorem sc_Arbor_init : FnScope ["self", "way", "name"] ["self", "way", "name"] (defScope sArbor_init) := C8.fnScope_by (by decide +kernel)
theorem ok_Arbor_init (F : FArbor_init K fd) (T : Tx K mg) : FnOk P w K mg base C8.CX0 1 (He.ma K (He.ga K "Arbor") "__init__") fd ["self", "way", "name"] (spRow K "Arbor" ["way", "name"]) := by
  refine FunD.ok F sc_Arbor_init (fun vs H Q E h => ?_) (fun cdv A outer s H vs Q E hr h => ?_)
  · obtain ⟨_, _, _, _, args, rfl, hl, _⟩ := h
    simp at hl ⊢
    exact hl
  · obtain ⟨p, dx, wp, ws, args, rfl, hl, hw, hp, k⟩ := h
    obtain ⟨x1, rfl⟩ : ∃ x1, args = [x1] := match args, hl with | [x1], _ => ⟨_, rfl⟩
    refine ⟨_, PSs.nox (pss_cons (ps_fld (pv 0) (pe_callTy call_tuple_of (by rfl) T.b_tuple (by decide +kernel) (pa_cons (pv 1) pa_nil)) rfl) (pss_one (ps_fld (pv 0) (pv 2) rfl))), ?_⟩
    refine ⟨_, rfl, wp, _, rfl, .inr ⟨hw, _, rfl, p, _, dx, _, rfl, hp, T.cl_Arbor, T.na_Arbor_way, (Nat.lt_of_lt_of_le (Nat.zero_lt_one) (by decide)), ?_⟩⟩
    refine ⟨_, rfl, _, rfl, p, _, dx, _, rfl, upd_same, T.cl_Arbor, T.na_Arbor_name, (Nat.lt_of_lt_of_le (put_lt (Nat.zero_lt_one)) (by decide)), ?_⟩
    have e := put_Arbor (x0 := .ref wp) (x1 := x1)
    show Q .non (upd (upd H p (.ins _ dx (putF "way" (V.ref wp) []))) p (.ins _ dx (putF "name" x1 (putF "way" (V.ref wp) []))))
    rw [upd_upd, e]
    exact k
theorem mak_Arbor_2 (T : Tx K mg) : Mak P w K mg base 1 "Arbor" (He.ga K "Arbor") (spRow K "Arbor" ["way", "name"]) [] := by
  obtain ⟨fd, F⟩ := T.f_Arbor_init
  exact ⟨_, fd, _, _, T.mk_Arbor, ok_Arbor_init F T, T.g_Arbor, bi_Arbor_init F, .nil⟩
theorem put_Wheel {x0 x1 x2 x3 : V} : putF "teeth" x3 (putF "arbor" x2 (putF "name" x1 (putF "way" x0 []))) = ([("way", x0), ("name", x1), ("arbor", x2), ("teeth", x3)] : List (Str × V)) := by
  have h01 : ¬ (("way" : Str) = "name") := by decide +kernel
  have h02 : ¬ (("way" : Str) = "arbor") := by decide +kernel
  have h12 : ¬ (("name" : Str) = "arbor") := by decide +kernel
  have h03 : ¬ (("way" : Str) = "teeth") := by decide +kernel
  have h13 : ¬ (("name" : Str) = "teeth") := by decide +kernel
  have h23 : ¬ (("arbor" : Str) = "teeth") := by decide +kernel
  simp only [put_nil, put_ne h01, put_ne h02, put_ne h12, put_ne h03, put_ne h13, put_ne h23]
theorem lk_Wheel_way {x0 x1 x2 x3 : V} : ([("way", x0), ("name", x1), ("arbor", x2), ("teeth", x3)] : List (Str × V)).lookup ("way" : Str) = some x0 := by
  exact look1
theorem lk_Wheel_name {x0 x1 x2 x3 : V} : ([("way", x0), ("name", x1), ("arbor", x2), ("teeth", x3)] : List (Str × V)).lookup ("name" : Str) = some x1 := by
  rw [lookC (by decide +kernel)]; exact look1
theorem lk_Wheel_arbor {x0 x1 x2 x3 : V} : ([("way", x0), ("name", x1), ("arbor", x2), ("teeth", x3)] : List (Str × V)).lookup ("arbor" : Str) = some x2 := by
  rw [lookC (by decide +kernel), lookC (by decide +kernel)]; exact look1
theorem lk_Wheel_teeth {x0 x1 x2 x3 : V} : ([("way", x0), ("name", x1), ("arbor", x2), ("teeth", x3)] : List (Str × V)).lookup ("teeth" : Str) = some x3 := by
  rw [lookC (by decide +kernel), lookC (by decide +kernel), lookC (by decide +kernel)]; exact look1
theorem sc_Wheel_init : FnScope ["self", "way", "name", "arbor", "teeth"] ["self", "way", "name", "arbor", "teeth"] (defScope sWheel_init) := C8.fnScope_by (by decide +kernel)
theorem ok_Wheel_init (F : FWheel_init K fd) (T : Tx K mg) : FnOk P w K mg base C8.CX0 1 (He.ma K (He.ga K "Wheel") "__init__") fd ["self", "way", "name", "arbor", "teeth"] (spRow K "Wheel" ["way", "name", "arbor", "teeth"]) := by
  refine FunD.ok F sc_Wheel_init (fun vs H Q E h => ?_) (fun cdv A outer s H vs Q E hr h => ?_)
  · obtain ⟨_, _, _, _, args, rfl, hl, _⟩ := h
    simp at hl ⊢
    exact hl
  · obtain ⟨p, dx, wp, ws, args, rfl, hl, hw, hp, k⟩ := h
    obtain ⟨x1, x2, x3, rfl⟩ : ∃ x1 x2 x3, args = [x1, x2, x3] := match args, hl with | [x1, x2, x3], _ => ⟨_, _, _, rfl⟩
    refine ⟨_, PSs.nox (pss_cons (ps_fld (pv 0) (pe_callTy call_tuple_of (by rfl) T.b_tuple (by decide +kernel) (pa_cons (pv 1) pa_nil)) rfl) (pss_cons (ps_fld (pv 0) (pv 2) rfl) (pss_cons (ps_fld (pv 0) (pv 3) rfl) (pss_one (ps_fld (pv 0) (pv 4) rfl))))), ?_⟩
    refine ⟨_, rfl, wp, _, rfl, .inr ⟨hw, _, rfl, p, _, dx, _, rfl, hp, T.cl_Wheel, T.na_Wheel_way, (Nat.lt_of_lt_of_le (Nat.zero_lt_one) (by decide)), ?_⟩⟩
    refine ⟨_, rfl, _, rfl, p, _, dx, _, rfl, upd_same, T.cl_Wheel, T.na_Wheel_name, (Nat.lt_of_lt_of_le (put_lt (Nat.zero_lt_one)) (by decide)), ?_⟩
    refine ⟨_, rfl, _, rfl, p, _, dx, _, rfl, upd_same, T.cl_Wheel, T.na_Wheel_arbor, (Nat.lt_of_lt_of_le (put_lt (put_lt (Nat.zero_lt_one))) (by decide)), ?_⟩
    refine ⟨_, rfl, _, rfl, p, _, dx, _, rfl, upd_same, T.cl_Wheel, T.na_Wheel_teeth, (Nat.lt_of_lt_of_le (put_lt (put_lt (put_lt (Nat.zero_lt_one)))) (by decide)), ?_⟩
    have e := put_Wheel (x0 := .ref wp) (x1 := x1) (x2 := x2) (x3 := x3)
    show Q .non (upd (upd (upd (upd H p (.ins _ dx (putF "way" (V.ref wp) []))) p (.ins _ dx (putF "name" x1 (putF "way" (V.ref wp) [])))) p (.ins _ dx (putF "arbor" x2 (putF "name" x1 (putF "way" (V.ref wp) []))))) p (.ins _ dx (putF "teeth" x3 (putF "arbor" x2 (putF "name" x1 (putF "way" (V.ref wp) []))))))
    rw [upd_upd, upd_upd, upd_upd, e]
    exact k
theorem mak_Wheel_4 (T : Tx K mg) : Mak P w K mg base 1 "Wheel" (He.ga K "Wheel") (spRow K "Wheel" ["way", "name", "arbor", "teeth"]) [] := by
  obtain ⟨fd, F⟩ := T.f_Wheel_init
  exact ⟨_, fd, _, _, T.mk_Wheel, ok_Wheel_init F T, T.g_Wheel, bi_Wheel_init F, .nil⟩
theorem put_Mesh {x0 x1 x2 x3 : V} : putF "arm" x3 (putF "other" x2 (putF "one" x1 (putF "way" x0 []))) = ([("way", x0), ("one", x1), ("other", x2), ("arm", x3)] : List (Str × V)) := by
  have h01 : ¬ (("way" : Str) = "one") := by decide +kernel
  have h02 : ¬ (("way" : Str) = "other") := by decide +kernel
  have h12 : ¬ (("one" : Str) = "other") := by decide +kernel
  have h03 : ¬ (("way" : Str) = "arm") := by decide +kernel
  have h13 : ¬ (("one" : Str) = "arm") := by decide +kernel
  have h23 : ¬ (("other" : Str) = "arm") := by decide +kernel
  simp only [put_nil, put_ne h01, put_ne h02, put_ne h12, put_ne h03, put_ne h13, put_ne h23]
theorem lk_Mesh_way {x0 x1 x2 x3 : V} : ([("way", x0), ("one", x1), ("other", x2), ("arm", x3)] : List (Str × V)).lookup ("way" : Str) = some x0 := by
  exact look1
theorem lk_Mesh_one {x0 x1 x2 x3 : V} : ([("way", x0), ("one", x1), ("other", x2), ("arm", x3)] : List (Str × V)).lookup ("one" : Str) = some x1 := by
  rw [lookC (by decide +kernel)]; exact look1
theorem lk_Mesh_other {x0 x1 x2 x3 : V} : ([("way", x0), ("one", x1), ("other", x2), ("arm", x3)] : List (Str × V)).lookup ("other" : Str) = some x2 := by
  rw [lookC (by decide +kernel), lookC (by decide +kernel)]; exact look1
theorem lk_Mesh_arm {x0 x1 x2 x3 : V} : ([("way", x0), ("one", x1), ("other", x2), ("arm", x3)] : List (Str × V)).lookup ("arm" : Str) = some x3 := by
  rw [lookC (by decide +kernel), lookC (by decide +kernel), lookC (by decide +kernel)]; exact look1
theorem sc_Mesh_init : FnScope ["self", "way", "one", "other", "arm"] ["self", "way", "one", "other", "arm"] (defScope sMesh_init) := C8.fnScope_by (by decide +kernel)
theorem ok_Mesh_init (F : FMesh_init K fd) (T : Tx K mg) : FnOk P w K mg base C8.CX0 1 (He.ma K (He.ga K "Mesh") "__init__") fd ["self", "way", "one", "other", "arm"] (spRow K "Mesh" ["way", "one", "other", "arm"]) := by
  refine FunD.ok F sc_Mesh_init (fun vs H Q E h => ?_) (fun cdv A outer s H vs Q E hr h => ?_)
  · obtain ⟨_, _, _, _, args, rfl, hl, _⟩ := h
    simp at hl ⊢
    exact hl
  · obtain ⟨p, dx, wp, ws, args, rfl, hl, hw, hp, k⟩ := h
    obtain ⟨x1, x2, x3, rfl⟩ : ∃ x1 x2 x3, args = [x1, x2, x3] := match args, hl with | [x1, x2, x3], _ => ⟨_, _, _, rfl⟩
    refine ⟨_, PSs.nox (pss_cons (ps_fld (pv 0) (pe_callTy call_tuple_of (by rfl) T.b_tuple (by decide +kernel) (pa_cons (pv 1) pa_nil)) rfl) (pss_cons (ps_fld (pv 0) (pv 2) rfl) (pss_cons (ps_fld (pv 0) (pv 3) rfl) (pss_one (ps_fld (pv 0) (pv 4) rfl))))), ?_⟩
    refine ⟨_, rfl, wp, _, rfl, .inr ⟨hw, _, rfl, p, _, dx, _, rfl, hp, T.cl_Mesh, T.na_Mesh_way, (Nat.lt_of_lt_of_le (Nat.zero_lt_one) (by decide)), ?_⟩⟩
    refine ⟨_, rfl, _, rfl, p, _, dx, _, rfl, upd_same, T.cl_Mesh, T.na_Mesh_one, (Nat.lt_of_lt_of_le (put_lt (Nat.zero_lt_one)) (by decide)), ?_⟩
    refine ⟨_, rfl, _, rfl, p, _, dx, _, rfl, upd_same, T.cl_Mesh, T.na_Mesh_other, (Nat.lt_of_lt_of_le (put_lt (put_lt (Nat.zero_lt_one))) (by decide)), ?_⟩
    refine ⟨_, rfl, _, rfl, p, _, dx, _, rfl, upd_same, T.cl_Mesh, T.na_Mesh_arm, (Nat.lt_of_lt_of_le (put_lt (put_lt (put_lt (Nat.zero_lt_one)))) (by decide)), ?_⟩
    have e := put_Mesh (x0 := .ref wp) (x1 := x1) (x2 := x2) (x3 := x3)
    show Q .non (upd (upd (upd (upd H p (.ins _ dx (putF "way" (V.ref wp) []))) p (.ins _ dx (putF "one" x1 (putF "way" (V.ref wp) [])))) p (.ins _ dx (putF "other" x2 (putF "one" x1 (putF "way" (V.ref wp) []))))) p (.ins _ dx (putF "arm" x3 (putF "other" x2 (putF "one" x1 (putF "way" (V.ref wp) []))))))
    rw [upd_upd, upd_upd, upd_upd, e]
    exact k
theorem mak_Mesh_4 (T : Tx K mg) : Mak P w K mg base 1 "Mesh" (He.ga K "Mesh") (spRow K "Mesh" ["way", "one", "other", "arm"]) [] := by
  obtain ⟨fd, F⟩ := T.f_Mesh_init
  obtain ⟨ds, v, b⟩ := bi_Mesh_init_5 F
  exact ⟨_, fd, _, ds, T.mk_Mesh, ok_Mesh_init F T, T.g_Mesh, b, v⟩
theorem put_Ring {x0 x1 x2 x3 : V} : putF "arm" x3 (putF "other" x2 (putF "one" x1 (putF "way" x0 []))) = ([("way", x0), ("one", x1), ("other", x2), ("arm", x3)] : List (Str × V)) := by
  have h01 : ¬ (("way" : Str) = "one") := by decide +kernel
  have h02 : ¬ (("way" : Str) = "other") := by decide +kernel
  have h12 : ¬ (("one" : Str) = "other") := by decide +kernel
  have h03 : ¬ (("way" : Str) = "arm") := by decide +kernel
  have h13 : ¬ (("one" : Str) = "arm") := by decide +kernel
  have h23 : ¬ (("other" : Str) = "arm") := by decide +kernel
  simp only [put_nil, put_ne h01, put_ne h02, put_ne h12, put_ne h03, put_ne h13, put_ne h23]
theorem lk_Ring_way {x0 x1 x2 x3 : V} : ([("way", x0), ("one", x1), ("other", x2), ("arm", x3)] : List (Str × V)).lookup ("way" : Str) = some x0 := by
  exact look1
theorem lk_Ring_one {x0 x1 x2 x3 : V} : ([("way", x0), ("one", x1), ("other", x2), ("arm", x3)] : List (Str × V)).lookup ("one" : Str) = some x1 := by
  rw [lookC (by decide +kernel)]; exact look1
theorem lk_Ring_other {x0 x1 x2 x3 : V} : ([("way", x0), ("one", x1), ("other", x2), ("arm", x3)] : List (Str × V)).lookup ("other" : Str) = some x2 := by
  rw [lookC (by decide +kernel), lookC (by decide +kernel)]; exact look1
theorem lk_Ring_arm {x0 x1 x2 x3 : V} : ([("way", x0), ("one", x1), ("other", x2), ("arm", x3)] : List (Str × V)).lookup ("arm" : Str) = some x3 := by
  rw [lookC (by decide +kernel), lookC (by decide +kernel), lookC (by decide +kernel)]; exact look1
theorem sc_Ring_init : FnScope ["self", "way", "one", "other", "arm"] ["self", "way", "one", "other", "arm"] (defScope sRing_init) := C8.fnScope_by (by decide +kernel)
theorem ok_Ring_init (F : FRing_init K fd) (T : Tx K mg) : FnOk P w K mg base C8.CX0 1 (He.ma K (He.ga K "Ring") "__init__") fd ["self", "way", "one", "other", "arm"] (spRow K "Ring" ["way", "one", "other", "arm"]) := by
  refine FunD.ok F sc_Ring_init (fun vs H Q E h => ?_) (fun cdv A outer s H vs Q E hr h => ?_)
  · obtain ⟨_, _, _, _, args, rfl, hl, _⟩ := h
    simp at hl ⊢
    exact hl
  · obtain ⟨p, dx, wp, ws, args, rfl, hl, hw, hp, k⟩ := h
    obtain ⟨x1, x2, x3, rfl⟩ : ∃ x1 x2 x3, args = [x1, x2, x3] := match args, hl with | [x1, x2, x3], _ => ⟨_, _, _, rfl⟩
    refine ⟨_, PSs.nox (pss_cons (ps_fld (pv 0) (pe_callTy call_tuple_of (by rfl) T.b_tuple (by decide +kernel) (pa_cons (pv 1) pa_nil)) rfl) (pss_cons (ps_fld (pv 0) (pv 2) rfl) (pss_cons (ps_fld (pv 0) (pv 3) rfl) (pss_one (ps_fld (pv 0) (pv 4) rfl))))), ?_⟩
    refine ⟨_, rfl, wp, _, rfl, .inr ⟨hw, _, rfl, p, _, dx, _, rfl, hp, T.cl_Ring, T.na_Ring_way, (Nat.lt_of_lt_of_le (Nat.zero_lt_one) (by decide)), ?_⟩⟩
    refine ⟨_, rfl, _, rfl, p, _, dx, _, rfl, upd_same, T.cl_Ring, T.na_Ring_one, (Nat.lt_of_lt_of_le (put_lt (Nat.zero_lt_one)) (by decide)), ?_⟩
    refine ⟨_, rfl, _, rfl, p, _, dx, _, rfl, upd_same, T.cl_Ring, T.na_Ring_other, (Nat.lt_of_lt_of_le (put_lt (put_lt (Nat.zero_lt_one))) (by decide)), ?_⟩
    refine ⟨_, rfl, _, rfl, p, _, dx, _, rfl, upd_same, T.cl_Ring, T.na_Ring_arm, (Nat.lt_of_lt_of_le (put_lt (put_lt (put_lt (Nat.zero_lt_one)))) (by decide)), ?_⟩
    have e := put_Ring (x0 := .ref wp) (x1 := x1) (x2 := x2) (x3 := x3)
    show Q .non (upd (upd (upd (upd H p (.ins _ dx (putF "way" (V.ref wp) []))) p (.ins _ dx (putF "one" x1 (putF "way" (V.ref wp) [])))) p (.ins _ dx (putF "other" x2 (putF "one" x1 (putF "way" (V.ref wp) []))))) p (.ins _ dx (putF "arm" x3 (putF "other" x2 (putF "one" x1 (putF "way" (V.ref wp) []))))))
    rw [upd_upd, upd_upd, upd_upd, e]
    exact k
theorem mak_Ring_4 (T : Tx K mg) : Mak P w K mg base 1 "Ring" (He.ga K "Ring") (spRow K "Ring" ["way", "one", "other", "arm"]) [] := by
  obtain ⟨fd, F⟩ := T.f_Ring_init
  obtain ⟨ds, v, b⟩ := bi_Ring_init_5 F
  exact ⟨_, fd, _, ds, T.mk_Ring, ok_Ring_init F T, T.g_Ring, b, v⟩
theorem put_Drive {x0 x1 x2 : V} : putF "ratio" x2 (putF "arbor" x1 (putF "way" x0 [])) = ([("way", x0), ("arbor", x1), ("ratio", x2)] : List (Str × V)) := by
  have h01 : ¬ (("way" : Str) = "arbor") := by decide +kernel
  have h02 : ¬ (("way" : Str) = "ratio") := by decide +kernel
  have h12 : ¬ (("arbor" : Str) = "ratio") := by decide +kernel
  simp only [put_nil, put_ne h01, put_ne h02, put_ne h12]
theorem lk_Drive_way {x0 x1 x2 : V} : ([("way", x0), ("arbor", x1), ("ratio", x2)] : List (Str × V)).lookup ("way" : Str) = some x0 := by
  exact look1
theorem lk_Drive_arbor {x0 x1 x2 : V} : ([("way", x0), ("arbor", x1), ("ratio", x2)] : List (Str × V)).lookup ("arbor" : Str) = some x1 := by
  rw [lookC (by decide +kernel)]; exact look1
theorem lk_Drive_ratio {x0 x1 x2 : V} : ([("way", x0), ("arbor", x1), ("ratio", x2)] : List (Str × V)).lookup ("ratio" : Str) = some x2 := by
  rw [lookC (by decide +kernel), lookC (by decide +kernel)]; exact look1
theorem sc_Drive_init : FnScope ["self", "way", "arbor", "ratio"] ["self", "way", "arbor", "ratio"] (defScope sDrive_init) := C8.fnScope_by (by decide +kernel)
theorem ok_Drive_init (F : FDrive_init K fd) (T : Tx K mg) : FnOk P w K mg base C8.CX0 1 (He.ma K (He.ga K "Drive") "__init__") fd ["self", "way", "arbor", "ratio"] (spRow K "Drive" ["way", "arbor", "ratio"]) := by
  refine FunD.ok F sc_Drive_init (fun vs H Q E h => ?_) (fun cdv A outer s H vs Q E hr h => ?_)
  · obtain ⟨_, _, _, _, args, rfl, hl, _⟩ := h
    simp at hl ⊢
    exact hl
  · obtain ⟨p, dx, wp, ws, args, rfl, hl, hw, hp, k⟩ := h
    obtain ⟨x1, x2, rfl⟩ : ∃ x1 x2, args = [x1, x2] := match args, hl with | [x1, x2], _ => ⟨_, _, rfl⟩
    refine ⟨_, PSs.nox (pss_cons (ps_fld (pv 0) (pe_callTy call_tuple_of (by rfl) T.b_tuple (by decide +kernel) (pa_cons (pv 1) pa_nil)) rfl) (pss_cons (ps_fld (pv 0) (pv 2) rfl) (pss_one (ps_fld (pv 0) (pv 3) rfl)))), ?_⟩
    refine ⟨_, rfl, wp, _, rfl, .inr ⟨hw, _, rfl, p, _, dx, _, rfl, hp, T.cl_Drive, T.na_Drive_way, (Nat.lt_of_lt_of_le (Nat.zero_lt_one) (by decide)), ?_⟩⟩
    refine ⟨_, rfl, _, rfl, p, _, dx, _, rfl, upd_same, T.cl_Drive, T.na_Drive_arbor, (Nat.lt_of_lt_of_le (put_lt (Nat.zero_lt_one)) (by decide)), ?_⟩
    refine ⟨_, rfl, _, rfl, p, _, dx, _, rfl, upd_same, T.cl_Drive, T.na_Drive_ratio, (Nat.lt_of_lt_of_le (put_lt (put_lt (Nat.zero_lt_one))) (by decide)), ?_⟩
    have e := put_Drive (x0 := .ref wp) (x1 := x1) (x2 := x2)
    show Q .non (upd (upd (upd H p (.ins _ dx (putF "way" (V.ref wp) []))) p (.ins _ dx (putF "arbor" x1 (putF "way" (V.ref wp) [])))) p (.ins _ dx (putF "ratio" x2 (putF "arbor" x1 (putF "way" (V.ref wp) [])))))
    rw [upd_upd, upd_upd, e]
    exact k
theorem mak_Drive_3 (T : Tx K mg) : Mak P w K mg base 1 "Drive" (He.ga K "Drive") (spRow K "Drive" ["way", "arbor", "ratio"]) [] := by
  obtain ⟨fd, F⟩ := T.f_Drive_init
  exact ⟨_, fd, _, _, T.mk_Drive, ok_Drive_init F T, T.g_Drive, bi_Drive_init F, .nil⟩
theorem put_Still {x0 x1 : V} : putF "arbor" x1 (putF "way" x0 []) = ([("way", x0), ("arbor", x1)] : List (Str × V)) := by
  have h01 : ¬ (("way" : Str) = "arbor") := by decide +kernel
  simp only [put_nil, put_ne h01]
theorem lk_Still_way {x0 x1 : V} : ([("way", x0), ("arbor", x1)] : List (Str × V)).lookup ("way" : Str) = some x0 := by
  exact look1
theorem lk_Still_arbor {x0 x1 : V} : ([("way", x0), ("arbor", x1)] : List (Str × V)).lookup ("arbor" : Str) = some x1 := by
  rw [lookC (by decide +kernel)]; exact look1
theorem sc_Still_init : FnScope ["self", "way", "arbor"] ["self", "way", "arbor"] (defScope sStill_init) := C8.fnScope_by (by decide +kernel)
theorem ok_Still_init (F : FStill_init K fd) (T : Tx K mg) : FnOk P w K mg base C8.CX0 1 (He.ma K (He.ga K "Still") "__init__") fd ["self", "way", "arbor"] (spRow K "Still" ["way", "arbor"]) := by
  refine FunD.ok F sc_Still_init (fun vs H Q E h => ?_) (fun cdv A outer s H vs Q E hr h => ?_)
  · obtain ⟨_, _, _, _, args, rfl, hl, _⟩ := h
    simp at hl ⊢
    exact hl
  · obtain ⟨p, dx, wp, ws, args, rfl, hl, hw, hp, k⟩ := h
    obtain ⟨x1, rfl⟩ : ∃ x1, args = [x1] := match args, hl with | [x1], _ => ⟨_, rfl⟩
    refine ⟨_, PSs.nox (pss_cons (ps_fld (pv 0) (pe_callTy call_tuple_of (by rfl) T.b_tuple (by decide +kernel) (pa_cons (pv 1) pa_nil)) rfl) (pss_one (ps_fld (pv 0) (pv 2) rfl))), ?_⟩
    refine ⟨_, rfl, wp, _, rfl, .inr ⟨hw, _, rfl, p, _, dx, _, rfl, hp, T.cl_Still, T.na_Still_way, (Nat.lt_of_lt_of_le (Nat.zero_lt_one) (by decide)), ?_⟩⟩
    refine ⟨_, rfl, _, rfl, p, _, dx, _, rfl, upd_same, T.cl_Still, T.na_Still_arbor, (Nat.lt_of_lt_of_le (put_lt (Nat.zero_lt_one)) (by decide)), ?_⟩
    have e := put_Still (x0 := .ref wp) (x1 := x1)
    show Q .non (upd (upd H p (.ins _ dx (putF "way" (V.ref wp) []))) p (.ins _ dx (putF "arbor" x1 (putF "way" (V.ref wp) []))))
    rw [upd_upd, e]
    exact k
theorem mak_Still_2 (T : Tx K mg) : Mak P w K mg base 1 "Still" (He.ga K "Still") (spRow K "Still" ["way", "arbor"]) [] := by
  obtain ⟨fd, F⟩ := T.f_Still_init
  exact ⟨_, fd, _, _, T.mk_Still, ok_Still_init F T, T.g_Still, bi_Still_init F, .nil⟩
theorem put_Hand {x0 x1 x2 x3 x4 : V} : putF "begin" x4 (putF "marks" x3 (putF "arbor" x2 (putF "name" x1 (putF "way" x0 [])))) = ([("way", x0), ("name", x1), ("arbor", x2), ("marks", x3), ("begin", x4)] : List (Str × V)) := by
  have h01 : ¬ (("way" : Str) = "name") := by decide +kernel
  have h02 : ¬ (("way" : Str) = "arbor") := by decide +kernel
  have h12 : ¬ (("name" : Str) = "arbor") := by decide +kernel
  have h03 : ¬ (("way" : Str) = "marks") := by decide +kernel
  have h13 : ¬ (("name" : Str) = "marks") := by decide +kernel
  have h23 : ¬ (("arbor" : Str) = "marks") := by decide +kernel
  have h04 : ¬ (("way" : Str) = "begin") := by decide +kernel
  have h14 : ¬ (("name" : Str) = "begin") := by decide +kernel
  have h24 : ¬ (("arbor" : Str) = "begin") := by decide +kernel
  have h34 : ¬ (("marks" : Str) = "begin") := by decide +kernel
  simp only [put_nil, put_ne h01, put_ne h02, put_ne h12, put_ne h03, put_ne h13, put_ne h23, put_ne h04, put_ne h14, put_ne h24, put_ne h34]
theorem lk_Hand_way {x0 x1 x2 x3 x4 : V} : ([("way", x0), ("name", x1), ("arbor", x2), ("marks", x3), ("begin", x4)] : List (Str × V)).lookup ("way" : Str) = some x0 := by
  exact look1
theorem lk_Hand_name {x0 x1 x2 x3 x4 : V} : ([("way", x0), ("name", x1), ("arbor", x2), ("marks", x3), ("begin", x4)] : List (Str × V)).lookup ("name" : Str) = some x1 := by
  rw [lookC (by decide +kernel)]; exact look1
theorem lk_Hand_arbor {x0 x1 x2 x3 x4 : V} : ([("way", x0), ("name", x1), ("arbor", x2), ("marks", x3), ("begin", x4)] : List (Str × V)).lookup ("arbor" : Str) = some x2 := by
  rw [lookC (by decide +kernel), lookC (by decide +kernel)]; exact look1
theorem lk_Hand_marks {x0 x1 x2 x3 x4 : V} : ([("way", x0), ("name", x1), ("arbor", x2), ("marks", x3), ("begin", x4)] : List (Str × V)).lookup ("marks" : Str) = some x3 := by
  rw [lookC (by decide +kernel), lookC (by decide +kernel), lookC (by decide +kernel)]; exact look1
theorem lk_Hand_begin {x0 x1 x2 x3 x4 : V} : ([("way", x0), ("name", x1), ("arbor", x2), ("marks", x3), ("begin", x4)] : List (Str × V)).lookup ("begin" : Str) = some x4 := by
  rw [lookC (by decide +kernel), lookC (by decide +kernel), lookC (by decide +kernel), lookC (by decide +kernel)]; exact look1
theorem sc_Hand_init : FnScope ["self", "way", "name", "arbor", "marks", "begin"] ["self", "way", "name", "arbor", "marks", "begin"] (defScope sHand_init) := C8.fnScope_by (by decide +kernel)
theorem ok_Hand_init (F : FHand_init K fd) (T : Tx K mg) : FnOk P w K mg base C8.CX0 1 (He.ma K (He.ga K "Hand") "__init__") fd ["self", "way", "name", "arbor", "marks", "begin"] (spRow K "Hand" ["way", "name", "arbor", "marks", "begin"]) := by
  refine FunD.ok F sc_Hand_init (fun vs H Q E h => ?_) (fun cdv A outer s H vs Q E hr h => ?_)
  · obtain ⟨_, _, _, _, args, rfl, hl, _⟩ := h
    simp at hl ⊢
    exact hl
  · obtain ⟨p, dx, wp, ws, args, rfl, hl, hw, hp, k⟩ := h
    obtain ⟨x1, x2, x3, x4, rfl⟩ : ∃ x1 x2 x3 x4, args = [x1, x2, x3, x4] := match args, hl with | [x1, x2, x3, x4], _ => ⟨_, _, _, _, rfl⟩
    refine ⟨_, PSs.nox (pss_cons (ps_fld (pv 0) (pe_callTy call_tuple_of (by rfl) T.b_tuple (by decide +kernel) (pa_cons (pv 1) pa_nil)) rfl) (pss_cons (ps_fld (pv 0) (pv 2) rfl) (pss_cons (ps_fld (pv 0) (pv 3) rfl) (pss_cons (ps_fld (pv 0) (pv 4) rfl) (pss_one (ps_fld (pv 0) (pv 5) rfl)))))), ?_⟩
    refine ⟨_, rfl, wp, _, rfl, .inr ⟨hw, _, rfl, p, _, dx, _, rfl, hp, T.cl_Hand, T.na_Hand_way, (Nat.lt_of_lt_of_le (Nat.zero_lt_one) (by decide)), ?_⟩⟩
    refine ⟨_, rfl, _, rfl, p, _, dx, _, rfl, upd_same, T.cl_Hand, T.na_Hand_name, (Nat.lt_of_lt_of_le (put_lt (Nat.zero_lt_one)) (by decide)), ?_⟩
    refine ⟨_, rfl, _, rfl, p, _, dx, _, rfl, upd_same, T.cl_Hand, T.na_Hand_arbor, (Nat.lt_of_lt_of_le (put_lt (put_lt (Nat.zero_lt_one))) (by decide)), ?_⟩
    refine ⟨_, rfl, _, rfl, p, _, dx, _, rfl, upd_same, T.cl_Hand, T.na_Hand_marks, (Nat.lt_of_lt_of_le (put_lt (put_lt (put_lt (Nat.zero_lt_one)))) (by decide)), ?_⟩
    refine ⟨_, rfl, _, rfl, p, _, dx, _, rfl, upd_same, T.cl_Hand, T.na_Hand_begin, (Nat.lt_of_lt_of_le (put_lt (put_lt (put_lt (put_lt (Nat.zero_lt_one))))) (by decide)), ?_⟩
    have e := put_Hand (x0 := .ref wp) (x1 := x1) (x2 := x2) (x3 := x3) (x4 := x4)
    show Q .non (upd (upd (upd (upd (upd H p (.ins _ dx (putF "way" (V.ref wp) []))) p (.ins _ dx (putF "name" x1 (putF "way" (V.ref wp) [])))) p (.ins _ dx (putF "arbor" x2 (putF "name" x1 (putF "way" (V.ref wp) []))))) p (.ins _ dx (putF "marks" x3 (putF "arbor" x2 (putF "name" x1 (putF "way" (V.ref wp) [])))))) p (.ins _ dx (putF "begin" x4 (putF "marks" x3 (putF "arbor" x2 (putF "name" x1 (putF "way" (V.ref wp) [])))))))
    rw [upd_upd, upd_upd, upd_upd, upd_upd, e]
    exact k
theorem mak_Hand_5 (T : Tx K mg) : Mak P w K mg base 1 "Hand" (He.ga K "Hand") (spRow K "Hand" ["way", "name", "arbor", "marks", "begin"]) [] := by
  obtain ⟨fd, F⟩ := T.f_Hand_init
  obtain ⟨ds, v, b⟩ := bi_Hand_init_6 F
  exact ⟨_, fd, _, ds, T.mk_Hand, ok_Hand_init F T, T.g_Hand, b, v⟩
theorem mak_Hand_4 (T : Tx K mg) : Mak P w K mg base 1 "Hand" (He.ga K "Hand") (spRow K "Hand" ["way", "name", "arbor", "marks", "begin"]) [V.non] := by
  obtain ⟨fd, F⟩ := T.f_Hand_init
  obtain ⟨ds, v, b⟩ := bi_Hand_init_5 F
  exact ⟨_, fd, _, ds, T.mk_Hand, ok_Hand_init F T, T.g_Hand, b, v⟩
theorem put_Count {x0 x1 x2 x3 x4 : V} : putF "begin" x4 (putF "teeth" x3 (putF "arbor" x2 (putF "name" x1 (putF "way" x0 [])))) = ([("way", x0), ("name", x1), ("arbor", x2), ("teeth", x3), ("begin", x4)] : List (Str × V)) := by
  have h01 : ¬ (("way" : Str) = "name") := by decide +kernel
  have h02 : ¬ (("way" : Str) = "arbor") := by decide +kernel
  have h12 : ¬ (("name" : Str) = "arbor") := by decide +kernel
  have h03 : ¬ (("way" : Str) = "teeth") := by decide +kernel
  have h13 : ¬ (("name" : Str) = "teeth") := by decide +kernel
  have h23 : ¬ (("arbor" : Str) = "teeth") := by decide +kernel
  have h04 : ¬ (("way" : Str) = "begin") := by decide +kernel
  have h14 : ¬ (("name" : Str) = "begin") := by decide +kernel
  have h24 : ¬ (("arbor" : Str) = "begin") := by decide +kernel
  have h34 : ¬ (("teeth" : Str) = "begin") := by decide +kernel
  simp only [put_nil, put_ne h01, put_ne h02, put_ne h12, put_ne h03, put_ne h13, put_ne h23, put_ne h04, put_ne h14, put_ne h24, put_ne h34]
theorem lk_Count_way {x0 x1 x2 x3 x4 : V} : ([("way", x0), ("name", x1), ("arbor", x2), ("teeth", x3), ("begin", x4)] : List (Str × V)).lookup ("way" : Str) = some x0 := by
  exact look1
theorem lk_Count_name {x0 x1 x2 x3 x4 : V} : ([("way", x0), ("name", x1), ("arbor", x2), ("teeth", x3), ("begin", x4)] : List (Str × V)).lookup ("name" : Str) = some x1 := by
  rw [lookC (by decide +kernel)]; exact look1
theorem lk_Count_arbor {x0 x1 x2 x3 x4 : V} : ([("way", x0), ("name", x1), ("arbor", x2), ("teeth", x3), ("begin", x4)] : List (Str × V)).lookup ("arbor" : Str) = some x2 := by
  rw [lookC (by decide +kernel), lookC (by decide +kernel)]; exact look1
theorem lk_Count_teeth {x0 x1 x2 x3 x4 : V} : ([("way", x0), ("name", x1), ("arbor", x2), ("teeth", x3), ("begin", x4)] : List (Str × V)).lookup ("teeth" : Str) = some x3 := by
  rw [lookC (by decide +kernel), lookC (by decide +kernel), lookC (by decide +kernel)]; exact look1
theorem lk_Count_begin {x0 x1 x2 x3 x4 : V} : ([("way", x0), ("name", x1), ("arbor", x2), ("teeth", x3), ("begin", x4)] : List (Str × V)).lookup ("begin" : Str) = some x4 := by
  rw [lookC (by decide +kernel), lookC (by decide +kernel), lookC (by decide +kernel), lookC (by decide +kernel)]; exact look1
theorem sc_Count_init : FnScope ["self", "way", "name", "arbor", "teeth", "begin"] ["self", "way", "name", "arbor", "teeth", "begin"] (defScope sCount_init) := C8.fnScope_by (by decide +kernel)
theorem ok_Count_init (F : FCount_init K fd) (T : Tx K mg) : FnOk P w K mg base C8.CX0 1 (He.ma K (He.ga K "Count") "__init__") fd ["self", "way", "name", "arbor", "teeth", "begin"] (spRow K "Count" ["way", "name", "arbor", "teeth", "begin"]) := by
  refine FunD.ok F sc_Count_init (fun vs H Q E h => ?_) (fun cdv A outer s H vs Q E hr h => ?_)
  · obtain ⟨_, _, _, _, args, rfl, hl, _⟩ := h
    simp at hl ⊢
    exact hl
  · obtain ⟨p, dx, wp, ws, args, rfl, hl, hw, hp, k⟩ := h
    obtain ⟨x1, x2, x3, x4, rfl⟩ : ∃ x1 x2 x3 x4, args = [x1, x2, x3, x4] := match args, hl with | [x1, x2, x3, x4], _ => ⟨_, _, _, _, rfl⟩
    refine ⟨_, PSs.nox (pss_cons (ps_fld (pv 0) (pe_callTy call_tuple_of (by rfl) T.b_tuple (by decide +kernel) (pa_cons (pv 1) pa_nil)) rfl) (pss_cons (ps_fld (pv 0) (pv 2) rfl) (pss_cons (ps_fld (pv 0) (pv 3) rfl) (pss_cons (ps_fld (pv 0) (pv 4) rfl) (pss_one (ps_fld (pv 0) (pv 5) rfl)))))), ?_⟩
    refine ⟨_, rfl, wp, _, rfl, .inr ⟨hw, _, rfl, p, _, dx, _, rfl, hp, T.cl_Count, T.na_Count_way, (Nat.lt_of_lt_of_le (Nat.zero_lt_one) (by decide)), ?_⟩⟩
    refine ⟨_, rfl, _, rfl, p, _, dx, _, rfl, upd_same, T.cl_Count, T.na_Count_name, (Nat.lt_of_lt_of_le (put_lt (Nat.zero_lt_one)) (by decide)), ?_⟩
    refine ⟨_, rfl, _, rfl, p, _, dx, _, rfl, upd_same, T.cl_Count, T.na_Count_arbor, (Nat.lt_of_lt_of_le (put_lt (put_lt (Nat.zero_lt_one))) (by decide)), ?_⟩
    refine ⟨_, rfl, _, rfl, p, _, dx, _, rfl, upd_same, T.cl_Count, T.na_Count_teeth, (Nat.lt_of_lt_of_le (put_lt (put_lt (put_lt (Nat.zero_lt_one)))) (by decide)), ?_⟩
    refine ⟨_, rfl, _, rfl, p, _, dx, _, rfl, upd_same, T.cl_Count, T.na_Count_begin, (Nat.lt_of_lt_of_le (put_lt (put_lt (put_lt (put_lt (Nat.zero_lt_one))))) (by decide)), ?_⟩
    have e := put_Count (x0 := .ref wp) (x1 := x1) (x2 := x2) (x3 := x3) (x4 := x4)
    show Q .non (upd (upd (upd (upd (upd H p (.ins _ dx (putF "way" (V.ref wp) []))) p (.ins _ dx (putF "name" x1 (putF "way" (V.ref wp) [])))) p (.ins _ dx (putF "arbor" x2 (putF "name" x1 (putF "way" (V.ref wp) []))))) p (.ins _ dx (putF "teeth" x3 (putF "arbor" x2 (putF "name" x1 (putF "way" (V.ref wp) [])))))) p (.ins _ dx (putF "begin" x4 (putF "teeth" x3 (putF "arbor" x2 (putF "name" x1 (putF "way" (V.ref wp) [])))))))
    rw [upd_upd, upd_upd, upd_upd, upd_upd, e]
    exact k
theorem mak_Count_5 (T : Tx K mg) : Mak P w K mg base 1 "Count" (He.ga K "Count") (spRow K "Count" ["way", "name", "arbor", "teeth", "begin"]) [] := by
  obtain ⟨fd, F⟩ := T.f_Count_init
  obtain ⟨ds, v, b⟩ := bi_Count_init_6 F
  exact ⟨_, fd, _, ds, T.mk_Count, ok_Count_init F T, T.g_Count, b, v⟩
theorem put_Bell {x0 x1 x2 x3 : V} : putF "strokes" x3 (putF "counter" x2 (putF "name" x1 (putF "way" x0 []))) = ([("way", x0), ("name", x1), ("counter", x2), ("strokes", x3)] : List (Str × V)) := by
  have h01 : ¬ (("way" : Str) = "name") := by decide +kernel
  have h02 : ¬ (("way" : Str) = "counter") := by decide +kernel
  have h12 : ¬ (("name" : Str) = "counter") := by decide +kernel
  have h03 : ¬ (("way" : Str) = "strokes") := by decide +kernel
  have h13 : ¬ (("name" : Str) = "strokes") := by decide +kernel
  have h23 : ¬ (("counter" : Str) = "strokes") := by decide +kernel
  simp only [put_nil, put_ne h01, put_ne h02, put_ne h12, put_ne h03, put_ne h13, put_ne h23]
theorem lk_Bell_way {x0 x1 x2 x3 : V} : ([("way", x0), ("name", x1), ("counter", x2), ("strokes", x3)] : List (Str × V)).lookup ("way" : Str) = some x0 := by
  exact look1
theorem lk_Bell_name {x0 x1 x2 x3 : V} : ([("way", x0), ("name", x1), ("counter", x2), ("strokes", x3)] : List (Str × V)).lookup ("name" : Str) = some x1 := by
  rw [lookC (by decide +kernel)]; exact look1
theorem lk_Bell_counter {x0 x1 x2 x3 : V} : ([("way", x0), ("name", x1), ("counter", x2), ("strokes", x3)] : List (Str × V)).lookup ("counter" : Str) = some x2 := by
  rw [lookC (by decide +kernel), lookC (by decide +kernel)]; exact look1
theorem lk_Bell_strokes {x0 x1 x2 x3 : V} : ([("way", x0), ("name", x1), ("counter", x2), ("strokes", x3)] : List (Str × V)).lookup ("strokes" : Str) = some x3 := by
  rw [lookC (by decide +kernel), lookC (by decide +kernel), lookC (by decide +kernel)]; exact look1
theorem sc_Bell_init : FnScope ["self", "way", "name", "counter", "strokes"] ["self", "way", "name", "counter", "strokes"] (defScope sBell_init) := C8.fnScope_by (by decide +kernel)
def spBell (K : PySem.W.Frag) : Sp := fun vs H Q _ => ∃ (p dx wp tp : Addr) (ws ts : List V) (x1 x2 : V), vs = [.ref p, .ref wp, x1, x2, .ref tp] ∧ SqT K H wp ws ∧ SqT K H tp ts ∧ H p = some (.ins (He.ga K "Bell") dx []) ∧ Q .non (upd H p (.ins (He.ga K "Bell") dx [("way", .ref wp), ("name", x1), ("counter", x2), ("strokes", .ref tp)]))
theorem ok_Bell_init (F : FBell_init K fd) (T : Tx K mg) : FnOk P w K mg base C8.CX0 1 (He.ma K (He.ga K "Bell") "__init__") fd ["self", "way", "name", "counter", "strokes"] (spBell K) := by
  refine FunD.ok F sc_Bell_init (fun vs H Q E h => ?_) (fun cdv A outer s H vs Q E hr h => ?_)
  · obtain ⟨_, _, _, _, _, _, _, _, rfl, _⟩ := h
    rfl
  · obtain ⟨p, dx, wp, tp, ws, ts, x1, x2, rfl, hw, ht, hp, k⟩ := h
    refine ⟨_, PSs.nox (pss_cons (ps_fld (pv 0) (pe_callTy call_tuple_of (by rfl) T.b_tuple (by decide +kernel) (pa_cons (pv 1) pa_nil)) rfl) (pss_cons (ps_fld (pv 0) (pv 2) rfl) (pss_cons (ps_fld (pv 0) (pv 3) rfl) (pss_one (ps_fld (pv 0) (pe_callTy call_tuple_of (by rfl) T.b_tuple (by decide +kernel) (pa_cons (pv 4) pa_nil)) rfl))))), ?_⟩
    refine ⟨_, rfl, wp, _, rfl, .inr ⟨hw, _, rfl, p, _, dx, _, rfl, hp, T.cl_Bell, T.na_Bell_way, (Nat.lt_of_lt_of_le (Nat.zero_lt_one) (by decide)), ?_⟩⟩
    refine ⟨_, rfl, _, rfl, p, _, dx, _, rfl, upd_same, T.cl_Bell, T.na_Bell_name, (Nat.lt_of_lt_of_le (put_lt (Nat.zero_lt_one)) (by decide)), ?_⟩
    refine ⟨_, rfl, _, rfl, p, _, dx, _, rfl, upd_same, T.cl_Bell, T.na_Bell_counter, (Nat.lt_of_lt_of_le (put_lt (put_lt (Nat.zero_lt_one))) (by decide)), ?_⟩
    have HT := seq_upd (C' := He.ga K "Bell") (dx' := dx) (fs' := (putF "counter" x2 (putF "name" x1 (putF "way" (V.ref wp) [])))) upd_same (seq_upd (C' := He.ga K "Bell") (dx' := dx) (fs' := (putF "name" x1 (putF "way" (V.ref wp) []))) upd_same (seq_upd (C' := He.ga K "Bell") (dx' := dx) (fs' := (putF "way" (V.ref wp) [])) hp ht))
    refine ⟨_, rfl, tp, _, rfl, .inr ⟨HT, _, rfl, p, _, dx, _, rfl, upd_same, T.cl_Bell, T.na_Bell_strokes, (Nat.lt_of_lt_of_le (put_lt (put_lt (put_lt (Nat.zero_lt_one)))) (by decide)), ?_⟩⟩
    have e := put_Bell (x0 := .ref wp) (x1 := x1) (x2 := x2) (x3 := .ref tp)
    show Q .non (upd (upd (upd (upd H p (.ins _ dx (putF "way" (V.ref wp) []))) p (.ins _ dx (putF "name" x1 (putF "way" (V.ref wp) [])))) p (.ins _ dx (putF "counter" x2 (putF "name" x1 (putF "way" (V.ref wp) []))))) p (.ins _ dx (putF "strokes" (V.ref tp) (putF "counter" x2 (putF "name" x1 (putF "way" (V.ref wp) []))))))
    rw [upd_upd, upd_upd, upd_upd, e]
    exact k
theorem mak_Bell_4 (T : Tx K mg) : Mak P w K mg base 1 "Bell" (He.ga K "Bell") (spBell K) [] := by
  obtain ⟨fd, F⟩ := T.f_Bell_init
  exact ⟨_, fd, _, _, T.mk_Bell, ok_Bell_init F T, T.g_Bell, bi_Bell_init F, .nil⟩
end
end Ty
set_option Elab.async false
set_option linter.all false
set_option maxRecDepth 100000
set_option maxHeartbeats 4000000
/-! Dicts by names; the class Asked. -/
namespace Ty
open PySem PySem.Spec PyProof.Rows L2 C8
/-! ### what is changed -/
/-- all that was tracked but S is as it was -/
def Chg (S : List Addr) (H H' : Hp) : Prop := ∀ b o, H b = some o → b ∉ S → H' b = some o
theorem Chg.refl (S : List Addr) (H : Hp) : Chg S H H := fun _ _ h _ => h
theorem Same.chg {S : List Addr} {H H' : Hp} (s : Same H H') : Chg S H H' := fun b o h _ => s b o h
theorem Chg.same {H H' : Hp} (s : Chg [] H H') : Same H H' := fun b o h => s b o h (by simp)
theorem Chg.trans {S : List Addr} {H H1 H2 : Hp} (a : Chg S H H1) (b : Chg S H1 H2) : Chg S H H2 := fun c o h n => b c o (a c o h n) n
theorem Chg.mono {S S' : List Addr} {H H1 : Hp} (a : Chg S H H1) (h : ∀ x ∈ S, x ∈ S') : Chg S' H H1 := fun c o e n => a c o e fun z => n (h c z)
theorem chg_upd {S : List Addr} {H : Hp} {d : Addr} {o : HO} (h : d ∈ S) : Chg S H (upd H d o) := fun b u e n => by
  rw [upd_ne (fun z => n (by rw [z]; exact h))]
  exact e
theorem same_upd {H : Hp} {p : Addr} {o : HO} (h : H p = none) : Same H (upd H p o) := fun b u e => by
  rw [upd_ne (ne_of_none e h)]
  exact e
/-- what was new at H0 may be written: all that stood at H0 stands -/
theorem Same.upd {H0 H : Hp} {p : Addr} {o : HO} (s : Same H0 H) (h : H0 p = none) : Same H0 (upd H p o) := fun b u e => by
  rw [upd_ne (ne_of_none e h)]
  exact s b u e
theorem Same.chgS {S : List Addr} {H0 H H' : Hp} (s : Same H0 H) (c : Chg S H H') (h : ∀ x ∈ S, H0 x = none) : Same H0 H' := fun b o e => c b o (s b o e) fun z => by
  rw [h b z] at e
  cases e
/-! ### dicts whose keys are texts -/
section
variable {β : Type} {R R' : V → β → Prop} {kvs : List (Key × V)} {l : List (Str × β)} {n : Str} {v : V} {x : β}
abbrev DF (R : V → β → Prop) (kv : Key × V) (t : Str × β) : Prop := kv.1 = .inr t.1 ∧ R kv.2 t.2
abbrev DP (R : V → β → Prop) : List (Key × V) → List (Str × β) → Prop := Paired (DF R)
theorem inr_eq {k : Key} {m n : Str} (h : k = .inr m) : (k = .inr n) ↔ (m = n) := by
  rw [h]
  exact ⟨fun z => Sum.inr.inj z, fun z => by rw [z]⟩
theorem DP.len (h : DP R kvs l) : kvs.length = l.length := Paired.length h
theorem DP.mono (h : DP R kvs l) (f : ∀ v x, R v x → R' v x) : DP R' kvs l := Paired.mapP h fun _ _ z => ⟨z.1, f _ _ z.2⟩
theorem DP.val (h : DP R kvs l) (n : Str) : (valV kvs (.inr n) = none ∧ getT l n = none) ∨ ∃ v x, valV kvs (.inr n) = some v ∧ getT l n = some x ∧ R v x := by
  induction h with
  | nil => exact .inl ⟨rfl, rfl⟩
  | @cons p q ps qs r t ih =>
    obtain ⟨e, r⟩ := r
    by_cases h : q.1 = n
    · right
      exact ⟨p.2, q.2, valV_pos ((inr_eq e).mpr h), getT_pos h, r⟩
    · rw [valV_neg (fun z => h ((inr_eq e).mp z)), getT_neg h]
      exact ih
theorem DP.put (h : DP R kvs l) (r : R v x) : DP R (putK kvs (.inr n) v) (putT l n x) := by
  have ha : (kvs.any fun kv => decide (kv.1 = (.inr n : Key))) = (l.any fun p => decide (p.1 = n)) := by
    induction h with
    | nil => rfl
    | @cons p q ps qs r t ih =>
      rw [List.any_cons, List.any_cons, ih, decide_eq_decide.mpr (inr_eq r.1)]
  unfold putK putT
  rw [ha]
  split
  · rename_i z
    clear ha z
    induction h with
    | nil => exact .nil
    | @cons p q ps qs r' t ih =>
      rw [List.map_cons, List.map_cons]
      refine .cons ?_ ih
      by_cases e : q.1 = n
      · rw [if_pos ((inr_eq r'.1).mpr e), if_pos e]
        exact ⟨r'.1, r⟩
      · rw [if_neg (fun z => e ((inr_eq r'.1).mp z)), if_neg e]
        exact r'
  · exact Paired.snoc h ⟨rfl, r⟩
theorem DP.drop (h : DP R kvs l) : DP R (dropK kvs (.inr n)) (dropT l n) := by
  unfold dropK dropT
  induction h with
  | nil => exact .nil
  | @cons p q ps qs r t ih =>
    rw [List.filter_cons, List.filter_cons]
    by_cases e : q.1 = n
    · rw [if_neg (by simp [(inr_eq r.1).mpr e]), if_neg (by simp [e])]
      exact ih
    · rw [if_pos (by simpa using fun z => e ((inr_eq r.1).mp z)), if_pos (by simp [e])]
      exact .cons r ih
theorem DP.get (h : DP R kvs l) {i : Nat} {p : Str × β} (e : l[i]? = some p) : ∃ v, kvs[i]? = some (.inr p.1, v) ∧ R v p.2 := by
  induction h generalizing i with
  | nil => cases e
  | @cons a b as bs r t ih =>
    cases i with
    | zero =>
      have e := Option.some.inj e
      subst e
      obtain ⟨a1, a2⟩ := a
      obtain ⟨r1, r2⟩ := r
      have r1 : a1 = .inr b.1 := r1
      subst r1
      exact ⟨a2, rfl, r2⟩
    | succ i => exact ih e
theorem DP.keys (h : DP R kvs l) : (kvs.map fun kv => kV kv.1) = l.map fun p => V.str p.1 := by
  induction h with
  | nil => rfl
  | @cons p q ps qs r t ih =>
    rw [List.map_cons, List.map_cons, ih, r.1] <;> rfl
/-- at d stands a dict of l's names -/
def DictAt (R : V → β → Prop) (H : Hp) (d : Addr) (l : List (Str × β)) : Prop := ∃ kvs, H d = some (.dK kvs) ∧ DP R kvs l
theorem DictAt.mono {H H' : Hp} {d : Addr} (h : DictAt R H d l) (e : H' d = H d) (f : ∀ v x, R v x → R' v x) : DictAt R' H' d l := by
  obtain ⟨kvs, h1, h2⟩ := h
  exact ⟨kvs, e.trans h1, h2.mono f⟩
end
/-! ### Ratios in dicts -/
section
variable {K : PySem.W.Frag} {H H' H1 : Hp} {S : List Addr} {d p a : Addr} {q : Rat}
/-- a Ratio stands there -/
def RV (K : PySem.W.Frag) (H : Hp) (v : V) (q : Rat) : Prop := ∃ a, v = .ref a ∧ RatAt K H a q
theorem RatAt.ne_dict {kvs : List (Key × V)} (r : RatAt K H a q) (h : H d = some (.dK kvs)) : a ≠ d := by
  obtain ⟨dx, e⟩ := r
  exact ne_of e h (fun z => by cases z)
theorem rat_chg (r : RatAt K H a q) (c : Chg S H H') (n : a ∉ S) : RatAt K H' a q := by
  obtain ⟨dx, e⟩ := r
  exact ⟨dx, c _ _ e n⟩
/-- the fields of an Asked -/
def askF (d : Addr) (t : V) : List (Str × V) := [("terms", .ref d), ("total", t)]
theorem askF_terms {d : Addr} {t : V} : (askF d t).lookup ("terms" : Str) = some (.ref d) := look1
theorem tt_ne : ¬ (("total" : Str) = "terms") := by decide +kernel
theorem tt_ne2 : ¬ (("terms" : Str) = "total") := by decide +kernel
theorem askF_total {d : Addr} {t : V} : (askF d t).lookup ("total" : Str) = some t := look2 tt_ne
theorem askF_no {d : Addr} {t : V} {m : Str} (h1 : ¬ m = "terms") (h2 : ¬ m = "total") : (askF d t).lookup m = none := by
  have e1 : (m == ("terms" : Str)) = false := beq_eq_false_iff_ne.mpr h1
  have e2 : (m == ("total" : Str)) = false := beq_eq_false_iff_ne.mpr h2
  simp [askF, List.lookup, e1, e2]
theorem askF_put {d : Addr} {t u : V} : putF "total" u (askF d t) = askF d u := by
  show (if ("terms" : Str) = "total" then _ else (("terms" : Str), V.ref d) :: (if ("total" : Str) = "total" then [(("total" : Str), u)] else _)) = _
  rw [if_neg tt_ne2, if_pos rfl] <;> rfl
theorem top_terms : ¬ (("top" : Str) = "terms") := by decide +kernel
theorem rat_ne_ask {C dx : Addr} {t : V} (r : RatAt K H a q) (h : H p = some (.ins C dx (askF d t))) : a ≠ p := by
  obtain ⟨dx', e⟩ := r
  refine ne_of e h (fun z => ?_)
  injection z with _ _ z
  injection z with z _
  exact top_terms (congrArg Prod.fst z)
/-- at p stands an Asked whose dict is at d -/
structure AskAt (K : PySem.W.Frag) (H : Hp) (p d : Addr) (r : Rw Str) : Prop where
  ins : ∃ dx t, H p = some (.ins (He.ga K "Asked") dx (askF d (.ref t))) ∧ RatAt K H t r.2
  ts : DictAt (RV K H) H d r.1
theorem AskAt.chg {r : Rw Str} (h : AskAt K H p d r) (c : Chg S H H') (np : p ∉ S) (nd : d ∉ S) (nS : ∀ a q, RatAt K H a q → a ∉ S) : AskAt K H' p d r := by
  obtain ⟨⟨dx, t, h1, h2⟩, kvs, h3, h4⟩ := h
  exact ⟨⟨dx, t, c _ _ h1 np, rat_chg h2 c (nS _ _ h2)⟩, kvs, c _ _ h3 nd, h4.mono fun v x ⟨a, e, ra⟩ => ⟨a, e, rat_chg ra c (nS _ _ ra)⟩⟩
theorem AskAt.same {r : Rw Str} (h : AskAt K H p d r) (c : Same H H') : AskAt K H' p d r := h.chg (S := []) (Same.chg c) (by simp) (by simp) (fun _ _ _ => by simp)
theorem RV.mono {v : V} (r : RV K H v q) (s : Same H H') : RV K H' v q := r.elim fun a h => ⟨a, h.1, h.2.mono s⟩
theorem DictAt.same {l : List (Str × Rat)} (h : DictAt (RV K H) H d l) (s : Same H H') : DictAt (RV K H') H' d l := by
  obtain ⟨kvs, h3, h4⟩ := h
  exact ⟨kvs, s _ _ h3, h4.mono fun v x r => r.mono s⟩
end
theorem len_put {β : Type} {l : List (Str × β)} {n : Str} {x : β} : (putT l n x).length ≤ l.length + 1 := by
  unfold putT
  split <;> simp
theorem len_drop {β : Type} {l : List (Str × β)} {n : Str} : (dropT l n).length ≤ l.length := List.length_filter_le _ _
theorem len_add {l : Terms Str} {n : Str} {x : Rat} : (addT l n x).length ≤ l.length + 1 := by
  unfold addT
  split
  · exact Nat.le_succ_of_le len_drop
  · exact len_put
theorem len_sub {k : Rat} : ∀ {o l : Terms Str}, (subT k l o).length ≤ l.length + o.length := by
  intro o
  induction o with
  | nil => exact fun {l} => Nat.le_refl _
  | cons p r ih =>
    intro l
    rw [subT_cons]
    have h1 := ih (l := addT l p.1 (-(p.2 * k)))
    have h2 := len_add (l := l) (n := p.1) (x := -(p.2 * k))
    simp
    omega
/-! ### Asked's methods -/
def spAdd (K : PySem.W.Frag) : Sp := fun vs H Q _ => ∃ (p dx d b : Addr) (tv : V) (n : Str) (ts : Terms Str) (x : Rat), vs = [.ref p, .str n, .ref b] ∧ H p = some (.ins (He.ga K "Asked") dx (askF d tv)) ∧ DictAt (RV K H) H d ts ∧ RatAt K H b x ∧
  Ok (cf ts n) ∧ Ok x ∧ Ok (cf ts n + x) ∧ ts.length < 1000 ∧ ∀ H', Chg [d] H H' → DictAt (RV K H') H' d (addT ts n x) → Q .non H'
section
variable {P : Program} {w : World} {K : PySem.W.Frag} {mg : Str → Option Value} {base : Heap} {fd : FuncData}
theorem ok0 : Ok 0 := ⟨Nat.two_pow_pos _, Nat.one_lt_two_pow (by decide)⟩
theorem z8 : (0 : Int).natAbs < 2 ^ 8000 := Nat.two_pow_pos _
theorem o8 : (1 : Int).natAbs < 2 ^ 8000 := Nat.one_lt_two_pow (by decide)
theorem rq_nat (n : Int) : Rat.divInt n 1 = (n : Rat) := rq_int n
theorem sc_Asked_add : FnScope ["self", "arbor", "number", "found"] ["self", "arbor", "number"] (defScope sAsked_add) := C8.fnScope_by (by decide +kernel)
theorem ok_Asked_add (F : FAsked_add K fd) (T : Tx K mg) : FnOk P w K mg base C8.CX0 5 (He.ma K (He.ga K "Asked") "add") fd ["self", "arbor", "number"] (spAdd K) := by
  refine FunD.ok F sc_Asked_add (fun vs H Q E h => ?_) (fun cdv A outer s H vs Q E hr h => ?_)
  · obtain ⟨_, _, _, _, _, _, _, _, rfl, _⟩ := h
    rfl
  · obtain ⟨p, dx, d, b, tv, n, ts, x, rfl, hp, ⟨kvs, hd, pr⟩, rb, o1, o2, o3, hl, k⟩ := h
    refine ⟨_, PSs.nox (pss_cons (ps_set (i := 3) sc_Asked_add.nd rfl (Or.inl rfl) (pe_mt (met_plus T) hr (by decide) (pe_dget2 (hu_of hr) (pe_fld (pv 0) rfl) (pv 1) (pe_mk (mak_Ratio_1 T) hr (by decide) rfl (pa_cons pe_int pa_nil)) ⟨rfl, rfl, rfl, rfl⟩) (pa_cons (pv 2) pa_nil))) (pss_one (ps_if (pt_cmpR op_eq (pe_mt0 (met_sign T) hr (by decide) (pv 3)) pe_int (nomark _)) (pss_one (ps_expr (pe_dpop2 (pe_fld (pv 0) rfl) (pv 1) pe_non ⟨rfl, rfl, rfl, rfl⟩))) (pss_one (ps_dput (hu_of hr) (pe_fld (pv 0) rfl) (pv 1) (pv 3) rfl))))), ?_⟩
    refine ⟨_, rfl, p, _, _, _, _, rfl, hp, T.cl_Asked, T.na_Asked_terms, askF_terms, d, rfl, .inl ⟨kvs, .inl hd⟩, _, rfl, ?_⟩
    refine rat_new (by decide) z8 o8 fun r0 H1 s1 R0 => ?_
    refine ⟨_, DGet.k (k := .inr n) (s1 _ _ hd), ?_⟩
    obtain ⟨a0, ea, ra⟩ : ∃ a0, (valV kvs (.inr n)).getD (.ref r0) = .ref a0 ∧ RatAt K H1 a0 (cf ts n) := by
      rcases pr.val n with ⟨e1, e2⟩ | ⟨v, x, e1, e2, a, e3, ra⟩
      · refine ⟨r0, by rw [e1] <;> rfl, ?_⟩
        unfold cf
        rw [e2]
        exact R0
      · refine ⟨a, by rw [e1, e3] <;> rfl, ?_⟩
        unfold cf
        rw [e2]
        exact ra.mono s1
    obtain ⟨d0, h0⟩ := id ra
    refine ⟨a0, d0, _, ea, h0, ratF_no _ (by decide +kernel) (by decide +kernel), _, rfl, a0, b, cf ts n, x, ?_, ra, rb.mono s1, ⟨o1, o2⟩, fun f H2 s2 Rf => ?_⟩
    · rw [ea] <;> rfl
    obtain ⟨df, hf⟩ := id Rf
    have hd2 := s2 _ _ (s1 _ _ hd)
    have hp2 := s2 _ _ (s1 _ _ hp)
    have s12 : Same H H2 := Same.trans s1 s2
    have ndf : ∀ {a : Addr} {q : Rat}, RatAt K H2 a q → a ≠ d := fun r => r.ne_dict hd2
    refine ⟨_, rfl, f, df, _, rfl, hf, ratF_no _ (by decide +kernel) (by decide +kernel), f, _, rfl, Rf, o3, rfl, _, rfl, ?_⟩
    refine ite2 (fun h => ?_) (fun h => ?_)
    · have hz : cf ts n + x = 0 := sgn_zero.mp (V.int.inj (of_decide_eq_true h))
      have key : ∀ H3, H3 = upd H2 d (.dK (dropK kvs (.inr n))) → Q .non H3 := fun H3 e => by
        subst e
        refine k _ ((Same.chg s12).trans (chg_upd (by simp))) ⟨_, upd_same, ?_⟩
        unfold addT
        rw [if_pos hz]
        exact (pr.mono fun v x ⟨a, e, ra⟩ => ⟨a, e, rat_chg (ra.mono s12) (chg_upd (S := [d]) (by simp)) (by simpa using ndf (ra.mono s12))⟩).drop
      refine ⟨_, rfl, p, _, _, _, _, rfl, hp2, T.cl_Asked, T.na_Asked_terms, askF_terms, d, rfl, .inl ⟨kvs, .inl hd2⟩, _, rfl, kvs, .inr n, hd2, rfl, fun v hv => key _ rfl, fun hv => ?_⟩
      refine key _ ?_
      funext c
      unfold upd
      split
      · rename_i z
        rw [dropK_no (valV_not hv), z]
        exact hd2
      · rfl
    · have hz : ¬ cf ts n + x = 0 := fun z => h (decide_eq_true (by rw [sgn_zero.mpr z]))
      refine ⟨_, rfl, _, rfl, p, _, _, _, _, rfl, hp2, T.cl_Asked, T.na_Asked_terms, askF_terms, _, rfl, d, _, rfl, DPut.k (k := .inr n) hd2 (by rw [pr.len]; exact Nat.lt_trans hl (by decide)), ?_⟩
      refine k _ ((Same.chg s12).trans (chg_upd (by simp))) ⟨_, upd_same, ?_⟩
      unfold addT
      rw [if_neg hz]
      refine DP.put (pr.mono fun v x ⟨a, e, ra⟩ => ⟨a, e, rat_chg (ra.mono s12) (chg_upd (S := [d]) (by simp)) (by simpa using ndf (ra.mono s12))⟩) ⟨f, rfl, rat_chg Rf (chg_upd (S := [d]) (by simp)) (by simpa using ndf Rf)⟩
theorem met_add (T : Tx K mg) : Met P w K mg base 5 (He.ga K "Asked") "add" (spAdd K) [] := by
  obtain ⟨fd, F⟩ := T.f_Asked_add
  exact ⟨_, fd, _, _, T.cl_Asked, T.me_Asked_add, ok_Asked_add F T, bi_Asked_add F, .nil⟩
end
end Ty
set_option Elab.async false
set_option linter.all false
set_option maxRecDepth 100000
set_option maxHeartbeats 4000000
/-! The class Asked, further: __init__, without, by_first. -/
namespace Ty
open PySem PySem.Spec PyProof.Rows L2 C8
section
variable {κ : Type} [DecidableEq κ]
/-- on the way of dividing all numbers -/
theorem put_mid {x y : Rat} {n : κ} {a c : Terms κ} (nd : ((a ++ (n, y) :: c).map (·.1)).Nodup) :
    getT (a.map (fun p => (p.1, p.2 / x)) ++ (n, y) :: c) n = some y ∧ putT (a.map (fun p => (p.1, p.2 / x)) ++ (n, y) :: c) n (y / x) = (a ++ [(n, y)]).map (fun p => (p.1, p.2 / x)) ++ c := by
  rw [List.map_append, List.map_cons, List.nodup_append] at nd
  obtain ⟨n1, n2, n3⟩ := nd
  have n4 := List.nodup_cons.mp n2
  have na : ∀ p ∈ a, p.1 ≠ n := fun p hp z => n3 p.1 (List.mem_map.mpr ⟨p, hp, rfl⟩) n List.mem_cons_self z
  have nc : ∀ p ∈ c, p.1 ≠ n := fun p hp z => n4.1 (List.mem_map.mpr ⟨p, hp, z⟩)
  constructor
  · induction a with
    | nil => exact getT_pos rfl
    | cons p a ih =>
      rw [List.map_cons, List.cons_append, getT_neg (by exact na p List.mem_cons_self)]
      refine ih (List.nodup_cons.mp n1).2 (fun q hq => n3 q (List.mem_cons_of_mem _ hq)) fun q hq => na q (List.mem_cons_of_mem _ hq)
  · unfold putT
    have hm : n ∈ (a.map (fun p => (p.1, p.2 / x)) ++ (n, y) :: c).map (·.1) := by simp
    rw [if_pos (any_iff.mpr hm), List.map_append, List.map_cons, if_pos rfl, List.map_append, List.append_assoc]
    congr 1
    · rw [List.map_map]
      apply List.map_congr_left
      intro p hp
      show (if p.1 = n then (p.1, y / x) else (p.1, p.2 / x)) = _
      rw [if_neg (na p hp)]
    · show (n, y / x) :: _ = (n, y / x) :: c
      congr 1
      conv => rhs; rw [← List.map_id c]
      apply List.map_congr_left
      intro p hp
      rw [if_neg (nc p hp)] <;> rfl
end
theorem askF_lt {d : Addr} {t : V} : (askF d t).length < 1000 := by
  show 2 < 1000
  decide
/-! ### by_first -/
def spByFirst (K : PySem.W.Frag) : Sp := fun vs H Q _ => ∃ (p d : Addr) (a : Str) (x : Rat) (l : Terms Str) (tot : Rat), vs = [.ref p] ∧ AskAt K H p d ((a, x) :: l, tot) ∧ x ≠ 0 ∧ (((a, x) :: l).map (·.1)).Nodup ∧ (∀ q ∈ (a, x) :: l, Ok q.2) ∧ Ok tot ∧ ((a, x) :: l).length ≤ 100 ∧
  ∀ H', Chg [p, d] H H' → AskAt K H' p d (divR ((a, x) :: l, tot) x) → Q (.str a) H'
def spWithout (K : PySem.W.Frag) : Sp := fun vs H Q _ => ∃ (p d q e : Addr) (n : Str) (r o : Rw Str), vs = [.ref p, .str n, .ref q] ∧ AskAt K H p d r ∧ AskAt K H q e o ∧ d ≠ e ∧ WOk r n o ∧
  ∀ H', Chg [p, d] H H' → AskAt K H' p d (withoutR r n o) → Q .non H'
section
variable {P : Program} {w : World} {K : PySem.W.Frag} {mg : Str → Option Value} {base : Heap} {fd : FuncData}
theorem sc_Asked_by_first : FnScope ["self", "arbor", "number", "name"] ["self"] (defScope sAsked_by_first) := C8.fnScope_by (by decide +kernel)
theorem ok_Asked_by_first (F : FAsked_by_first K fd) (T : Tx K mg) : FnOk P w K mg base C8.CX0 5 (He.ma K (He.ga K "Asked") "by_first") fd ["self"] (spByFirst K) := by
  refine FunD.ok F sc_Asked_by_first (fun vs H Q E h => ?_) (fun cdv A outer s H vs Q E hr h => ?_)
  · obtain ⟨_, _, _, _, _, _, rfl, _⟩ := h
    rfl
  · obtain ⟨p, d, a, x, l, tot, rfl, ⟨⟨dx, t, hp, rt⟩, kvs, hd, pr⟩, hx, nd, hok, hot, hlen, k⟩ := h
    refine ⟨_, PSs.nox (pss_cons (ps_set (i := 1) sc_Asked_by_first.nd rfl (Or.inl rfl) (pe_ix ix_list (pe_callTy (call_listD rfl) (by rfl) T.b_list (by decide +kernel) (pa_cons (pe_fld (pv 0) rfl) pa_nil)) pe_int (fun _ _ => rfl))) (pss_cons (ps_set (i := 2) sc_Asked_by_first.nd rfl (Or.inl rfl) (pe_dget (hu_of hr) (pe_fld (pv 0) rfl) (pv 1) (fun _ _ => rfl))) (pss_cons (ps_for PassesOwn.never rfl (pi_list (pe_callTy (call_listD rfl) (by rfl) T.b_list (by decide +kernel) (pa_cons (pe_fld (pv 0) rfl) pa_nil))) (pg_name (i := 3) sc_Asked_by_first.nd rfl (Or.inl rfl)) (pss_one (ps_dput (hu_of hr) (pe_fld (pv 0) rfl) (pv 3) (pe_mt (met_over T) hr (by decide) (pe_dget (hu_of hr) (pe_fld (pv 0) rfl) (pv 3) (fun _ _ => rfl)) (pa_cons (pv 2) pa_nil)) rfl))) (pss_cons (ps_fld (pv 0) (pe_mt (met_over T) hr (by decide) (pe_fld (pv 0) rfl) (pa_cons (pv 2) pa_nil)) rfl) (pss_one (ps_ret (pv 1))))))), ?_⟩
    generalize hts : (a, x) :: l = ts at pr nd hok hlen k
    have hts0 : ts[0]? = some (a, x) := by rw [← hts] <;> rfl
    have hkeys : (kvs.map fun kv => kV kv.1) = ts.map fun p => V.str p.1 := pr.keys
    refine ⟨_, rfl, p, _, _, _, _, rfl, hp, T.cl_Asked, T.na_Asked_terms, askF_terms, d, kvs, rfl, .inl hd, fun L nL => ?_⟩
    have s1 : Same H (upd H L (.lst (kvs.map fun kv => kV kv.1))) := same_upd nL
    generalize hH1 : upd H L (.lst (kvs.map fun kv => kV kv.1)) = H1 at s1
    have hL : H1 L = some (.lst (kvs.map fun kv => kV kv.1)) := by rw [← hH1, upd_same]
    refine ⟨L, _, 0, V.str a, rfl, rfl, SqL.of hL, at_of (j := 0) rfl (by rw [hkeys, List.getElem?_map, hts0] <;> rfl), ?_⟩
    obtain ⟨xv, hxv, xa, exa, Rx⟩ := pr.get hts0
    have hval : valV kvs (.inr a) = some (.ref xa) := by
      rcases pr.val a with ⟨e1, e2⟩ | ⟨v, y, e1, e2, b, e3, rb⟩
      · rw [← hts, getT_pos rfl] at e2
        cases e2
      · have h0 := hxv
        cases kvs with
        | nil => cases h0
        | cons q r =>
          have h0 : q = (.inr a, xv) := Option.some.inj h0
          rw [h0, valV_pos rfl]
          show some xv = _
          rw [exa]
    refine ⟨_, rfl, p, _, _, _, _, rfl, (s1 _ _ hp), T.cl_Asked, T.na_Asked_terms, askF_terms, _, rfl, d, .ref xa, rfl, ?_, ?_⟩
    · have := DGet.k (k := .inr a) (s1 _ _ hd)
      rw [hval] at this
      exact this
    -- the loop
    refine ⟨_, rfl, p, _, _, _, _, rfl, (s1 _ _ hp), T.cl_Asked, T.na_Asked_terms, askF_terms, d, kvs, rfl, .inl (s1 _ _ hd), fun L2 nL2 => ?_⟩
    have s2 : Same H1 (upd H1 L2 (.lst (kvs.map fun kv => kV kv.1))) := same_upd nL2
    generalize hH2 : upd H1 L2 (.lst (kvs.map fun kv => kV kv.1)) = H2 at s2
    have hL2 : H2 L2 = some (.lst (kvs.map fun kv => kV kv.1)) := by rw [← hH2, upd_same]
    have s12 : Same H H2 := Same.trans s1 s2
    have hd2 : H2 d = some (.dK kvs) := s12 _ _ hd
    have hp2 := s12 _ _ hp
    have Rx2 : RatAt K H2 xa x := Rx.mono s12
    have nL2d : L2 ≠ d := ne_of hL2 hd2 (fun z => by cases z)
    have npd : p ≠ d := ne_of hp2 hd2 (fun z => by cases z)
    have okx : Ok x := hok (a, x) (List.mem_of_getElem? hts0)
    refine ⟨L2, rfl, ⟨_, SqL.of hL2⟩, for_list (K := K) (a := L2) (xs := kvs.map fun kv => kV kv.1) (fun i σ H' => ∃ v3, σ = [some (.ref p), some (.str a), some (.ref xa), v3] ∧ Chg [d] H2 H' ∧
      DictAt (RV K H') H' d ((ts.take i).map (fun p => (p.1, p.2 / x)) ++ ts.drop i)) ⟨_, rfl, Chg.refl _ _, kvs, hd2, ?_⟩ (fun i σ H' _ ⟨_, _, c, _⟩ => SqL.of (c _ _ hL2 (by simpa using nL2d))) ?_ ?_⟩
    · simp only [List.take_zero, List.map_nil, List.nil_append, List.drop_zero]
      exact pr.mono fun v y r => r.mono s12
    · rintro i y σ H' hi ⟨v3, rfl, c, kvs', hd', pr'⟩
      rw [hkeys, List.getElem?_map] at hi
      cases hti : ts[i]? with
      | none =>
        rw [hti] at hi
        cases hi
      | some q =>
        rw [hti] at hi
        have hi : V.str q.1 = y := Option.some.inj hi
        subst hi
        obtain ⟨n, z⟩ := q
        have hil := (List.getElem?_eq_some_iff.mp hti).1
        have hsplit : ts.drop i = (n, z) :: ts.drop (i + 1) := by
          rw [List.drop_eq_getElem_cons hil]
          congr 1
          exact (List.getElem?_eq_some_iff.mp hti).2
        have hts2 : ts.take i ++ (n, z) :: ts.drop (i + 1) = ts := by rw [← hsplit, List.take_append_drop]
        have mid := put_mid (x := x) (y := z) (n := n) (a := ts.take i) (c := ts.drop (i + 1)) (by rw [hts2]; exact nd)
        rw [hsplit] at pr'
        have Rx' : RatAt K H' xa x := rat_chg Rx2 c (by simpa using Rx2.ne_dict hd2)
        obtain ⟨dxx, hxx⟩ := id Rx'
        rcases pr'.val n with ⟨e1, e2⟩ | ⟨v, y2, e1, e2, za, e3, Rz⟩
        · rw [mid.1] at e2
          cases e2
        · rw [mid.1] at e2
          have e2 : z = y2 := Option.some.inj e2
          subst e2
          have hp' := c _ _ hp2 (by simpa using npd)
          have okz : Ok z := hok (n, z) (List.mem_of_getElem? hti)
          obtain ⟨dz, hz⟩ := id Rz
          refine ⟨_, rfl, p, _, _, _, _, rfl, hp', T.cl_Asked, T.na_Asked_terms, askF_terms, _, rfl, d, .ref za, rfl, ?_, za, dz, _, rfl, hz, ratF_no _ (by decide +kernel) (by decide +kernel), _, rfl, za, xa, z, x, rfl, Rz, Rx', ⟨hx, okz, okx⟩, fun r1 H3 s3 R1 => ?_⟩
          · have := DGet.k (k := .inr n) hd'
            rw [e1, e3] at this
            exact this
          have hd3 := s3 _ _ hd'
          refine ⟨_, rfl, p, _, _, _, _, rfl, (s3 _ _ hp'), T.cl_Asked, T.na_Asked_terms, askF_terms, _, rfl, d, _, rfl, DPut.k (k := .inr n) hd3 ?_, ?_⟩
          · rw [pr'.len]
            have : (ts.take i).length + (ts.drop i).length = ts.length := by rw [← List.length_append, List.take_append_drop]
            rw [List.length_append, List.length_map, ← hsplit, this]
            exact Nat.lt_of_le_of_lt hlen (by decide)
          · have c3 : Chg [d] H3 (upd H3 d (.dK (putK kvs' (.inr n) (.ref r1)))) := chg_upd (by simp)
            refine ⟨_, rfl, (c.trans (Same.chg s3)).trans c3, _, upd_same, ?_⟩
            have := DP.put (n := n) (pr'.mono fun v y ⟨b, e, rb⟩ => (⟨b, e, rat_chg (rb.mono s3) c3 (by simpa using (rb.mono s3).ne_dict hd3)⟩ : RV K _ v y)) ⟨r1, rfl, rat_chg R1 c3 (by simpa using R1.ne_dict hd3)⟩
            rw [mid.2] at this
            have e5 : ts.take (i + 1) = ts.take i ++ [(n, z)] := by
              rw [List.take_succ, hti] <;> rfl
            rw [e5]
            exact this
    · rintro σ H' ⟨v3, rfl, c, D⟩
      have hl : (kvs.map fun kv => kV kv.1).length = ts.length := by rw [hkeys, List.length_map]
      rw [hl, List.take_length, List.drop_length, List.append_nil] at D
      obtain ⟨kvs', hd', pr'⟩ := D
      have Rx' : RatAt K H' xa x := rat_chg Rx2 c (by simpa using Rx2.ne_dict hd2)
      have hp' := c _ _ hp2 (by simpa using npd)
      have rt2 := rt.mono s12
      have Rt' : RatAt K H' t tot := rat_chg rt2 c (by simpa using rt2.ne_dict hd2)
      obtain ⟨dt, ht⟩ := id Rt'
      refine ⟨_, rfl, p, _, _, _, _, rfl, hp', T.cl_Asked, T.na_Asked_total, askF_total, t, dt, _, rfl, ht, ratF_no _ (by decide +kernel) (by decide +kernel), _, rfl, t, xa, tot, x, rfl, Rt', Rx', ⟨hx, hot, okx⟩, fun r1 H3 s3 R1 => ?_⟩
      have hp3 := s3 _ _ hp'
      have hd3 := s3 _ _ hd'
      refine ⟨_, rfl, p, _, dx, _, rfl, hp3, T.cl_Asked, T.na_Asked_total, askF_lt, ?_⟩
      refine ⟨_, rfl, ?_⟩
      have c3 : Chg [p, d] H3 (upd H3 p (.ins (He.ga K "Asked") dx (putF "total" (.ref r1) (askF d (.ref t))))) := chg_upd (by simp)
      have c1 : Chg [p, d] H H3 := ((Same.chg s12).trans (c.mono (by simp))).trans (Same.chg s3)
      have nrp : ∀ {b : Addr} {z : Rat}, RatAt K H3 b z → RatAt K (upd H3 p (.ins (He.ga K "Asked") dx (putF "total" (.ref r1) (askF d (.ref t))))) b z := fun rb => by
        refine rat_chg rb c3 ?_
        have h1 := rat_ne_ask rb hp3
        have h2 := rb.ne_dict hd3
        simp [h1, h2]
      refine k _ (c1.trans c3) ⟨⟨dx, r1, by rw [upd_same, askF_put], nrp R1⟩, kvs', ?_, ?_⟩
      · rw [upd_ne npd.symm]
        exact hd3
      · show DP _ kvs' (ts.map fun p => (p.1, p.2 / x))
        exact pr'.mono fun v y ⟨b, e, rb⟩ => ⟨b, e, nrp (rb.mono s3)⟩
theorem met_by_first (T : Tx K mg) : Met P w K mg base 5 (He.ga K "Asked") "by_first" (spByFirst K) [] := by
  obtain ⟨fd, F⟩ := T.f_Asked_by_first
  exact ⟨_, fd, _, _, T.cl_Asked, T.me_Asked_by_first, ok_Asked_by_first F T, bi_Asked_by_first F, .nil⟩
theorem sc_Asked_without : FnScope ["self", "arbor", "other", "number", "name", "part"] ["self", "arbor", "other"] (defScope sAsked_without) := C8.fnScope_by (by decide +kernel)
theorem ok_Asked_without (F : FAsked_without K fd) (T : Tx K mg) : FnOk P w K mg base C8.CX0 6 (He.ma K (He.ga K "Asked") "without") fd ["self", "arbor", "other"] (spWithout K) := by
  refine FunD.ok F sc_Asked_without (fun vs H Q E h => ?_) (fun cdv A outer s H vs Q E hr h => ?_)
  · obtain ⟨_, _, _, _, _, _, _, rfl, _⟩ := h
    rfl
  · obtain ⟨p, d, q, e, n, r, o, rfl, ⟨⟨dx, t, hp, rt⟩, kvs, hd, pr⟩, ⟨⟨dx2, t2, hq, rt2⟩, kvs2, he, pr2⟩, hde, wk, k⟩ := h
    refine ⟨_, PSs.nox (pss_cons (ps_set (i := 3) sc_Asked_without.nd rfl (Or.inl rfl) (pe_dget1 (hu_of hr) (pe_fld (pv 0) rfl) (pv 1) ⟨rfl, rfl, rfl, rfl⟩)) (pss_cons (ps_if (pt_cmp (pc_isN (pv 3))) (pss_one ps_retN) pss_nil) (pss_cons (ps_for PassesOwn.never rfl (pi_list (LiI.pe_listItems (by rfl) (pe_fld (pv 2) rfl) rfl T.b_list (by decide +kernel))) (pg_tup rfl (pgs_cons (pg_name (i := 4) sc_Asked_without.nd rfl (Or.inl rfl)) (pgs_cons (pg_name (i := 5) sc_Asked_without.nd rfl (Or.inl rfl)) pgs_nil))) (pss_one (ps_expr (pe_mt (met_add T) hr (by decide) (pv 0) (pa_cons (pv 4) (pa_cons (pe_mt0 (met_turned T) hr (by decide) (pe_mt (met_times T) hr (by decide) (pv 5) (pa_cons (pv 3) pa_nil))) pa_nil)))))) (pss_one (ps_fld (pv 0) (pe_mt (met_minus T) hr (by decide) (pe_fld (pv 0) rfl) (pa_cons (pe_mt (met_times T) hr (by decide) (pe_fld (pv 2) rfl) (pa_cons (pv 3) pa_nil)) pa_nil)) rfl))))), ?_⟩
    have hget := DGet.k (k := .inr n) hd
    rcases pr.val n with ⟨e1, e2⟩ | ⟨v, num, e1, e2, b, e3, rb⟩
    · rw [e1] at hget
      refine ⟨_, rfl, p, _, _, _, _, rfl, hp, T.cl_Asked, T.na_Asked_terms, askF_terms, d, rfl, .inl ⟨kvs, .inl hd⟩, _, rfl, none, hget, ?_⟩
      refine ⟨_, rfl, _, rfl, ?_⟩
      refine ite2 (fun _ => ?_) (fun h => absurd (decide_eq_true rfl) h)
      refine k _ (Chg.refl _ _) ?_
      rw [without_none e2]
      exact ⟨⟨dx, t, hp, rt⟩, kvs, hd, pr⟩
    · rw [e1, e3] at hget
      refine ⟨_, rfl, p, _, _, _, _, rfl, hp, T.cl_Asked, T.na_Asked_terms, askF_terms, d, rfl, .inl ⟨kvs, .inl hd⟩, _, rfl, some (.ref b), hget, ?_⟩
      refine ⟨_, rfl, _, rfl, ?_⟩
      refine ite2 (fun h => ?_) (fun _ => ?_)
      · have z : V.ref b = V.non := of_decide_eq_true h
        cases z
      have hcf : cf r.1 n = num := by
        unfold cf
        rw [e2] <;> rfl
      obtain ⟨w1, w2, w3, w4⟩ := wk.ok (by rw [e2]; exact fun z => by cases z)
      rw [hcf] at w4
      have okb : Ok num := by rw [← hcf]; exact (w1 n).1
      have eW : withoutR r n o = (subT num r.1 o.1, r.2 - o.2 * num) := by
        unfold withoutR
        rw [e2]
      refine ⟨_, rfl, q, _, _, _, _, rfl, hq, T.cl_Asked, T.na_Asked_terms, askF_terms, e, kvs2, rfl, he, fun H1 L ts s1 nL nts npL hL pts => ?_⟩
      have s1 : Same H H1 := s1
      have hd1 := s1 _ _ hd
      have hp1 := s1 _ _ hp
      have rb1 := rb.mono s1
      have nLd : L ≠ d := ne_of hL hd1 (fun z => by cases z)
      have npd : p ≠ d := ne_of hp1 hd1 (fun z => by cases z)
      have hq1 := s1 _ _ hq
      have nqd : q ≠ d := ne_of hq1 hd1 (fun z => by cases z)
      refine ⟨L, rfl, ⟨_, SqL.of hL⟩, for_list (K := K) (a := L) (xs := ts.map V.ref) (fun i σ H' => ∃ v4 v5, σ = [some (.ref p), some (.str n), some (.ref q), some (.ref b), v4, v5] ∧ Chg [d] H1 H' ∧
        DictAt (RV K H') H' d (subT num r.1 (o.1.take i))) ⟨_, _, rfl, Chg.refl _ _, kvs, hd1, pr.mono fun v y z => z.mono s1⟩ (fun i σ H' _ ⟨_, _, _, c, _⟩ => SqL.of (c _ _ hL (by simpa using nLd))) ?_ ?_⟩
      · rintro i y σ H' hi ⟨v4, v5, rfl, c, D⟩
        rw [List.getElem?_map] at hi
        cases hti : ts[i]? with
        | none =>
          rw [hti] at hi
          cases hi
        | some tt =>
          rw [hti] at hi
          have hi : V.ref tt = y := Option.some.inj hi
          subst hi
          obtain ⟨⟨key, pv⟩, hkv, htt⟩ := LiI.paired_get pts hti
          obtain ⟨⟨nm, part⟩, hon, ek, pa, epa, Rpa⟩ := LiI.paired_get pr2 hkv
          have ek : key = .inr nm := ek
          have epa : pv = .ref pa := epa
          subst ek epa
          have ntd : tt ≠ d := ne_of htt hd1 (fun z => by cases z)
          have htt' := c _ _ htt (by simpa using ntd)
          have Rpa1 := Rpa.mono s1
          have Rpa' : RatAt K H' pa part := rat_chg Rpa1 c (by simpa using Rpa1.ne_dict hd1)
          have Rb' : RatAt K H' b num := rat_chg rb1 c (by simpa using rb1.ne_dict hd1)
          have hp' := c _ _ hp1 (by simpa using npd)
          obtain ⟨dpa, hpa⟩ := id Rpa'
          have hsplit : o.1.take i ++ o.1.drop i = o.1 := List.take_append_drop i o.1
          have nd := wk.nd
          have hil := (List.getElem?_eq_some_iff.mp hon).1
          have cpart : cf o.1 nm = part := by
            unfold cf
            rw [getT_of_mem nd (List.mem_of_getElem? hon)] <;> rfl
          have okpart : Ok part := by rw [← cpart]; exact (w1 nm).2.1
          have okprod : Ok (part * num) := by rw [← cpart, ← hcf]; exact (w1 nm).2.2.1
          have part1 := cf_sub_part (k := num) (m := nm) (ts := r.1) (a := o.1.take i) (b := o.1.drop i) (by rw [hsplit]; exact nd)
          rw [hsplit] at part1
          have okc : Ok (cf (subT num r.1 (o.1.take i)) nm) := by
            rcases part1 with z | z
            · rw [z]
              exact (w1 nm).1
            · rw [z, ← hcf]
              exact (w1 nm).2.2.2
          have e5 : o.1.take (i + 1) = o.1.take i ++ [(nm, part)] := by
            rw [List.take_succ, hon] <;> rfl
          have part2 := cf_sub_part (k := num) (m := nm) (ts := r.1) (a := o.1.take (i + 1)) (b := o.1.drop (i + 1)) (by rw [List.take_append_drop]; exact nd)
          rw [List.take_append_drop] at part2
          have okn : Ok (cf (subT num r.1 (o.1.take i)) nm + -(part * num)) := by
            have z : cf (subT num r.1 (o.1.take (i + 1))) nm = cf (subT num r.1 (o.1.take i)) nm + -(part * num) := by
              rw [e5, subT_snoc, cf_add, if_pos rfl]
            rw [← z]
            rcases part2 with z | z
            · rw [z]
              exact (w1 nm).1
            · rw [z, ← hcf]
              exact (w1 nm).2.2.2
          refine ⟨tt, _, rfl, SqT.of htt', rfl, _, _, rfl, _, _, rfl, rfl, ?_⟩
          refine ⟨_, rfl, p, dx, _, rfl, hp', askF_no (by decide +kernel) (by decide +kernel), _, rfl, _, rfl, pa, dpa, _, rfl, hpa, ratF_no _ (by decide +kernel) (by decide +kernel), _, rfl, pa, b, part, num, rfl, Rpa', Rb', ⟨okpart, okb⟩, fun r1 H2 s2 R1 => ?_⟩
          obtain ⟨d1, h1⟩ := id R1
          refine ⟨r1, d1, _, rfl, h1, ratF_no _ (by decide +kernel) (by decide +kernel), r1, _, rfl, R1, okprod, fun r2 H3 s3 R2 => ?_⟩
          have s23 : Same H' H3 := Same.trans s2 s3
          refine ⟨p, dx, d, r2, _, nm, _, _, rfl, s23 _ _ hp', D.same s23, R2, okc, bd_neg okprod, okn, ?_, fun H4 c4 D4 => ?_⟩
          · have h1 := len_sub (k := num) (l := r.1) (o := o.1.take i)
            have h2 : (o.1.take i).length ≤ o.1.length := by
              rw [List.length_take]
              omega
            have h3 := wk.lr
            have h4 := wk.lo
            omega
          · refine ⟨_, _, rfl, (c.trans (Same.chg s23)).trans c4, ?_⟩
            rw [e5, subT_snoc]
            exact D4
      · rintro σ H' ⟨v4, v5, rfl, c, D⟩
        have hlen : (ts.map V.ref).length = o.1.length := by
          rw [List.length_map, Paired.length pts, pr2.len]
        rw [hlen, List.take_length] at D
        obtain ⟨kvs', hd', pr'⟩ := D
        have hp' := c _ _ hp1 (by simpa using npd)
        have hq' := c _ _ hq1 (by simpa using nqd)
        have rt1 := rt.mono s1
        have rt21 := rt2.mono s1
        have Rt' : RatAt K H' t r.2 := rat_chg rt1 c (by simpa using rt1.ne_dict hd1)
        have Rt2' : RatAt K H' t2 o.2 := rat_chg rt21 c (by simpa using rt21.ne_dict hd1)
        have Rb' : RatAt K H' b num := rat_chg rb1 c (by simpa using rb1.ne_dict hd1)
        obtain ⟨dt, ht⟩ := id Rt'
        obtain ⟨dt2, ht2⟩ := id Rt2'
        refine ⟨_, rfl, p, _, _, _, _, rfl, hp', T.cl_Asked, T.na_Asked_total, askF_total, t, dt, _, rfl, ht, ratF_no _ (by decide +kernel) (by decide +kernel), _, rfl, q, _, _, _, _, rfl, hq', T.cl_Asked, T.na_Asked_total, askF_total, t2, dt2, _, rfl, ht2, ratF_no _ (by decide +kernel) (by decide +kernel), _, rfl, t2, b, o.2, num, rfl, Rt2', Rb', ⟨w3, okb⟩, fun r1 H2 s2 R1 => ?_⟩
        refine ⟨t, r1, r.2, o.2 * num, rfl, Rt'.mono s2, R1, ⟨w2, w4⟩, fun r2 H3 s3 R2 => ?_⟩
        have s23 : Same H' H3 := Same.trans s2 s3
        have hp3 := s23 _ _ hp'
        have hd3 := s23 _ _ hd'
        refine ⟨_, rfl, p, _, dx, _, rfl, hp3, T.cl_Asked, T.na_Asked_total, askF_lt, ?_⟩
        have c3 : Chg [p, d] H3 (upd H3 p (.ins (He.ga K "Asked") dx (putF "total" (.ref r2) (askF d (.ref t))))) := chg_upd (by simp)
        have c1 : Chg [p, d] H H3 := ((Same.chg s1).trans (c.mono (by simp))).trans (Same.chg s23)
        have nrp : ∀ {b : Addr} {z : Rat}, RatAt K H3 b z → RatAt K (upd H3 p (.ins (He.ga K "Asked") dx (putF "total" (.ref r2) (askF d (.ref t))))) b z := fun rb => by
          refine rat_chg rb c3 ?_
          have h1 := rat_ne_ask rb hp3
          have h2 := rb.ne_dict hd3
          simp [h1, h2]
        refine k _ (c1.trans c3) ?_
        rw [eW]
        refine ⟨⟨dx, r2, by rw [upd_same, askF_put], nrp R2⟩, kvs', ?_, ?_⟩
        · rw [upd_ne npd.symm]
          exact hd3
        · exact pr'.mono fun v y ⟨b, e, rb⟩ => ⟨b, e, nrp (rb.mono s23)⟩
theorem met_without (T : Tx K mg) : Met P w K mg base 6 (He.ga K "Asked") "without" (spWithout K) [] := by
  obtain ⟨fd, F⟩ := T.f_Asked_without
  exact ⟨_, fd, _, _, T.cl_Asked, T.me_Asked_without, ok_Asked_without F T, bi_Asked_without F, .nil⟩
end
/-! ### __init__ -/
/-- a list of tuples of a name and a Ratio -/
def PairsAt (K : PySem.W.Frag) (H : Hp) (l : Addr) (ps : Terms Str) : Prop := ∃ ts : List Addr, H l = some (.lst (ts.map V.ref)) ∧ Paired (fun t p => ∃ a, H t = some (.tup [.str p.1, .ref a]) ∧ RatAt K H a p.2) ts ps
def initT (ps : Terms Str) : Terms Str := ps.foldl (fun acc p => addT acc p.1 p.2) []
structure InitOk (ps : Terms Str) : Prop where
  one : ∀ p ∈ ps, Ok p.2
  sum : ∀ i n, Ok (cf (initT (ps.take i)) n)
  len : ps.length ≤ 100
theorem initT_snoc {a : Terms Str} {p : Str × Rat} : initT (a ++ [p]) = addT (initT a) p.1 p.2 := by
  unfold initT
  rw [List.foldl_append] <;> rfl
theorem initT_len : ∀ {n : Nat} {a : Terms Str}, a.length = n → (initT a).length ≤ n := by
  intro n
  induction n with
  | zero =>
    intro a h
    rw [List.length_eq_zero_iff.mp h]
    exact Nat.le_refl _
  | succ n ih =>
    intro a h
    obtain ⟨b, p, rfl⟩ : ∃ b p, a = b ++ [p] := ⟨a.dropLast, a.getLast (by intro z; rw [z] at h; cases h), (List.dropLast_concat_getLast _).symm⟩
    rw [initT_snoc]
    have h1 := ih (a := b) (by simpa using h)
    have h2 := len_add (l := initT b) (n := p.1) (x := p.2)
    omega
def spAskI (K : PySem.W.Frag) : Sp := fun vs H Q _ => ∃ (p dx l t : Addr) (ps : Terms Str) (tot : Rat), vs = [.ref p, .ref l, .ref t] ∧ H p = some (.ins (He.ga K "Asked") dx []) ∧ PairsAt K H l ps ∧ RatAt K H t tot ∧ InitOk ps ∧
  ∀ H' d, H d = none → Chg [p] H H' → AskAt K H' p d (initT ps, tot) → Q .non H'
section
variable {P : Program} {w : World} {K : PySem.W.Frag} {mg : Str → Option Value} {base : Heap} {fd : FuncData}
theorem askF_mk {d : Addr} {t : V} : putF "total" t (putF "terms" (.ref d) []) = askF d t := by
  show (if ("terms" : Str) = "total" then _ else (("terms" : Str), V.ref d) :: [(("total" : Str), t)]) = _
  rw [if_neg tt_ne2] <;> rfl
theorem rat_ne_new {H : Hp} {a p C dx : Addr} {q : Rat} (r : RatAt K H a q) (h : H p = some (.ins C dx [])) : a ≠ p := by
  obtain ⟨dx', e⟩ := r
  refine ne_of e h (fun z => ?_)
  injection z with _ _ z
  cases z
theorem sc_Asked_init : FnScope ["self", "terms", "total", "arbor", "number"] ["self", "terms", "total"] (defScope sAsked_init) := C8.fnScope_by (by decide +kernel)
theorem ok_Asked_init (F : FAsked_init K fd) (T : Tx K mg) : FnOk P w K mg base C8.CX0 6 (He.ma K (He.ga K "Asked") "__init__") fd ["self", "terms", "total"] (spAskI K) := by
  refine FunD.ok F sc_Asked_init (fun vs H Q E h => ?_) (fun cdv A outer s H vs Q E hr h => ?_)
  · obtain ⟨_, _, _, _, _, _, rfl, _⟩ := h
    rfl
  · obtain ⟨p, dx, l, t, ps, tot, rfl, hp, ⟨ts, hl, pts⟩, rt, iok, k⟩ := h
    refine ⟨_, PSs.nox (pss_cons (ps_fld (pv 0) pe_dnewK rfl) (pss_cons (ps_fld (pv 0) (pv 2) rfl) (pss_one (ps_for PassesOwn.never rfl (pi_list (pv 1)) (pg_tup rfl (pgs_cons (pg_name (i := 3) sc_Asked_init.nd rfl (Or.inl rfl)) (pgs_cons (pg_name (i := 4) sc_Asked_init.nd rfl (Or.inl rfl)) pgs_nil))) (pss_one (ps_expr (pe_mt (met_add T) hr (by decide) (pv 0) (pa_cons (pv 3) (pa_cons (pv 4) pa_nil))))))))), ?_⟩
    refine fun d nd => ?_
    have npd : p ≠ d := ne_of_none hp nd
    refine ⟨_, rfl, p, _, dx, _, rfl, (by rw [upd_ne npd]; exact hp), T.cl_Asked, T.na_Asked_terms, (by decide), ?_⟩
    refine ⟨_, rfl, _, rfl, p, _, dx, _, rfl, upd_same, T.cl_Asked, T.na_Asked_total, (by show 1 < 1000; decide), ?_⟩
    rw [upd_upd, askF_mk]
    have c0 : Chg [p] H (upd (upd H d (.dK [])) p (.ins (He.ga K "Asked") dx (askF d (.ref t)))) := (Same.chg (same_upd nd)).trans (chg_upd (by simp))
    generalize hH1 : upd (upd H d (.dK [])) p (.ins (He.ga K "Asked") dx (askF d (.ref t))) = H1 at c0
    have hp1 : H1 p = some (.ins (He.ga K "Asked") dx (askF d (.ref t))) := by rw [← hH1, upd_same]
    have hd1 : H1 d = some (.dK []) := by rw [← hH1, upd_ne npd.symm, upd_same]
    have nlp : l ≠ p := ne_of hl hp (fun z => by cases z)
    have hl1 := c0 _ _ hl (by simpa using nlp)
    have nld : l ≠ d := ne_of_none hl nd
    have rt1 : RatAt K H1 t tot := rat_chg rt c0 (by simpa using rat_ne_new rt hp)
    refine ⟨_, rfl, l, rfl, ⟨_, SqL.of hl1⟩, for_list (K := K) (a := l) (xs := ts.map V.ref) (fun i σ H' => ∃ v4 v5, σ = [some (.ref p), some (.ref l), some (.ref t), v4, v5] ∧ Chg [d] H1 H' ∧ DictAt (RV K H') H' d (initT (ps.take i)))
      ⟨_, _, rfl, Chg.refl _ _, [], hd1, .nil⟩ (fun i σ H' _ ⟨_, _, _, c, _⟩ => SqL.of (c _ _ hl1 (by simpa using nld))) ?_ ?_⟩
    · rintro i y σ H' hi ⟨v4, v5, rfl, c, D⟩
      rw [List.getElem?_map] at hi
      cases hti : ts[i]? with
      | none =>
        rw [hti] at hi
        cases hi
      | some tt =>
        rw [hti] at hi
        have hi : V.ref tt = y := Option.some.inj hi
        subst hi
        obtain ⟨⟨nm, x⟩, hon, a, htt, ra⟩ := LiI.paired_get pts hti
        have ntp : tt ≠ p := ne_of htt hp (fun z => by cases z)
        have ntd : tt ≠ d := ne_of_none htt nd
        have htt' := c _ _ (c0 _ _ htt (by simpa using ntp)) (by simpa using ntd)
        have ra1 : RatAt K H1 a x := rat_chg ra c0 (by simpa using rat_ne_new ra hp)
        have ra' : RatAt K H' a x := rat_chg ra1 c (by simpa using ra1.ne_dict hd1)
        have hp' := c _ _ hp1 (by simpa using npd)
        have e5 : ps.take (i + 1) = ps.take i ++ [(nm, x)] := by
          rw [List.take_succ, hon] <;> rfl
        have hil := (List.getElem?_eq_some_iff.mp hon).1
        refine ⟨tt, _, rfl, SqT.of htt', rfl, _, _, rfl, _, _, rfl, rfl, ?_⟩
        refine ⟨_, rfl, p, dx, _, rfl, hp', askF_no (by decide +kernel) (by decide +kernel), _, rfl, _, rfl, p, dx, d, a, _, nm, _, x, rfl, hp', D, ra', iok.sum i nm, iok.one _ (List.mem_of_getElem? hon), ?_, ?_, fun H4 c4 D4 => ?_⟩
        · have := iok.sum (i + 1) nm
          rw [e5, initT_snoc, cf_add, if_pos rfl] at this
          exact this
        · have h1 := initT_len (a := ps.take i) rfl
          rw [List.length_take] at h1
          have h2 := iok.len
          omega
        · refine ⟨_, _, rfl, c.trans c4, ?_⟩
          rw [e5, initT_snoc]
          exact D4
    · rintro σ H' ⟨v4, v5, rfl, c, D⟩
      have hlen : (ts.map V.ref).length = ps.length := by rw [List.length_map, Paired.length pts]
      rw [hlen, List.take_length] at D
      refine k H' d nd (fun b o e n => c b o (c0 b o e n) ?_) ⟨⟨dx, t, c _ _ hp1 (by simpa using npd), rat_chg rt1 c (by simpa using rt1.ne_dict hd1)⟩, D⟩
      have : b ≠ d := ne_of_none e nd
      simpa using this
theorem mak_Asked_2 (T : Tx K mg) : Mak P w K mg base 6 "Asked" (He.ga K "Asked") (spAskI K) [] := by
  obtain ⟨fd, F⟩ := T.f_Asked_init
  exact ⟨_, fd, _, _, T.mk_Asked, ok_Asked_init F T, T.g_Asked, bi_Asked_init F, .nil⟩
theorem PairsAt.same {H H' : Hp} {l : Addr} {ps : Terms Str} (h : PairsAt K H l ps) (s : Same H H') : PairsAt K H' l ps := by
  obtain ⟨ts, h1, h2⟩ := h
  exact ⟨ts, s _ _ h1, Paired.mapP h2 fun t p ⟨a, e, r⟩ => ⟨a, s _ _ e, r.mono s⟩⟩
/-- a new Asked -/
theorem ask_new {H : Hp} {l t : Addr} {ps : Terms Str} {tot : Rat} {Q : Addr → Hp → Prop} {E : XK} (hl : PairsAt K H l ps) (rt : RatAt K H t tot) (iok : InitOk ps)
    (h : ∀ p d H', Same H H' → H p = none → H d = none → AskAt K H' p d (initT ps, tot) → Q p H') :
    ∀ x dx, H x = none → H dx = none → dx ≠ x → spAskI K [.ref x, .ref l, .ref t] (upd (upd H dx (.own x)) x (.ins (He.ga K "Asked") dx [])) (fun v H2 => v = .non ∧ Q x H2) E := by
  intro x dx nx nd nex
  have s1 : Same H (upd (upd H dx (.own x)) x (.ins (He.ga K "Asked") dx [])) := fun c o e => by
    rw [upd_ne (ne_of_none e nx), upd_ne (ne_of_none e nd)]
    exact e
  refine ⟨x, dx, l, t, ps, tot, rfl, upd_same, hl.same s1, rt.mono s1, iok, fun H' d hd c A => ⟨rfl, h x d H' (fun b o e => c b o (s1 b o e) ?_) nx ?_ A⟩⟩
  · have : b ≠ x := ne_of_none e nx
    simpa using this
  · exact s1.free hd
end
end Ty
set_option Elab.async false
set_option linter.all false
set_option maxRecDepth 100000
set_option maxHeartbeats 4000000
/-! Rows as data; isinstance; wheels_of, arbors_of. -/
namespace Ty
open PySem PySem.Spec PyProof.Rows L2 C8
/-- the kinds of rows -/
inductive Cl where
  | arbor | wheel | mesh | ring | drive | still | hand | count | bell
  deriving DecidableEq
def Cl.nm : Cl → Str
  | .arbor => "Arbor" | .wheel => "Wheel" | .mesh => "Mesh" | .ring => "Ring" | .drive => "Drive" | .still => "Still" | .hand => "Hand" | .count => "Count" | .bell => "Bell"
theorem Cl.mem (c : Cl) : c.nm ∈ rowsL := by
  cases c <;> simp [Cl.nm, rowsL]
theorem Cl.inj (c d : Cl) : decide (c.nm = d.nm) = decide (c = d) := by
  cases c <;> cases d <;> decide +kernel
section
variable {K : PySem.W.Frag} {mg : Str → Option Value}
theorem Tx.ex1 (T : Tx K mg) : PySem.W.specialIn K (.builtin "object.__class__") "__get__" = some (some (.builtin "getset_descriptor.__get__")) ∧ PySem.W.takesIn K (.builtin "object.__class__") = some true ∧
    (∀ c ∈ rowsL, insB K c = true) ∧ (∀ c ∈ rowsL, ∀ d ∈ rowsL, kitB K c d = true) ∧ excB K = true := by
  have e := T.e
  unfold exB at e
  obtain ⟨h1, e⟩ := He.ba e
  obtain ⟨h2, e⟩ := He.ba e
  obtain ⟨h3, e⟩ := He.ba e
  obtain ⟨h4, h5⟩ := He.ba e
  exact ⟨of_decide_eq_true h1, of_decide_eq_true h2, fun c hc => List.all_eq_true.mp h3 c hc, fun c hc d hd => List.all_eq_true.mp (List.all_eq_true.mp h4 c hc) d hd, h5⟩
theorem Tx.kit (T : Tx K mg) (c d : Cl) : PySem.W.kitOne K (.ref (He.ga K c.nm)) (.ref (He.ga K d.nm)) = some (decide (c = d)) := by
  obtain ⟨_, _, _, h, _⟩ := T.ex1
  have := of_decide_eq_true (h _ c.mem _ d.mem)
  rw [this, Cl.inj]
theorem Tx.cl (T : Tx K mg) (c : Cl) : Cls K (He.ga K c.nm) := by
  cases c
  · exact T.cl_Arbor
  · exact T.cl_Wheel
  · exact T.cl_Mesh
  · exact T.cl_Ring
  · exact T.cl_Drive
  · exact T.cl_Still
  · exact T.cl_Hand
  · exact T.cl_Count
  · exact T.cl_Bell
theorem Tx.gc (T : Tx K mg) (c : Cl) : mg c.nm = some (.ref (He.ga K c.nm)) := by
  cases c
  · exact T.g_Arbor
  · exact T.g_Wheel
  · exact T.g_Mesh
  · exact T.g_Ring
  · exact T.g_Drive
  · exact T.g_Still
  · exact T.g_Hand
  · exact T.g_Count
  · exact T.g_Bell
theorem Tx.ty (T : Tx K mg) (c : Cl) {H : Hp} {p dx : Addr} {fs : List (Str × V)} (h : H p = some (.ins (He.ga K c.nm) dx fs)) : TyX K H (.ref p) (.ref (He.ga K c.nm)) := by
  obtain ⟨h1, h2, h3, _, _⟩ := T.ex1
  obtain ⟨h4, h5⟩ := He.ba (h3 _ c.mem)
  exact .base (.ins h (T.cl c) (He.eqO_ok h4) h1 h2 (of_decide_eq_true h5))
end
/-! ### rows as data -/
inductive RowM where
  | arbor (n : Str) | wheel (n a : Str) (t : Int) | mesh (o e : Str) (arm : Option Str) | ring (o e : Str) (arm : Option Str) | drive (a : Str) (r : Rat) | still (a : Str)
  | hand (n a : Str) (b : Option Rat) | count (n a : Str) (t : Int) | bell
def RowM.cl : RowM → Cl
  | .arbor _ => .arbor | .wheel _ _ _ => .wheel | .mesh _ _ _ => .mesh | .ring _ _ _ => .ring | .drive _ _ => .drive | .still _ => .still | .hand _ _ _ => .hand | .count _ _ _ => .count | .bell => .bell
def armV : Option Str → V
  | none => .non
  | some s => .str s
/-- None, or a Ratio -/
def OV (K : PySem.W.Frag) (H : Hp) (v : V) : Option Rat → Prop
  | none => v = .non
  | some q => RV K H v q
theorem OV.mono {K : PySem.W.Frag} {H H' : Hp} {v : V} {o : Option Rat} (h : OV K H v o) (s : Same H H') : OV K H' v o := by
  cases o with
  | none => exact h
  | some q => exact RV.mono h s
/-- the fields of a row, as far as they matter -/
def RowF (K : PySem.W.Frag) (H : Hp) (fs : List (Str × V)) : RowM → Prop
  | .arbor n => ∃ v, fs = ([("way", v), ("name", .str n)] : List (Str × V))
  | .wheel n a t => ∃ v, fs = ([("way", v), ("name", .str n), ("arbor", .str a), ("teeth", .int t)] : List (Str × V))
  | .mesh o e arm => ∃ v, fs = ([("way", v), ("one", .str o), ("other", .str e), ("arm", armV arm)] : List (Str × V))
  | .ring o e arm => ∃ v, fs = ([("way", v), ("one", .str o), ("other", .str e), ("arm", armV arm)] : List (Str × V))
  | .drive a r => ∃ v x, fs = ([("way", v), ("arbor", .str a), ("ratio", x)] : List (Str × V)) ∧ RV K H x r
  | .still a => ∃ v, fs = ([("way", v), ("arbor", .str a)] : List (Str × V))
  | .hand n a b => ∃ v m x, fs = ([("way", v), ("name", .str n), ("arbor", .str a), ("marks", m), ("begin", x)] : List (Str × V)) ∧ OV K H x b
  | .count n a t => ∃ v x, fs = ([("way", v), ("name", .str n), ("arbor", .str a), ("teeth", .int t), ("begin", x)] : List (Str × V))
  | .bell => fs ≠ []
def RowAt (K : PySem.W.Frag) (H : Hp) (p : Addr) (r : RowM) : Prop := ∃ dx fs, H p = some (.ins (He.ga K r.cl.nm) dx fs) ∧ RowF K H fs r
theorem RowAt.mono {K : PySem.W.Frag} {H H' : Hp} {p : Addr} {r : RowM} (h : RowAt K H p r) (s : Same H H') : RowAt K H' p r := by
  obtain ⟨dx, fs, h1, h2⟩ := h
  refine ⟨dx, fs, s _ _ h1, ?_⟩
  cases r with
  | drive a r =>
    obtain ⟨v, x, e, z⟩ := h2
    exact ⟨v, x, e, z.mono s⟩
  | hand n a b =>
    obtain ⟨v, m, x, e, z⟩ := h2
    exact ⟨v, m, x, e, z.mono s⟩
  | _ => exact h2
/-- a list of rows -/
def RowsAt (K : PySem.W.Frag) (H : Hp) (a : Addr) (rs : List RowM) : Prop := ∃ ps : List Addr, H a = some (.lst (ps.map V.ref)) ∧ Paired (RowAt K H) ps rs
theorem RowsAt.mono {K : PySem.W.Frag} {H H' : Hp} {a : Addr} {rs : List RowM} (h : RowsAt K H a rs) (s : Same H H') : RowsAt K H' a rs := by
  obtain ⟨ps, h1, h2⟩ := h
  exact ⟨ps, s _ _ h1, Paired.mapP h2 fun _ _ z => z.mono s⟩
theorem paired_nth {α β : Type} {F : α → β → Prop} {xs : List α} {ys : List β} (h : Paired F xs ys) {i : Nat} {x : α} (e : xs[i]? = some x) : ∃ y, ys[i]? = some y ∧ F x y := LiI.paired_get h e
/-- the i-th of a list of objects -/
theorem ref_nth {ps : List Addr} {i : Nat} {x : V} (h : (ps.map V.ref)[i]? = some x) : ∃ p, ps[i]? = some p ∧ x = .ref p := by
  rw [List.getElem?_map] at h
  cases e : ps[i]? with
  | none =>
    rw [e] at h
    cases h
  | some p =>
    rw [e] at h
    exact ⟨p, rfl, (Option.some.inj h).symm⟩
theorem take_snoc {α : Type} {l : List α} {i : Nat} {x : α} (h : l[i]? = some x) : l.take (i + 1) = l.take i ++ [x] := by
  rw [List.take_succ, h] <;> rfl
/-! ### wheels_of, arbors_of -/
/-- a wheel's row -/
def WhR (K : PySem.W.Frag) (H : Hp) (v : V) (w : Str × Int) : Prop := ∃ p n, v = .ref p ∧ RowAt K H p (.wheel n w.1 w.2)
theorem WhR.mono {K : PySem.W.Frag} {H H' : Hp} {v : V} {w : Str × Int} (h : WhR K H v w) (s : Same H H') : WhR K H' v w := by
  obtain ⟨p, n, e, r⟩ := h
  exact ⟨p, n, e, r.mono s⟩
def wheelP : RowM → Option (Str × (Str × Int))
  | .wheel n a t => some (n, (a, t))
  | _ => none
def wheelsM (rs : List RowM) : List (Str × (Str × Int)) := (rs.filterMap wheelP).foldl (fun acc p => putT acc p.1 p.2) []
def arborP : RowM → Option Str
  | .arbor n => some n
  | _ => none
def arborsM (rs : List RowM) : List Str := rs.filterMap arborP
theorem filterMap_snoc {α β : Type} {f : α → Option β} {l : List α} {x : α} : (l ++ [x]).filterMap f = l.filterMap f ++ (match f x with | some y => [y] | none => []) := by
  rw [List.filterMap_append]
  congr 1
  cases h : f x with
  | none => simp [h]
  | some y => simp [h]
theorem l_name_way : ¬ (("name" : Str) = "way") := by decide +kernel
theorem merge_dp {β : Type} {R : V → β → Prop} : ∀ {kvs : List (Key × V)} {l : List (Str × β)} {acc : List (Key × V)} {m : List (Str × β)}, DP R kvs l → DP R acc m → DP R (mergeK acc kvs) (l.foldl (fun a p => putT a p.1 p.2) m) := by
  intro kvs l acc m h
  induction h generalizing acc m with
  | nil => exact fun z => z
  | @cons p q ps qs r t ih =>
    intro z
    show DP R (mergeK (putK acc p.1 p.2) ps) (qs.foldl _ (putT m q.1 q.2))
    refine ih ?_
    rw [r.1]
    exact z.put r.2
def spWheels (K : PySem.W.Frag) : Sp := fun vs H Q _ => ∃ (a : Addr) (rs : List RowM), vs = [.ref a] ∧ RowsAt K H a rs ∧ rs.length ≤ 1000 ∧ ∀ d H', Same H H' → DictAt (WhR K H') H' d (wheelsM rs) → Q (.ref d) H'
def spArbors (K : PySem.W.Frag) : Sp := fun vs H Q _ => ∃ (a : Addr) (rs : List RowM), vs = [.ref a] ∧ RowsAt K H a rs ∧ rs.length ≤ 1000 ∧ ∀ d H', Same H H' → H' d = some (.lst ((arborsM rs).map V.str)) → Q (.ref d) H'
/-- a class of the text as a value -/
theorem pe_cls {X : Cx} {x : Str} {a : Addr} {pos : Pos} (hg : Gl X x) (h : X.mg x = some (.ref a)) (hd : (x == ("__debug__" : Str)) = false := by decide) : PE X (.Name x pos) (tC (.ref a)) := pe_glob hg h rfl hd
section
variable {P : Program} {w : World} {K : PySem.W.Frag} {mg : Str → Option Value} {base : Heap} {fd : FuncData}
theorem sc_Darbors_of : FnScope ["rows", "row"] ["rows"] (defScope sDarbors_of) := C8.fnScope_by (by decide +kernel)
theorem ok_arbors_of (F : FDarbors_of K fd) (T : Tx K mg) : FnOk P w K mg base C8.CX0 1 (He.ga K "arbors_of") fd ["rows"] (spArbors K) := by
  refine FunD.ok F sc_Darbors_of (fun vs H Q E h => ?_) (fun cdv A outer s H vs Q E hr h => ?_)
  · obtain ⟨_, _, rfl, _⟩ := h
    rfl
  · obtain ⟨a, rs, rfl, ⟨ps, ha, pr⟩, hlen, k⟩ := h
    refine ⟨_, PSs.nox (pss_one (ps_ret (pe_lc (own := [("row", 1)]) (g := gName 1) (tt := (tB (tCB (rIsi K) (tCons (tVar 1) (tCons (tC (.ref (He.ga K "Arbor"))) tNil))))) (te := (tFld K (tVar 1) "name")) (by rfl) sc_Darbors_of.nd (pi_list (pv 0)) (blkOk_by (N := ["rows", "row"]) (sc := defScope sDarbors_of) (by decide +kernel)) (fun _ _ _ _ _ => pg_name (i := 1) sc_Darbors_of.nd rfl (Or.inl rfl)) (fun _ _ _ _ _ => pts_one (pt_val (pe_callB call_isi (by rfl) T.b_isinstance (by decide +kernel) (pa_cons (pv 1) (pa_cons (pe_cls rfl T.g_Arbor) pa_nil))))) (fun _ _ _ _ _ => (pe_fld (pv 1) rfl))))), ?_⟩
    refine ⟨_, rfl, a, rfl, ⟨_, SqL.of ha⟩, fun D nD => ?_⟩
    refine lc_list (K := K) (a := a) (xs := ps.map V.ref) (fun i H' => Same H H' ∧ H' D = some (.lst ((arborsM (rs.take i)).map V.str))) ?_ ?_ ?_ ?_
    · exact ⟨same_upd nD, upd_same⟩
    · rintro i H' _ ⟨s2, _⟩
      exact SqL.of (s2 _ _ ha)
    · rintro i x H' hi ⟨s2, hD⟩
      obtain ⟨p, hp, rfl⟩ := ref_nth hi
      obtain ⟨r, hri, hr0⟩ := paired_nth pr hp
      obtain ⟨dx, fs, h1, h2⟩ := hr0.mono s2
      have et := take_snoc hri
      have hsz : (rs.take i).length ≤ 1000 := Nat.le_trans (List.length_take_le' _ _) hlen
      refine ⟨rfl, ?_⟩
      refine ⟨_, rfl, _, _, _, _, _, rfl, .own _, T.ty _ h1, T.kit r.cl .arbor, _, rfl, ?_⟩
      cases r with
      | arbor n =>
        obtain ⟨v, rfl⟩ := h2
        refine ⟨_, rfl, p, _, _, _, _, rfl, h1, T.cl_Arbor, T.na_Arbor_name, look2 l_name_way, _, hD, ?_, Same.upd s2 nD, ?_⟩
        · rw [List.length_map]
          exact Nat.lt_of_le_of_lt (Nat.le_trans (List.length_filterMap_le _ _) hsz) (by decide)
        · rw [upd_same, et]
          unfold arborsM
          rw [filterMap_snoc, List.map_append] <;> rfl
      | _ =>
        refine ⟨s2, ?_⟩
        rw [hD, et]
        unfold arborsM
        rw [filterMap_snoc]
        show _ = some (HO.lst ((_ ++ []).map V.str))
        rw [List.append_nil]
    · rintro H' ⟨s1, hD⟩
      have hl : (ps.map V.ref).length = rs.length := by rw [List.length_map, Paired.length pr]
      rw [hl, List.take_length] at hD
      exact k D H' s1 hD
theorem cal_arbors_of (T : Tx K mg) : Cal P w K mg base 1 "arbors_of" (spArbors K) [] := by
  obtain ⟨fd, F⟩ := T.f_Darbors_of
  exact ⟨_, fd, _, _, ok_arbors_of F T, T.g_arbors_of, F.kp, bi_Darbors_of F, .nil⟩
theorem sc_Dwheels_of : FnScope ["rows", "row"] ["rows"] (defScope sDwheels_of) := C8.fnScope_by (by decide +kernel)
theorem ok_wheels_of (F : FDwheels_of K fd) (T : Tx K mg) : FnOk P w K mg base C8.CX0 1 (He.ga K "wheels_of") fd ["rows"] (spWheels K) := by
  refine FunD.ok F sc_Dwheels_of (fun vs H Q E h => ?_) (fun cdv A outer s H vs Q E hr h => ?_)
  · obtain ⟨_, _, rfl, _⟩ := h
    rfl
  · obtain ⟨a, rs, rfl, ⟨ps, ha, pr⟩, hlen, k⟩ := h
    refine ⟨_, PSs.nox (pss_one (ps_ret (pe_callTy (call_dictP rfl) (by rfl) T.b_dict (by decide +kernel) (pa_cons (pe_lc (own := [("row", 1)]) (g := gName 1) (tt := (tB (tCB (rIsi K) (tCons (tVar 1) (tCons (tC (.ref (He.ga K "Wheel"))) tNil))))) (te := (tTup (tCons (tFld K (tVar 1) "name") (tCons (tVar 1) tNil)))) (by rfl) sc_Dwheels_of.nd (pi_list (pv 0)) (blkOk_by (N := ["rows", "row"]) (sc := defScope sDwheels_of) (by decide +kernel)) (fun _ _ _ _ _ => pg_name (i := 1) sc_Dwheels_of.nd rfl (Or.inl rfl)) (fun _ _ _ _ _ => pts_one (pt_val (pe_callB call_isi (by rfl) T.b_isinstance (by decide +kernel) (pa_cons (pv 1) (pa_cons (pe_cls rfl T.g_Wheel) pa_nil))))) (fun _ _ _ _ _ => (pe_tup (pa_cons (pe_fld (pv 1) rfl) (pa_cons (pv 1) pa_nil))))) pa_nil)))), ?_⟩
    refine ⟨_, rfl, a, rfl, ⟨_, SqL.of ha⟩, fun D nD => ?_⟩
    refine lc_list (K := K) (a := a) (xs := ps.map V.ref) (fun i H' => Same H H' ∧ ∃ (ts : List Addr) (kvs : List (Key × V)), H' D = some (.lst (ts.map V.ref)) ∧ Paired (fun t kv => H' t = some (.tup [kV kv.1, kv.2])) ts kvs ∧
      DP (WhR K H') kvs ((rs.take i).filterMap wheelP)) ?_ ?_ ?_ ?_
    · exact ⟨same_upd nD, [], [], upd_same, .nil, .nil⟩
    · rintro i H' _ ⟨s1, _⟩
      exact SqL.of (s1 _ _ ha)
    · rintro i x H' hi ⟨s2, ts, kvs, hD, pt, dp⟩
      obtain ⟨p, hp, rfl⟩ := ref_nth hi
      obtain ⟨r, hri, hr0⟩ := paired_nth pr hp
      have hr1 := hr0.mono s2
      obtain ⟨dx, fs, h1, h2⟩ := id hr1
      have et := take_snoc hri
      have hsz : (rs.take i).length ≤ 1000 := Nat.le_trans (List.length_take_le' _ _) hlen
      refine ⟨rfl, ?_⟩
      refine ⟨_, rfl, _, _, _, _, _, rfl, .own _, T.ty _ h1, T.kit r.cl .wheel, _, rfl, ?_⟩
      cases r with
      | wheel n ar t =>
        obtain ⟨v, rfl⟩ := h2
        refine ⟨_, rfl, p, _, _, _, _, rfl, h1, T.cl_Wheel, T.na_Wheel_name, (by rw [lookC l_name_way]; exact look1), _, rfl, (by show 2 ≤ sizeLine; decide), fun tp ntp => ?_⟩
        have s3 : Same H' (upd H' tp (.tup [.str n, .ref p])) := same_upd ntp
        have nDt : D ≠ tp := ne_of_none hD ntp
        refine ⟨_, s3 _ _ hD, ?_, ?_⟩
        · rw [List.length_map, Paired.length pt, dp.len]
          exact Nat.lt_of_le_of_lt (Nat.le_trans (List.length_filterMap_le _ _) hsz) (by decide)
        · generalize hH3 : upd H' tp (.tup [.str n, .ref p]) = H3 at s3
          have htp : H3 tp = some (.tup [.str n, .ref p]) := by rw [← hH3, upd_same]
          have s23 : Same H H3 := Same.trans s2 s3
          have c : Chg [D] H3 (upd H3 D (.lst (ts.map V.ref ++ [V.ref tp]))) := chg_upd (by simp)
          refine ⟨Same.upd s23 nD, ts ++ [tp], kvs ++ [(.inr n, .ref p)], ?_, ?_, ?_⟩
          · rw [upd_same, List.map_append] <;> rfl
          · refine Paired.snoc (Paired.mapP pt fun t kv e => ?_) ?_
            · have h3 := s3 _ _ e
              have h4 := s3 _ _ hD
              exact c _ _ h3 (by simpa using ne_of h3 h4 (fun z => by cases z))
            · exact c _ _ htp (by simpa using nDt.symm)
          · rw [et, filterMap_snoc]
            refine Paired.snoc (DP.mono dp fun v z hz => ?_) ⟨rfl, p, n, rfl, hr0.mono (Same.upd s23 nD)⟩
            obtain ⟨q, m, e, dx2, fs2, q1, q2⟩ := hz
            have q3 := s3 _ _ q1
            exact ⟨q, m, e, dx2, fs2, c _ _ q3 (by simpa using ne_of q3 (s3 _ _ hD) (fun z => by cases z)), q2⟩
      | _ =>
        refine ⟨s2, ts, kvs, hD, pt, ?_⟩
        rw [et, filterMap_snoc]
        show DP _ kvs (_ ++ [])
        rw [List.append_nil]
        exact dp
    · rintro H' ⟨s1, ts, kvs, hD, pt, dp⟩
      have hl : (ps.map V.ref).length = rs.length := by rw [List.length_map, Paired.length pr]
      rw [hl, List.take_length] at dp
      refine ⟨D, ts, kvs, rfl, SqL.of hD, Paired.mapP pt fun _ _ e => SqT.of e, fun d nd => ?_⟩
      have s4 : Same H' (upd H' d (.dK (mergeK [] kvs))) := same_upd nd
      exact k d _ (Same.trans s1 s4) ⟨_, upd_same, merge_dp (DP.mono dp fun v z hz => hz.mono s4) .nil⟩
theorem cal_wheels_of (T : Tx K mg) : Cal P w K mg base 1 "wheels_of" (spWheels K) [] := by
  obtain ⟨fd, F⟩ := T.f_Dwheels_of
  exact ⟨_, fd, _, _, ok_wheels_of F T, T.g_wheels_of, F.kp, bi_Dwheels_of F, .nil⟩
end
end Ty
set_option Elab.async false
set_option linter.all false
set_option maxRecDepth 100000
set_option maxHeartbeats 4000000
/-! What rows ask: asked_by_wheels, asked_by, all_asked. -/
namespace Ty
open PySem PySem.Spec PyProof.Rows L2 C8
/-! ### all but lists stays -/
def NL (H H' : Hp) : Prop := ∀ b o, H b = some o → (∀ ys, o ≠ .lst ys) → H' b = some o
theorem Same.nl {H H' : Hp} (s : Same H H') : NL H H' := fun b o e _ => s b o e
theorem NL.trans {H H1 H2 : Hp} (a : NL H H1) (b : NL H1 H2) : NL H H2 := fun c o e n => b c o (a c o e n) n
theorem nl_upd {H : Hp} {a : Addr} {xs : List V} {o : HO} (h : H a = some (.lst xs)) : NL H (upd H a o) := fun b u e n => by
  have : b ≠ a := fun z => by
    rw [z, h] at e
    exact n xs (Option.some.inj e).symm
  rw [upd_ne this]
  exact e
section
variable {K : PySem.W.Frag} {H H' : Hp} {p d a : Addr} {q : Rat} {v : V}
theorem RatAt.nl (r : RatAt K H a q) (c : NL H H') : RatAt K H' a q := by
  obtain ⟨dx, e⟩ := r
  exact ⟨dx, c _ _ e fun _ z => by cases z⟩
theorem RV.nl (r : RV K H v q) (c : NL H H') : RV K H' v q := by
  obtain ⟨a, e, r⟩ := r
  exact ⟨a, e, r.nl c⟩
theorem OV.nl {o : Option Rat} (r : OV K H v o) (c : NL H H') : OV K H' v o := by
  cases o with
  | none => exact r
  | some q => exact RV.nl r c
theorem RowAt.nl {r : RowM} (h : RowAt K H p r) (c : NL H H') : RowAt K H' p r := by
  obtain ⟨dx, fs, h1, h2⟩ := h
  refine ⟨dx, fs, c _ _ h1 (fun _ z => by cases z), ?_⟩
  cases r with
  | drive a r =>
    obtain ⟨v, x, e, z⟩ := h2
    exact ⟨v, x, e, z.nl c⟩
  | hand n a b =>
    obtain ⟨v, m, x, e, z⟩ := h2
    exact ⟨v, m, x, e, z.nl c⟩
  | _ => exact h2
theorem WhR.nl {w : Str × Int} (h : WhR K H v w) (c : NL H H') : WhR K H' v w := by
  obtain ⟨p, n, e, r⟩ := h
  exact ⟨p, n, e, r.nl c⟩
theorem DictAt.nl {β : Type} {R R' : V → β → Prop} {l : List (Str × β)} (h : DictAt R H d l) (c : NL H H') (f : ∀ v x, R v x → R' v x) : DictAt R' H' d l := by
  obtain ⟨kvs, h1, h2⟩ := h
  exact ⟨kvs, c _ _ h1 (fun _ z => by cases z), h2.mono f⟩
theorem AskAt.nl {r : Rw Str} (h : AskAt K H p d r) (c : NL H H') : AskAt K H' p d r := by
  obtain ⟨⟨dx, t, h1, h2⟩, D⟩ := h
  exact ⟨⟨dx, t, c _ _ h1 (fun _ z => by cases z), h2.nl c⟩, D.nl c fun v x r => r.nl c⟩
end
/-! ### sums of whole numbers -/
theorem init_whole {B : Nat} : ∀ {k : Nat} {a : Terms Str}, a.length = k → (∀ p ∈ a, ∃ z : Int, p.2 = (z : Rat) ∧ z.natAbs ≤ B) → ∀ n, ∃ z : Int, cf (initT a) n = (z : Rat) ∧ z.natAbs ≤ k * B := by
  intro k
  induction k with
  | zero =>
    intro a h _ n
    rw [List.length_eq_zero_iff.mp h]
    exact ⟨0, rfl, by simp⟩
  | succ k ih =>
    intro a h hz n
    obtain ⟨b, p, rfl⟩ : ∃ b p, a = b ++ [p] := ⟨a.dropLast, a.getLast (by intro z; rw [z] at h; cases h), (List.dropLast_concat_getLast _).symm⟩
    obtain ⟨z1, e1, h1⟩ := ih (a := b) (by simpa using h) (fun q hq => hz q (List.mem_append_left _ hq)) n
    obtain ⟨z2, e2, h2⟩ := hz p (by simp)
    rw [initT_snoc, cf_add, e1, e2]
    by_cases e : n = p.1
    · rw [if_pos e]
      refine ⟨z1 + z2, (Rat.intCast_add z1 z2).symm, ?_⟩
      rw [Nat.add_mul, Nat.one_mul]
      omega
    · rw [if_neg e, Rat.add_zero]
      refine ⟨z1, rfl, ?_⟩
      rw [Nat.add_mul, Nat.one_mul]
      omega
theorem ok_whole {z : Int} {k : Nat} (h : z.natAbs ≤ k) (hk : k < 2 ^ 20) : Ok (z : Rat) := bd_int (by decide) (Nat.lt_of_le_of_lt h (Nat.lt_of_lt_of_le hk (pow_le (by decide))))
theorem init_ok {a : Terms Str} (hl : a.length ≤ 3) (hz : ∀ p ∈ a, ∃ z : Int, p.2 = (z : Rat) ∧ z.natAbs ≤ 4000) : InitOk a := by
  refine ⟨fun p hp => ?_, fun i n => ?_, by omega⟩
  · obtain ⟨z, e, h⟩ := hz p hp
    rw [e]
    exact ok_whole h (by decide)
  · obtain ⟨z, e, h⟩ := init_whole (B := 4000) (a := a.take i) rfl (fun p hp => hz p (List.mem_of_mem_take hp)) n
    rw [e]
    refine ok_whole (k := 12000) ?_ (by decide)
    have : (a.take i).length ≤ 3 := Nat.le_trans (List.length_take_le' _ _) hl
    have := Nat.mul_le_mul_right 4000 this
    omega
/-! ### two wheels -/
def wterms (a1 : Str) (t1 : Int) (a2 : Str) (u : Int) : Option Str → Terms Str
  | none => [(a1, (t1 : Rat)), (a2, (u : Rat))]
  | some s => [(a1, (t1 : Rat)), (a2, (u : Rat)), (s, ((-t1 - u : Int) : Rat))]
theorem wterms_ok {a1 a2 : Str} {t1 u : Int} {arm : Option Str} (h1 : t1.natAbs ≤ 1000) (h2 : u.natAbs ≤ 1000) : InitOk (wterms a1 t1 a2 u arm) := by
  cases arm with
  | none =>
    refine init_ok (by show 2 ≤ 3; decide) fun p hp => ?_
    have : p = (a1, (t1 : Rat)) ∨ p = (a2, (u : Rat)) := by simpa [wterms] using hp
    rcases this with rfl | rfl
    · exact ⟨t1, rfl, by omega⟩
    · exact ⟨u, rfl, by omega⟩
  | some s =>
    refine init_ok (by show 3 ≤ 3; decide) fun p hp => ?_
    have : p = (a1, (t1 : Rat)) ∨ p = (a2, (u : Rat)) ∨ p = (s, ((-t1 - u : Int) : Rat)) := by simpa [wterms] using hp
    rcases this with rfl | rfl | rfl
    · exact ⟨t1, rfl, by omega⟩
    · exact ⟨u, rfl, by omega⟩
    · exact ⟨-t1 - u, rfl, by omega⟩
def spABW (K : PySem.W.Frag) : Sp := fun vs H Q _ => ∃ (p1 tp p2 : Addr) (n1 a1 n2 a2 : Str) (t1 t2 u : Int) (arm : Option Str), vs = [.ref p1, .ref tp, armV arm] ∧ RowAt K H p1 (.wheel n1 a1 t1) ∧ H tp = some (.tup [.ref p2, .int u]) ∧ RowAt K H p2 (.wheel n2 a2 t2) ∧
  t1.natAbs ≤ 1000 ∧ u.natAbs ≤ 1000 ∧ ∀ p d H', Same H H' → H p = none → H d = none → AskAt K H' p d (initT (wterms a1 t1 a2 u arm), 0) → Q (.ref p) H'
section
variable {P : Program} {w : World} {K : PySem.W.Frag} {mg : Str → Option Value} {base : Heap} {fd : FuncData}
theorem b8 {z : Int} (h : z.natAbs ≤ 2000) : z.natAbs < 2 ^ 8000 := Nat.lt_of_le_of_lt h (Nat.lt_of_lt_of_le (show 2000 < 2 ^ 11 by decide) (pow_le (by decide)))
theorem sc_Dasked_by_wheels : FnScope ["one", "other", "arm", "terms"] ["one", "other", "arm"] (defScope sDasked_by_wheels) := C8.fnScope_by (by decide +kernel)
theorem ok_asked_by_wheels (F : FDasked_by_wheels K fd) (T : Tx K mg) : FnOk P w K mg base C8.CX0 8 (He.ga K "asked_by_wheels") fd ["one", "other", "arm"] (spABW K) := by
  refine FunD.ok F sc_Dasked_by_wheels (fun vs H Q E h => ?_) (fun cdv A outer s H vs Q E hr h => ?_)
  · obtain ⟨_, _, _, _, _, _, _, _, _, _, _, rfl, _⟩ := h
    rfl
  · obtain ⟨p1, tp, p2, n1, a1, n2, a2, t1, t2, u, arm, rfl, w1, htp, w2, b1, b2, k⟩ := h
    obtain ⟨dx1, _, h1, v1, rfl⟩ := id w1
    obtain ⟨dx2, _, h2, v2, rfl⟩ := id w2
    refine ⟨_, PSs.nox (pss_cons (ps_set (i := 3) sc_Dasked_by_wheels.nd rfl (Or.inl rfl) (pe_lst (pa_cons (pe_tup (pa_cons (pe_fld (pv 0) rfl) (pa_cons (pe_mk (mak_Ratio_1 T) hr (by decide) rfl (pa_cons (pe_fld (pv 0) rfl) pa_nil)) pa_nil))) (pa_cons (pe_tup (pa_cons (pe_fld (pe_ix ix_tup (pv 1) pe_int (fun _ _ => rfl)) rfl) (pa_cons (pe_mk (mak_Ratio_1 T) hr (by decide) rfl (pa_cons (pe_ix ix_tup (pv 1) pe_int (fun _ _ => rfl)) pa_nil)) pa_nil))) pa_nil)))) (pss_cons (ps_if (pt_cmp (pc_notN (pv 2))) (pss_one (ps_expr (pe_bm PySem.F.plainAttrs_list PySem.F.slot_list_append PySem.F.type_list_append mt_append (pv 3) (pa_cons (pe_tup (pa_cons (pv 2) (pa_cons (pe_mk (mak_Ratio_1 T) hr (by decide) rfl (pa_cons (pe_op op_sub (pe_un un_neg (pe_fld (pv 0) rfl)) (pe_ix ix_tup (pv 1) pe_int (fun _ _ => rfl))) pa_nil)) pa_nil))) pa_nil)))) pss_nil) (pss_one (ps_ret (pe_mk (mak_Asked_2 T) hr (by decide) rfl (pa_cons (pv 3) (pa_cons (pe_mk (mak_Ratio_1 T) hr (by decide) rfl (pa_cons pe_int pa_nil)) pa_nil))))))), ?_⟩
    refine ⟨_, rfl, p1, _, _, _, _, rfl, h1, T.cl_Wheel, T.na_Wheel_arbor, lk_Wheel_arbor, _, rfl, p1, _, _, _, _, rfl, h1, T.cl_Wheel, T.na_Wheel_teeth, lk_Wheel_teeth, ?_⟩
    refine rat_new (by decide) (b8 (by omega)) o8 fun r1 H1 s1 R1 => ?_
    refine ⟨(by show 2 ≤ sizeLine; decide), fun e1 n1 => ?_⟩
    have s2 : Same H1 (upd H1 e1 (.tup [.str a1, .ref r1])) := same_upd n1
    generalize hH2 : upd H1 e1 (.tup [.str a1, .ref r1]) = H2 at s2
    have he1 : H2 e1 = some (.tup [.str a1, .ref r1]) := by rw [← hH2, upd_same]
    have s02 : Same H H2 := Same.trans s1 s2
    refine ⟨_, rfl, tp, _, 0, .ref p2, rfl, rfl, SqT.of (s02 _ _ htp), at_of (j := 0) rfl rfl, p2, _, _, _, _, rfl, s02 _ _ h2, T.cl_Wheel, T.na_Wheel_arbor, lk_Wheel_arbor, _, rfl, tp, _, 1, .int u, rfl, rfl, SqT.of (s02 _ _ htp), at_of (j := 1) rfl rfl, ?_⟩
    refine rat_new (by decide) (b8 (by omega)) o8 fun r2 H3 s3 R2 => ?_
    refine ⟨(by show 2 ≤ sizeLine; decide), fun e2 n2 => ?_⟩
    have s4 : Same H3 (upd H3 e2 (.tup [.str a2, .ref r2])) := same_upd n2
    generalize hH4 : upd H3 e2 (.tup [.str a2, .ref r2]) = H4 at s4
    have he2 : H4 e2 = some (.tup [.str a2, .ref r2]) := by rw [← hH4, upd_same]
    have s24 : Same H2 H4 := Same.trans s3 s4
    refine ⟨(by show 2 ≤ sizeLine; decide), fun L nL => ?_⟩
    have s5 : Same H4 (upd H4 L (.lst [.ref e1, .ref e2])) := same_upd nL
    generalize hH5 : upd H4 L (.lst [.ref e1, .ref e2]) = H5 at s5
    have hL : H5 L = some (.lst [.ref e1, .ref e2]) := by rw [← hH5, upd_same]
    have s04 : Same H H4 := Same.trans s02 s24
    have s05 : Same H H5 := Same.trans s04 s5
    have he1' := s5 _ _ (s24 _ _ he1)
    have he2' := s5 _ _ he2
    have R1' : RatAt K H5 r1 (t1 : Rat) := by
      rw [← rq_int]
      exact ((R1.mono s2).mono s24).mono s5
    have R2' : RatAt K H5 r2 (u : Rat) := by
      rw [← rq_int]
      exact (R2.mono s4).mono s5
    have nLH : H L = none := s04.free nL
    have fin : ∀ (H6 : Hp) (v3 : V), Same H H6 → PairsAt K H6 L (wterms a1 t1 a2 u arm) →
        tRet (tMake (He.ga K "Asked") (spAskI K) [] C8.E0 (tCons (tVar 3) (tCons (tMake (He.ga K "Ratio") (spRatioI K) [V.int 1] C8.E0 (tCons (tC (.int 0)) tNil)) tNil))) { nx := fun _ H' => Q .non H', rt := Q } [some (.ref p1), some (.ref tp), some (armV arm), some (.ref L)] H6 := by
      intro H6 v3 s6 hP
      refine ⟨_, rfl, ?_⟩
      refine rat_new (by decide) z8 o8 fun r0 H7 s7 R0 => ?_
      refine ask_new (hP.same s7) R0 (wterms_ok b1 b2) fun p d H8 s8 np nd A => ?_
      have s08 : Same H H7 := Same.trans s6 s7
      exact k p d H8 (Same.trans s08 s8) (s08.free np) (s08.free nd) A
    cases arm with
    | none =>
      refine ⟨_, rfl, _, rfl, ?_⟩
      refine ite2 (fun h => ?_) (fun _ => ?_)
      · have h : (!decide (V.non = V.non)) = true := h
        simp at h
      exact fin H5 .non s05 ⟨[e1, e2], hL, .cons ⟨r1, he1', R1'⟩ (.cons ⟨r2, he2', R2'⟩ .nil)⟩
    | some sarm =>
      refine ⟨_, rfl, _, rfl, ?_⟩
      refine ite2 (fun _ => ?_) (fun h => absurd (show (!decide (V.str sarm = V.non)) = true by simp) h)
      refine ⟨_, rfl, .inl ⟨rfl, _, SqL.of hL⟩, _, rfl, _, rfl, p1, _, _, _, _, rfl, s05 _ _ h1, T.cl_Wheel, T.na_Wheel_teeth, lk_Wheel_teeth, _, rfl, _, rfl, tp, _, 1, .int u, rfl, rfl, SqT.of (s05 _ _ htp), at_of (j := 1) rfl rfl, _, _, rfl, rfl, ?_⟩
      refine rat_new (by decide) (b8 (by omega)) o8 fun r3 H6 s6 R3 => ?_
      refine ⟨(by show 2 ≤ sizeLine; decide), fun e3 n3 => ?_⟩
      have s7 : Same H6 (upd H6 e3 (.tup [armV (some sarm), .ref r3])) := same_upd n3
      generalize hH7 : upd H6 e3 (.tup [armV (some sarm), .ref r3]) = H7 at s7
      have he3 : H7 e3 = some (.tup [.str sarm, .ref r3]) := by rw [← hH7, upd_same] <;> rfl
      have s57 : Same H5 H7 := Same.trans s6 s7
      refine ⟨L, _, _, rfl, rfl, s57 _ _ hL, (by show 2 < sizeLine; decide), ?_⟩
      have c : NL H7 (upd H7 L (.lst ([.ref e1, .ref e2] ++ [.ref e3]))) := nl_upd (s57 _ _ hL)
      have s07 : Same H H7 := Same.trans s05 s57
      refine fin _ .non (Same.upd s07 nLH) ⟨[e1, e2, e3], upd_same, .cons ⟨r1, c _ _ (s57 _ _ he1') (fun _ z => by cases z), (R1'.mono s57).nl c⟩ (.cons ⟨r2, c _ _ (s57 _ _ he2') (fun _ z => by cases z), (R2'.mono s57).nl c⟩ (.cons ⟨r3, c _ _ he3 (fun _ z => by cases z), ?_⟩ .nil))⟩
      show RatAt K _ r3 ((-t1 - u : Int) : Rat)
      rw [← rq_int]
      exact (R3.mono s7).nl c
theorem cal_asked_by_wheels (T : Tx K mg) : Cal P w K mg base 8 "asked_by_wheels" (spABW K) [] := by
  obtain ⟨fd, F⟩ := T.f_Dasked_by_wheels
  exact ⟨_, fd, _, _, ok_asked_by_wheels F T, T.g_asked_by_wheels, F.kp, bi_Dasked_by_wheels F, .nil⟩
end
end Ty
set_option Elab.async false
set_option linter.all false
set_option maxRecDepth 100000
set_option maxHeartbeats 4000000
/-! asked_by, all_asked. -/
namespace Ty
open PySem PySem.Spec PyProof.Rows L2 C8
abbrev Whs := List (Str × (Str × Int))
/-- what a row asks -/
def askM (ws : Whs) : RowM → Option (Rw Str)
  | .mesh o e arm => match getT ws o, getT ws e with
    | some w1, some w2 => some (initT (wterms w1.1 w1.2 w2.1 w2.2 arm), 0)
    | _, _ => none
  | .ring o e arm => match getT ws o, getT ws e with
    | some w1, some w2 => some (initT (wterms w1.1 w1.2 w2.1 (-w2.2) arm), 0)
    | _, _ => none
  | .drive a r => some (own a r)
  | .still a => some (own a 0)
  | _ => none
def RowOk (ws : Whs) : RowM → Prop
  | .mesh o e _ => ∃ w1 w2, getT ws o = some w1 ∧ getT ws e = some w2 ∧ w1.2.natAbs ≤ 1000 ∧ w2.2.natAbs ≤ 1000
  | .ring o e _ => ∃ w1 w2, getT ws o = some w1 ∧ getT ws e = some w2 ∧ w1.2.natAbs ≤ 1000 ∧ w2.2.natAbs ≤ 1000
  | .drive _ r => Ok r
  | _ => True
theorem init_own (a : Str) : initT [(a, 1)] = [(a, 1)] := by
  show addT [] a 1 = _
  unfold addT
  have h : cf ([] : Terms Str) a + 1 = 1 := by
    show (0 : Rat) + 1 = 1
    exact Rat.zero_add 1
  rw [h, if_neg (by decide), putT_new (by simp)] <;> rfl
theorem own_ok (a : Str) : InitOk [(a, 1)] := init_ok (by show 1 ≤ 3; decide) fun p hp => by
  have : p = (a, 1) := by simpa using hp
  rw [this]
  exact ⟨1, rfl, by decide⟩
def spAskedBy (K : PySem.W.Frag) : Sp := fun vs H Q _ => ∃ (p wd : Addr) (r : RowM) (ws : Whs), vs = [.ref p, .ref wd] ∧ RowAt K H p r ∧ DictAt (WhR K H) H wd ws ∧ RowOk ws r ∧ (askM ws r = none → Q .non H) ∧
  ∀ rw, askM ws r = some rw → ∀ q d H', Same H H' → H q = none → H d = none → AskAt K H' q d rw → Q (.ref q) H'
section
variable {P : Program} {w : World} {K : PySem.W.Frag} {mg : Str → Option Value} {base : Heap} {fd : FuncData}
theorem sc_Dasked_by : FnScope ["row", "wheels", "other"] ["row", "wheels"] (defScope sDasked_by) := C8.fnScope_by (by decide +kernel)
theorem ok_asked_by (F : FDasked_by K fd) (T : Tx K mg) : FnOk P w K mg base C8.CX0 9 (He.ga K "asked_by") fd ["row", "wheels"] (spAskedBy K) := by
  refine FunD.ok F sc_Dasked_by (fun vs H Q E h => ?_) (fun cdv A outer s H vs Q E hr h => ?_)
  · obtain ⟨_, _, _, _, rfl, _⟩ := h
    rfl
  · obtain ⟨p, wd, r, ws, rfl, hrow, ⟨kvs, hd, dp⟩, rok, k0, k1⟩ := h
    obtain ⟨dx, fs, hp, hf⟩ := id hrow
    have wget : ∀ {n : Str} {w : Str × Int}, getT ws n = some w → ∃ q m, DGet H wd (.str n) (some (.ref q)) ∧ RowAt K H q (.wheel m w.1 w.2) := fun {n w} e => by
      rcases dp.val n with ⟨e1, e2⟩ | ⟨v, x, e1, e2, q, m, e3, rw'⟩
      · rw [e2] at e
        cases e
      · rw [e2] at e
        cases e
        have h := DGet.k (k := .inr n) hd
        rw [e1, e3] at h
        exact ⟨q, m, h, rw'⟩
    refine ⟨_, PSs.nox (pss_cons (ps_if (pt_val (pe_callB call_isi (by rfl) T.b_isinstance (by decide +kernel) (pa_cons (pv 0) (pa_cons (pe_cls rfl T.g_Mesh) pa_nil)))) (pss_cons (ps_set (i := 2) sc_Dasked_by.nd rfl (Or.inl rfl) (pe_dget (hu_of hr) (pv 1) (pe_fld (pv 0) rfl) (fun _ _ => rfl))) (pss_one (ps_ret (pe_c (cal_asked_by_wheels T) hr (by decide) rfl (pa_cons (pe_dget (hu_of hr) (pv 1) (pe_fld (pv 0) rfl) (fun _ _ => rfl)) (pa_cons (pe_tup (pa_cons (pv 2) (pa_cons (pe_fld (pv 2) rfl) pa_nil))) (pa_cons (pe_fld (pv 0) rfl) pa_nil))))))) pss_nil) (pss_cons (ps_if (pt_val (pe_callB call_isi (by rfl) T.b_isinstance (by decide +kernel) (pa_cons (pv 0) (pa_cons (pe_cls rfl T.g_Ring) pa_nil)))) (pss_cons (ps_set (i := 2) sc_Dasked_by.nd rfl (Or.inl rfl) (pe_dget (hu_of hr) (pv 1) (pe_fld (pv 0) rfl) (fun _ _ => rfl))) (pss_one (ps_ret (pe_c (cal_asked_by_wheels T) hr (by decide) rfl (pa_cons (pe_dget (hu_of hr) (pv 1) (pe_fld (pv 0) rfl) (fun _ _ => rfl)) (pa_cons (pe_tup (pa_cons (pv 2) (pa_cons (pe_un un_neg (pe_fld (pv 2) rfl)) pa_nil))) (pa_cons (pe_fld (pv 0) rfl) pa_nil))))))) pss_nil) (pss_cons (ps_if (pt_val (pe_callB call_isi (by rfl) T.b_isinstance (by decide +kernel) (pa_cons (pv 0) (pa_cons (pe_cls rfl T.g_Drive) pa_nil)))) (pss_one (ps_ret (pe_mk (mak_Asked_2 T) hr (by decide) rfl (pa_cons (pe_lst (pa_cons (pe_tup (pa_cons (pe_fld (pv 0) rfl) (pa_cons (pe_mk (mak_Ratio_1 T) hr (by decide) rfl (pa_cons pe_int pa_nil)) pa_nil))) pa_nil)) (pa_cons (pe_fld (pv 0) rfl) pa_nil))))) pss_nil) (pss_cons (ps_if (pt_val (pe_callB call_isi (by rfl) T.b_isinstance (by decide +kernel) (pa_cons (pv 0) (pa_cons (pe_cls rfl T.g_Still) pa_nil)))) (pss_one (ps_ret (pe_mk (mak_Asked_2 T) hr (by decide) rfl (pa_cons (pe_lst (pa_cons (pe_tup (pa_cons (pe_fld (pv 0) rfl) (pa_cons (pe_mk (mak_Ratio_1 T) hr (by decide) rfl (pa_cons pe_int pa_nil)) pa_nil))) pa_nil)) (pa_cons (pe_mk (mak_Ratio_1 T) hr (by decide) rfl (pa_cons pe_int pa_nil)) pa_nil))))) pss_nil) (pss_one (ps_ret pe_non)))))), ?_⟩
    have own1 : ∀ {a : Str} {t : Addr} {v : Rat}, askM ws r = some (own a v) → ∀ (H1 : Hp) (L : Addr), Same H H1 → PairsAt K H1 L [(a, 1)] → RatAt K H1 t v →
        ∀ x dx, H1 x = none → H1 dx = none → dx ≠ x → spAskI K [.ref x, .ref L, .ref t] (upd (upd H1 dx (.own x)) x (.ins (He.ga K "Asked") dx [])) (fun v H2 => v = .non ∧ Q (.ref x) H2) C8.E0 := fun {a t v} e H1 L s hP R => by
      refine ask_new (Q := fun p H' => Q (.ref p) H') hP R (own_ok a) fun q d H' s' nq nd A => ?_
      refine k1 _ e q d H' (Same.trans s s') (s.free nq) (s.free nd) ?_
      rw [init_own] at A
      exact A
    cases r with
    | mesh o e arm =>
      obtain ⟨w1, w2, g1, g2, b1, b2⟩ := rok
      obtain ⟨v, rfl⟩ := hf
      obtain ⟨q1, m1, d1, r1⟩ := wget g1
      obtain ⟨q2, m2, d2, r2⟩ := wget g2
      obtain ⟨dx2, _, h2, v2, rfl⟩ := id r2
      refine ⟨_, rfl, _, _, _, _, _, rfl, .own _, T.ty _ hp, T.kit _ .mesh, _, rfl, ?_⟩
      refine ite2 (fun _ => ?_) (fun h => absurd (decide_eq_true rfl) h)
      refine ⟨_, rfl, _, rfl, p, _, _, _, _, rfl, hp, T.cl_Mesh, T.na_Mesh_other, lk_Mesh_other, wd, .ref q2, rfl, d2, ?_⟩
      refine ⟨_, rfl, _, rfl, p, _, _, _, _, rfl, hp, T.cl_Mesh, T.na_Mesh_one, lk_Mesh_one, wd, .ref q1, rfl, d1, _, rfl, _, rfl, q2, _, _, _, _, rfl, h2, T.cl_Wheel, T.na_Wheel_teeth, lk_Wheel_teeth, (by show 2 ≤ sizeLine; decide), fun tp nt => ?_⟩
      have s1 : Same H (upd H tp (.tup [.ref q2, .int w2.2])) := same_upd nt
      refine ⟨_, rfl, p, _, _, _, _, rfl, s1 _ _ hp, T.cl_Mesh, T.na_Mesh_arm, lk_Mesh_arm, q1, tp, q2, m1, w1.1, m2, w2.1, w1.2, w2.2, w2.2, arm, rfl, r1.mono s1, upd_same, r2.mono s1, b1, b2, fun q d H' s2 nq nd A => ?_⟩
      refine k1 _ ?_ q d H' (Same.trans s1 s2) (s1.free nq) (s1.free nd) A
      show (match getT ws o, getT ws e with
        | some w1, some w2 => some (initT (wterms w1.1 w1.2 w2.1 w2.2 arm), (0 : Rat))
        | _, _ => none) = _
      rw [g1, g2]
    | ring o e arm =>
      obtain ⟨w1, w2, g1, g2, b1, b2⟩ := rok
      obtain ⟨v, rfl⟩ := hf
      obtain ⟨q1, m1, d1, r1⟩ := wget g1
      obtain ⟨q2, m2, d2, r2⟩ := wget g2
      obtain ⟨dx2, _, h2, v2, rfl⟩ := id r2
      refine ⟨_, rfl, _, _, _, _, _, rfl, .own _, T.ty _ hp, T.kit _ .mesh, _, rfl, ?_⟩
      refine ite2 (fun h => absurd (of_decide_eq_true h) (fun z => by cases z)) (fun _ => ?_)
      refine ⟨_, rfl, _, _, _, _, _, rfl, .own _, T.ty _ hp, T.kit _ .ring, _, rfl, ?_⟩
      refine ite2 (fun _ => ?_) (fun h => absurd (decide_eq_true rfl) h)
      refine ⟨_, rfl, _, rfl, p, _, _, _, _, rfl, hp, T.cl_Ring, T.na_Ring_other, lk_Ring_other, wd, .ref q2, rfl, d2, ?_⟩
      refine ⟨_, rfl, _, rfl, p, _, _, _, _, rfl, hp, T.cl_Ring, T.na_Ring_one, lk_Ring_one, wd, .ref q1, rfl, d1, _, rfl, _, rfl, q2, _, _, _, _, rfl, h2, T.cl_Wheel, T.na_Wheel_teeth, lk_Wheel_teeth, _, rfl, (by show 2 ≤ sizeLine; decide), fun tp nt => ?_⟩
      have s1 : Same H (upd H tp (.tup [.ref q2, .int (-w2.2)])) := same_upd nt
      refine ⟨_, rfl, p, _, _, _, _, rfl, s1 _ _ hp, T.cl_Ring, T.na_Ring_arm, lk_Ring_arm, q1, tp, q2, m1, w1.1, m2, w2.1, w1.2, w2.2, -w2.2, arm, rfl, r1.mono s1, upd_same, r2.mono s1, b1, by omega, fun q d H' s2 nq nd A => ?_⟩
      refine k1 _ ?_ q d H' (Same.trans s1 s2) (s1.free nq) (s1.free nd) A
      show (match getT ws o, getT ws e with
        | some w1, some w2 => some (initT (wterms w1.1 w1.2 w2.1 (-w2.2) arm), (0 : Rat))
        | _, _ => none) = _
      rw [g1, g2]
    | drive a r =>
      obtain ⟨v, x, rfl, t, ex, rt⟩ := hf
      subst ex
      refine ⟨_, rfl, _, _, _, _, _, rfl, .own _, T.ty _ hp, T.kit _ .mesh, _, rfl, ?_⟩
      refine ite2 (fun h => absurd (of_decide_eq_true h) (fun z => by cases z)) (fun _ => ?_)
      refine ⟨_, rfl, _, _, _, _, _, rfl, .own _, T.ty _ hp, T.kit _ .ring, _, rfl, ?_⟩
      refine ite2 (fun h => absurd (of_decide_eq_true h) (fun z => by cases z)) (fun _ => ?_)
      refine ⟨_, rfl, _, _, _, _, _, rfl, .own _, T.ty _ hp, T.kit _ .drive, _, rfl, ?_⟩
      refine ite2 (fun _ => ?_) (fun h => absurd (decide_eq_true rfl) h)
      refine ⟨_, rfl, p, _, _, _, _, rfl, hp, T.cl_Drive, T.na_Drive_arbor, lk_Drive_arbor, ?_⟩
      refine rat_new (by decide) o8 o8 fun r1 H1 s1 R1 => ?_
      refine ⟨(by show 2 ≤ sizeLine; decide), fun e1 n1 => ?_⟩
      have s2 : Same H1 (upd H1 e1 (.tup [.str a, .ref r1])) := same_upd n1
      generalize hH2 : upd H1 e1 (.tup [.str a, .ref r1]) = H2 at s2
      have he1 : H2 e1 = some (.tup [.str a, .ref r1]) := by rw [← hH2, upd_same]
      refine ⟨(by show 1 ≤ sizeLine; decide), fun L nL => ?_⟩
      have s3 : Same H2 (upd H2 L (.lst [.ref e1])) := same_upd nL
      have s02 : Same H H2 := Same.trans s1 s2
      have s03 : Same H (upd H2 L (.lst [.ref e1])) := Same.trans s02 s3
      refine ⟨_, rfl, p, _, _, _, _, rfl, s03 _ _ hp, T.cl_Drive, T.na_Drive_ratio, lk_Drive_ratio, ?_⟩
      refine own1 rfl _ L s03 ⟨[e1], upd_same, .cons ⟨r1, s3 _ _ he1, ?_⟩ .nil⟩ (rt.mono s03)
      show RatAt K _ r1 ((1 : Int) : Rat)
      rw [← rq_int]
      exact (R1.mono s2).mono s3
    | still a =>
      obtain ⟨v, rfl⟩ := hf
      refine ⟨_, rfl, _, _, _, _, _, rfl, .own _, T.ty _ hp, T.kit _ .mesh, _, rfl, ?_⟩
      refine ite2 (fun h => absurd (of_decide_eq_true h) (fun z => by cases z)) (fun _ => ?_)
      refine ⟨_, rfl, _, _, _, _, _, rfl, .own _, T.ty _ hp, T.kit _ .ring, _, rfl, ?_⟩
      refine ite2 (fun h => absurd (of_decide_eq_true h) (fun z => by cases z)) (fun _ => ?_)
      refine ⟨_, rfl, _, _, _, _, _, rfl, .own _, T.ty _ hp, T.kit _ .drive, _, rfl, ?_⟩
      refine ite2 (fun h => absurd (of_decide_eq_true h) (fun z => by cases z)) (fun _ => ?_)
      refine ⟨_, rfl, _, _, _, _, _, rfl, .own _, T.ty _ hp, T.kit _ .still, _, rfl, ?_⟩
      refine ite2 (fun _ => ?_) (fun h => absurd (decide_eq_true rfl) h)
      refine ⟨_, rfl, p, _, _, _, _, rfl, hp, T.cl_Still, T.na_Still_arbor, lk_Still_arbor, ?_⟩
      refine rat_new (by decide) o8 o8 fun r1 H1 s1 R1 => ?_
      refine ⟨(by show 2 ≤ sizeLine; decide), fun e1 n1 => ?_⟩
      have s2 : Same H1 (upd H1 e1 (.tup [.str a, .ref r1])) := same_upd n1
      generalize hH2 : upd H1 e1 (.tup [.str a, .ref r1]) = H2 at s2
      have he1 : H2 e1 = some (.tup [.str a, .ref r1]) := by rw [← hH2, upd_same]
      refine ⟨(by show 1 ≤ sizeLine; decide), fun L nL => ?_⟩
      have s3 : Same H2 (upd H2 L (.lst [.ref e1])) := same_upd nL
      have s02 : Same H H2 := Same.trans s1 s2
      have s03 : Same H (upd H2 L (.lst [.ref e1])) := Same.trans s02 s3
      refine rat_new (by decide) z8 o8 fun r2 H4 s4 R2 => ?_
      refine own1 rfl _ L (Same.trans s03 s4) ⟨[e1], s4 _ _ upd_same, .cons ⟨r1, s4 _ _ (s3 _ _ he1), ?_⟩ .nil⟩ R2
      show RatAt K _ r1 ((1 : Int) : Rat)
      rw [← rq_int]
      exact ((R1.mono s2).mono s3).mono s4
    | _ =>
      refine ⟨_, rfl, _, _, _, _, _, rfl, .own _, T.ty _ hp, T.kit _ .mesh, _, rfl, ?_⟩
      refine ite2 (fun h => absurd (of_decide_eq_true h) (fun z => by cases z)) (fun _ => ?_)
      refine ⟨_, rfl, _, _, _, _, _, rfl, .own _, T.ty _ hp, T.kit _ .ring, _, rfl, ?_⟩
      refine ite2 (fun h => absurd (of_decide_eq_true h) (fun z => by cases z)) (fun _ => ?_)
      refine ⟨_, rfl, _, _, _, _, _, rfl, .own _, T.ty _ hp, T.kit _ .drive, _, rfl, ?_⟩
      refine ite2 (fun h => absurd (of_decide_eq_true h) (fun z => by cases z)) (fun _ => ?_)
      refine ⟨_, rfl, _, _, _, _, _, rfl, .own _, T.ty _ hp, T.kit _ .still, _, rfl, ?_⟩
      refine ite2 (fun h => absurd (of_decide_eq_true h) (fun z => by cases z)) (fun _ => ?_)
      exact k0 rfl
theorem cal_asked_by (T : Tx K mg) : Cal P w K mg base 9 "asked_by" (spAskedBy K) [] := by
  obtain ⟨fd, F⟩ := T.f_Dasked_by
  exact ⟨_, fd, _, _, ok_asked_by F T, T.g_asked_by, F.kp, bi_Dasked_by F, .nil⟩
/-! ### all_asked -/
/-- what is asked: a tuple of its place and an Asked, each with a dict of its own -/
abbrev AE := Addr × (Addr × Addr)
structure AsksAt (K : PySem.W.Frag) (H0 H : Hp) (f : Addr) (es : List AE) (as : List (Rw Str)) : Prop where
  lst : H f = some (.lst (es.map fun e => V.ref e.1))
  each : Paired (fun (e : AE) r => (∃ n, H e.1 = some (.tup [.int n, .ref e.2.1])) ∧ AskAt K H e.2.1 e.2.2 r) es as
  n1 : (es.map fun e => e.2.1).Nodup
  n2 : (es.map fun e => e.2.2).Nodup
  new : ∀ e ∈ es, H0 e.2.1 = none ∧ H0 e.2.2 = none
def asksM (rs : List RowM) : List (Rw Str) := rs.filterMap (askM (wheelsM rs))
def spAllAsked (K : PySem.W.Frag) : Sp := fun vs H Q _ => ∃ (a : Addr) (rs : List RowM), vs = [.ref a] ∧ RowsAt K H a rs ∧ rs.length ≤ 1000 ∧ (∀ r ∈ rs, RowOk (wheelsM rs) r) ∧ ∀ f es H', Same H H' → AsksAt K H H' f es (asksM rs) → Q (.ref f) H'
theorem sc_Dall_asked : FnScope ["rows", "wheels", "found", "place", "row", "asked"] ["rows"] (defScope sDall_asked) := C8.fnScope_by (by decide +kernel)
theorem ok_all_asked (F : FDall_asked K fd) (T : Tx K mg) : FnOk P w K mg base C8.CX0 10 (He.ga K "all_asked") fd ["rows"] (spAllAsked K) := by
  refine FunD.ok F sc_Dall_asked (fun vs H Q E h => ?_) (fun cdv A outer s H vs Q E hr h => ?_)
  · obtain ⟨_, _, rfl, _⟩ := h
    rfl
  · obtain ⟨a, rs, rfl, hrows, hlen, rok, k⟩ := h
    refine ⟨_, PSs.nox (pss_cons (ps_set (i := 1) sc_Dall_asked.nd rfl (Or.inl rfl) (pe_c (cal_wheels_of T) hr (by decide) rfl (pa_cons (pv 0) pa_nil))) (pss_cons (ps_set (i := 2) sc_Dall_asked.nd rfl (Or.inl rfl) (pe_lst pa_nil)) (pss_cons (ps_for PassesOwn.never rfl (pi_enum rfl T.b_enumerate (pa_cons (pv 0) pa_nil)) (pg_tup rfl (pgs_cons (pg_name (i := 3) sc_Dall_asked.nd rfl (Or.inl rfl)) (pgs_cons (pg_name (i := 4) sc_Dall_asked.nd rfl (Or.inl rfl)) pgs_nil))) (pss_cons (ps_set (i := 5) sc_Dall_asked.nd rfl (Or.inl rfl) (pe_c (cal_asked_by T) hr (by decide) rfl (pa_cons (pv 4) (pa_cons (pv 1) pa_nil)))) (pss_one (ps_if (pt_cmp (pc_notN (pv 5))) (pss_one (ps_expr (pe_bm PySem.F.plainAttrs_list PySem.F.slot_list_append PySem.F.type_list_append mt_append (pv 2) (pa_cons (pe_tup (pa_cons (pv 3) (pa_cons (pv 5) pa_nil))) pa_nil)))) pss_nil)))) (pss_one (ps_ret (pv 2)))))), ?_⟩
    refine ⟨_, rfl, a, rs, rfl, hrows, hlen, fun wd H1 s1 D1 => ?_⟩
    refine ⟨Nat.zero_le _, fun f nf => ?_⟩
    have s2 : Same H1 (upd H1 f (.lst [])) := same_upd nf
    generalize hH2 : upd H1 f (.lst []) = H2 at s2
    have hf2 : H2 f = some (.lst []) := by rw [← hH2, upd_same]
    have s02 : Same H H2 := Same.trans s1 s2
    have nfH : H f = none := s1.free nf
    have D2 : DictAt (WhR K H2) H2 wd (wheelsM rs) := D1.mono (by obtain ⟨kvs, e, _⟩ := D1; rw [s2 _ _ e, e]) fun v x z => z.mono s2
    obtain ⟨ps, ha, pr⟩ := hrows.mono s02
    have naf : a ≠ f := by
      obtain ⟨ps0, ha0, _⟩ := id hrows
      exact ne_of_none ha0 nfH
    refine ⟨_, rfl, a, _, rfl, SqL.of ha, for_it (walk_enum (K := K) (a := a) (xs := ps.map V.ref)) (fun i σ H' => ∃ v3 v4 v5 es, σ = [some (.ref a), some (.ref wd), some (.ref f), v3, v4, v5] ∧ Chg [f] H2 H' ∧ Same H H' ∧
      AsksAt K H H' f es ((rs.take i).filterMap (askM (wheelsM rs)))) ⟨_, _, _, [], rfl, Chg.refl _ _, s02, ⟨hf2, .nil, by simp, by simp, by simp⟩⟩ (fun i σ H' _ ⟨_, _, _, _, _, c, _⟩ => SqL.of (c _ _ ha (by simpa using naf))) ?_ ?_⟩
    · rintro i x σ H' H'' hi ⟨v3, v4, v5, es, rfl, c, sH, A⟩ ⟨Tt, x1, x2, rfl, nT, rfl, e1, e2⟩
      have e1 : V.int (i : Nat) = x1 := Option.some.inj e1
      subst e1
      obtain ⟨p, hp, rfl⟩ := ref_nth e2
      obtain ⟨r, hri, hr0⟩ := paired_nth pr hp
      have hmem : r ∈ rs := List.mem_of_getElem? hri
      have et := take_snoc hri
      have s3 : Same H' (upd H' Tt (.tup [.int (i : Nat), .ref p])) := same_upd nT
      generalize hH3 : upd H' Tt (.tup [.int (i : Nat), .ref p]) = H3 at s3
      have hT3 : H3 Tt = some (.tup [.int (i : Nat), .ref p]) := by rw [← hH3, upd_same]
      have cnl : NL H2 H' := fun b o e n => c b o e (by
        have : b ≠ f := fun z => by
          rw [z, hf2] at e
          exact n [] (Option.some.inj e).symm
        simpa using this)
      have nl3 : NL H2 H3 := cnl.trans (Same.nl s3)
      have D3 := D2.nl nl3 fun v x z => z.nl nl3
      have hr3 := hr0.nl nl3
      refine ⟨Tt, _, rfl, SqT.of hT3, rfl, _, _, rfl, _, _, rfl, rfl, ?_⟩
      have hsz : (es.map fun e => V.ref e.1).length < sizeLine := by
        rw [List.length_map, Paired.length A.each]
        exact Nat.lt_of_le_of_lt (Nat.le_trans (List.length_filterMap_le _ _) (Nat.le_trans (List.length_take_le' _ _) hlen)) (by decide)
      refine ⟨_, rfl, _, rfl, p, wd, r, _, rfl, hr3, D3, rok r hmem, fun e => ?_, fun rw' e q d H4 s4 nq nd Aq => ?_⟩
      · refine ⟨_, rfl, _, rfl, ?_⟩
        refine ite2 (fun h => absurd h (by simp)) (fun _ => ?_)
        refine ⟨_, _, _, es, rfl, c.trans (Same.chg s3), Same.trans sH s3, ?_⟩
        rw [et, filterMap_snoc, e]
        show AsksAt K H H3 f es (_ ++ [])
        rw [List.append_nil]
        exact ⟨s3 _ _ A.lst, Paired.mapP A.each fun e r ⟨⟨n, h⟩, z⟩ => ⟨⟨n, s3 _ _ h⟩, z.same s3⟩, A.n1, A.n2, A.new⟩
      · refine ⟨_, rfl, _, rfl, ?_⟩
        refine ite2 (fun _ => ?_) (fun h => absurd (show (!decide (V.ref q = V.non)) = true by simp) h)
        have s34 : Same H' H4 := Same.trans s3 s4
        have hf4 := s34 _ _ A.lst
        refine ⟨_, rfl, .inl ⟨rfl, _, SqL.of hf4⟩, _, rfl, _, rfl, (by show 2 ≤ sizeLine; decide), fun tp nt => ?_⟩
        have s5 : Same H4 (upd H4 tp (.tup [.int (i : Nat), .ref q])) := same_upd nt
        generalize hH5 : upd H4 tp (.tup [.int (i : Nat), .ref q]) = H5 at s5
        have hT5 : H5 tp = some (.tup [.int (i : Nat), .ref q]) := by rw [← hH5, upd_same]
        have hf5 := s5 _ _ hf4
        refine ⟨f, _, _, rfl, rfl, hf5, hsz, ?_⟩
        have s35 : Same H' H5 := Same.trans s34 s5
        have c5 : Chg [f] H5 (upd H5 f (.lst ((es.map fun e => V.ref e.1) ++ [.ref tp]))) := chg_upd (by simp)
        have n5 : NL H5 (upd H5 f (.lst ((es.map fun e => V.ref e.1) ++ [.ref tp]))) := nl_upd hf5
        refine ⟨_, _, _, es ++ [(tp, q, d)], rfl, (c.trans (Same.chg s35)).trans c5, Same.upd (Same.trans sH s35) nfH, ?_⟩
        rw [et, filterMap_snoc, e]
        have nqE : q ∉ es.map fun e => e.2.1 := fun z => by
          obtain ⟨e0, he0, ee⟩ := List.mem_map.mp z
          obtain ⟨j, y, _, _, _, hA⟩ := LiI.paired_ix A.each he0
          obtain ⟨dx, t, hin, _⟩ := hA.ins
          have := s3 _ _ hin
          rw [ee, nq] at this
          cases this
        have ndE : d ∉ es.map fun e => e.2.2 := fun z => by
          obtain ⟨e0, he0, ee⟩ := List.mem_map.mp z
          obtain ⟨j, y, _, _, _, hA⟩ := LiI.paired_ix A.each he0
          obtain ⟨kvs, hk, _⟩ := hA.ts
          have := s3 _ _ hk
          rw [ee, nd] at this
          cases this
        refine ⟨?_, ?_, ?_, ?_, fun e he => ?_⟩
        · rw [upd_same, List.map_append] <;> rfl
        · refine Paired.snoc (Paired.mapP A.each fun e r ⟨⟨n, h⟩, z⟩ => ⟨⟨n, n5 _ _ (s35 _ _ h) (fun _ z => by cases z)⟩, (z.same s35).nl n5⟩) ⟨⟨_, n5 _ _ hT5 (fun _ z => by cases z)⟩, (Aq.same s5).nl n5⟩
        · rw [List.map_append]
          exact nodup_snoc A.n1 nqE
        · rw [List.map_append]
          exact nodup_snoc A.n2 ndE
        · have s03 : Same H H3 := Same.trans sH s3
          rcases List.mem_append.mp he with he | he
          · exact A.new e he
          · rw [List.mem_singleton.mp he]
            exact ⟨s03.free nq, s03.free nd⟩
    · rintro σ H' ⟨v3, v4, v5, es, rfl, c, sH, A⟩
      have hl : (ps.map V.ref).length = rs.length := by rw [List.length_map, Paired.length pr]
      rw [hl, List.take_length] at A
      exact ⟨_, rfl, k f es H' sH A⟩
theorem cal_all_asked (T : Tx K mg) : Cal P w K mg base 10 "all_asked" (spAllAsked K) [] := by
  obtain ⟨fd, F⟩ := T.f_Dall_asked
  exact ⟨_, fd, _, _, ok_all_asked F T, T.g_all_asked, F.kp, bi_Dall_asked F, .nil⟩
end
end Ty
set_option Elab.async false
set_option linter.all false
set_option maxRecDepth 100000
set_option maxHeartbeats 4000000
/-! take. -/
namespace Ty
open PySem PySem.Spec PyProof.Rows L2 C8
theorem paired_of {α β : Type} {F : α → β → Prop} : ∀ {xs : List α} {ys : List β}, xs.length = ys.length → (∀ (i : Nat) (x : α) (y : β), xs[i]? = some x → ys[i]? = some y → F x y) → Paired F xs ys := by
  intro xs
  induction xs with
  | nil =>
    intro ys h _
    cases ys with
    | nil => exact .nil
    | cons y ys => cases h
  | cons x xs ih =>
    intro ys h g
    cases ys with
    | nil => cases h
    | cons y ys => exact .cons (g 0 x y rfl rfl) (ih (by simpa using h) fun i a b h1 h2 => g (i + 1) a b h1 h2)
theorem paired_at {α β : Type} {F : α → β → Prop} {xs : List α} {ys : List β} (h : Paired F xs ys) {i : Nat} {x : α} {y : β} (h1 : xs[i]? = some x) (h2 : ys[i]? = some y) : F x y := by
  obtain ⟨z, h3, h4⟩ := LiI.paired_get h h1
  rw [h2] at h3
  cases h3
  exact h4
theorem nodup_ne {α β : Type} {f : α → β} {l : List α} (nd : (l.map f).Nodup) {i j : Nat} {x y : α} (h1 : l[i]? = some x) (h2 : l[j]? = some y) (n : i ≠ j) : f x ≠ f y := fun e => by
  have hi : (l.map f)[i]? = some (f x) := by rw [List.getElem?_map, h1] <;> rfl
  have hj : (l.map f)[j]? = some (f y) := by rw [List.getElem?_map, h2] <;> rfl
  obtain ⟨bi, ei⟩ := List.getElem?_eq_some_iff.mp hi
  obtain ⟨bj, ej⟩ := List.getElem?_eq_some_iff.mp hj
  have P := List.pairwise_iff_getElem.mp nd
  rcases Nat.lt_or_gt_of_ne n with z | z
  · exact P i j bi bj z (by rw [ei, ej, e])
  · exact P j i bj bi z (by rw [ei, ej, e])
/-- entries: a name, its Asked, the Asked's dict -/
abbrev En := Str × (Addr × Addr)
def kvsE (es : List En) : List (Key × V) := es.map fun e => (Sum.inr e.1, V.ref e.2.1)
theorem valE {es : List En} {n : Str} : valV (kvsE es) (.inr n) = (getT es n).map fun e => V.ref e.1 := by
  induction es with
  | nil => rfl
  | cons e es ih =>
    by_cases h : e.1 = n
    · show valV ((Sum.inr e.1, V.ref e.2.1) :: kvsE es) _ = _
      rw [valV_pos (by rw [h]), getT_pos h] <;> rfl
    · show valV ((Sum.inr e.1, V.ref e.2.1) :: kvsE es) _ = _
      rw [valV_neg (fun z => h (Sum.inr.inj z)), getT_neg h]
      exact ih
theorem putE {es : List En} {n : Str} {p d : Addr} (h : n ∉ es.map (·.1)) : putK (kvsE es) (.inr n) (.ref p) = kvsE (es ++ [(n, p, d)]) := by
  unfold putK
  rw [if_neg]
  · unfold kvsE
    rw [List.map_append] <;> rfl
  · intro z
    obtain ⟨kv, h1, h2⟩ := List.any_eq_true.mp z
    obtain ⟨e, h3, rfl⟩ := List.mem_map.mp h1
    exact h (List.mem_map.mpr ⟨e, h3, Sum.inr.inj (of_decide_eq_true h2)⟩)
/-- the Askeds that es names hold S -/
structure EntsAt (K : PySem.W.Frag) (H : Hp) (es : List En) (S : Sys Str) : Prop where
  each : Paired (fun (e : En) (p : Str × Rw Str) => e.1 = p.1 ∧ AskAt K H e.2.1 e.2.2 p.2) es S
  n1 : (es.map fun e => e.2.1).Nodup
  n2 : (es.map fun e => e.2.2).Nodup
theorem paired_keys' {es : List En} {S : Sys Str} {F : En → Str × Rw Str → Prop} (h : Paired (fun e p => e.1 = p.1 ∧ F e p) es S) : es.map (·.1) = S.map (·.1) := by
  induction h with
  | nil => rfl
  | cons a _ ih => rw [List.map_cons, List.map_cons, ih, a.1]
section
variable {K : PySem.W.Frag} {H H' : Hp} {es : List En} {S : Sys Str} {X : List Addr} {p d dd a : Addr} {r : Rw Str} {q : Rat}
theorem EntsAt.keys (h : EntsAt K H es S) : es.map (·.1) = S.map (·.1) := paired_keys' h.each
theorem EntsAt.len (h : EntsAt K H es S) : es.length = S.length := Paired.length h.each
theorem EntsAt.chg (h : EntsAt K H es S) (c : Chg X H H') (h1 : ∀ e ∈ es, e.2.1 ∉ X ∧ e.2.2 ∉ X) (nX : ∀ a q, RatAt K H a q → a ∉ X) : EntsAt K H' es S := by
  refine ⟨paired_of h.len fun i e p he hp => ?_, h.n1, h.n2⟩
  obtain ⟨e1, A⟩ := paired_at h.each he hp
  obtain ⟨g1, g2⟩ := h1 e (List.mem_of_getElem? he)
  exact ⟨e1, A.chg c g1 g2 nX⟩
/-- an object of two fields is no Asked's -/
theorem ask_rat (A : AskAt K H p d r) : ∀ a q, RatAt K H a q → a ∉ [p, d] := fun a q R => by
  obtain ⟨⟨dx, t, h1, _⟩, kvs, h2, _⟩ := A
  have n1 := rat_ne_ask R h1
  have n2 := R.ne_dict h2
  simp [n1, n2]
theorem ask_pd {p2 d2 : Addr} {r2 : Rw Str} (A : AskAt K H p d r) (B : AskAt K H p2 d2 r2) : p ≠ d2 := by
  obtain ⟨⟨dx, t, h1, _⟩, _⟩ := A
  obtain ⟨_, kvs, h2, _⟩ := B
  exact ne_of h1 h2 (fun z => by cases z)
theorem ask_ne_dict {kvs : List (Key × V)} (A : AskAt K H p dd r) (h : H d = some (.dK kvs)) : p ≠ d := by
  obtain ⟨⟨dx, t, h1, _⟩, _⟩ := A
  exact ne_of h1 h (fun z => by cases z)
end
/-- a dict of Askeds -/
structure SysAt (K : PySem.W.Frag) (H : Hp) (d : Addr) (es : List En) (S : Sys Str) : Prop where
  dict : H d = some (.dK (kvsE es))
  ents : EntsAt K H es S
  nd : ∀ e ∈ es, e.2.2 ≠ d
/-! ### == of a dict and {} -/
def rEqD0 : R2 := fun x y H Q => ∃ a b ks, x = .ref a ∧ y = .ref b ∧ H a = some (.dK ks) ∧ 0 < ks.length ∧ H b = some (.dK []) ∧ Q (.bl false) H
theorem op_eq_dict0 {X : Cx} (hu : X.A.units < cLine) : OpR X (compareOp .Eq) rEqD0 := by
  intro pins s σ H x y v u Q I rx ry h
  obtain ⟨a, b, ks, rfl, rfl, ea, hk, eb, q⟩ := h
  obtain rfl : v = Value.ref a := rx
  obtain rfl : u = Value.ref b := ry
  obtain ⟨_, ya, va, ra, da⟩ := (show ObjOk X.prog X.w H s.heap a (.dK ks) from I.hok a _ ea)
  obtain ⟨_, yb, vb, rb, db⟩ := (show ObjOk X.prog X.w H s.heap b (.dK []) from I.hok b _ eb)
  have hl : va.length = ks.length := ra.length.symm
  have hl2 : vb.length = 0 := rb.length.symm
  exact PySem.W.keq_eq (knd := mixKind X.prog X.w) (r := true) ya yb da db hu (fun z => by omega) (fin_bl I q (by
    have : (va.length == vb.length) = false := beq_eq_false_iff_ne.mpr (by omega)
    simp [this]))
def spTake (K : PySem.W.Frag) : Sp := fun vs H Q _ => ∃ (d p dd : Addr) (es : List En) (S : Sys Str) (r : Rw Str), vs = [.ref d, .ref p] ∧ SysAt K H d es S ∧ AskAt K H p dd r ∧ dd ≠ d ∧ (∀ e ∈ es, e.2.1 ≠ p ∧ e.2.2 ≠ dd) ∧
  (S.map (·.1)).Nodup ∧ S.length ≤ 100 ∧ TakeOk S r ∧ (takeR S r).2.length = S.length + 1 ∧
  ∀ H' a, Chg (d :: p :: dd :: (es.map (fun e => e.2.1) ++ es.map (fun e => e.2.2))) H H' → SysAt K H' d (es ++ [(a, p, dd)]) (takeR S r).2 → Q (.bl true) H'
section
variable {P : Program} {w : World} {K : PySem.W.Frag} {mg : Str → Option Value} {base : Heap} {fd : FuncData}
theorem sc_Dtake : FnScope ["solved", "asked", "arbor", "other"] ["solved", "asked"] (defScope sDtake) := C8.fnScope_by (by decide +kernel)
theorem ok_take (F : FDtake K fd) (T : Tx K mg) : FnOk P w K mg base C8.CX0 7 (He.ga K "take") fd ["solved", "asked"] (spTake K) := by
  refine FunD.ok F sc_Dtake (fun vs H Q E h => ?_) (fun cdv A outer s H vs Q E hr h => ?_)
  · obtain ⟨_, _, _, _, _, _, rfl, _⟩ := h
    rfl
  · obtain ⟨d, p, dd, es, S, r, rfl, ⟨hd, hE, hnd⟩, hA, hdd, hne, ndS, lS, ⟨elO, a, x, l, eE, hx, lE, ndE, okE, okT, wkS⟩, lT, k⟩ := h
    refine ⟨_, PSs.nox (pss_cons (ps_lock (ps_for PassesOwn.never rfl (pi_keys (pv 0)) (pg_name (i := 2) sc_Dtake.nd rfl (Or.inl rfl)) (pss_one (ps_expr (pe_mt (met_without T) hr (by decide) (pv 1) (pa_cons (pv 2) (pa_cons (pe_dget (hu_of hr) (pv 0) (pv 2) (fun _ _ => rfl)) pa_nil))))))) (pss_cons (ps_if (pt_cmpR (op_eq_dict0 (Nat.lt_of_succ_lt (hu_of hr))) (pe_fld (pv 1) rfl) pe_dnewK (nomark _)) (pss_one (ps_ret (pe_cmpR op_eq (pe_mt0 (met_sign T) hr (by decide) (pe_fld (pv 1) rfl)) pe_int (nomark _)))) pss_nil) (pss_cons (ps_set (i := 2) sc_Dtake.nd rfl (Or.inl rfl) (pe_mt0 (met_by_first T) hr (by decide) (pv 1))) (pss_cons (ps_lock (ps_for PassesOwn.never rfl (pi_values (pv 0)) (pg_name (i := 3) sc_Dtake.nd rfl (Or.inl rfl)) (pss_one (ps_expr (pe_mt (met_without T) hr (by decide) (pv 3) (pa_cons (pv 2) (pa_cons (pv 1) pa_nil))))))) (pss_cons (ps_dput (hu_of hr) (pv 0) (pv 2) (pv 1) rfl) (pss_one (ps_ret pe_bl))))))), ?_⟩
    refine ⟨d, _, hd, trivial, fun od => ?_⟩
    have c0 : Chg [d] H (upd H d (.frz od (.dK (kvsE es)))) := chg_upd (by simp)
    generalize hH1 : upd H d (.frz od (.dK (kvsE es))) = H1 at c0
    have hd1 : H1 d = some (.frz od (.dK (kvsE es))) := by rw [← hH1, upd_same]
    have ratd : ∀ a q, RatAt K H a q → a ∉ [d] := fun a q R => by simpa using R.ne_dict hd
    have pned : p ≠ d := ask_ne_dict hA hd
    have hA1 : AskAt K H1 p dd r := hA.chg c0 (by simpa using pned) (by simpa using hdd) ratd
    have hEd : ∀ e ∈ es, e.2.1 ≠ d ∧ e.2.2 ≠ d := fun e he => by
      obtain ⟨j, y, _, _, _, A⟩ := LiI.paired_ix hE.each he
      exact ⟨ask_ne_dict A hd, hnd e he⟩
    have hE1 : EntsAt K H1 es S := hE.chg c0 (fun e he => by simpa using hEd e he) ratd
    have lk : (kvsE es).length = S.length := by
      unfold kvsE
      rw [List.length_map, hE.len]
    have ndes : (es.map (·.1)).Nodup := by
      rw [hE.keys]
      exact ndS
    have Epd : ∀ {H2 : Hp} {r2 : Rw Str}, EntsAt K H2 es S → AskAt K H2 p dd r2 → ∀ e ∈ es, e.2.1 ∉ [p, dd] ∧ e.2.2 ∉ [p, dd] := fun {H2 r2} E A e he => by
      obtain ⟨j, y, _, _, _, B⟩ := LiI.paired_ix E.each he
      have := hne e he
      have h1 := ask_pd B A
      have h2 := ask_pd A B
      simp [this.1, this.2, h1, h2.symm]
    refine ⟨_, rfl, d, od, rfl, .inl ⟨_, hd1, ?_⟩⟩
    refine for_it (walk_keys (d := d) (o := od) (kvs := kvsE es)) (fun i σ H' => ∃ v2 v3, σ = [some (.ref d), some (.ref p), v2, v3] ∧ Chg [p, dd] H1 H' ∧ AskAt K H' p dd (elimR (S.take i) r)) ⟨_, _, rfl, Chg.refl _ _, hA1⟩ (fun i σ H' _ ⟨_, _, _, c, _⟩ => c _ _ hd1 (by simp [pned.symm, hdd.symm])) ?_ ?_
    · rintro i y σ H' H'' hi ⟨v2, v3, rfl, c, A⟩ ⟨rfl, key, v, hk, rfl⟩
      rw [lk] at hi
      obtain ⟨e, hei⟩ : ∃ e, es[i]? = some e := ⟨es[i]'(by rw [hE.len]; exact hi), List.getElem?_eq_getElem _⟩
      obtain ⟨⟨n, o⟩, hSi⟩ : ∃ q, S[i]? = some q := ⟨S[i], List.getElem?_eq_getElem _⟩
      have hk2 : (kvsE es)[i]? = some (.inr e.1, .ref e.2.1) := by
        unfold kvsE
        rw [List.getElem?_map, hei] <;> rfl
      rw [hk2] at hk
      cases hk
      have hE' : EntsAt K H'' es S := hE1.chg c (Epd hE1 hA1) (ask_rat hA1)
      obtain ⟨en, Ae⟩ := paired_at hE'.each hei hSi
      have hd' := c _ _ hd1 (by simp [pned.symm, hdd.symm])
      obtain ⟨⟨dx, t, hp, rt⟩, _⟩ := id A
      have mem := List.mem_of_getElem? hei
      have hget : getT es e.1 = some e.2 := getT_of_mem ndes mem
      refine ⟨_, rfl, p, dx, _, rfl, hp, askF_no (by decide +kernel) (by decide +kernel), _, rfl, _, rfl, _, rfl, d, .ref e.2.1, rfl, .inl ⟨_, .inr e.1, .inr ⟨od, hd'⟩, rfl, by rw [valE, hget] <;> rfl⟩, ?_⟩
      have spl : S = S.take i ++ (n, o) :: S.drop (i + 1) := by
        conv => lhs; rw [← List.take_append_drop i S, List.drop_eq_getElem_cons hi]
        congr 2
        exact (List.getElem?_eq_some_iff.mp hSi).2
      have wk := elO _ _ _ spl
      refine ⟨p, dd, e.2.1, e.2.2, e.1, elimR (S.take i) r, o, rfl, A, Ae, (hne e mem).2.symm, ?_, fun H2 c2 A2 => ?_⟩
      · rw [en]
        exact wk
      · refine ⟨_, _, rfl, c.trans c2, ?_⟩
        have es5 : S.take (i + 1) = S.take i ++ [(n, o)] := take_snoc hSi
        rw [es5, elimR_snoc]
        rw [en] at A2
        exact A2
    · rintro σ H' ⟨v2, v3, rfl, c, A⟩
      rw [lk, List.take_length] at A
      have hd' := c _ _ hd1 (by simp [pned.symm, hdd.symm])
      refine ⟨hd', ?_⟩
      have hE' : EntsAt K H' es S := hE1.chg c (Epd hE1 hA1) (ask_rat hA1)
      -- unlocked
      have ratz : ∀ {H2 : Hp} {u : HO} {od : Obj}, H2 d = some (.frz od u) → ∀ a q, RatAt K H2 a q → a ∉ [d] := fun {H2 u od} h a q R => by
        obtain ⟨dx, e⟩ := R
        simpa using ne_of e h (fun z => by cases z)
      have cu : Chg [d] H' (upd H' d (.dK (kvsE es))) := chg_upd (by simp)
      have A2 := A.chg cu (by simpa using pned) (by simpa using hdd) (ratz hd')
      have E2 := hE'.chg cu (fun e he => by simpa using hEd e he) (ratz hd')
      generalize hH2 : upd H' d (.dK (kvsE es)) = H2 at cu A2 E2
      have hd2 : H2 d = some (.dK (kvsE es)) := by rw [← hH2, upd_same]
      obtain ⟨⟨dx, t, hp, rt⟩, kvs, hdd2, dp⟩ := id A2
      have lkv : 0 < kvs.length := by
        rw [dp.len, eE]
        simp
      refine ⟨_, rfl, p, _, _, _, _, rfl, hp, T.cl_Asked, T.na_Asked_terms, askF_terms, fun D nD => ?_⟩
      have s3 : Same H2 (upd H2 D (.dK [])) := same_upd nD
      refine ⟨dd, D, kvs, rfl, rfl, s3 _ _ hdd2, lkv, upd_same, _, rfl, ?_⟩
      generalize hH3 : upd H2 D (.dK []) = H3 at s3
      refine ite2 (fun h => by cases h) (fun _ => ?_)
      have A3 := A2.same s3
      have hd3 := s3 _ _ hd2
      have E3 : EntsAt K H3 es S := E2.chg (X := []) (Same.chg s3) (by simp) (by simp)
      refine ⟨_, rfl, p, dx, _, rfl, s3 _ _ hp, askF_no (by decide +kernel) (by decide +kernel), ?_⟩
      generalize hq : elimR S r = q at eE lE ndE okE okT wkS A3
      obtain ⟨qt, qn⟩ := q
      have eE : qt = (a, x) :: l := eE
      subst eE
      refine ⟨p, dd, a, x, l, qn, rfl, A3, hx, ndE, okE, okT, lE, fun H4 c4 A4 => ?_⟩
      have Epd3 := Epd E3 A3
      have E4 : EntsAt K H4 es S := E3.chg c4 Epd3 (ask_rat A3)
      have hd4 : H4 d = some (.dK (kvsE es)) := c4 _ _ hd3 (by simp [pned.symm, hdd.symm])
      refine ⟨d, _, hd4, trivial, fun od2 => ?_⟩
      have c5 : Chg [d] H4 (upd H4 d (.frz od2 (.dK (kvsE es)))) := chg_upd (by simp)
      have ratd4 : ∀ a q, RatAt K H4 a q → a ∉ [d] := fun a q R => by simpa using R.ne_dict hd4
      have A5 := A4.chg c5 (by simpa using pned) (by simpa using hdd) ratd4
      have E5 := E4.chg c5 (fun e he => by simpa using hEd e he) ratd4
      generalize hH5 : upd H4 d (.frz od2 (.dK (kvsE es))) = H5 at c5 A5 E5
      have hd5 : H5 d = some (.frz od2 (.dK (kvsE es))) := by rw [← hH5, upd_same]
      refine ⟨_, rfl, d, od2, _, rfl, hd5, ?_⟩
      have nin : d ∉ es.map (fun e => e.2.1) ++ es.map (fun e => e.2.2) := fun z => by
        rcases List.mem_append.mp z with z | z
        · obtain ⟨e, he, ee⟩ := List.mem_map.mp z
          exact (hEd e he).1 ee
        · obtain ⟨e, he, ee⟩ := List.mem_map.mp z
          exact (hEd e he).2 ee
      have nipd : ∀ z ∈ [p, dd], z ∉ es.map (fun e => e.2.1) ++ es.map (fun e => e.2.2) := fun z hz h => by
        rcases List.mem_append.mp h with h | h
        · obtain ⟨e, he, ee⟩ := List.mem_map.mp h
          exact (Epd3 e he).1 (by rw [ee]; exact hz)
        · obtain ⟨e, he, ee⟩ := List.mem_map.mp h
          exact (Epd3 e he).2 (by rw [ee]; exact hz)
      have i1 : ∀ x ∈ [d], x ∈ d :: p :: dd :: (es.map (fun e => e.2.1) ++ es.map (fun e => e.2.2)) := by simp
      have i2 : ∀ x ∈ [p, dd], x ∈ d :: p :: dd :: (es.map (fun e => e.2.1) ++ es.map (fun e => e.2.2)) := by simp
      have i3 : ∀ x ∈ es.map (fun e => e.2.1) ++ es.map (fun e => e.2.2), x ∈ d :: p :: dd :: (es.map (fun e => e.2.1) ++ es.map (fun e => e.2.2)) := fun x h => List.mem_cons_of_mem _ (List.mem_cons_of_mem _ (List.mem_cons_of_mem _ h))
      have cc : Chg (d :: p :: dd :: (es.map (fun e => e.2.1) ++ es.map (fun e => e.2.2))) H H5 := (((((c0.mono i1).trans (c.mono i2)).trans (cu.mono i1)).trans (Same.chg s3)).trans (c4.mono i2)).trans (c5.mono i1)
      -- the others
      generalize hg : divR ((a, x) :: l, qn) x = g at A5 wkS
      refine for_it (walk_values (d := d) (o := od2) (kvs := kvsE es)) (fun i σ H' => ∃ v3, σ = [some (.ref d), some (.ref p), some (.str a), v3] ∧ Chg (es.map (fun e => e.2.1) ++ es.map (fun e => e.2.2)) H5 H' ∧
        AskAt K H' p dd g ∧ EntsAt K H' es ((S.take i).map (fun p => (p.1, withoutR p.2 a g)) ++ S.drop i)) ⟨_, rfl, Chg.refl _ _, A5, by simpa using E5⟩ (fun i σ H' _ ⟨_, _, c, _⟩ => c _ _ hd5 nin) ?_ ?_
      · rintro i y σ H' H'' hi ⟨v3, rfl, c, A, E⟩ ⟨rfl, key, hk⟩
        rw [lk] at hi
        obtain ⟨e, hei⟩ : ∃ e, es[i]? = some e := ⟨es[i]'(by rw [hE.len]; exact hi), List.getElem?_eq_getElem _⟩
        obtain ⟨⟨n, o⟩, hSi⟩ : ∃ q, S[i]? = some q := ⟨S[i], List.getElem?_eq_getElem _⟩
        have hk2 : (kvsE es)[i]? = some (.inr e.1, .ref e.2.1) := by
          unfold kvsE
          rw [List.getElem?_map, hei] <;> rfl
        rw [hk2] at hk
        cases hk
        have mem := List.mem_of_getElem? hei
        have hdr : S.drop i = (n, o) :: S.drop (i + 1) := by
          rw [List.drop_eq_getElem_cons hi]
          congr 1
          exact (List.getElem?_eq_some_iff.mp hSi).2
        have hli : ((S.take i).map (fun p => (p.1, withoutR p.2 a g))).length = i := by
          rw [List.length_map, List.length_take]
          omega
        have hcur : ((S.take i).map (fun p => (p.1, withoutR p.2 a g)) ++ S.drop i)[i]? = some (n, o) := by
          rw [List.getElem?_append_right (by omega), hli, hdr]
          simp
        obtain ⟨en, Ae⟩ := paired_at E.each hei hcur
        obtain ⟨⟨dxe, te, hpe, rte⟩, _⟩ := id Ae
        refine ⟨_, rfl, e.2.1, dxe, _, rfl, hpe, askF_no (by decide +kernel) (by decide +kernel), _, rfl, _, rfl, ?_⟩
        refine ⟨e.2.1, e.2.2, p, dd, a, o, g, rfl, Ae, A, (hne e mem).2, wkS _ (List.mem_of_getElem? hSi), fun H2 c2 B2 => ?_⟩
        have ratE := ask_rat Ae
        have npe : p ∉ [e.2.1, e.2.2] := by
          have h1 := (hne e mem).1
          have h2 := ask_pd A Ae
          simp [h1.symm, h2]
        have nde : dd ∉ [e.2.1, e.2.2] := by
          have h1 := (hne e mem).2
          have h2 := ask_pd Ae A
          simp [h1.symm, h2.symm]
        refine ⟨_, rfl, c.trans (c2.mono ?_), A.chg c2 npe nde ratE, ?_, E.n1, E.n2⟩
        · intro z hz
          rcases List.mem_cons.mp hz with rfl | hz
          · exact List.mem_append_left _ (List.mem_map.mpr ⟨e, mem, rfl⟩)
          · rw [List.mem_singleton.mp hz]
            exact List.mem_append_right _ (List.mem_map.mpr ⟨e, mem, rfl⟩)
        · have et := take_snoc hSi
          refine paired_of ?_ fun j e' p' hej hpj => ?_
          · rw [hE.len, List.length_append, List.length_map, ← List.length_append.trans rfl]
            simp
          · by_cases hji : j = i
            · subst hji
              rw [hei] at hej
              cases hej
              rw [et, List.map_append, List.append_assoc, List.getElem?_append_right (by omega), hli] at hpj
              have : (n, withoutR o a g) = p' := by simpa using hpj
              rw [← this]
              exact ⟨en, B2⟩
            · have same : ((S.take i).map (fun p => (p.1, withoutR p.2 a g)) ++ S.drop i)[j]? = some p' := by
                rw [← hpj, et, List.map_append, List.append_assoc, hdr]
                by_cases hlt : j < i
                · rw [List.getElem?_append_left (by omega), List.getElem?_append_left (by omega)]
                · rw [List.getElem?_append_right (by omega), List.getElem?_append_right (by omega), hli]
                  obtain ⟨m, hm⟩ : ∃ m, j - i = m + 1 := ⟨j - i - 1, by omega⟩
                  rw [hm] <;> rfl
              obtain ⟨en', A'⟩ := paired_at E.each hej same
              have m1 := nodup_ne E.n1 hej hei hji
              have m2 := nodup_ne E.n2 hej hei hji
              have m3 := ask_pd A' Ae
              have m4 := ask_pd Ae A'
              exact ⟨en', A'.chg c2 (by simp [m1, m3]) (by simp [m2, m4.symm]) ratE⟩
      · rintro σ H' ⟨v3, rfl, c, A, E⟩
        rw [lk, List.take_length, List.drop_length, List.append_nil] at E
        have hd' := c _ _ hd5 nin
        refine ⟨hd', ?_⟩
        have cu : Chg [d] H' (upd H' d (.dK (kvsE es))) := chg_upd (by simp)
        have A6 := A.chg cu (by simpa using pned) (by simpa using hdd) (ratz hd')
        have E6 := E.chg cu (fun e he => by simpa using hEd e he) (ratz hd')
        generalize hH6 : upd H' d (.dK (kvsE es)) = H6 at cu A6 E6
        have hd6 : H6 d = some (.dK (kvsE es)) := by rw [← hH6, upd_same]
        have etk : (takeR S r).2 = putT (S.map fun p => (p.1, withoutR p.2 a g)) a g := by
          unfold takeR
          rw [hq, ← hg]
        have na : a ∉ es.map (·.1) := fun z => by
          rw [etk] at lT
          unfold putT at lT
          rw [if_pos (any_iff.mpr (by rw [E6.keys] at z; exact z))] at lT
          simp at lT
        have naS : a ∉ (S.map fun p => (p.1, withoutR p.2 a g)).map (·.1) := by
          rw [← E6.keys]
          exact na
        refine ⟨_, rfl, _, rfl, _, rfl, d, _, rfl, DPut.k (k := .inr a) hd6 (by rw [lk]; exact Nat.lt_of_le_of_lt lS (by decide)), ?_⟩
        rw [putE (d := dd) na]
        refine k _ a ?_ ?_
        · exact ((cc.trans (c.mono i3)).trans (cu.mono i1)).trans (chg_upd (by simp))
        · have cp : Chg [d] H6 (upd H6 d (.dK (kvsE (es ++ [(a, p, dd)])))) := chg_upd (by simp)
          have r6 : ∀ a q, RatAt K H6 a q → a ∉ [d] := fun a q R => by simpa using R.ne_dict hd6
          have A7 := A6.chg cp (by simpa using pned) (by simpa using hdd) r6
          have E7 := E6.chg cp (fun e he => by simpa using hEd e he) r6
          rw [etk, putT_new naS]
          refine ⟨upd_same, ⟨Paired.snoc E7.each ⟨rfl, A7⟩, ?_, ?_⟩, fun e he => ?_⟩
          · rw [List.map_append]
            refine nodup_snoc E7.n1 fun z => ?_
            obtain ⟨e, he, ee⟩ := List.mem_map.mp z
            exact (hne e he).1 ee
          · rw [List.map_append]
            refine nodup_snoc E7.n2 fun z => ?_
            obtain ⟨e, he, ee⟩ := List.mem_map.mp z
            exact (hne e he).2 ee
          · rcases List.mem_append.mp he with he | he
            · exact hnd e he
            · rw [List.mem_singleton.mp he]
              exact hdd
theorem cal_take (T : Tx K mg) : Cal P w K mg base 7 "take" (spTake K) [] := by
  obtain ⟨fd, F⟩ := T.f_Dtake
  exact ⟨_, fd, _, _, ok_take F T, T.g_take, F.kp, bi_Dtake F, .nil⟩
end
end Ty
set_option Elab.async false
set_option linter.all false
set_option maxRecDepth 100000
set_option maxHeartbeats 4000000
/-! solved_by, solved_all, speeds. -/
namespace Ty
open PySem PySem.Spec PyProof.Rows L2 C8
def spSolvedBy (K : PySem.W.Frag) : Sp := fun vs H Q _ => ∃ (a : Addr) (rs : List RowM), vs = [.ref a, .non] ∧ RowsAt K H a rs ∧ rs.length ≤ 1000 ∧ (∀ r ∈ rs, RowOk (wheelsM rs) r) ∧ RunOk (asksM rs) [] ∧ (asksM rs).length ≤ 100 ∧
  ∀ H' d es, Same H H' → SysAt K H' d es (runR (asksM rs) []) → ((runR (asksM rs) []).map (·.1)).Nodup → Q (.ref d) H'
def spSolvedAll (K : PySem.W.Frag) : Sp := fun vs H Q _ => ∃ (a : Addr) (rs : List RowM), vs = [.ref a] ∧ RowsAt K H a rs ∧ rs.length ≤ 1000 ∧ (∀ r ∈ rs, RowOk (wheelsM rs) r) ∧ RunOk (asksM rs) [] ∧ (asksM rs).length ≤ 100 ∧
  ∀ H' d es, Same H H' → SysAt K H' d es (runR (asksM rs) []) → ((runR (asksM rs) []).map (·.1)).Nodup → Q (.ref d) H'
theorem runR_snoc {a : List (Rw Str)} {r : Rw Str} {S : Sys Str} : runR (a ++ [r]) S = (takeR (runR a S) r).2 := by
  unfold runR
  rw [List.foldl_append] <;> rfl
theorem RunOk.at {rs : List (Rw Str)} {S : Sys Str} (h : RunOk rs S) : ∀ {i : Nat} {r : Rw Str}, rs[i]? = some r → TakeOk (runR (rs.take i) S) r ∧ (takeR (runR (rs.take i) S) r).1 = true ∧ (takeR (runR (rs.take i) S) r).2.length = (runR (rs.take i) S).length + 1 := by
  induction rs generalizing S with
  | nil => exact fun {i r} e => by cases e
  | cons q rs ih =>
    intro i r e
    obtain ⟨h1, h2, h3, h4⟩ := h
    cases i with
    | zero =>
      cases e
      exact ⟨h1, h2, h3⟩
    | succ i => exact ih h4 e
theorem take_nodup {S : Sys Str} {r : Rw Str} (h : (S.map (·.1)).Nodup) : ((takeR S r).2.map (·.1)).Nodup := by
  unfold takeR
  split
  · exact h
  · refine nodup_put ?_
    rw [List.map_map]
    exact h
theorem speeds_ok_len {rs : List (Rw Str)} {S : Sys Str} (h : RunOk rs S) : ∀ {i : Nat}, i ≤ rs.length → (runR (rs.take i) S).length = S.length + i := by
  intro i
  induction i with
  | zero => exact fun _ => rfl
  | succ i ih =>
    intro hi
    have e : rs[i]? = some rs[i] := List.getElem?_eq_getElem _
    rw [take_snoc e, runR_snoc, (h.at e).2.2, ih (by omega)]
    omega
theorem AsksAt.ne {K : PySem.W.Frag} {H0 H : Hp} {f b : Addr} {es : List AE} {as : List (Rw Str)} {o : HO} (A : AsksAt K H0 H f es as) (h : H b = some o) (h1 : ∀ C dx fs, o ≠ .ins C dx fs) (h2 : ∀ kvs, o ≠ .dK kvs) (e : AE) (he : e ∈ es) : b ≠ e.2.1 ∧ b ≠ e.2.2 := by
  obtain ⟨j, y, _, _, _, B⟩ := LiI.paired_ix A.each he
  obtain ⟨⟨dx, t, g1, _⟩, kvs, g2, _⟩ := B
  exact ⟨ne_of h g1 (h1 _ _ _), ne_of h g2 (h2 _)⟩
theorem AsksAt.notin {K : PySem.W.Frag} {H0 H : Hp} {f b d : Addr} {es : List AE} {as : List (Rw Str)} {o : HO} (A : AsksAt K H0 H f es as) (h : H b = some o) (h1 : ∀ C dx fs, o ≠ .ins C dx fs) (h2 : ∀ kvs, o ≠ .dK kvs) (n : b ≠ d) (i : Nat) :
    b ∉ d :: ((es.take i).map (fun e => e.2.1) ++ (es.take i).map (fun e => e.2.2)) := fun z => by
  rcases List.mem_cons.mp z with z | z
  · exact n z
  · rcases List.mem_append.mp z with z | z
    · obtain ⟨e, he, ee⟩ := List.mem_map.mp z
      exact (A.ne h h1 h2 e (List.mem_of_mem_take he)).1 ee.symm
    · obtain ⟨e, he, ee⟩ := List.mem_map.mp z
      exact (A.ne h h1 h2 e (List.mem_of_mem_take he)).2 ee.symm
section
variable {P : Program} {w : World} {K : PySem.W.Frag} {mg : Str → Option Value} {base : Heap} {fd : FuncData}
theorem sc_Dsolved_by : FnScope ["rows", "places", "found", "place", "asked"] ["rows", "places"] (defScope sDsolved_by) := C8.fnScope_by (by decide +kernel)
theorem ok_solved_by (F : FDsolved_by K fd) (T : Tx K mg) : FnOk P w K mg base C8.CX0 11 (He.ga K "solved_by") fd ["rows", "places"] (spSolvedBy K) := by
  refine FunD.ok F sc_Dsolved_by (fun vs H Q E h => ?_) (fun cdv A outer s H vs Q E hr h => ?_)
  · obtain ⟨_, _, rfl, _⟩ := h
    rfl
  · obtain ⟨a, rs, rfl, hrows, hlen, rok, run, hal, k⟩ := h
    refine ⟨_, PSs.nox (pss_cons (ps_set (i := 2) sc_Dsolved_by.nd rfl (Or.inl rfl) pe_dnewK) (pss_cons (ps_for PassesOwn.never rfl (pi_list (pe_c (cal_all_asked T) hr (by decide) rfl (pa_cons (pv 0) pa_nil))) (pg_tup rfl (pgs_cons (pg_name (i := 3) sc_Dsolved_by.nd rfl (Or.inl rfl)) (pgs_cons (pg_name (i := 4) sc_Dsolved_by.nd rfl (Or.inl rfl)) pgs_nil))) (pss_one (ps_if (PW.pt (pw_and (PW.pt (pw_or (pt_cmp (pc_isN (pv 1))) (pw_or1 (pt_cmpR op_in_seq (pv 3) (pv 1) (by with_unfolding_all rfl))))) (pw_and1 (pt_not (pt_val (pe_c (cal_take T) hr (by decide) rfl (pa_cons (pv 2) (pa_cons (pv 4) pa_nil)))))))) (pss_one (ps_ret pe_non)) pss_nil))) (pss_one (ps_ret (pv 2))))), ?_⟩
    refine fun d nd => ?_
    have s1 : Same H (upd H d (.dK [])) := same_upd nd
    generalize hH1 : upd H d (.dK []) = H1 at s1
    have hd1 : H1 d = some (.dK []) := by rw [← hH1, upd_same]
    refine ⟨_, rfl, a, rs, rfl, hrows.mono s1, hlen, rok, fun f es H2 s2 A => ?_⟩
    generalize has : asksM rs = as at run hal k A
    have nef : f ≠ d := ne_of A.lst (s2 _ _ hd1) (fun z => by cases z)
    have led : ∀ e ∈ es, e.2.1 ≠ d ∧ e.2.2 ≠ d := fun e he => by
      obtain ⟨g1, g2⟩ := A.new e he
      have h1 : d ≠ e.2.1 := ne_of_none hd1 g1
      have h2 : d ≠ e.2.2 := ne_of_none hd1 g2
      exact ⟨h1.symm, h2.symm⟩
    have hle : es.length = as.length := Paired.length A.each
    refine ⟨f, rfl, ⟨_, SqL.of A.lst⟩, for_list (K := K) (a := f) (xs := es.map fun e => V.ref e.1) (fun i σ H' => ∃ v3 v4 ens, σ = [some (.ref a), some .non, some (.ref d), v3, v4] ∧
      Chg (d :: ((es.take i).map (fun e => e.2.1) ++ (es.take i).map (fun e => e.2.2))) H2 H' ∧ SysAt K H' d ens (runR (as.take i) []) ∧ ((runR (as.take i) []).map (·.1)).Nodup ∧ ens.map (·.2) = (es.take i).map (·.2))
      ⟨_, _, [], rfl, Chg.refl _ _, ⟨s2 _ _ hd1, ⟨.nil, by simp, by simp⟩, by simp⟩, by simp [runR], by simp⟩ (fun i σ H' _ ⟨_, _, _, _, c, _⟩ => SqL.of (c _ _ A.lst ?_)) ?_ ?_⟩
    · exact A.notin A.lst (fun _ _ _ z => by cases z) (fun _ z => by cases z) nef i
    · rintro i x σ H' hi ⟨v3, v4, ens, rfl, c, S, nds, em⟩
      rw [List.getElem?_map] at hi
      cases hei : es[i]? with
      | none =>
        rw [hei] at hi
        cases hi
      | some e =>
        rw [hei] at hi
        have hi : V.ref e.1 = x := Option.some.inj hi
        subst hi
        obtain ⟨r, hri, ⟨n, htp⟩, Ae⟩ := LiI.paired_get A.each hei
        have mem := List.mem_of_getElem? hei
        have hil := (List.getElem?_eq_some_iff.mp hri).1
        have ntd : e.1 ≠ d := ne_of htp (s2 _ _ hd1) (fun z => by cases z)
        have htp' := c _ _ htp (A.notin htp (fun _ _ _ z => by cases z) (fun _ z => by cases z) ntd i)
        have notIn : ∀ {b : Addr} {o : HO}, H2 b = some o → b ≠ d → (∀ e' ∈ es.take i, b ≠ e'.2.1 ∧ b ≠ e'.2.2) → b ∉ d :: ((es.take i).map (fun e => e.2.1) ++ (es.take i).map (fun e => e.2.2)) := fun {b o} h n hh z => by
          rcases List.mem_cons.mp z with z | z
          · exact n z
          · rcases List.mem_append.mp z with z | z
            · obtain ⟨e, he, ee⟩ := List.mem_map.mp z
              exact (hh e he).1 ee.symm
            · obtain ⟨e, he, ee⟩ := List.mem_map.mp z
              exact (hh e he).2 ee.symm
        have distinct : ∀ e' ∈ es.take i, e.2.1 ≠ e'.2.1 ∧ e.2.1 ≠ e'.2.2 ∧ e.2.2 ≠ e'.2.1 ∧ e.2.2 ≠ e'.2.2 := fun e' he' => by
          obtain ⟨j, hj⟩ := List.getElem?_of_mem he'
          have hjl := (List.getElem?_eq_some_iff.mp hj).1
          rw [List.length_take] at hjl
          rw [List.getElem?_take_of_lt (by omega)] at hj
          obtain ⟨r', hr', _, A'⟩ := LiI.paired_get A.each hj
          exact ⟨nodup_ne A.n1 hei hj (by omega), ask_pd Ae A', (ask_pd A' Ae).symm, nodup_ne A.n2 hei hj (by omega)⟩
        have AeH : AskAt K H' e.2.1 e.2.2 r := by
          obtain ⟨⟨dx, t, g1, _⟩, kvs, g2, _⟩ := id Ae
          refine Ae.chg c (notIn g1 (led e mem).1 fun e' he' => ⟨(distinct e' he').1, (distinct e' he').2.1⟩) (notIn g2 (led e mem).2 fun e' he' => ⟨(distinct e' he').2.2.1, (distinct e' he').2.2.2⟩) fun b q R => ?_
          obtain ⟨db, hb⟩ := id R
          refine notIn hb (R.ne_dict (s2 _ _ hd1)) fun e' he' => ?_
          obtain ⟨j, y, _, _, _, B⟩ := LiI.paired_ix A.each (List.mem_of_mem_take he')
          have := ask_rat B b q R
          simpa using this
        have enm : ∀ x ∈ ens, ∃ e' ∈ es.take i, x.2 = e'.2 := fun x hx => by
          have : x.2 ∈ ens.map (·.2) := List.mem_map.mpr ⟨x, hx, rfl⟩
          rw [em] at this
          obtain ⟨e', he', ee⟩ := List.mem_map.mp this
          exact ⟨e', he', ee.symm⟩
        have lrun := speeds_ok_len run (i := i) (by omega)
        obtain ⟨tok, t1, t2⟩ := run.at hri
        refine ⟨e.1, _, rfl, SqT.of htp', rfl, _, _, rfl, _, _, rfl, rfl, ?_⟩
        refine ⟨_, rfl, _, rfl, ?_⟩
        refine ite2 (fun _ => ?_) (fun h => absurd (decide_eq_true rfl) h)
        refine ite2 (fun _ => ?_) (fun h => absurd rfl h)
        refine ⟨_, rfl, _, rfl, d, e.2.1, e.2.2, ens, _, r, rfl, S, AeH, (led e mem).2, fun x hx => ?_, nds, ?_, tok, t2, fun H3 nm c3 S3 => ?_⟩
        · obtain ⟨e', he', ee⟩ := enm x hx
          rw [ee]
          have := distinct e' he'
          exact ⟨this.1.symm, this.2.2.2.symm⟩
        · rw [lrun]
          simp
          omega
        · have et := take_snoc hri
          have ee := take_snoc hei
          refine ⟨_, rfl, ?_⟩
          refine ite2 (fun h => by cases h) (fun _ => ?_)
          have in1 : ∀ x : Addr, x ∈ (es.take i).map (fun e => e.2.1) → x ∈ (es.take (i + 1)).map (fun e => e.2.1) := fun x h => by
            rw [ee, List.map_append]
            exact List.mem_append_left _ h
          have in2 : ∀ x : Addr, x ∈ (es.take i).map (fun e => e.2.2) → x ∈ (es.take (i + 1)).map (fun e => e.2.2) := fun x h => by
            rw [ee, List.map_append]
            exact List.mem_append_left _ h
          have in3 : e.2.1 ∈ (es.take (i + 1)).map (fun e => e.2.1) := by
            rw [ee]
            simp
          have in4 : e.2.2 ∈ (es.take (i + 1)).map (fun e => e.2.2) := by
            rw [ee]
            simp
          have inn : ∀ x : Addr, x ∈ d :: ((es.take i).map (fun e => e.2.1) ++ (es.take i).map (fun e => e.2.2)) → x ∈ d :: ((es.take (i + 1)).map (fun e => e.2.1) ++ (es.take (i + 1)).map (fun e => e.2.2)) := fun x h => by
            rcases List.mem_cons.mp h with h | h
            · rw [h]
              exact List.mem_cons_self
            · refine List.mem_cons_of_mem _ ?_
              rcases List.mem_append.mp h with h | h
              · exact List.mem_append_left _ (in1 x h)
              · exact List.mem_append_right _ (in2 x h)
          refine ⟨_, _, _, rfl, (c.mono inn).trans (c3.mono fun x h => ?_), by rw [et, runR_snoc]; exact S3, by rw [et, runR_snoc]; exact take_nodup nds, ?_⟩
          · rcases List.mem_cons.mp h with h | h
            · rw [h]
              exact List.mem_cons_self
            · refine List.mem_cons_of_mem _ ?_
              rcases List.mem_cons.mp h with h | h
              · rw [h]
                exact List.mem_append_left _ in3
              · rcases List.mem_cons.mp h with h | h
                · rw [h]
                  exact List.mem_append_right _ in4
                · rcases List.mem_append.mp h with h | h
                  · obtain ⟨e1, h1, rfl⟩ := List.mem_map.mp h
                    obtain ⟨e2, h2, e3⟩ := enm _ h1
                    rw [e3]
                    exact List.mem_append_left _ (in1 _ (List.mem_map.mpr ⟨e2, h2, rfl⟩))
                  · obtain ⟨e1, h1, rfl⟩ := List.mem_map.mp h
                    obtain ⟨e2, h2, e3⟩ := enm _ h1
                    rw [e3]
                    exact List.mem_append_right _ (in2 _ (List.mem_map.mpr ⟨e2, h2, rfl⟩))
          · rw [List.map_append, em, ee, List.map_append] <;> rfl
    · rintro σ H' ⟨v3, v4, ens, rfl, c, S, nds, em⟩
      have hl : (es.map fun e => V.ref e.1).length = as.length := by rw [List.length_map, hle]
      rw [hl, List.take_length] at S nds
      refine ⟨_, rfl, k H' d ens (Same.chgS (Same.trans s1 s2) c fun x hx => ?_) S nds⟩
      rcases List.mem_cons.mp hx with h | h
      · rw [h]
        exact nd
      · have s1f : ∀ {b : Addr}, H1 b = none → H b = none := fun h => s1.free h
        rcases List.mem_append.mp h with h | h
        · obtain ⟨e, he, rfl⟩ := List.mem_map.mp h
          exact s1f (A.new e (List.mem_of_mem_take he)).1
        · obtain ⟨e, he, rfl⟩ := List.mem_map.mp h
          exact s1f (A.new e (List.mem_of_mem_take he)).2
theorem cal_solved_by_1 (T : Tx K mg) : Cal P w K mg base 11 "solved_by" (spSolvedBy K) [V.non] := by
  obtain ⟨fd, F⟩ := T.f_Dsolved_by
  obtain ⟨ds, v, b⟩ := bi_Dsolved_by_1 F
  exact ⟨_, fd, _, ds, ok_solved_by F T, T.g_solved_by, F.kp, b, v⟩
theorem sc_Dsolved_all : FnScope ["rows", "found"] ["rows"] (defScope sDsolved_all) := C8.fnScope_by (by decide +kernel)
theorem ok_solved_all (F : FDsolved_all K fd) (T : Tx K mg) : FnOk P w K mg base C8.CX0 12 (He.ga K "solved_all") fd ["rows"] (spSolvedAll K) := by
  refine FunD.ok F sc_Dsolved_all (fun vs H Q E h => ?_) (fun cdv A outer s H vs Q E hr h => ?_)
  · obtain ⟨_, _, rfl, _⟩ := h
    rfl
  · obtain ⟨a, rs, rfl, hrows, hlen, rok, run, hal, k⟩ := h
    refine ⟨_, PSs.nox (pss_cons (ps_set (i := 1) sc_Dsolved_all.nd rfl (Or.inl rfl) (pe_c (cal_solved_by_1 T) hr (by decide) rfl (pa_cons (pv 0) pa_nil))) (pss_cons (ps_if (pt_cmp (pc_isN (pv 1))) (pss_one ps_never) pss_nil) (pss_one (ps_ret (pv 1))))), ?_⟩
    refine ⟨_, rfl, a, rs, rfl, hrows, hlen, rok, run, hal, fun H' d es s1 S nds => ?_⟩
    refine ⟨_, rfl, _, rfl, ?_⟩
    refine ite2 (fun h => absurd (of_decide_eq_true h) (fun z => by cases z)) (fun _ => ?_)
    exact ⟨_, rfl, k H' d es s1 S nds⟩
theorem cal_solved_all (T : Tx K mg) : Cal P w K mg base 12 "solved_all" (spSolvedAll K) [] := by
  obtain ⟨fd, F⟩ := T.f_Dsolved_all
  exact ⟨_, fd, _, _, ok_solved_all F T, T.g_solved_all, F.kp, bi_Dsolved_all F, .nil⟩
/-! ### speeds -/
def toldM (S : Sys Str) (ns : List Str) : List (Str × Option Rat) := ns.foldl (fun acc n => putT acc n (toldT S n)) []
def spSpeeds (K : PySem.W.Frag) : Sp := fun vs H Q _ => ∃ (a : Addr) (rs : List RowM), vs = [.ref a] ∧ RowsAt K H a rs ∧ rs.length ≤ 1000 ∧ (∀ r ∈ rs, RowOk (wheelsM rs) r) ∧ RunOk (asksM rs) [] ∧ (asksM rs).length ≤ 100 ∧
  ∀ H' d, Same H H' → DictAt (OV K H') H' d (toldM (runR (asksM rs) []) (arborsM rs)) → H d = none → Q (.ref d) H'
theorem toldM_snoc {S : Sys Str} {ns : List Str} {n : Str} : toldM S (ns ++ [n]) = putT (toldM S ns) n (toldT S n) := by
  unfold toldM
  rw [List.foldl_append] <;> rfl
theorem toldM_len {S : Sys Str} : ∀ {k : Nat} {ns : List Str}, ns.length = k → (toldM S ns).length ≤ k := by
  intro k
  induction k with
  | zero =>
    intro ns h
    rw [List.length_eq_zero_iff.mp h]
    exact Nat.le_refl _
  | succ k ih =>
    intro ns h
    obtain ⟨b, p, rfl⟩ : ∃ b p, ns = b ++ [p] := ⟨ns.dropLast, ns.getLast (by intro z; rw [z] at h; cases h), (List.dropLast_concat_getLast _).symm⟩
    rw [toldM_snoc]
    have h1 := ih (ns := b) (by simpa using h)
    have h2 := len_put (l := toldM S b) (n := p) (x := toldT S p)
    omega
theorem putT_put {β : Type} {l : List (Str × β)} {k : Str} {v w : β} : putT (putT l k v) k w = putT l k w := by
  by_cases h : k ∈ l.map (·.1)
  · have h2 : k ∈ (putT l k v).map (·.1) := by
      rw [keys_put, if_pos h]
      exact h
    have e1 : putT l k v = l.map (fun p => if p.1 = k then (p.1, v) else p) := if_pos (any_iff.mpr h)
    have e2 : putT l k w = l.map (fun p => if p.1 = k then (p.1, w) else p) := if_pos (any_iff.mpr h)
    have e3 : putT (putT l k v) k w = (putT l k v).map (fun p => if p.1 = k then (p.1, w) else p) := if_pos (any_iff.mpr h2)
    rw [e3, e1, e2, List.map_map]
    apply List.map_congr_left
    intro p _
    by_cases e : p.1 = k
    · simp [e]
    · simp [e]
  · rw [putT_new h, putT_new h]
    have h2 : k ∈ (l ++ [(k, v)]).map (·.1) := by simp
    have e3 : putT (l ++ [(k, v)]) k w = (l ++ [(k, v)]).map (fun p => if p.1 = k then (p.1, w) else p) := if_pos (any_iff.mpr h2)
    rw [e3, List.map_append]
    congr 1
    · conv => rhs; rw [← List.map_id l]
      apply List.map_congr_left
      intro p hp
      rw [if_neg (fun z => h (List.mem_map.mpr ⟨p, hp, z⟩))] <;> rfl
    · show [if k = k then (k, w) else (k, v)] = _
      rw [if_pos rfl]
theorem EntsAt.get {K : PySem.W.Frag} {H : Hp} {es : List En} {S : Sys Str} (h : EntsAt K H es S) (n : Str) : (getT es n = none ∧ getT S n = none) ∨ ∃ p d r, getT es n = some (p, d) ∧ getT S n = some r ∧ AskAt K H p d r := by
  have hh := h.each
  clear h
  induction hh with
  | nil => exact .inl ⟨rfl, rfl⟩
  | @cons e p es S r t ih =>
    obtain ⟨e1, A⟩ := r
    by_cases hn : p.1 = n
    · exact .inr ⟨e.2.1, e.2.2, p.2, getT_pos (e1.trans hn), getT_pos hn, A⟩
    · rw [getT_neg (fun z => hn (e1.symm.trans z)), getT_neg hn]
      exact ih
theorem sc_Dspeeds : FnScope ["rows", "solved", "found", "arbor"] ["rows"] (defScope sDspeeds) := C8.fnScope_by (by decide +kernel)
theorem ok_speeds (F : FDspeeds K fd) (T : Tx K mg) : FnOk P w K mg base C8.CX0 13 (He.ga K "speeds") fd ["rows"] (spSpeeds K) := by
  refine FunD.ok F sc_Dspeeds (fun vs H Q E h => ?_) (fun cdv A outer s H vs Q E hr h => ?_)
  · obtain ⟨_, _, rfl, _⟩ := h
    rfl
  · obtain ⟨a, rs, rfl, hrows, hlen, rok, run, hal, k⟩ := h
    refine ⟨_, PSs.nox (pss_cons (ps_set (i := 1) sc_Dspeeds.nd rfl (Or.inl rfl) (pe_c (cal_solved_all T) hr (by decide) rfl (pa_cons (pv 0) pa_nil))) (pss_cons (ps_set (i := 2) sc_Dspeeds.nd rfl (Or.inl rfl) pe_dnewK) (pss_cons (ps_for PassesOwn.never rfl (pi_list (pe_c (cal_arbors_of T) hr (by decide) rfl (pa_cons (pv 0) pa_nil))) (pg_name (i := 3) sc_Dspeeds.nd rfl (Or.inl rfl)) (pss_cons (ps_dput (hu_of hr) (pv 2) (pv 3) pe_non rfl) (pss_one (ps_if (PW.pt (pw_and (pt_cmp (pc_din (hu_of hr) (pv 3) (pv 1))) (pw_and1 (pt_cmpR op_eq (pe_callB call_lenD (by rfl) T.b_len (by decide +kernel) (pa_cons (pe_fld (pe_dget (hu_of hr) (pv 1) (pv 3) (fun _ _ => rfl)) rfl) pa_nil)) pe_int (nomark _))))) (pss_one (ps_dput (hu_of hr) (pv 2) (pv 3) (pe_fld (pe_dget (hu_of hr) (pv 1) (pv 3) (fun _ _ => rfl)) rfl) rfl)) pss_nil)))) (pss_one (ps_ret (pv 2)))))), ?_⟩
    refine ⟨_, rfl, a, rs, rfl, hrows, hlen, rok, run, hal, fun H1 d es s1 S nds => ?_⟩
    generalize runR (asksM rs) [] = SS at S nds k
    refine fun f nf => ?_
    have s2 : Same H1 (upd H1 f (.dK [])) := same_upd nf
    generalize hH2 : upd H1 f (.dK []) = H2 at s2
    have hf2 : H2 f = some (.dK []) := by rw [← hH2, upd_same]
    have s12 : Same H H2 := Same.trans s1 s2
    have nfH : H f = none := s1.free nf
    refine ⟨_, rfl, a, rs, rfl, hrows.mono s12, hlen, fun l H3 s3 hl => ?_⟩
    have hla : (arborsM rs).length ≤ 1000 := Nat.le_trans (List.length_filterMap_le _ _) hlen
    generalize arborsM rs = ar at hl k hla
    have s13 : Same H H3 := Same.trans s12 s3
    have hf3 := s3 _ _ hf2
    have nlf : l ≠ f := ne_of hl hf3 (fun z => by cases z)
    have hd3 : H3 d = some (.dK (kvsE es)) := s3 _ _ (s2 _ _ S.dict)
    have ndf : d ≠ f := ne_of_none S.dict nf
    have E3 : EntsAt K H3 es SS := S.ents.chg (X := []) (Same.chg (Same.trans s2 s3)) (by simp) (by simp)
    have nef : ∀ e ∈ es, e.2.1 ≠ f ∧ e.2.2 ≠ f := fun e he => by
      obtain ⟨j, y, _, _, _, A⟩ := LiI.paired_ix S.ents.each he
      obtain ⟨⟨dx, t, g1, _⟩, kvs, g2, _⟩ := A
      exact ⟨ne_of_none g1 nf, ne_of_none g2 nf⟩
    have ndes : (es.map (·.1)).Nodup := by
      rw [S.ents.keys]
      exact nds
    refine ⟨l, rfl, ⟨_, SqL.of hl⟩, for_list (K := K) (a := l) (xs := ar.map V.str) (fun i σ H' => ∃ v3, σ = [some (.ref a), some (.ref d), some (.ref f), v3] ∧ Chg [f] H3 H' ∧ DictAt (OV K H') H' f (toldM SS (ar.take i)))
      ⟨_, rfl, Chg.refl _ _, [], hf3, .nil⟩ (fun i σ H' _ ⟨_, _, c, _⟩ => SqL.of (c _ _ hl (by simpa using nlf))) ?_ ?_⟩
    · rintro i x σ H' hi ⟨v3, rfl, c, kvs, hf', dp⟩
      rw [List.getElem?_map] at hi
      cases hni : ar[i]? with
      | none =>
        rw [hni] at hi
        cases hi
      | some n =>
        rw [hni] at hi
        have hi : V.str n = x := Option.some.inj hi
        subst hi
        have et := take_snoc hni
        have hd' := c _ _ hd3 (by simpa using ndf)
        have lenk : kvs.length < sizeLine := by
          rw [dp.len]
          have h1 := toldM_len (S := SS) (ns := ar.take i) rfl
          have h2 : (ar.take i).length ≤ ar.length := List.length_take_le' _ _
          exact Nat.lt_of_le_of_lt (Nat.le_trans h1 (Nat.le_trans h2 hla)) (by decide)
        have kb : Key := .inr n
        have c4 : ∀ y, Chg [f] H' (upd H' f (.dK (putK kvs (.inr n) y))) := fun y => chg_upd (by simp)
        have ovc : ∀ {H5 : Hp} {v : V} {o : Option Rat}, Chg [f] H' H5 → OV K H' v o → OV K H5 v o := fun {H5 v o} cc ov => by
          cases o with
          | none => exact ov
          | some q =>
            obtain ⟨b, e, R⟩ := ov
            exact ⟨b, e, rat_chg R cc (by simpa using R.ne_dict hf')⟩
        have dpn : ∀ {H5 : Hp}, Chg [f] H' H5 → DP (OV K H5) (putK kvs (.inr n) .non) (putT (toldM SS (ar.take i)) n none) := fun {H5} cc => DP.put (dp.mono fun v o z => ovc cc z) rfl
        have E' : EntsAt K H' es SS := E3.chg c (fun e he => by simpa using nef e he) (fun b q R => by simpa using R.ne_dict hf3)
        refine ⟨_, rfl, _, rfl, f, _, rfl, DPut.k (k := .inr n) hf' lenk, ?_⟩
        have c4' := c4 .non
        have dp4 := dpn c4'
        have E4 : EntsAt K (upd H' f (.dK (putK kvs (.inr n) .non))) es SS := E'.chg c4' (fun e he => by simpa using nef e he) (fun b q R => by simpa using R.ne_dict hf')
        have hd4 := c4' _ _ hd' (by simpa using ndf)
        have hf4 : upd H' f (.dK (putK kvs (.inr n) .non)) f = some (.dK (putK kvs (.inr n) .non)) := upd_same
        generalize upd H' f (.dK (putK kvs (.inr n) .non)) = H4 at c4' dp4 E4 hd4 hf4
        have hget : DGet H4 d (.str n) ((getT es n).map fun e => V.ref e.1) := by
          have := DGet.k (k := .inr n) hd4
          rw [valE] at this
          exact this
        rcases E4.get n with ⟨g1, g2⟩ | ⟨q, dq, r, g1, g2, A⟩
        · rw [g1] at hget
          refine ⟨_, rfl, _, rfl, d, _, rfl, hget, _, rfl, ?_⟩
          refine ite2 (fun h => by cases h) (fun _ => ?_)
          refine ite2 (fun h => by cases h) (fun _ => ?_)
          refine ⟨_, rfl, c.trans c4', _, hf4, ?_⟩
          have tn : toldT SS n = none := by
            unfold toldT
            rw [g2]
          rw [et, toldM_snoc, tn]
          exact dp4
        · rw [g1] at hget
          obtain ⟨⟨dx, t, hq, Rt⟩, kq, hkq, dpq⟩ := id A
          refine ⟨_, rfl, _, rfl, d, _, rfl, hget, _, rfl, ?_⟩
          refine ite2 (fun _ => ?_) (fun h => absurd rfl h)
          refine ⟨_, rfl, _, rfl, d, .ref q, rfl, hget, q, _, _, _, _, rfl, hq, T.cl_Asked, T.na_Asked_terms, askF_terms, dq, kq, rfl, hkq, rfl, _, rfl, ?_⟩
          have lq : kq.length = r.1.length := dpq.len
          refine ite2 (fun h => ?_) (fun h => ?_)
          · have h1 : r.1.length = 1 := by
              have h : decide (V.int (kq.length : Nat) = V.int 1) = true := h
              have := V.int.inj (of_decide_eq_true h)
              omega
            refine ⟨_, rfl, _, rfl, d, .ref q, rfl, hget, q, _, _, _, _, rfl, hq, T.cl_Asked, T.na_Asked_total, askF_total, _, rfl, _, rfl, f, _, rfl, DPut.k (k := .inr n) hf4 ?_, ?_⟩
            · rw [dp4.len]
              have h1 := toldM_len (S := SS) (ns := ar.take i) rfl
              have h2 : (ar.take i).length ≤ ar.length := List.length_take_le' _ _
              have h3 := len_put (l := toldM SS (ar.take i)) (n := n) (x := (none : Option Rat))
              exact Nat.lt_of_le_of_lt (show _ ≤ 1001 by omega) (by decide)
            · have c5 : Chg [f] H4 (upd H4 f (.dK (putK (putK kvs (.inr n) .non) (.inr n) (.ref t)))) := chg_upd (by simp)
              refine ⟨_, rfl, (c.trans c4').trans c5, _, upd_same, ?_⟩
              have tn : toldT SS n = some r.2 := by
                unfold toldT
                rw [g2]
                exact if_pos h1
              rw [et, toldM_snoc, tn, ← putT_put (v := none)]
              refine DP.put (dpn (c4'.trans c5)) ⟨t, rfl, rat_chg Rt c5 (by simpa using Rt.ne_dict hf4)⟩
          · have h1 : ¬ r.1.length = 1 := fun z => h (by
              show decide (V.int (kq.length : Nat) = V.int 1) = true
              rw [lq, z]
              rfl)
            refine ⟨_, rfl, c.trans c4', _, hf4, ?_⟩
            have tn : toldT SS n = none := by
              unfold toldT
              rw [g2]
              exact if_neg h1
            rw [et, toldM_snoc, tn]
            exact dp4
    · rintro σ H' ⟨v3, rfl, c, D⟩
      have hl2 : (ar.map V.str).length = ar.length := List.length_map _
      rw [hl2, List.take_length] at D
      exact ⟨_, rfl, k H' f (Same.chgS s13 c fun x hx => by rw [List.mem_singleton.mp hx]; exact nfH) D nfH⟩
theorem cal_speeds (T : Tx K mg) : Cal P w K mg base 13 "speeds" (spSpeeds K) [] := by
  obtain ⟨fd, F⟩ := T.f_Dspeeds
  exact ⟨_, fd, _, _, ok_speeds F T, T.g_speeds, F.kp, bi_Dspeeds F, .nil⟩
end
end Ty
set_option Elab.async false
set_option linter.all false
set_option maxRecDepth 100000
set_option maxHeartbeats 4000000
/-! The class Work. -/
namespace Ty
open PySem PySem.Spec PyProof.Rows L2 C8
def workF (L D B m : Addr) : List (Str × V) := [("all_rows", .ref L), ("known", .ref D), ("by_names", .ref B), ("moment", .ref m)]
theorem lk_Work_all_rows {L D B m : Addr} : (workF L D B m).lookup ("all_rows" : Str) = some (.ref L) := look1
theorem lk_Work_known {L D B m : Addr} : (workF L D B m).lookup ("known" : Str) = some (.ref D) := by
  unfold workF
  rw [lookC (by decide +kernel)]; exact look1
theorem lk_Work_by_names {L D B m : Addr} : (workF L D B m).lookup ("by_names" : Str) = some (.ref B) := by
  unfold workF
  rw [lookC (by decide +kernel), lookC (by decide +kernel)]; exact look1
theorem workF_put {L D B m : Addr} : putF "moment" (.ref m) (putF "by_names" (.ref B) (putF "known" (.ref D) (putF "all_rows" (.ref L) []))) = workF L D B m := by
  have h01 : ¬ (("all_rows" : Str) = "known") := by decide +kernel
  have h02 : ¬ (("all_rows" : Str) = "by_names") := by decide +kernel
  have h03 : ¬ (("all_rows" : Str) = "moment") := by decide +kernel
  have h12 : ¬ (("known" : Str) = "by_names") := by decide +kernel
  have h13 : ¬ (("known" : Str) = "moment") := by decide +kernel
  have h23 : ¬ (("by_names" : Str) = "moment") := by decide +kernel
  simp only [put_nil, put_ne h01, put_ne h02, put_ne h03, put_ne h12, put_ne h13, put_ne h23]
  rfl
theorem wk_no {L D B m : Addr} {x : Str} (h1 : ¬ x = "all_rows") (h2 : ¬ x = "known") (h3 : ¬ x = "by_names") (h4 : ¬ x = "moment") : (workF L D B m).lookup x = none := by
  unfold workF
  rw [lookC h1, lookC h2, lookC h3, lookC h4]
  rfl
abbrev Kn := List (Str × Option Rat)
/-- a Work of these rows and speeds -/
def WorkAt (K : PySem.W.Frag) (H : Hp) (p : Addr) (rs : List RowM) (kn : Kn) : Prop := ∃ dx L D B m, H p = some (.ins (He.ga K "Work") dx (workF L D B m)) ∧ RowsAt K H L rs ∧ DictAt (OV K H) H D kn
theorem WorkAt.mono {K : PySem.W.Frag} {H H' : Hp} {p : Addr} {rs : List RowM} {kn : Kn} (h : WorkAt K H p rs kn) (s : Same H H') : WorkAt K H' p rs kn := by
  obtain ⟨dx, L, D, B, m, h1, h2, h3⟩ := h
  exact ⟨dx, L, D, B, m, s _ _ h1, h2.mono s, h3.mono (by obtain ⟨kvs, e, _⟩ := h3; rw [s _ _ e, e]) fun v o z => z.mono s⟩
/-- what is shown turns -/
def ShownOk (kn : Kn) : RowM → Prop
  | .hand _ a _ => ∃ q, getT kn a = some (some q)
  | .count _ a _ => ∃ q, getT kn a = some (some q)
  | _ => True
def spWorkI (K : PySem.W.Frag) : Sp := fun vs H Q _ => ∃ (p dx a : Addr) (rs : List RowM), vs = [.ref p, .ref a] ∧ H p = some (.ins (He.ga K "Work") dx []) ∧ RowsAt K H a rs ∧ rs.length ≤ 1000 ∧ (∀ r ∈ rs, RowOk (wheelsM rs) r) ∧ RunOk (asksM rs) [] ∧ (asksM rs).length ≤ 100 ∧
  (∀ r ∈ rs, ShownOk (toldM (runR (asksM rs) []) (arborsM rs)) r) ∧ ∀ H', Chg [p] H H' → WorkAt K H' p rs (toldM (runR (asksM rs) []) (arborsM rs)) → Q .non H'
def spItsRows (K : PySem.W.Frag) : Sp := fun vs H Q _ => ∃ (p : Addr) (rs : List RowM) (kn : Kn), vs = [.ref p] ∧ WorkAt K H p rs kn ∧ ∀ l H', Same H H' → RowsAt K H' l rs → Q (.ref l) H'
def spSpeed (K : PySem.W.Frag) : Sp := fun vs H Q _ => ∃ (p : Addr) (rs : List RowM) (kn : Kn) (a : Str) (q : Rat), vs = [.ref p, .str a] ∧ WorkAt K H p rs kn ∧ getT kn a = some (some q) ∧ ∀ r, RatAt K H r q → Q (.ref r) H
section
variable {P : Program} {w : World} {K : PySem.W.Frag} {mg : Str → Option Value} {base : Heap} {fd : FuncData}
theorem Tx.kit2 (T : Tx K mg) (c : Cl) : PySem.W.kitAny K (.ref (He.ga K c.nm)) [.ref (He.ga K "Hand"), .ref (He.ga K "Count")] = some (decide (c = .hand) || decide (c = .count)) := by
  have h1 : PySem.W.kitOne K (.ref (He.ga K c.nm)) (.ref (He.ga K "Hand")) = some (decide (c = .hand)) := T.kit c .hand
  have h2 : PySem.W.kitOne K (.ref (He.ga K c.nm)) (.ref (He.ga K "Count")) = some (decide (c = .count)) := T.kit c .count
  unfold PySem.W.kitAny
  rw [h1]
  cases hd : decide (c = Cl.hand) with
  | true => rfl
  | false =>
    show PySem.W.kitAny K _ [_] = _
    unfold PySem.W.kitAny
    rw [h2]
    cases decide (c = Cl.count) <;> rfl
theorem rowAt_ne {H : Hp} {q p C dx : Addr} {r : RowM} (h : RowAt K H q r) (hp : H p = some (.ins C dx [])) : q ≠ p := by
  obtain ⟨dx', fs, h1, h2⟩ := h
  refine ne_of h1 hp fun z => ?_
  injection z with _ _ z
  subst z
  cases r with
  | arbor n => obtain ⟨v, z⟩ := h2; cases z
  | wheel n a t => obtain ⟨v, z⟩ := h2; cases z
  | mesh o e arm => obtain ⟨v, z⟩ := h2; cases z
  | ring o e arm => obtain ⟨v, z⟩ := h2; cases z
  | drive a r => obtain ⟨v, x, z, _⟩ := h2; cases z
  | still a => obtain ⟨v, z⟩ := h2; cases z
  | hand n a b => obtain ⟨v, m, x, z, _⟩ := h2; cases z
  | count n a t => obtain ⟨v, x, z⟩ := h2; cases z
  | bell => exact h2 rfl
theorem OV.chg {H H' : Hp} {S : List Addr} {v : V} {o : Option Rat} (h : OV K H v o) (c : Chg S H H') (n : ∀ a q, RatAt K H a q → a ∉ S) : OV K H' v o := by
  cases o with
  | none => exact h
  | some q =>
    obtain ⟨a, e, R⟩ := h
    exact ⟨a, e, rat_chg R c (n a q R)⟩
theorem RowAt.chg {H H' : Hp} {S : List Addr} {q : Addr} {r : RowM} (h : RowAt K H q r) (c : Chg S H H') (nq : q ∉ S) (n : ∀ a q, RatAt K H a q → a ∉ S) : RowAt K H' q r := by
  obtain ⟨dx, fs, h1, h2⟩ := h
  refine ⟨dx, fs, c _ _ h1 nq, ?_⟩
  cases r with
  | drive a r =>
    obtain ⟨v, x, e, z⟩ := h2
    obtain ⟨b, e2, R⟩ := z
    exact ⟨v, x, e, b, e2, rat_chg R c (n b r R)⟩
  | hand n' a b =>
    obtain ⟨v, m, x, e, z⟩ := h2
    exact ⟨v, m, x, e, z.chg c n⟩
  | _ => exact h2
theorem RowsAt.chg {H H' : Hp} {S : List Addr} {l : Addr} {rs : List RowM} (h : RowsAt K H l rs) (c : Chg S H H') (nl : l ∉ S) (nr : ∀ q r, RowAt K H q r → q ∉ S) (n : ∀ a q, RatAt K H a q → a ∉ S) : RowsAt K H' l rs := by
  obtain ⟨ps, h1, h2⟩ := h
  exact ⟨ps, c _ _ h1 nl, Paired.mapP h2 fun q r z => z.chg c (nr q r z) n⟩
theorem sc_Work_init : FnScope ["self", "rows", "row"] ["self", "rows"] (defScope sWork_init) := C8.fnScope_by (by decide +kernel)
theorem ok_Work_init (F : FWork_init K fd) (T : Tx K mg) : FnOk P w K mg base C8.CX0 14 (He.ma K (He.ga K "Work") "__init__") fd ["self", "rows"] (spWorkI K) := by
  refine FunD.ok F sc_Work_init (fun vs H Q E h => ?_) (fun cdv A outer s H vs Q E hr h => ?_)
  · obtain ⟨_, _, _, _, rfl, _⟩ := h
    rfl
  · obtain ⟨p, dx, a, rs, rfl, hp, hrows, hlen, rok, run, hal, shown, k⟩ := h
    refine ⟨_, PSs.nox (pss_cons (ps_fld (pv 0) (pe_callTy call_list_of (by rfl) T.b_list (by decide +kernel) (pa_cons (pv 1) pa_nil)) rfl) (pss_cons (ps_fld (pv 0) (pe_c (cal_speeds T) hr (by decide) rfl (pa_cons (pe_fld (pv 0) rfl) pa_nil)) rfl) (pss_cons (ps_fld (pv 0) pe_dnewK rfl) (pss_cons (ps_fld (pv 0) (pe_mk (mak_Ratio_1 T) hr (by decide) rfl (pa_cons pe_int pa_nil)) rfl) (pss_one (ps_for PassesOwn.never rfl (pi_list (pe_fld (pv 0) rfl)) (pg_name (i := 2) sc_Work_init.nd rfl (Or.inl rfl)) (pss_one (ps_if (pt_val (pe_callB call_isiT (by rfl) T.b_isinstance (by decide +kernel) (pa_cons (pv 2) (pa_cons (pe_tup (pa_cons (pe_cls rfl T.g_Hand) (pa_cons (pe_cls rfl T.g_Count) pa_nil))) pa_nil)))) (pss_cons (ps_if (pt_cmp (pc_isN (pe_dget (hu_of hr) (pe_fld (pv 0) rfl) (pe_fld (pv 2) rfl) (fun _ _ => rfl)))) (pss_one ps_never) pss_nil) (pss_one (ps_dput (hu_of hr) (pe_fld (pv 0) rfl) (pe_fld (pv 2) rfl) (pv 2) rfl))) pss_nil)))))))), ?_⟩
    obtain ⟨ps, ha, pr⟩ := id hrows
    have rne : ∀ {q : Addr} {r : RowM}, RowAt K H q r → q ≠ p := fun z => rowAt_ne z hp
    refine ⟨_, rfl, a, _, rfl, .inl (SqL.of ha), fun L nL => ?_⟩
    have npL : p ≠ L := ne_of_none hp nL
    refine ⟨_, rfl, p, _, _, _, rfl, (by rw [upd_ne npL]; exact hp), T.cl_Work, T.na_Work_all_rows, (by decide), ?_⟩
    have c1 : Chg [p] H (upd (upd H L (.lst (ps.map V.ref))) p (.ins (He.ga K "Work") dx (putF "all_rows" (.ref L) []))) := (Same.chg (same_upd nL)).trans (chg_upd (by simp))
    generalize hH1 : upd (upd H L (.lst (ps.map V.ref))) p (.ins (He.ga K "Work") dx (putF "all_rows" (.ref L) [])) = H1 at c1
    have hp1 : H1 p = some (.ins (He.ga K "Work") dx (putF "all_rows" (.ref L) [])) := by rw [← hH1, upd_same]
    have hL1 : H1 L = some (.lst (ps.map V.ref)) := by rw [← hH1, upd_ne npL.symm, upd_same]
    have ratp : ∀ b q, RatAt K H b q → b ∉ [p] := fun b q R => by simpa using rat_ne_new R hp
    have R1 : RowsAt K H1 L rs := ⟨ps, hL1, Paired.mapP pr fun q r z => z.chg c1 (by simpa using rne z) ratp⟩
    refine ⟨_, rfl, p, _, _, _, _, rfl, hp1, T.cl_Work, T.na_Work_all_rows, (by rw [put_nil]; exact look1), L, rs, rfl, R1, hlen, rok, run, hal, fun H2 D s2 DD nD => ?_⟩
    have hp2 := s2 _ _ hp1
    have npD : p ≠ D := ne_of_none hp1 nD
    refine ⟨_, rfl, p, _, _, _, rfl, hp2, T.cl_Work, T.na_Work_known, (Nat.lt_of_lt_of_le (put_lt Nat.zero_lt_one) (by decide)), ?_⟩
    have c3 : Chg [p] H2 (upd H2 p (.ins (He.ga K "Work") dx (putF "known" (.ref D) (putF "all_rows" (.ref L) [])))) := chg_upd (by simp)
    generalize hH3 : upd H2 p (.ins (He.ga K "Work") dx (putF "known" (.ref D) (putF "all_rows" (.ref L) []))) = H3 at c3
    have hp3 : H3 p = some (.ins (He.ga K "Work") dx (putF "known" (.ref D) (putF "all_rows" (.ref L) []))) := by rw [← hH3, upd_same]
    refine fun B nB => ?_
    have npB : p ≠ B := ne_of_none hp3 nB
    refine ⟨_, rfl, p, _, _, _, rfl, (by rw [upd_ne npB]; exact hp3), T.cl_Work, T.na_Work_by_names, (Nat.lt_of_lt_of_le (put_lt (put_lt Nat.zero_lt_one)) (by decide)), ?_⟩
    have c4 : Chg [p] H3 (upd (upd H3 B (.dK [])) p (.ins (He.ga K "Work") dx (putF "by_names" (.ref B) (putF "known" (.ref D) (putF "all_rows" (.ref L) []))))) := (Same.chg (same_upd nB)).trans (chg_upd (by simp))
    generalize hH4 : upd (upd H3 B (.dK [])) p (.ins (He.ga K "Work") dx (putF "by_names" (.ref B) (putF "known" (.ref D) (putF "all_rows" (.ref L) [])))) = H4 at c4
    have hp4 : H4 p = some (.ins (He.ga K "Work") dx (putF "by_names" (.ref B) (putF "known" (.ref D) (putF "all_rows" (.ref L) [])))) := by rw [← hH4, upd_same]
    have hB4 : H4 B = some (.dK []) := by rw [← hH4, upd_ne npB.symm, upd_same]
    refine rat_new (by decide) z8 o8 fun m H5 s5 Rm => ?_
    have hp5 := s5 _ _ hp4
    refine ⟨_, rfl, p, _, _, _, rfl, hp5, T.cl_Work, T.na_Work_moment, (Nat.lt_of_lt_of_le (put_lt (put_lt (put_lt Nat.zero_lt_one))) (by decide)), ?_⟩
    rw [workF_put]
    have c6 : Chg [p] H5 (upd H5 p (.ins (He.ga K "Work") dx (workF L D B m))) := chg_upd (by simp)
    generalize hH6 : upd H5 p (.ins (He.ga K "Work") dx (workF L D B m)) = H6 at c6
    have hp6 : H6 p = some (.ins (He.ga K "Work") dx (workF L D B m)) := by rw [← hH6, upd_same]
    have c26 : Chg [p] H2 H6 := (((c3.trans c4).trans (Same.chg s5)).trans c6)
    have c06 : Chg [p] H H6 := (c1.trans (Same.chg s2)).trans c26
    have hB6 := c6 _ _ (s5 _ _ hB4) (by simpa using npB.symm)
    have hL6 := c26 _ _ (s2 _ _ hL1) (by simpa using npL.symm)
    obtain ⟨kk, hD2, dpD⟩ := DD
    have hD6 := c26 _ _ hD2 (by simpa using npD.symm)
    have ratp2 : ∀ b q, RatAt K H2 b q → b ∉ [p] := fun b q R => by
      obtain ⟨db, e⟩ := R
      have : b ≠ p := ne_of e hp2 (fun z => by
        injection z with _ _ z
        rw [put_nil] at z
        injection z with z z2
        cases z2)
      simpa using this
    have dp6 : DP (OV K H6) kk _ := dpD.mono fun v o z => z.chg c26 ratp2
    have R6 : RowsAt K H6 L rs := ⟨ps, hL6, Paired.mapP pr fun q r z => z.chg c06 (by simpa using rne z) ratp⟩
    generalize hkn : toldM (runR (asksM rs) []) (arborsM rs) = kn at shown k dp6
    have nBD : D ≠ B := by
      have hD3 : H3 D = some (.dK kk) := c3 _ _ hD2 (by simpa using npD.symm)
      exact ne_of_none hD3 nB
    have nBL : L ≠ B := ne_of hL6 hB6 (fun z => by cases z)
    obtain ⟨ps6, hL6', pr6⟩ := id R6
    obtain rfl : ps6 = ps := by
      rw [hL6] at hL6'
      have := Option.some.inj hL6'
      injection this with this
      exact (List.map_inj_right (fun x y h => by injection h)).mp this.symm
    refine ⟨_, rfl, p, _, _, _, _, rfl, hp6, T.cl_Work, T.na_Work_all_rows, lk_Work_all_rows, L, rfl, ⟨_, SqL.of hL6⟩, for_list (K := K) (a := L) (xs := ps6.map V.ref) (fun i σ H' => ∃ v2, σ = [some (.ref p), some (.ref a), v2] ∧ Chg [B] H6 H' ∧ ∃ kb, H' B = some (.dK kb) ∧ kb.length ≤ i)
      ⟨_, rfl, Chg.refl _ _, [], hB6, Nat.le_refl _⟩ (fun i σ H' _ ⟨_, _, c, _⟩ => SqL.of (c _ _ hL6 (by simpa using nBL))) ?_ ?_⟩
    · rintro i x σ H' hi ⟨v2, rfl, c, kb, hB', lb⟩
      obtain ⟨q, hq, rfl⟩ := ref_nth hi
      obtain ⟨r, hri, hr6⟩ := paired_nth pr6 hq
      have hil : i < rs.length := (List.getElem?_eq_some_iff.mp hri).1
      have ratB : ∀ b q, RatAt K H6 b q → b ∉ [B] := fun b q R => by simpa using R.ne_dict hB6
      have nqB : q ≠ B := by
        obtain ⟨dxq, fs, e, _⟩ := id hr6
        exact ne_of e hB6 (fun z => by cases z)
      have hr' := hr6.chg c (by simpa using nqB) ratB
      have hpB : p ≠ B := npB
      have hp' := c _ _ hp6 (by simpa using hpB)
      have hD' := c _ _ hD6 (by simpa using nBD)
      obtain ⟨dxq, fs, hq', hf⟩ := hr'
      refine ⟨_, rfl, (by show 2 ≤ sizeLine; decide), fun tp ntp => ?_⟩
      have st : Same H' (upd H' tp (.tup [.ref (He.ga K "Hand"), .ref (He.ga K "Count")])) := same_upd ntp
      refine ⟨_, tp, _, _, _, _, rfl, upd_same, .cons (.own _) (.cons (.own _) .nil), T.ty _ (st _ _ hq'), T.kit2 _, _, rfl, ?_⟩
      generalize upd H' tp (.tup [.ref (He.ga K "Hand"), .ref (He.ga K "Count")]) = H'' at st
      have hq2 := st _ _ hq'
      have hp2' := st _ _ hp'
      have hD2' := st _ _ hD'
      have hB2 := st _ _ hB'
      have sh := shown r (List.mem_of_getElem? hri)
      have lenb : kb.length < sizeLine := Nat.lt_of_le_of_lt (Nat.le_trans lb (by omega : i ≤ 1000)) (by decide)
      have done : ∀ y, Chg [B] H6 (upd H'' B (.dK (putK kb y (.ref q)))) ∧ ∃ kb', upd H'' B (.dK (putK kb y (.ref q))) B = some (.dK kb') ∧ kb'.length ≤ i + 1 := fun y => by
        refine ⟨(c.trans (Same.chg st)).trans (chg_upd (by simp)), _, upd_same, ?_⟩
        unfold putK
        split
        · rw [List.length_map]
          omega
        · rw [List.length_append]
          simp
          omega
      have kget : ∀ {n : Str} {x : Rat}, getT kn n = some (some x) → ∃ b, DGet H'' D (.str n) (some (.ref b)) := fun {n x} e => by
        rcases dp6.val n with ⟨e1, e2⟩ | ⟨v, y, e1, e2, e3⟩
        · rw [e2] at e
          cases e
        · rw [e2] at e
          cases e
          obtain ⟨b, e4, _⟩ := e3
          have h := DGet.k (k := .inr n) hD2'
          rw [e1, e4] at h
          exact ⟨b, h⟩
      cases r with
      | hand n ar b =>
        obtain ⟨v, mk, xb, rfl, ob⟩ := hf
        obtain ⟨x, ex⟩ := sh
        obtain ⟨kb1, hk1⟩ := kget ex
        refine ite2 (fun _ => ?_) (fun h => absurd (show (decide (Cl.hand = Cl.hand) || decide (Cl.hand = Cl.count)) = true by decide) h)
        refine ⟨_, rfl, p, _, _, _, _, rfl, hp2', T.cl_Work, T.na_Work_known, lk_Work_known, _, rfl, q, _, _, _, _, rfl, hq2, T.cl_Hand, T.na_Hand_arbor, lk_Hand_arbor, D, .ref kb1, rfl, hk1, _, rfl, ?_⟩
        refine ite2 (fun h => absurd (of_decide_eq_true h) (fun z => by cases z)) (fun _ => ?_)
        refine ⟨_, rfl, _, rfl, p, _, _, _, _, rfl, hp2', T.cl_Work, T.na_Work_by_names, lk_Work_by_names, _, rfl, q, _, _, _, _, rfl, hq2, T.cl_Hand, T.na_Hand_name, lk_Hand_name, B, _, rfl, DPut.k (k := .inr n) hB2 lenb, ?_⟩
        exact ⟨_, rfl, done _⟩
      | count n ar t =>
        obtain ⟨v, xb, rfl⟩ := hf
        obtain ⟨x, ex⟩ := sh
        obtain ⟨kb1, hk1⟩ := kget ex
        refine ite2 (fun _ => ?_) (fun h => absurd (show (decide (Cl.count = Cl.hand) || decide (Cl.count = Cl.count)) = true by decide) h)
        refine ⟨_, rfl, p, _, _, _, _, rfl, hp2', T.cl_Work, T.na_Work_known, lk_Work_known, _, rfl, q, _, _, _, _, rfl, hq2, T.cl_Count, T.na_Count_arbor, lk_Count_arbor, D, .ref kb1, rfl, hk1, _, rfl, ?_⟩
        refine ite2 (fun h => absurd (of_decide_eq_true h) (fun z => by cases z)) (fun _ => ?_)
        refine ⟨_, rfl, _, rfl, p, _, _, _, _, rfl, hp2', T.cl_Work, T.na_Work_by_names, lk_Work_by_names, _, rfl, q, _, _, _, _, rfl, hq2, T.cl_Count, T.na_Count_name, lk_Count_name, B, _, rfl, DPut.k (k := .inr n) hB2 lenb, ?_⟩
        exact ⟨_, rfl, done _⟩
      | _ =>
        refine ite2 (fun h => by cases h) (fun _ => ?_)
        exact ⟨_, rfl, c.trans (Same.chg st), kb, hB2, by omega⟩
    · rintro σ H' ⟨v2, rfl, c, kb, hB', lb⟩
      have ratB : ∀ b q, RatAt K H6 b q → b ∉ [B] := fun b q R => by simpa using R.ne_dict hB6
      refine k H' (fun b o e n => c b o (c06 b o e n) ?_) ⟨dx, L, D, B, m, c _ _ hp6 (by simpa using npB), R6.chg c (by simpa using nBL) (fun q r z => ?_) ratB, kk, c _ _ hD6 (by simpa using nBD), dp6.mono fun v o z => z.chg c ratB⟩
      · have hb : b ≠ B := by
          have e1 := c1 b o e n
          have e3 := c3 _ _ (s2 _ _ e1) n
          exact ne_of_none e3 nB
        simpa using hb
      · obtain ⟨dxq, fs, e, _⟩ := z
        simpa using ne_of e hB6 (fun z => by cases z)
theorem mak_Work_1 (T : Tx K mg) : Mak P w K mg base 14 "Work" (He.ga K "Work") (spWorkI K) [] := by
  obtain ⟨fd, F⟩ := T.f_Work_init
  exact ⟨_, fd, _, _, T.mk_Work, ok_Work_init F T, T.g_Work, bi_Work_init F, .nil⟩
theorem sc_Work_its_rows : FnScope ["self"] ["self"] (defScope sWork_its_rows) := C8.fnScope_by (by decide +kernel)
theorem ok_Work_its_rows (F : FWork_its_rows K fd) (T : Tx K mg) : FnOk P w K mg base C8.CX0 1 (He.ma K (He.ga K "Work") "its_rows") fd ["self"] (spItsRows K) := by
  refine FunD.ok F sc_Work_its_rows (fun vs H Q E h => ?_) (fun cdv A outer s H vs Q E hr h => ?_)
  · obtain ⟨_, _, _, rfl, _⟩ := h
    rfl
  · obtain ⟨p, rs, kn, rfl, ⟨dx, L, D, B, m, hp, ⟨ps, hL, pr⟩, hD⟩, k⟩ := h
    refine ⟨_, PSs.nox (pss_one (ps_ret (pe_callTy call_list_of (by rfl) T.b_list (by decide +kernel) (pa_cons (pe_fld (pv 0) rfl) pa_nil)))), ?_⟩
    refine ⟨_, rfl, p, _, _, _, _, rfl, hp, T.cl_Work, T.na_Work_all_rows, lk_Work_all_rows, L, _, rfl, .inl (SqL.of hL), fun l nl => ?_⟩
    have s1 : Same H (upd H l (.lst (ps.map V.ref))) := same_upd nl
    exact k l _ s1 ⟨ps, upd_same, Paired.mapP pr fun q r z => z.mono s1⟩
theorem met_its_rows (T : Tx K mg) : Met P w K mg base 1 (He.ga K "Work") "its_rows" (spItsRows K) [] := by
  obtain ⟨fd, F⟩ := T.f_Work_its_rows
  exact ⟨_, fd, _, _, T.cl_Work, T.me_Work_its_rows, ok_Work_its_rows F T, bi_Work_its_rows F, .nil⟩
theorem sc_Work_speed : FnScope ["self", "arbor"] ["self", "arbor"] (defScope sWork_speed) := C8.fnScope_by (by decide +kernel)
theorem ok_Work_speed (F : FWork_speed K fd) (T : Tx K mg) : FnOk P w K mg base C8.CX0 1 (He.ma K (He.ga K "Work") "speed") fd ["self", "arbor"] (spSpeed K) := by
  refine FunD.ok F sc_Work_speed (fun vs H Q E h => ?_) (fun cdv A outer s H vs Q E hr h => ?_)
  · obtain ⟨_, _, _, _, _, rfl, _⟩ := h
    rfl
  · obtain ⟨p, rs, kn, a, q, rfl, ⟨dx, L, D, B, m, hp, hrows, kk, hD, dp⟩, hg, k⟩ := h
    refine ⟨_, PSs.nox (pss_cons (ps_if (pt_cmp (pc_dnotin (hu_of hr) (pv 1) (pe_fld (pv 0) rfl))) (pss_one ps_never) pss_nil) (pss_one (ps_ret (pe_dget (hu_of hr) (pe_fld (pv 0) rfl) (pv 1) (fun _ _ => rfl))))), ?_⟩
    obtain ⟨b, hget, R⟩ : ∃ b, DGet H D (.str a) (some (.ref b)) ∧ RatAt K H b q := by
      rcases dp.val a with ⟨e1, e2⟩ | ⟨v, y, e1, e2, e3⟩
      · rw [e2] at hg
        cases hg
      · rw [e2] at hg
        cases hg
        obtain ⟨b, e4, R⟩ := e3
        have h := DGet.k (k := .inr a) hD
        rw [e1, e4] at h
        exact ⟨b, h, R⟩
    refine ⟨_, rfl, _, rfl, p, _, _, _, _, rfl, hp, T.cl_Work, T.na_Work_known, lk_Work_known, D, _, rfl, hget, _, rfl, ?_⟩
    refine ite2 (fun h => by cases h) (fun _ => ?_)
    refine ⟨_, rfl, p, _, _, _, _, rfl, hp, T.cl_Work, T.na_Work_known, lk_Work_known, _, rfl, D, .ref b, rfl, hget, k b R⟩
theorem met_speed (T : Tx K mg) : Met P w K mg base 1 (He.ga K "Work") "speed" (spSpeed K) [] := by
  obtain ⟨fd, F⟩ := T.f_Work_speed
  exact ⟨_, fd, _, _, T.cl_Work, T.me_Work_speed, ok_Work_speed F T, bi_Work_speed F, .nil⟩
end
end Ty
set_option Elab.async false
set_option linter.all false
set_option maxRecDepth 100000
set_option maxHeartbeats 4000000
/-! meetings.py, where nothing is raised. -/
namespace Ty
open PySem PySem.Spec PyProof.Rows L2 C8
def handP (n : Str) : RowM → Option (Str × Option Rat)
  | .hand m a b => if m = n then some (a, b) else none
  | _ => none
/-- the arbor and the begin of the hand of that name -/
def handM (rs : List RowM) (n : Str) : Option (Str × Option Rat) := rs.findSome? (handP n)
def spHandOf (K : PySem.W.Frag) : Sp := fun vs H Q _ => ∃ (p : Addr) (rs : List RowM) (kn : Kn) (n a : Str) (b : Option Rat), vs = [.ref p, .str n] ∧ WorkAt K H p rs kn ∧ handM rs n = some (a, b) ∧ ∀ q H', Same H H' → RowAt K H' q (.hand n a b) → Q (.ref q) H'
def spBeginOf (K : PySem.W.Frag) : Sp := fun vs H Q _ => ∃ (p : Addr) (n a : Str) (b : Option Rat), vs = [.ref p] ∧ RowAt K H p (.hand n a b) ∧ ∀ q H', Same H H' → RatAt K H' q (b.getD 0) → Q (.ref q) H'
/-- two hands, a Ratio off; by how much the second is ahead, what it gains -/
def LeadIn (K : PySem.W.Frag) (H : Hp) (p o : Addr) (one other : Str) (A g : Rat) : Prop := ∃ (rs : List RowM) (kn : Kn) (a1 a2 : Str) (b1 b2 : Option Rat) (v1 v2 off : Rat), WorkAt K H p rs kn ∧ handM rs one = some (a1, b1) ∧ handM rs other = some (a2, b2) ∧
  getT kn a1 = some (some v1) ∧ getT kn a2 = some (some v2) ∧ RatAt K H o off ∧ Ok (b1.getD 0) ∧ Ok (b2.getD 0) ∧ Ok (b2.getD 0 - b1.getD 0) ∧ Ok off ∧ Ok v1 ∧ Ok v2 ∧ A = b2.getD 0 - b1.getD 0 - off ∧ g = v2 - v1
theorem LeadIn.mono {K : PySem.W.Frag} {H H' : Hp} {p o : Addr} {one other : Str} {A g : Rat} (h : LeadIn K H p o one other A g) (s : Same H H') : LeadIn K H' p o one other A g := by
  obtain ⟨rs, kn, a1, a2, b1, b2, v1, v2, off, h1, h2, h3, h4, h5, h6, h7⟩ := h
  exact ⟨rs, kn, a1, a2, b1, b2, v1, v2, off, h1.mono s, h2, h3, h4, h5, h6.mono s, h7⟩
def spLead (K : PySem.W.Frag) : Sp := fun vs H Q _ => ∃ (p o : Addr) (one other : Str) (A g : Rat), vs = [.ref p, .str one, .str other, .ref o] ∧ LeadIn K H p o one other A g ∧
  ∀ t ra rg H', Same H H' → H' t = some (.tup [.ref ra, .ref rg]) → RatAt K H' ra A → RatAt K H' rg g → Q (.ref t) H'
def ceilM (q : Rat) : Int := -(Rat.floor (-q))
def spCeil (K : PySem.W.Frag) : Sp := fun vs H Q _ => ∃ (p : Addr) (q : Rat), vs = [.ref p] ∧ RatAt K H p q ∧ Ok q ∧ ∀ H', Same H H' → Q (.int (ceilM q)) H'
/-- the time from a meeting to the next -/
def perM (g : Rat) : Rat := if (1 / g) < 0 then -(1 / g) else 1 / g
def firstM (A g : Rat) : Rat := rest ((-A) / g / perM g) * perM g
structure MeetOk (A g : Rat) : Prop where
  ha : Ok A
  hg : Ok g
  q : Ok (-A / g)
  p : Ok (perM g)
  r : Ok ((-A) / g / perM g)
def spMeeting (K : PySem.W.Frag) : Sp := fun vs H Q _ => ∃ (p o : Addr) (one other : Str) (A g : Rat), vs = [.ref p, .str one, .str other, .ref o] ∧ LeadIn K H p o one other A g ∧ Ok A ∧ Ok g ∧
  (g ≠ 0 → MeetOk A g ∧ ∀ t rf rp H', Same H H' → H' t = some (.tup [.ref rf, .ref rp]) → RatAt K H' rf (firstM A g) → RatAt K H' rp (perM g) → Q (.ref t) H') ∧
  (g = 0 → (rest A = 0 → ∀ t rf rp H', Same H H' → H' t = some (.tup [.ref rf, .ref rp]) → RatAt K H' rf 0 → RatAt K H' rp 0 → Q (.ref t) H') ∧ (rest A ≠ 0 → ∀ H', Same H H' → Q .non H'))
def numsM (f P b e : Rat) : Int × Int := if b < e then (ceilM ((b - f) / P), ceilM ((e - f) / P)) else (0, 0)
structure NumOk (f P b : Rat) : Prop where
  hb : Ok b
  s : Ok (b - f)
  q : Ok ((b - f) / P)
def spNums (K : PySem.W.Frag) : Sp := fun vs H Q _ => ∃ (pf pp pb pe : Addr) (f P b e : Rat), vs = [.ref pf, .ref pp, .ref pb, .ref pe] ∧ RatAt K H pf f ∧ RatAt K H pp P ∧ RatAt K H pb b ∧ RatAt K H pe e ∧ Ok f ∧ Ok P ∧ P ≠ 0 ∧ NumOk f P b ∧ NumOk f P e ∧
  ∀ t H', Same H H' → H' t = some (.tup [.int (numsM f P b e).1, .int (numsM f P b e).2]) → Q (.ref t) H'
theorem per_ne {g : Rat} (h : g ≠ 0) : perM g ≠ 0 := by
  have h1 : (1 : Rat) / g ≠ 0 := fun z => by
    have : (1 : Rat) / g * g = 1 := Rat.div_mul_cancel h
    rw [z, Rat.zero_mul] at this
    exact absurd this (by decide)
  unfold perM
  split
  · intro z
    exact h1 (by
      have := congrArg (fun x => -x) z
      simpa using this)
  · exact h1
def spFoundOf (K : PySem.W.Frag) : Sp := fun vs H Q _ => ∃ (p o : Addr) (one other : Str) (A g : Rat), vs = [.ref p, .str one, .str other, .ref o] ∧ LeadIn K H p o one other A g ∧ g ≠ 0 ∧ MeetOk A g ∧
  ∀ t rf rp H', Same H H' → H' t = some (.tup [.ref rf, .ref rp]) → RatAt K H' rf (firstM A g) → RatAt K H' rp (perM g) → Q (.ref t) H'
def spCountOf (K : PySem.W.Frag) : Sp := fun vs H Q _ => ∃ (p o pb pe : Addr) (one other : Str) (A g b e : Rat), vs = [.ref p, .str one, .str other, .ref o, .ref pb, .ref pe] ∧ LeadIn K H p o one other A g ∧ g ≠ 0 ∧ MeetOk A g ∧ RatAt K H pb b ∧ RatAt K H pe e ∧
  Ok (firstM A g) ∧ NumOk (firstM A g) (perM g) b ∧ NumOk (firstM A g) (perM g) e ∧ ∀ H', Same H H' → Q (.int ((numsM (firstM A g) (perM g) b e).2 - (numsM (firstM A g) (perM g) b e).1)) H'
section
variable {P : Program} {w : World} {K : PySem.W.Frag} {mg : Str → Option Value} {base : Heap} {fd : FuncData}
theorem sc_Dbegin_of : FnScope ["hand"] ["hand"] (defScope sDbegin_of) := C8.fnScope_by (by decide +kernel)
theorem ok_begin_of (F : FDbegin_of K fd) (T : Tx K mg) : FnOk P w K mg base C8.CX0 4 (He.ga K "begin_of") fd ["hand"] (spBeginOf K) := by
  refine FunD.ok F sc_Dbegin_of (fun vs H Q E h => ?_) (fun cdv A outer s H vs Q E hr h => ?_)
  · obtain ⟨_, _, _, _, rfl, _⟩ := h
    rfl
  · obtain ⟨p, n, a, b, rfl, ⟨dx, fs, hp, v, m, x, rfl, hx⟩, k⟩ := h
    refine ⟨_, PSs.nox (pss_one (ps_ret (pe_ifExp (pt_cmp (pc_isN (pe_fld (pv 0) rfl))) (pe_mk (mak_Ratio_1 T) hr (by decide) rfl (pa_cons pe_int pa_nil)) (pe_fld (pv 0) rfl)))), ?_⟩
    refine ⟨_, rfl, p, _, _, _, _, rfl, hp, T.cl_Hand, T.na_Hand_begin, lk_Hand_begin, _, rfl, ?_⟩
    cases b with
    | none =>
      have hx : x = .non := hx
      subst hx
      refine ite2 (fun _ => ?_) (fun h => absurd (decide_eq_true rfl) h)
      refine rat_new (by decide) z8 o8 fun r H1 s1 R => ?_
      refine k r H1 s1 ?_
      rw [rq_int] at R
      exact R
    | some q =>
      obtain ⟨r, rfl, R⟩ := hx
      refine ite2 (fun h => absurd (of_decide_eq_true h) (fun z => by cases z)) (fun _ => ?_)
      exact ⟨_, rfl, p, _, _, _, _, rfl, hp, T.cl_Hand, T.na_Hand_begin, lk_Hand_begin, k r H (fun _ _ z => z) R⟩
theorem cal_begin_of (T : Tx K mg) : Cal P w K mg base 4 "begin_of" (spBeginOf K) [] := by
  obtain ⟨fd, F⟩ := T.f_Dbegin_of
  exact ⟨_, fd, _, _, ok_begin_of F T, T.g_begin_of, F.kp, bi_Dbegin_of F, .nil⟩
theorem sc_Dhand_of : FnScope ["work", "name", "row"] ["work", "name"] (defScope sDhand_of) := C8.fnScope_by (by decide +kernel)
theorem ok_hand_of (F : FDhand_of K fd) (T : Tx K mg) : FnOk P w K mg base C8.CX0 2 (He.ga K "hand_of") fd ["work", "name"] (spHandOf K) := by
  refine FunD.ok F sc_Dhand_of (fun vs H Q E h => ?_) (fun cdv A outer s H vs Q E hr h => ?_)
  · obtain ⟨_, _, _, _, _, _, rfl, _⟩ := h
    rfl
  · obtain ⟨p, rs, kn, n, a, b, rfl, hw, hh, k⟩ := h
    refine ⟨_, PSs.nox (pss_cons (ps_for PassesOwn.never rfl (pi_list (pe_mt0 (met_its_rows T) hr (by decide) (pv 0))) (pg_name (i := 2) sc_Dhand_of.nd rfl (Or.inl rfl)) (pss_one (ps_if (PW.pt (pw_and (pt_val (pe_callB call_isi (by rfl) T.b_isinstance (by decide +kernel) (pa_cons (pv 2) (pa_cons (pe_cls rfl T.g_Hand) pa_nil)))) (pw_and1 (pt_cmpR op_eq (pe_fld (pv 2) rfl) (pv 1) (nomark _))))) (pss_one (ps_ret (pv 2))) pss_nil))) (pss_one ps_never)), ?_⟩
    obtain ⟨dxw, L, D, B, m, hpw, _, _⟩ := id hw
    refine ⟨_, rfl, p, dxw, _, rfl, hpw, wk_no (by decide +kernel) (by decide +kernel) (by decide +kernel) (by decide +kernel), p, rs, kn, rfl, hw, fun l H1 s1 hrows => ?_⟩
    obtain ⟨ps, hl, pr⟩ := hrows
    refine ⟨l, rfl, ⟨_, SqL.of hl⟩, for_list (K := K) (a := l) (xs := ps.map V.ref) (fun i σ H' => ∃ v2, σ = [some (.ref p), some (.str n), v2] ∧ H' = H1 ∧ (rs.drop i).findSome? (handP n) = some (a, b)) ⟨_, rfl, rfl, hh⟩ (fun i σ H' _ ⟨_, _, c, _⟩ => by rw [c]; exact SqL.of hl) ?_ ?_⟩
    · rintro i x σ H' hi ⟨v2, rfl, rfl, hf⟩
      obtain ⟨q, hq, rfl⟩ := ref_nth hi
      obtain ⟨r, hri, hr⟩ := paired_nth pr hq
      have hil := (List.getElem?_eq_some_iff.mp hri).1
      have hdr : rs.drop i = r :: rs.drop (i + 1) := by
        rw [List.drop_eq_getElem_cons hil]
        congr 1
        exact (List.getElem?_eq_some_iff.mp hri).2
      rw [hdr, List.findSome?_cons] at hf
      obtain ⟨dx, fs, hq1, hf1⟩ := id hr
      refine ⟨_, rfl, _, _, _, _, _, rfl, .own _, T.ty _ hq1, T.kit r.cl .hand, _, rfl, ?_⟩
      cases r with
      | hand n2 a2 b2 =>
        obtain ⟨v, mk, xb, rfl, ob⟩ := hf1
        refine ite2 (fun _ => ?_) (fun h => absurd (show decide (Cl.hand = Cl.hand) = true from decide_eq_true rfl) h)
        refine ⟨_, rfl, q, _, _, _, _, rfl, hq1, T.cl_Hand, T.na_Hand_name, lk_Hand_name, _, rfl, rfl, _, rfl, ?_⟩
        by_cases e : n2 = n
        · subst e
          have hf : some (a2, b2) = some (a, b) := by
            have h0 : handP n2 (.hand n2 a2 b2) = some (a2, b2) := if_pos rfl
            rw [h0] at hf
            exact hf
          cases hf
          refine ite2 (fun _ => ?_) (fun h => absurd (decide_eq_true rfl) h)
          exact ⟨_, rfl, k q H' s1 hr⟩
        · have h0 : handP n (.hand n2 a2 b2) = none := if_neg e
          rw [h0] at hf
          refine ite2 (fun h => absurd (V.str.inj (of_decide_eq_true h)) e) (fun _ => ?_)
          exact ⟨_, rfl, rfl, hf⟩
      | _ =>
        refine ite2 (fun h => absurd (of_decide_eq_true h) (fun z => by cases z)) (fun _ => ?_)
        refine ite2 (fun h => by cases h) (fun _ => ?_)
        exact ⟨_, rfl, rfl, hf⟩
    · rintro σ H' ⟨v2, rfl, rfl, hf⟩
      rw [List.length_map, Paired.length pr, List.drop_length] at hf
      cases hf
theorem cal_hand_of (T : Tx K mg) : Cal P w K mg base 2 "hand_of" (spHandOf K) [] := by
  obtain ⟨fd, F⟩ := T.f_Dhand_of
  exact ⟨_, fd, _, _, ok_hand_of F T, T.g_hand_of, F.kp, bi_Dhand_of F, .nil⟩
theorem sc_Dlead_of : FnScope ["work", "one", "other", "off", "first", "second", "ahead"] ["work", "one", "other", "off"] (defScope sDlead_of) := C8.fnScope_by (by decide +kernel)
theorem ok_lead_of (F : FDlead_of K fd) (T : Tx K mg) : FnOk P w K mg base C8.CX0 6 (He.ga K "lead_of") fd ["work", "one", "other", "off"] (spLead K) := by
  refine FunD.ok F sc_Dlead_of (fun vs H Q E h => ?_) (fun cdv A outer s H vs Q E hr h => ?_)
  · obtain ⟨_, _, _, _, _, _, rfl, _⟩ := h
    rfl
  · obtain ⟨p, o, one, other, AA, g, rfl, ⟨rs, kn, a1, a2, b1, b2, v1, v2, off, hw, m1, m2, g1, g2, Ro, o1, o2, o3, o4, o5, o6, eA, eg⟩, k⟩ := h
    refine ⟨_, PSs.nox (pss_cons (ps_set (i := 4) sc_Dlead_of.nd rfl (Or.inl rfl) (pe_c (cal_hand_of T) hr (by decide) rfl (pa_cons (pv 0) (pa_cons (pv 1) pa_nil)))) (pss_cons (ps_set (i := 5) sc_Dlead_of.nd rfl (Or.inl rfl) (pe_c (cal_hand_of T) hr (by decide) rfl (pa_cons (pv 0) (pa_cons (pv 2) pa_nil)))) (pss_cons (ps_set (i := 6) sc_Dlead_of.nd rfl (Or.inl rfl) (pe_mt (met_minus T) hr (by decide) (pe_mt (met_minus T) hr (by decide) (pe_c (cal_begin_of T) hr (by decide) rfl (pa_cons (pv 5) pa_nil)) (pa_cons (pe_c (cal_begin_of T) hr (by decide) rfl (pa_cons (pv 4) pa_nil)) pa_nil)) (pa_cons (pv 3) pa_nil))) (pss_one (ps_ret (pe_tup (pa_cons (pv 6) (pa_cons (pe_mt (met_minus T) hr (by decide) (pe_mt (met_speed T) hr (by decide) (pv 0) (pa_cons (pe_fld (pv 5) rfl) pa_nil)) (pa_cons (pe_mt (met_speed T) hr (by decide) (pv 0) (pa_cons (pe_fld (pv 4) rfl) pa_nil)) pa_nil)) pa_nil)))))))), ?_⟩
    refine ⟨_, rfl, _, rfl, p, rs, kn, one, a1, b1, rfl, hw, m1, fun q1 H1 s1 h1 => ?_⟩
    refine ⟨_, rfl, _, rfl, p, rs, kn, other, a2, b2, rfl, hw.mono s1, m2, fun q2 H2 s2 h2 => ?_⟩
    have h1' := h1.mono s2
    refine ⟨_, rfl, q2, other, a2, b2, rfl, h2, fun r1 H3 s3 R1 => ?_⟩
    obtain ⟨d1, e1⟩ := id R1
    refine ⟨r1, d1, _, rfl, e1, ratF_no _ (by decide +kernel) (by decide +kernel), _, rfl, q1, one, a1, b1, rfl, h1'.mono s3, fun r2 H4 s4 R2 => ?_⟩
    refine ⟨r1, r2, _, _, rfl, R1.mono s4, R2, ⟨o2, o1⟩, fun r3 H5 s5 R3 => ?_⟩
    obtain ⟨d3, e3⟩ := id R3
    have s15 : Same H H5 := Same.trans (Same.trans s1 s2) (Same.trans (Same.trans s3 s4) s5)
    refine ⟨r3, d3, _, rfl, e3, ratF_no _ (by decide +kernel) (by decide +kernel), _, rfl, r3, o, _, off, rfl, R3, Ro.mono s15, ⟨o3, o4⟩, fun r4 H6 s6 R4 => ?_⟩
    have s16 : Same H H6 := Same.trans s15 s6
    have s26 : Same H2 H6 := Same.trans (Same.trans (Same.trans s3 s4) s5) s6
    have hw6 := hw.mono s16
    obtain ⟨dxw, L, D, B, m, hpw, _, _⟩ := id hw6
    obtain ⟨dx2, fs2, hq2, w2, w3, w4, rfl, _⟩ := h2.mono s26
    obtain ⟨dx1, fs1, hq1, x2, x3, x4, rfl, _⟩ := h1'.mono s26
    refine ⟨_, rfl, _, rfl, p, dxw, _, rfl, hpw, wk_no (by decide +kernel) (by decide +kernel) (by decide +kernel) (by decide +kernel), _, rfl, q2, _, _, _, _, rfl, hq2, T.cl_Hand, T.na_Hand_arbor, lk_Hand_arbor, p, rs, kn, a2, v2, rfl, hw6, g2, fun s R5 => ?_⟩
    obtain ⟨d5, e5⟩ := id R5
    refine ⟨s, d5, _, rfl, e5, ratF_no _ (by decide +kernel) (by decide +kernel), _, rfl, p, dxw, _, rfl, hpw, wk_no (by decide +kernel) (by decide +kernel) (by decide +kernel) (by decide +kernel), _, rfl, q1, _, _, _, _, rfl, hq1, T.cl_Hand, T.na_Hand_arbor, lk_Hand_arbor, p, rs, kn, a1, v1, rfl, hw6, g1, fun s' R6 => ?_⟩
    refine ⟨s, s', v2, v1, rfl, R5, R6, ⟨o6, o5⟩, fun r7 H7 s7 R7 => ?_⟩
    refine ⟨(by show 2 ≤ sizeLine; decide), fun t nt => ?_⟩
    have s8 : Same H7 (upd H7 t (.tup [.ref r4, .ref r7])) := same_upd nt
    refine k t r4 r7 _ (Same.trans (Same.trans s16 s7) s8) upd_same ?_ ?_
    · rw [eA]
      exact (R4.mono s7).mono s8
    · rw [eg]
      exact R7.mono s8
theorem cal_lead_of (T : Tx K mg) : Cal P w K mg base 6 "lead_of" (spLead K) [] := by
  obtain ⟨fd, F⟩ := T.f_Dlead_of
  exact ⟨_, fd, _, _, ok_lead_of F T, T.g_lead_of, F.kp, bi_Dlead_of F, .nil⟩
theorem sc_Dceiling : FnScope ["ratio"] ["ratio"] (defScope sDceiling) := C8.fnScope_by (by decide +kernel)
theorem ok_ceiling (F : FDceiling K fd) (T : Tx K mg) : FnOk P w K mg base C8.CX0 5 (He.ga K "ceiling") fd ["ratio"] (spCeil K) := by
  refine FunD.ok F sc_Dceiling (fun vs H Q E h => ?_) (fun cdv A outer s H vs Q E hr h => ?_)
  · obtain ⟨_, _, rfl, _⟩ := h
    rfl
  · obtain ⟨p, q, rfl, R, o, k⟩ := h
    obtain ⟨d, e⟩ := id R
    refine ⟨_, PSs.nox (pss_one (ps_ret (pe_un un_neg (pe_mt0 (met_floor T) hr (by decide) (pe_mt0 (met_turned T) hr (by decide) (pv 0)))))), ?_⟩
    refine ⟨_, rfl, p, d, _, rfl, e, ratF_no _ (by decide +kernel) (by decide +kernel), p, q, rfl, R, o, fun r H1 s1 R1 => ?_⟩
    obtain ⟨d1, e1⟩ := id R1
    exact ⟨r, d1, _, rfl, e1, ratF_no _ (by decide +kernel) (by decide +kernel), r, _, rfl, R1, bd_neg o, _, rfl, k H1 s1⟩
theorem cal_ceiling (T : Tx K mg) : Cal P w K mg base 5 "ceiling" (spCeil K) [] := by
  obtain ⟨fd, F⟩ := T.f_Dceiling
  exact ⟨_, fd, _, _, ok_ceiling F T, T.g_ceiling, F.kp, bi_Dceiling F, .nil⟩
theorem sc_Dmeeting : FnScope ["work", "one", "other", "off", "ahead", "gain", "period"] ["work", "one", "other", "off"] (defScope sDmeeting) := C8.fnScope_by (by decide +kernel)
theorem ok_meeting (F : FDmeeting K fd) (T : Tx K mg) : FnOk P w K mg base C8.CX0 7 (He.ga K "meeting") fd ["work", "one", "other", "off"] (spMeeting K) := by
  refine FunD.ok F sc_Dmeeting (fun vs H Q E h => ?_) (fun cdv A outer s H vs Q E hr h => ?_)
  · obtain ⟨_, _, _, _, _, _, rfl, _⟩ := h
    rfl
  · obtain ⟨p, o, one, other, AA, g, rfl, hL, oA, og, kn, kz⟩ := h
    refine ⟨_, PSs.nox (pss_cons (ps_asg (pe_c (cal_lead_of T) hr (by decide) rfl (pa_cons (pv 0) (pa_cons (pv 1) (pa_cons (pv 2) (pa_cons (pv 3) pa_nil))))) (pg_tup rfl (pgs_cons (pg_name (i := 4) sc_Dmeeting.nd rfl (Or.inl rfl)) (pgs_cons (pg_name (i := 5) sc_Dmeeting.nd rfl (Or.inl rfl)) pgs_nil)))) (pss_cons (ps_if (pt_cmpR op_eq (pe_mt0 (met_sign T) hr (by decide) (pv 5)) pe_int (nomark _)) (pss_cons (ps_if (pt_cmpR op_eq (pe_mt0 (met_sign T) hr (by decide) (pe_mt0 (met_rest T) hr (by decide) (pv 4))) pe_int (nomark _)) (pss_one (ps_ret (pe_tup (pa_cons (pe_mk (mak_Ratio_1 T) hr (by decide) rfl (pa_cons pe_int pa_nil)) (pa_cons (pe_mk (mak_Ratio_1 T) hr (by decide) rfl (pa_cons pe_int pa_nil)) pa_nil))))) pss_nil) (pss_one (ps_ret pe_non))) pss_nil) (pss_cons (ps_set (i := 6) sc_Dmeeting.nd rfl (Or.inl rfl) (pe_mt (met_over T) hr (by decide) (pe_mk (mak_Ratio_1 T) hr (by decide) rfl (pa_cons pe_int pa_nil)) (pa_cons (pv 5) pa_nil))) (pss_cons (ps_if (pt_cmpR op_lt (pe_mt0 (met_sign T) hr (by decide) (pv 6)) pe_int (nomark _)) (pss_one (ps_set (i := 6) sc_Dmeeting.nd rfl (Or.inl rfl) (pe_mt0 (met_turned T) hr (by decide) (pv 6)))) pss_nil) (pss_one (ps_ret (pe_tup (pa_cons (pe_mt (met_times T) hr (by decide) (pe_mt0 (met_rest T) hr (by decide) (pe_mt (met_over T) hr (by decide) (pe_mt (met_over T) hr (by decide) (pe_mt0 (met_turned T) hr (by decide) (pv 4)) (pa_cons (pv 5) pa_nil)) (pa_cons (pv 6) pa_nil))) (pa_cons (pv 6) pa_nil)) (pa_cons (pv 6) pa_nil))))))))), ?_⟩
    refine ⟨_, rfl, _, rfl, _, rfl, _, rfl, p, o, one, other, AA, g, rfl, hL, fun t ra rg H1 s1 ht Ra Rg => ?_⟩
    refine ⟨t, _, rfl, SqT.of ht, rfl, _, _, rfl, _, _, rfl, rfl, ?_⟩
    obtain ⟨dg, eg⟩ := id Rg
    obtain ⟨da, ea⟩ := id Ra
    refine ⟨_, rfl, rg, dg, _, rfl, eg, ratF_no _ (by decide +kernel) (by decide +kernel), rg, _, rfl, Rg, og, rfl, _, rfl, ?_⟩
    refine ite2 (fun h => ?_) (fun h => ?_)
    · have hz : g = 0 := sgn_zero.mp (V.int.inj (of_decide_eq_true h))
      obtain ⟨k1, k2⟩ := kz hz
      refine ⟨_, rfl, ra, da, _, rfl, ea, ratF_no _ (by decide +kernel) (by decide +kernel), ra, _, rfl, Ra, oA, fun r H2 s2 R2 => ?_⟩
      obtain ⟨d2, e2⟩ := id R2
      refine ⟨r, d2, _, rfl, e2, ratF_no _ (by decide +kernel) (by decide +kernel), r, _, rfl, R2, bd_rest oA, rfl, _, rfl, ?_⟩
      refine ite2 (fun h => ?_) (fun h => ?_)
      · have hr0 : rest AA = 0 := sgn_zero.mp (V.int.inj (of_decide_eq_true h))
        refine rat_new (by decide) z8 o8 fun r3 H3 s3 R3 => ?_
        refine rat_new (by decide) z8 o8 fun r4 H4 s4 R4 => ?_
        refine ⟨(by show 2 ≤ sizeLine; decide), fun t2 nt => ?_⟩
        have s5 : Same H4 (upd H4 t2 (.tup [.ref r3, .ref r4])) := same_upd nt
        rw [rq_int] at R3 R4
        exact k1 hr0 t2 r3 r4 _ (Same.trans (Same.trans (Same.trans s1 s2) (Same.trans s3 s4)) s5) upd_same ((R3.mono s4).mono s5) (R4.mono s5)
      · have hr0 : rest AA ≠ 0 := fun z => h (decide_eq_true (by rw [sgn_zero.mpr z]))
        exact k2 hr0 H2 (Same.trans s1 s2)
    · have hz : g ≠ 0 := fun z => h (decide_eq_true (by rw [sgn_zero.mpr z]))
      obtain ⟨mo, k1⟩ := kn hz
      refine rat_new (by decide) o8 o8 fun r1 H2 s2 R1 => ?_
      rw [rq_int] at R1
      obtain ⟨d1, e1⟩ := id R1
      have ok1 : Ok ((1 : Int) : Rat) := bd_int (by decide) (Nat.one_lt_two_pow (by decide))
      refine ⟨r1, d1, _, rfl, e1, ratF_no _ (by decide +kernel) (by decide +kernel), _, rfl, r1, rg, _, g, rfl, R1, Rg.mono s2, ⟨hz, ok1, og⟩, fun r2 H3 s3 R2 => ?_⟩
      have R2 : RatAt K H3 r2 (1 / g) := R2
      obtain ⟨d2, e2⟩ := id R2
      have okq : Ok (1 / g) := by
        by_cases hs : 1 / g < 0
        · have := mo.p
          unfold perM at this
          rw [if_pos hs] at this
          have h2 := bd_neg this
          rw [Rat.neg_neg] at h2
          exact h2
        · have := mo.p
          unfold perM at this
          rw [if_neg hs] at this
          exact this
      have s13 : Same H1 H3 := Same.trans s2 s3
      have fin : ∀ (r3 : Addr) (H4 : Hp) (σ : L2.St), Same H3 H4 → RatAt K H4 r3 (perM g) → σ = [some (.ref p), some (.str one), some (.str other), some (.ref o), some (.ref ra), some (.ref rg), some (.ref r3)] →
          tRet (tTup (tCons (tMeth (He.ga K "Ratio") "times" (spRat2 K Ok2 (· * ·)) [] C8.E0 (tMeth (He.ga K "Ratio") "rest" (spRat1 K rest) [] C8.E0 (tMeth (He.ga K "Ratio") "over" (spRat2 K OkO (· / ·)) [] C8.E0 (tMeth (He.ga K "Ratio") "over" (spRat2 K OkO (· / ·)) [] C8.E0 (tMeth (He.ga K "Ratio") "turned" (spRat1 K (fun q => -q)) [] C8.E0 (tVar 4) tNil) (tCons (tVar 5) tNil)) (tCons (tVar 6) tNil)) tNil) (tCons (tVar 6) tNil)) (tCons (tVar 6) tNil))) { nx := fun _ H' => Q .non H', rt := Q } σ H4 := by
        rintro r3 H4 σ s4 R3 rfl
        have s14 : Same H1 H4 := Same.trans s13 s4
        have Ra4 := Ra.mono s14
        obtain ⟨da4, ea4⟩ := id Ra4
        refine ⟨_, rfl, ra, da4, _, rfl, ea4, ratF_no _ (by decide +kernel) (by decide +kernel), ra, AA, rfl, Ra4, oA, fun q1 H5 s5 Q1 => ?_⟩
        obtain ⟨f1, g1⟩ := id Q1
        refine ⟨q1, f1, _, rfl, g1, ratF_no _ (by decide +kernel) (by decide +kernel), _, rfl, q1, rg, _, g, rfl, Q1, (Rg.mono s14).mono s5, ⟨hz, bd_neg oA, og⟩, fun q2 H6 s6 Q2 => ?_⟩
        have Q2 : RatAt K H6 q2 (-AA / g) := Q2
        obtain ⟨f2, g2⟩ := id Q2
        have s46 : Same H4 H6 := Same.trans s5 s6
        refine ⟨q2, f2, _, rfl, g2, ratF_no _ (by decide +kernel) (by decide +kernel), _, rfl, q2, r3, _, perM g, rfl, Q2, R3.mono s46, ⟨per_ne hz, mo.q, mo.p⟩, fun q3 H7 s7 Q3 => ?_⟩
        have Q3 : RatAt K H7 q3 (-AA / g / perM g) := Q3
        obtain ⟨f3, g3⟩ := id Q3
        refine ⟨q3, f3, _, rfl, g3, ratF_no _ (by decide +kernel) (by decide +kernel), q3, _, rfl, Q3, mo.r, fun q4 H8 s8 Q4 => ?_⟩
        obtain ⟨f4, g4⟩ := id Q4
        have s48 : Same H4 H8 := Same.trans s46 (Same.trans s7 s8)
        refine ⟨q4, f4, _, rfl, g4, ratF_no _ (by decide +kernel) (by decide +kernel), _, rfl, q4, r3, _, perM g, rfl, Q4, R3.mono s48, ⟨bd_rest mo.r, mo.p⟩, fun q5 H9 s9 Q5 => ?_⟩
        have Q5 : RatAt K H9 q5 (firstM AA g) := Q5
        have s49 : Same H4 H9 := Same.trans s48 s9
        refine ⟨_, rfl, (by show 2 ≤ sizeLine; decide), fun t2 nt => ?_⟩
        have sx : Same H9 (upd H9 t2 (.tup [.ref q5, .ref r3])) := same_upd nt
        exact k1 t2 q5 r3 _ (Same.trans (Same.trans (Same.trans s1 s14) s49) sx) upd_same (Q5.mono sx) ((R3.mono s49).mono sx)
      refine ⟨_, rfl, r2, d2, _, rfl, e2, ratF_no _ (by decide +kernel) (by decide +kernel), r2, _, rfl, R2, okq, _, _, rfl, rfl, _, rfl, ?_⟩
      refine ite2 (fun h => ?_) (fun h => ?_)
      · have hs : 1 / g < 0 := sgn_neg.mp (of_decide_eq_true h)
        refine ⟨_, rfl, r2, d2, _, rfl, e2, ratF_no _ (by decide +kernel) (by decide +kernel), r2, _, rfl, R2, okq, fun r3 H4 s4 R3 => ?_⟩
        refine fin r3 H4 _ s4 ?_ rfl
        unfold perM
        rw [if_pos hs]
        exact R3
      · have hs : ¬ 1 / g < 0 := fun z => h (decide_eq_true (sgn_neg.mpr z))
        refine fin r2 H3 _ (fun _ _ z => z) ?_ rfl
        unfold perM
        rw [if_neg hs]
        exact R2
theorem cal_meeting (T : Tx K mg) : Cal P w K mg base 7 "meeting" (spMeeting K) [] := by
  obtain ⟨fd, F⟩ := T.f_Dmeeting
  exact ⟨_, fd, _, _, ok_meeting F T, T.g_meeting, F.kp, bi_Dmeeting F, .nil⟩
end
end Ty
set_option Elab.async false
set_option linter.all false
set_option maxRecDepth 100000
set_option maxHeartbeats 4000000
/-! numbers_of, found_of, count_of where nothing is raised. -/
namespace Ty
open PySem PySem.Spec PyProof.Rows L2 C8
section
variable {P : Program} {w : World} {K : PySem.W.Frag} {mg : Str → Option Value} {base : Heap} {fd : FuncData}
theorem sc_Dnumbers_of : FnScope ["first", "period", "begin", "end"] ["first", "period", "begin", "end"] (defScope sDnumbers_of) := C8.fnScope_by (by decide +kernel)
theorem ok_numbers_of (F : FDnumbers_of K fd) (T : Tx K mg) : FnOk P w K mg base C8.CX0 6 (He.ga K "numbers_of") fd ["first", "period", "begin", "end"] (spNums K) := by
  refine FunD.ok F sc_Dnumbers_of (fun vs H Q E h => ?_) (fun cdv A outer s H vs Q E hr h => ?_)
  · obtain ⟨_, _, _, _, _, _, _, _, rfl, _⟩ := h
    rfl
  · obtain ⟨pf, pp, pb, pe, f, PP, b, e, rfl, Rf, Rp, Rb, Re, of, op, pn, nb, ne, k⟩ := h
    refine ⟨_, PSs.nox (pss_cons (ps_if (pt_not (pt_val (pe_c (cal_before T) hr (by decide) rfl (pa_cons (pv 2) (pa_cons (pv 3) pa_nil))))) (pss_one (ps_ret (pe_tup (pa_cons pe_int (pa_cons pe_int pa_nil))))) pss_nil) (pss_one (ps_ret (pe_tup (pa_cons (pe_c (cal_ceiling T) hr (by decide) rfl (pa_cons (pe_mt (met_over T) hr (by decide) (pe_mt (met_minus T) hr (by decide) (pv 2) (pa_cons (pv 0) pa_nil)) (pa_cons (pv 1) pa_nil)) pa_nil)) (pa_cons (pe_c (cal_ceiling T) hr (by decide) rfl (pa_cons (pe_mt (met_over T) hr (by decide) (pe_mt (met_minus T) hr (by decide) (pv 3) (pa_cons (pv 0) pa_nil)) (pa_cons (pv 1) pa_nil)) pa_nil)) pa_nil)))))), ?_⟩
    refine ⟨_, rfl, _, rfl, pb, pe, b, e, rfl, Rb, Re, nb.hb, ne.hb, _, rfl, ?_⟩
    by_cases hlt : b < e
    · refine ite2 (fun h => absurd (show (!decide (b < e)) = true from h) (by simp [hlt])) (fun _ => ?_)
      obtain ⟨db, eb⟩ := id Rb
      refine ⟨_, rfl, pb, db, _, rfl, eb, ratF_no _ (by decide +kernel) (by decide +kernel), _, rfl, pb, pf, b, f, rfl, Rb, Rf, ⟨nb.hb, of⟩, fun r1 H1 s1 R1 => ?_⟩
      have R1 : RatAt K H1 r1 (b - f) := R1
      obtain ⟨d1, e1⟩ := id R1
      refine ⟨r1, d1, _, rfl, e1, ratF_no _ (by decide +kernel) (by decide +kernel), _, rfl, r1, pp, _, PP, rfl, R1, Rp.mono s1, ⟨pn, nb.s, op⟩, fun r2 H2 s2 R2 => ?_⟩
      have R2 : RatAt K H2 r2 ((b - f) / PP) := R2
      refine ⟨r2, _, rfl, R2, nb.q, fun H3 s3 => ?_⟩
      have s13 : Same H H3 := Same.trans s1 (Same.trans s2 s3)
      have Re3 := Re.mono s13
      obtain ⟨de, ee⟩ := id Re3
      refine ⟨_, rfl, pe, de, _, rfl, ee, ratF_no _ (by decide +kernel) (by decide +kernel), _, rfl, pe, pf, e, f, rfl, Re3, Rf.mono s13, ⟨ne.hb, of⟩, fun r4 H4 s4 R4 => ?_⟩
      have R4 : RatAt K H4 r4 (e - f) := R4
      obtain ⟨d4, e4⟩ := id R4
      have s14 : Same H H4 := Same.trans s13 s4
      refine ⟨r4, d4, _, rfl, e4, ratF_no _ (by decide +kernel) (by decide +kernel), _, rfl, r4, pp, _, PP, rfl, R4, Rp.mono s14, ⟨pn, ne.s, op⟩, fun r5 H5 s5 R5 => ?_⟩
      have R5 : RatAt K H5 r5 ((e - f) / PP) := R5
      refine ⟨r5, _, rfl, R5, ne.q, fun H6 s6 => ?_⟩
      refine ⟨(by show 2 ≤ sizeLine; decide), fun t nt => ?_⟩
      refine k t _ (Same.trans (Same.trans s14 s5) (Same.trans s6 (same_upd nt))) ?_
      rw [upd_same]
      unfold numsM
      rw [if_pos hlt]
    · refine ite2 (fun _ => ?_) (fun h => absurd (show (!decide (b < e)) = true by simp [hlt]) h)
      refine ⟨(by show 2 ≤ sizeLine; decide), fun t nt => ?_⟩
      refine k t _ (same_upd nt) ?_
      rw [upd_same]
      unfold numsM
      rw [if_neg hlt]
theorem cal_numbers_of (T : Tx K mg) : Cal P w K mg base 6 "numbers_of" (spNums K) [] := by
  obtain ⟨fd, F⟩ := T.f_Dnumbers_of
  exact ⟨_, fd, _, _, ok_numbers_of F T, T.g_numbers_of, F.kp, bi_Dnumbers_of F, .nil⟩
theorem sc_Dfound_of : FnScope ["work", "one", "other", "off", "found"] ["work", "one", "other", "off"] (defScope sDfound_of) := C8.fnScope_by (by decide +kernel)
theorem ok_found_of (F : FDfound_of K fd) (T : Tx K mg) : FnOk P w K mg base C8.CX0 8 (He.ga K "found_of") fd ["work", "one", "other", "off"] (spFoundOf K) := by
  refine FunD.ok F sc_Dfound_of (fun vs H Q E h => ?_) (fun cdv A outer s H vs Q E hr h => ?_)
  · obtain ⟨_, _, _, _, _, _, rfl, _⟩ := h
    rfl
  · obtain ⟨p, o, one, other, AA, g, rfl, hL, gn, mo, k⟩ := h
    refine ⟨_, PSs.nox (pss_cons (ps_set (i := 4) sc_Dfound_of.nd rfl (Or.inl rfl) (pe_c (cal_meeting T) hr (by decide) rfl (pa_cons (pv 0) (pa_cons (pv 1) (pa_cons (pv 2) (pa_cons (pv 3) pa_nil)))))) (pss_cons (ps_if (PW.pt (pw_and (pt_cmp (pc_notN (pv 4))) (pw_and1 (pt_cmpR op_eq (pe_mt0 (met_sign T) hr (by decide) (pe_ix ix_tup (pv 4) pe_int (fun _ _ => rfl))) pe_int (nomark _))))) (pss_one ps_never) pss_nil) (pss_one (ps_ret (pv 4))))), ?_⟩
    refine ⟨_, rfl, _, rfl, _, rfl, _, rfl, p, o, one, other, AA, g, rfl, hL, mo.ha, mo.hg, fun _ => ⟨mo, fun t rf rp H1 s1 ht Rf Rp => ?_⟩, fun z => absurd z gn⟩
    obtain ⟨dp, ep⟩ := id Rp
    refine ⟨_, rfl, _, rfl, ?_⟩
    refine ite2 (fun _ => ?_) (fun h => absurd (show (!decide (V.ref t = V.non)) = true by simp) h)
    refine ⟨_, rfl, t, _, 1, .ref rp, rfl, rfl, SqT.of ht, at_of (j := 1) rfl rfl, rp, dp, _, rfl, ep, ratF_no _ (by decide +kernel) (by decide +kernel), rp, _, rfl, Rp, mo.p, rfl, _, rfl, ?_⟩
    refine ite2 (fun h => absurd (sgn_zero.mp (V.int.inj (of_decide_eq_true h))) (per_ne gn)) (fun _ => ?_)
    exact ⟨_, rfl, k t rf rp H1 s1 ht Rf Rp⟩
theorem cal_found_of (T : Tx K mg) : Cal P w K mg base 8 "found_of" (spFoundOf K) [] := by
  obtain ⟨fd, F⟩ := T.f_Dfound_of
  exact ⟨_, fd, _, _, ok_found_of F T, T.g_found_of, F.kp, bi_Dfound_of F, .nil⟩
theorem sc_Dcount_of : FnScope ["work", "one", "other", "off", "begin", "end", "found", "low", "high"] ["work", "one", "other", "off", "begin", "end"] (defScope sDcount_of) := C8.fnScope_by (by decide +kernel)
theorem ok_count_of (F : FDcount_of K fd) (T : Tx K mg) : FnOk P w K mg base C8.CX0 9 (He.ga K "count_of") fd ["work", "one", "other", "off", "begin", "end"] (spCountOf K) := by
  refine FunD.ok F sc_Dcount_of (fun vs H Q E h => ?_) (fun cdv A outer s H vs Q E hr h => ?_)
  · obtain ⟨_, _, _, _, _, _, _, _, _, _, rfl, _⟩ := h
    rfl
  · obtain ⟨p, o, pb, pe, one, other, AA, g, b, e, rfl, hL, gn, mo, Rb, Re, of, nb, ne, k⟩ := h
    refine ⟨_, PSs.nox (pss_cons (ps_set (i := 6) sc_Dcount_of.nd rfl (Or.inl rfl) (pe_c (cal_found_of T) hr (by decide) rfl (pa_cons (pv 0) (pa_cons (pv 1) (pa_cons (pv 2) (pa_cons (pv 3) pa_nil)))))) (pss_cons (ps_if (pt_cmp (pc_isN (pv 6))) (pss_one (ps_ret pe_int)) pss_nil) (pss_cons (ps_asg (pe_c (cal_numbers_of T) hr (by decide) rfl (pa_cons (pe_ix ix_tup (pv 6) pe_int (fun _ _ => rfl)) (pa_cons (pe_ix ix_tup (pv 6) pe_int (fun _ _ => rfl)) (pa_cons (pv 4) (pa_cons (pv 5) pa_nil))))) (pg_tup rfl (pgs_cons (pg_name (i := 7) sc_Dcount_of.nd rfl (Or.inl rfl)) (pgs_cons (pg_name (i := 8) sc_Dcount_of.nd rfl (Or.inl rfl)) pgs_nil)))) (pss_one (ps_ret (pe_op op_sub (pv 8) (pv 7))))))), ?_⟩
    refine ⟨_, rfl, _, rfl, _, rfl, _, rfl, p, o, one, other, AA, g, rfl, hL, gn, mo, fun t rf rp H1 s1 ht Rf Rp => ?_⟩
    refine ⟨_, rfl, _, rfl, ?_⟩
    refine ite2 (fun h => absurd (of_decide_eq_true h) (fun z => by cases z)) (fun _ => ?_)
    refine ⟨_, rfl, t, _, 0, .ref rf, rfl, rfl, SqT.of ht, at_of (j := 0) rfl rfl, _, rfl, t, _, 1, .ref rp, rfl, rfl, SqT.of ht, at_of (j := 1) rfl rfl, _, rfl, _, rfl, rf, rp, pb, pe, _, _, b, e, rfl, Rf, Rp, Rb.mono s1, Re.mono s1, of, mo.p, per_ne gn, nb, ne, fun t2 H2 s2 ht2 => ?_⟩
    refine ⟨t2, _, rfl, SqT.of ht2, rfl, _, _, rfl, _, _, rfl, rfl, ?_⟩
    exact ⟨_, rfl, _, rfl, _, _, rfl, rfl, k H2 (Same.trans s1 s2)⟩
theorem cal_count_of (T : Tx K mg) : Cal P w K mg base 9 "count_of" (spCountOf K) [] := by
  obtain ⟨fd, F⟩ := T.f_Dcount_of
  exact ⟨_, fd, _, _, ok_count_of F T, T.g_count_of, F.kp, bi_Dcount_of F, .nil⟩
end
end Ty
set_option Elab.async false
set_option linter.all false
set_option maxRecDepth 100000
set_option maxHeartbeats 4000000
/-! for and comprehensions over a range of whole numbers of any size. -/
namespace Ty
open PySem PySem.Spec PyProof.Rows L2 C8
theorem turn_long {P : Program} {w : World} {K : PySem.W.Frag} {tg : Expr} (it : Addr) (lo : Int) (n : Nat) : Turn P w K tg (Itr lo n) [it] it (fun i h => IsLongIter h it (lo + (i : Nat) * 1) ((n : Int) - (i : Nat)) 1) where
  mem := by simp
  obj := fun i h st b hb => by
    have e : b = it := by simpa using hb
    subst e
    exact ⟨_, st, fun v z => by
      have z' : Data.fields _ = Data.cell v := z
      cases z'⟩
  keep := fun i h h' st k => k it (by simp) _ st
  item := by
    intro X hP hw hK hc i pins s σ H E I hf st hg
    subst hP hw hK
    obtain ⟨f0, f1, f2, f3, f4, f5⟩ := hf it (by simp)
    have W := Walks.longrange (prog := X.prog) (w := X.w) (I.ok.hd hc) it lo 1 n
    refine W.item i s _ _ hg st fun v h' tk hv st' kk => ?_
    obtain ⟨t, rfl⟩ := hv
    have I1 : Inv X pins σ H { s with heap := h', toks := tk } := I.turned (fun b o hb e => kk b o (by simpa using hb) e) f0 f1 f3 f4 f5
    refine ⟨_, rfl, go_of (s := { s with heap := h', toks := tk }) (n := "longrange_iterator") st' rfl rfl (by decide) ⟨.int (lo + i), H, I1, ⟨t, ?_⟩, ⟨rfl, rfl⟩, st', fun b hb => (hf b hb).1⟩⟩
    rw [Int.mul_one]
  done := by
    intro X hP hw hK hc i pins s σ H E I hf st hg
    subst hP hw hK
    obtain ⟨f0, f1, f2, f3, f4, f5⟩ := hf it (by simp)
    exact wpAny_pyNext_long_end (I.ok.hd hc) st (by have : n ≤ i := hg; omega) fun h' eb => ⟨rfl, I.turned (t' := s.toks) (fun b o hb e => eb b o hb e) f0 f1 f3 f4 f5⟩
  self := fun _ _ _ _ _ st h => wpAny_pyIter_longiter st h
section
variable {X : Cx} {tg : Expr}
theorem range_itL {pins : List (Addr × Obj)} {σ : L2.St} {H : Hp} {s : Shared} {R : It → Hp → Prop} {E : Value → Shared → Prop} {lo hi : Int} {t u v : Tok} {tk : Nat} (I : Inv X pins σ H s)
    (q : R (Itr lo (hi - lo).toNat) H) : wpAny (model X.prog X.w) X.A (pyIter (.ref s.heap.objs.size)) (PIE X pins σ tg R) E { s with heap := s.heap.push { cls := .type "range", data := .fields #[.int lo t, .int hi u, .int 1 v] }, toks := tk } := by
  have I1 : Inv X pins σ H { s with heap := s.heap.push { cls := .type "range", data := .fields #[.int lo t, .int hi u, .int 1 v] }, toks := tk } := I.kept fun b o e => Heap.get?_push_of_some _ e
  have e1 : lo + ((0 : Nat) : Int) * 1 = lo := by simp
  have e2 : (((hi - lo).toNat : Nat) : Int) - ((0 : Nat) : Int) = Builtin.Range.rangeSize lo hi 1 := by rw [rangeSize_one]; split <;> omega
  cases hs : Builtin.Range.small lo hi 1 with
  | true =>
    refine wpAny_pyIter_range (IsRange.new ..) hs ?_
    refine ⟨(s.heap.push { cls := .type "range", data := .fields #[.int lo t, .int hi u, .int 1 v] }).objs.size, [(s.heap.push { cls := .type "range", data := .fields #[.int lo t, .int hi u, .int 1 v] }).objs.size], _, _, H, rfl,
      I1.kept (t' := tk) fun b o e => Heap.get?_push_of_some _ e, turn_range _ lo (hi - lo).toNat, ?_, fun b hb => ?_, q⟩
    · show IsRangeIter _ _ (lo + ((0 : Nat) : Int) * 1) ((((hi - lo).toNat : Nat) : Int) - ((0 : Nat) : Int)) 1
      rw [e1, e2]
      exact Heap.get?_push_size _ rfl
    · have e : b = (s.heap.push { cls := .type "range", data := .fields #[.int lo t, .int hi u, .int 1 v] }).objs.size := by simpa using hb
      subst e
      exact I1.fpOk (Nat.le_refl _) (I1.hok.fresh (Nat.le_refl _))
  | false =>
    refine wpAny_pyIter_longrange (IsRange.new ..) hs ?_
    refine ⟨(s.heap.push { cls := .type "range", data := .fields #[.int lo t, .int hi u, .int 1 v] }).objs.size, [(s.heap.push { cls := .type "range", data := .fields #[.int lo t, .int hi u, .int 1 v] }).objs.size], _, _, H, rfl,
      I1.kept (t' := tk) fun b o e => Heap.get?_push_of_some _ e, turn_long _ lo (hi - lo).toNat, ?_, fun b hb => ?_, q⟩
    · show IsLongIter _ _ (lo + ((0 : Nat) : Int) * 1) ((((hi - lo).toNat : Nat) : Int) - ((0 : Nat) : Int)) 1
      rw [e1, e2]
      exact Heap.get?_push_size _ rfl
    · have e : b = (s.heap.push { cls := .type "range", data := .fields #[.int lo t, .int hi u, .int 1 v] }).objs.size := by simpa using hb
      subst e
      exact I1.fpOk (Nat.le_refl _) (I1.hok.fresh (Nat.le_refl _))
def iRngL (ta : TA) : TI := fun σ H R => ta σ H fun vs H1 => ∃ i j : Int, vs = [.int i, .int j] ∧ R (Itr i (j - i).toNat) H1
theorem pi_rangeL {a b : Expr} {ta : TA} {p pos : Pos} (hg : Gl X "range") (hm : X.mg "range" = none) (ha : PA X [a, b] ta) (hs : starEach [a, b] X.env = [(false, eval a X.env), (false, eval b X.env)] := by rfl) (hs2 : starEach [b] X.env = [(false, eval b X.env)] := by rfl) :
    PI X tg (.Call (.Name "range" p) [a, b] [] pos) (iRngL ta) := by
  refine ⟨fun pins s σ H R I h => ?_⟩
  refine Call_ (ld_blt I hg hm boot_range (PyProof.Rows.callWith_type1 (thn (ha.run pos pins s σ H _ I h) fun us s1 ⟨vs, H1, I1, r1, q1⟩ => ?_) (by rw [hs, hs2]) (by rw [hs2]; rfl)))
  obtain ⟨i, j, e, q⟩ := q1
  subst e
  cases r1 with
  | cons r rr =>
    cases rr with
    | cons r' rr =>
      cases rr
      obtain ⟨t, rfl⟩ := r
      obtain ⟨t', rfl⟩ := r'
      exact call_range_2 (range_itL I1 q)
end
/-! ### meetings -/
def spMeetings (K : PySem.W.Frag) : Sp := fun vs H Q _ => ∃ (p o pb pe : Addr) (one other : Str) (A g b e : Rat), vs = [.ref p, .str one, .str other, .ref o, .ref pb, .ref pe] ∧ LeadIn K H p o one other A g ∧ g ≠ 0 ∧ MeetOk A g ∧ RatAt K H pb b ∧ RatAt K H pe e ∧
  Ok (firstM A g) ∧ NumOk (firstM A g) (perM g) b ∧ NumOk (firstM A g) (perM g) e ∧ (numsM (firstM A g) (perM g) b e).2 - (numsM (firstM A g) (perM g) b e).1 ≤ 60 ∧
  (∀ k : Int, (numsM (firstM A g) (perM g) b e).1 ≤ k → k < (numsM (firstM A g) (perM g) b e).2 → k.natAbs < 2 ^ 3900 ∧ Ok (perM g * (k : Rat))) ∧
  ∀ l ys H', Same H H' → H' l = some (.lst ys) → ys.length = ((numsM (firstM A g) (perM g) b e).2 - (numsM (firstM A g) (perM g) b e).1).toNat → Q (.ref l) H'
section
variable {P : Program} {w : World} {K : PySem.W.Frag} {mg : Str → Option Value} {base : Heap} {fd : FuncData}
theorem most_rel (T : Tx K mg) : ∃ u, mg "MOST_MOMENTS" = some u ∧ RelV (.int 1000) u := by
  obtain ⟨t, h⟩ := T.g_MOST
  exact ⟨_, h, t, rfl⟩
theorem sc_Dmeetings : FnScope ["work", "one", "other", "off", "begin", "end", "found", "first", "period", "low", "high", "k"] ["work", "one", "other", "off", "begin", "end"] (defScope sDmeetings) := C8.fnScope_by (by decide +kernel)
theorem ok_meetings (F : FDmeetings K fd) (T : Tx K mg) : FnOk P w K mg base C8.CX0 9 (He.ga K "meetings") fd ["work", "one", "other", "off", "begin", "end"] (spMeetings K) := by
  refine FunD.ok F sc_Dmeetings (fun vs H Q E h => ?_) (fun cdv A outer s H vs Q E hr h => ?_)
  · obtain ⟨_, _, _, _, _, _, _, _, _, _, rfl, _⟩ := h
    rfl
  · obtain ⟨p, o, pb, pe, one, other, AA, g, b, e, rfl, hL, gn, mo, Rb, Re, of, nb, ne, hle, hk, k⟩ := h
    refine ⟨_, PSs.nox (pss_cons (ps_set (i := 6) sc_Dmeetings.nd rfl (Or.inl rfl) (pe_c (cal_found_of T) hr (by decide) rfl (pa_cons (pv 0) (pa_cons (pv 1) (pa_cons (pv 2) (pa_cons (pv 3) pa_nil)))))) (pss_cons (ps_if (pt_cmp (pc_isN (pv 6))) (pss_one (ps_ret (pe_lst pa_nil))) pss_nil) (pss_cons (ps_asg (pv 6) (pg_tup rfl (pgs_cons (pg_name (i := 7) sc_Dmeetings.nd rfl (Or.inr rfl)) (pgs_cons (pg_name (i := 8) sc_Dmeetings.nd rfl (Or.inr rfl)) pgs_nil)))) (pss_cons (ps_asg (pe_c (cal_numbers_of T) hr (by decide) rfl (pa_cons (pv 7) (pa_cons (pv 8) (pa_cons (pv 4) (pa_cons (pv 5) pa_nil))))) (pg_tup rfl (pgs_cons (pg_name (i := 9) sc_Dmeetings.nd rfl (Or.inl rfl)) (pgs_cons (pg_name (i := 10) sc_Dmeetings.nd rfl (Or.inl rfl)) pgs_nil)))) (pss_cons (ps_if (pt_cmpR op_gt (pe_op op_sub (pv 10) (pv 9)) (pe_gc rfl (most_rel T)) (nomark _)) (pss_one ps_never) pss_nil) (pss_one (ps_ret (pe_lc (own := [("k", 11)]) (g := gName 11) (tt := tYes) (te := (tMeth (He.ga K "Ratio") "plus" (spRat2 K Ok2 (· + ·)) [] C8.E0 (tVar 7) (tCons (tMeth (He.ga K "Ratio") "times" (spRat2 K Ok2 (· * ·)) [] C8.E0 (tVar 8) (tCons (tMake (He.ga K "Ratio") (spRatioI K) [V.int 1] C8.E0 (tCons (tVar 11) tNil)) tNil)) tNil))) (by rfl) sc_Dmeetings.nd (pi_rangeL rfl T.b_range (pa_cons (pv 9) (pa_cons (pv 10) pa_nil))) (blkOk_by (N := ["work", "one", "other", "off", "begin", "end", "found", "first", "period", "low", "high", "k"]) (sc := defScope sDmeetings) (by decide +kernel)) (fun _ _ _ _ _ => pg_name (i := 11) sc_Dmeetings.nd rfl (Or.inl rfl)) (fun _ _ _ _ _ => pts_nil) (fun _ _ _ _ _ => (pe_mt (met_plus T) hr (by decide) (pv 7) (pa_cons (pe_mt (met_times T) hr (by decide) (pv 8) (pa_cons (pe_mk (mak_Ratio_1 T) hr (by decide) rfl (pa_cons (pv 11) pa_nil)) pa_nil)) pa_nil))))))))))), ?_⟩
    refine ⟨_, rfl, _, rfl, _, rfl, _, rfl, p, o, one, other, AA, g, rfl, hL, gn, mo, fun t rf rp H1 s1 ht Rf Rp => ?_⟩
    refine ⟨_, rfl, _, rfl, ?_⟩
    refine ite2 (fun h => absurd (of_decide_eq_true h) (fun z => by cases z)) (fun _ => ?_)
    refine ⟨_, rfl, t, _, rfl, SqT.of ht, rfl, _, _, rfl, _, _, rfl, rfl, ?_⟩
    refine ⟨_, rfl, _, rfl, _, rfl, _, rfl, rf, rp, pb, pe, _, _, b, e, rfl, Rf, Rp, Rb.mono s1, Re.mono s1, of, mo.p, per_ne gn, nb, ne, fun t2 H2 s2 ht2 => ?_⟩
    refine ⟨t2, _, rfl, SqT.of ht2, rfl, _, _, rfl, _, _, rfl, rfl, ?_⟩
    generalize (numsM (firstM AA g) (perM g) b e).1 = lo at hle hk k ht2
    generalize (numsM (firstM AA g) (perM g) b e).2 = hi at hle hk k ht2
    refine ⟨_, rfl, _, rfl, _, _, rfl, rfl, _, _, rfl, rfl, _, rfl, ?_⟩
    refine ite2 (fun h => absurd (of_decide_eq_true h) (by omega)) (fun _ => ?_)
    refine ⟨_, rfl, _, rfl, _, _, rfl, fun D nD => ?_⟩
    have Rf2 := Rf.mono s2
    have Rp2 := Rp.mono s2
    have hn : (hi - lo).toNat ≤ 60 := by omega
    refine lc_range (lo := lo) (n := (hi - lo).toNat) (fun i H' => Same H2 H' ∧ ∃ ys, H' D = some (.lst ys) ∧ ys.length = i) ?_ ?_ ?_
    · exact ⟨same_upd nD, [], upd_same, rfl⟩
    · rintro i H' hi1 ⟨s3, ys, hD, hl⟩
      refine ⟨rfl, ?_⟩
      obtain ⟨kb, kp⟩ := hk (lo + i) (by omega) (by omega)
      have Rf3 := Rf2.mono s3
      have Rp3 := Rp2.mono s3
      obtain ⟨df, ef⟩ := id Rf3
      obtain ⟨dp, ep⟩ := id Rp3
      refine ⟨_, rfl, rf, df, _, rfl, ef, ratF_no _ (by decide +kernel) (by decide +kernel), _, rfl, rp, dp, _, rfl, ep, ratF_no _ (by decide +kernel) (by decide +kernel), _, rfl, ?_⟩
      refine rat_new (by decide) (Nat.lt_of_lt_of_le kb (pow_le (by decide))) o8 fun r1 H4 s4 R1 => ?_
      rw [rq_int] at R1
      refine ⟨rp, r1, perM g, _, rfl, Rp3.mono s4, R1, ⟨mo.p, bd_int (by decide) kb⟩, fun r2 H5 s5 R2 => ?_⟩
      have s45 : Same H' H5 := Same.trans s4 s5
      refine ⟨rf, r2, _, _, rfl, Rf3.mono s45, R2, ⟨of, kp⟩, fun r3 H6 s6 R3 => ?_⟩
      have s46 : Same H' H6 := Same.trans s45 s6
      refine ⟨ys, s46 _ _ hD, by rw [hl]; exact Nat.lt_of_lt_of_le hi1 (Nat.le_trans hn (by decide)), Same.upd (Same.trans s3 s46) nD, _, upd_same, ?_⟩
      rw [List.length_append, hl] <;> rfl
    · rintro H' ⟨s3, ys, hD, hl⟩
      exact k D ys H' (Same.trans s1 (Same.trans s2 s3)) hD hl
theorem cal_meetings (T : Tx K mg) : Cal P w K mg base 9 "meetings" (spMeetings K) [] := by
  obtain ⟨fd, F⟩ := T.f_Dmeetings
  exact ⟨_, fd, _, _, ok_meetings F T, T.g_meetings, F.kp, bi_Dmeetings F, .nil⟩
end
end Ty
set_option Elab.async false
set_option linter.all false
set_option maxRecDepth 100000
set_option maxHeartbeats 4000000
/-! The law's own small defs. -/
namespace Ty
open PySem PySem.Spec PyProof.Rows L2 C8
theorem sql_same {K : PySem.W.Frag} {H H' : Hp} {a : Addr} {xs : List V} (h : SqL K H a xs) (s : Same H H') : SqL K H' a xs := by
  rcases h with (h | ⟨o, h⟩) | h
  · exact .inl (.inl (s _ _ h))
  · exact .inl (.inr ⟨o, s _ _ h⟩)
  · exact .inr h
section
variable {X : Cx}
def rEqL0 (K : PySem.W.Frag) : R2 := fun x y H Q => ∃ a b xs, x = .ref a ∧ y = .ref b ∧ SqL K H a xs ∧ SqL K H b [] ∧ Q (.bl (decide (xs.length = 0))) H
def rNeL0 (K : PySem.W.Frag) : R2 := fun x y H Q => ∃ a b xs, x = .ref a ∧ y = .ref b ∧ SqL K H a xs ∧ SqL K H b [] ∧ Q (.bl (decide (xs.length ≠ 0))) H
theorem op_eq_lst0 (hu : X.A.units < cLine) : OpR X (compareOp .Eq) (rEqL0 X.K) := by
  intro pins s σ H x y v u Q I rx ry h
  obtain ⟨a, b, xs, rfl, rfl, ha, hb, q⟩ := h
  obtain rfl : v = Value.ref a := rx
  obtain rfl : u = Value.ref b := ry
  obtain ⟨us, r1, p1, _⟩ := I.list ha
  obtain ⟨ws, r2, p2, _⟩ := I.list hb
  have l1 := r1.length
  have l2 := r2.length
  have l2 : ws.length = 0 := by simpa using l2.symm
  by_cases e : us.length = 0
  · refine SeqAt.eq_listAt (e := fun _ => true) p1.isList p2.isList (by simp; omega) hu (fun j h1 h2 => absurd h1 (by simp; omega)) ⟨.bl true, H, I, ?_, ?_⟩
    · show Value.bool _ = Value.bool true
      rw [show us = [] from List.length_eq_zero_iff.mp e] <;> rfl
    · rw [show decide (xs.length = 0) = true from decide_eq_true (by omega)] at q
      exact q
  · refine SeqAt.eq_list_lengthsAt p1.isList p2.isList ?_ hu ⟨.bl false, H, I, rfl, ?_⟩
    · simp
      omega
    · rw [show decide (xs.length = 0) = false from decide_eq_false (by omega)] at q
      exact q
theorem op_ne_lst0 (hu : X.A.units < cLine) : OpR X (compareOp .NotEq) (rNeL0 X.K) := by
  intro pins s σ H x y v u Q I rx ry h
  obtain ⟨a, b, xs, rfl, rfl, ha, hb, q⟩ := h
  obtain rfl : v = Value.ref a := rx
  obtain rfl : u = Value.ref b := ry
  obtain ⟨us, r1, p1, _⟩ := I.list ha
  obtain ⟨ws, r2, p2, _⟩ := I.list hb
  have l1 := r1.length
  have l2 := r2.length
  have l2 : ws.length = 0 := by simpa using l2.symm
  by_cases e : us.length = 0
  · refine SeqAt.RcNeAt.lists (e := fun _ => true) p1.isList p2.isList (by simp; omega) hu (fun j h1 h2 => absurd h1 (by simp; omega)) _ _ _ _ ⟨.bl false, H, I, ?_, ?_⟩
    · show Value.bool _ = Value.bool false
      rw [show us = [] from List.length_eq_zero_iff.mp e] <;> rfl
    · rw [show decide (xs.length ≠ 0) = false from decide_eq_false (by omega)] at q
      exact q
  · refine SeqAt.RcNeAt.lists_lengths p1.isList p2.isList ?_ hu _ _ _ _ ⟨.bl true, H, I, rfl, ?_⟩
    · simp
      omega
    · rw [show decide (xs.length ≠ 0) = true from decide_eq_true (by omega)] at q
      exact q
/-- a text of at most ten signs, no times or once -/
def rMulS : R2 := fun x y H Q => ∃ i j, x = .str i ∧ y = .int j ∧ i.length ≤ 10 ∧ 0 ≤ j ∧ j ≤ 10 ∧ Q (.str (Txt.mul i j)) H
theorem op_mul_str : OpR X (binaryOp .Mult) rMulS := by
  intro pins s σ H x y v u Q I rx ry h
  obtain ⟨i, j, rfl, rfl, h1, h2, h3, q⟩ := h
  obtain ⟨t, rfl⟩ := rx
  obtain ⟨t', rfl⟩ := ry
  exact SB.mul (mulOk_of 10 10 h1 (by omega) (by omega) (by decide) (by decide)) fun t'' tk => ⟨.str _, H, I.tok _, ⟨_, rfl⟩, q⟩
end
/-! ### names -/
def letter (i : Int) : Str := ⟨#[97 + i.toNat]⟩
def preM (b : Int) : Str := letter (b % 26) ++ Txt.mul (letter (b / 26 % 26)) (b / 676 % 2)
def digM (k : Int) : Str := toString k
def nm (b k : Int) : Str := preM b ++ digM k
def abc : Str := "abcdefghijklmnopqrstuvwxyz"
theorem abc_at {i : Int} (h0 : 0 ≤ i) (h : i < 26) : abc.cps[i.toNat]? = some (97 + i.toNat) := by
  have : ∀ j : Fin 26, abc.cps[j.val]? = some (97 + j.val) := by decide +kernel
  exact this ⟨i.toNat, by omega⟩
theorem abc_len : abc.length = 26 := by decide +kernel
theorem letter_len (i : Int) : (letter i).length = 1 := rfl
theorem mul_len {x : Str} {n : Int} (h : n < 2) : (Txt.mul x n).length ≤ x.length := by
  unfold Txt.mul
  by_cases h1 : n < 1
  · rw [if_pos h1]
    exact Nat.zero_le _
  · rw [if_neg h1, if_pos (by
      have : n = 1 := by omega
      simp [this])]
    exact Nat.le_refl _
theorem pre_len (b : Int) : (preM b).length ≤ 2 := by
  unfold preM
  rw [Str.length_append, letter_len]
  have := mul_len (x := letter (b / 26 % 26)) (n := b / 676 % 2) (by omega)
  rw [letter_len] at this
  omega
theorem dig_facts : ∀ k : Fin 400, (digM (k.val : Int)).length ≤ 3 ∧ (digM (k.val : Int)).cps.toList.foldl (fun a c => a * 10 + (c - 48)) 0 = k.val ∧ ((digM (k.val : Int)).cps.toList.getLast?.any fun c => decide (c < 58)) = true := by decide +kernel
theorem dig_len {k : Int} (h0 : 0 ≤ k) (h : k < 400) : (digM k).length ≤ 3 := by
  have := (dig_facts ⟨k.toNat, by omega⟩).1
  rw [show (((⟨k.toNat, by omega⟩ : Fin 400).val : Nat) : Int) = k from Int.toNat_of_nonneg h0] at this
  exact this
theorem dig_inj {k j : Int} (h0 : 0 ≤ k) (h : k < 400) (g0 : 0 ≤ j) (g : j < 400) (e : digM k = digM j) : k = j := by
  have h1 := (dig_facts ⟨k.toNat, by omega⟩).2.1
  have h2 := (dig_facts ⟨j.toNat, by omega⟩).2.1
  rw [show (((⟨k.toNat, by omega⟩ : Fin 400).val : Nat) : Int) = k from Int.toNat_of_nonneg h0] at h1
  rw [show (((⟨j.toNat, by omega⟩ : Fin 400).val : Nat) : Int) = j from Int.toNat_of_nonneg g0] at h2
  rw [e, h2] at h1
  have h1 : j.toNat = k.toNat := h1
  omega
theorem str_app (a b : Str) : (a ++ b).cps.toList = a.cps.toList ++ b.cps.toList := by
  show (a.cps ++ b.cps).toList = _
  exact Array.toList_append
theorem nm_inj {b k j : Int} (h0 : 0 ≤ k) (h : k < 400) (g0 : 0 ≤ j) (g : j < 400) (e : nm b k = nm b j) : k = j := by
  refine dig_inj h0 h g0 g ?_
  have e1 : (nm b k).cps.toList = (nm b j).cps.toList := by rw [e]
  unfold nm at e1
  rw [str_app, str_app] at e1
  have e2 := List.append_cancel_left e1
  have e3 : (digM k).cps = (digM j).cps := Array.toList_inj.mp e2
  cases hk : digM k
  cases hj : digM j
  rw [hk, hj] at e3
  have e3 : _ = _ := e3
  congr
theorem nm_last {b k : Int} (h0 : 0 ≤ k) (h : k < 400) : ((nm b k).cps.toList.getLast?.any fun c => decide (c < 58)) = true := by
  have h1 := (dig_facts ⟨k.toNat, by omega⟩).2.2
  rw [show (((⟨k.toNat, by omega⟩ : Fin 400).val : Nat) : Int) = k from Int.toNat_of_nonneg h0] at h1
  unfold nm
  rw [str_app, List.getLast?_append]
  cases hd : (digM k).cps.toList.getLast? with
  | none =>
    rw [hd] at h1
    cases h1
  | some c =>
    rw [hd] at h1
    exact h1
theorem nm_ne {b k : Int} {x : Str} (h0 : 0 ≤ k) (h : k < 400) (hx : (x.cps.toList.getLast?.any fun c => decide (c < 58)) = false) : nm b k ≠ x := fun e => by
  have := nm_last (b := b) h0 h
  rw [e, hx] at this
  cases this
theorem first_last : ((("first" : Str).cps.toList.getLast?.any fun c => decide (c < 58))) = false := by decide +kernel
theorem second_last : ((("second" : Str).cps.toList.getLast?.any fun c => decide (c < 58))) = false := by decide +kernel
theorem third_last : ((("third" : Str).cps.toList.getLast?.any fun c => decide (c < 58))) = false := by decide +kernel
/-! ### numbers -/
theorem divInt_le {a b : Int} (hb : b ≠ 0) : (Rat.divInt a b).num.natAbs ≤ a.natAbs ∧ (Rat.divInt a b).den ≤ b.natAbs := by
  have d1 : both a b ∣ a := by
    rw [← Int.natAbs_dvd, both_abs, ← Int.dvd_natAbs, Int.ofNat_dvd]
    exact Nat.gcd_dvd_left ..
  have d2 : both a b ∣ b := by
    rw [← Int.natAbs_dvd, both_abs, ← Int.dvd_natAbs, Int.ofNat_dvd]
    exact Nat.gcd_dvd_right ..
  have fl : ∀ x : Int, (both a b ∣ x) → (x.fdiv (both a b)).natAbs ≤ x.natAbs := fun x hd => by
    rw [Int.fdiv_eq_ediv_of_dvd hd]
    exact Int.natAbs_ediv_le_natAbs ..
  have f1 := fl a d1
  have f2 := fl b d2
  rw [rq_num hb] at f1
  rw [rq_den hb] at f2
  exact ⟨f1, by omega⟩
/-- what the law draws -/
def QOk (q : Rat) : Prop := q.num.natAbs ≤ 2 ^ 40 ∧ q.den ≤ 2 ^ 20
theorem qok_div {a b : Int} (hb : b ≠ 0) (h1 : a.natAbs ≤ 1000000000000) (h2 : b.natAbs ≤ 1000000) : QOk (Rat.divInt a b) := by
  obtain ⟨e1, e2⟩ := divInt_le (a := a) hb
  have h3 : 1000000000000 ≤ 2 ^ 40 := by decide
  have h4 : 1000000 ≤ 2 ^ 20 := by decide
  exact ⟨by omega, by omega⟩
def spDrawn (K : PySem.W.Frag) : Sp := fun vs H Q _ => ∃ (a : Addr) (ns : List Int) (k : Int), vs = [.ref a, .int k] ∧ SqL K H a (ns.map V.int) ∧ ns.length ≤ 1000 ∧ 0 ≤ k ∧ k ≤ 1000 ∧ ∀ z H', Same H H' → Q (.int z) H'
def spMix : Sp := fun vs H Q _ => ∃ (n k : Int), vs = [.int n, .int k] ∧ ∀ m : Int, 0 ≤ m → m < 2147483629 → Q (.int m) H
def spLRatio (K : PySem.W.Frag) : Sp := fun vs H Q _ => ∃ (a b : Int), vs = [.int a, .int b] ∧ ∀ r q H', Same H H' → RatAt K H' r q → QOk q → Q (.ref r) H'
def spName : Sp := fun vs H Q _ => ∃ (b k : Int), vs = [.int b, .int k] ∧ 0 ≤ b ∧ b < 2147483629 ∧ 0 ≤ k ∧ k < 400 ∧ Q (.str (nm b k)) H
def dueM (lo hi : Rat) (s : Int) : Int := if 0 < s then Rat.floor (-lo) - Rat.floor (-hi) else Rat.floor lo - Rat.floor hi
def spDue (K : PySem.W.Frag) : Sp := fun vs H Q _ => ∃ (pl ph : Addr) (lo hi : Rat) (s : Int), vs = [.ref pl, .ref ph, .int s] ∧ RatAt K H pl lo ∧ RatAt K H ph hi ∧ Ok lo ∧ Ok hi ∧ ∀ H', Same H H' → Q (.int (dueM lo hi s)) H'
section
variable {P : Program} {w : World} {K : PySem.W.Frag} {mg : Str → Option Value} {base : Heap} {fd : FuncData}
theorem cml {i j : Int} (h0 : -1000000000000 ≤ i) (h : i ≤ 1000000000000) : CMul i j := .inl ⟨by omega, by omega⟩
theorem cmr {i j : Int} (h0 : -1000000000000 ≤ j) (h : j ≤ 1000000000000) : CMul i j := .inr ⟨by omega, by omega⟩
theorem sc_Dlaw_drawn : FnScope ["_law_script", "_law_k"] ["_law_script", "_law_k"] (defScope sDlaw_drawn) := C8.fnScope_by (by decide +kernel)
theorem ok_law_drawn (F : FDlaw_drawn K fd) (T : Tx K mg) : FnOk P w K mg base C8.CX0 1 (He.ga K "_law_drawn") fd ["_law_script", "_law_k"] (spDrawn K) := by
  refine FunD.ok F sc_Dlaw_drawn (fun vs H Q E h => ?_) (fun cdv A outer s H vs Q E hr h => ?_)
  · obtain ⟨_, _, _, rfl, _⟩ := h
    rfl
  · obtain ⟨a, ns, k, rfl, ha, hl, k0, k1, kk⟩ := h
    refine ⟨_, PSs.nox (pss_cons (ps_if (pt_cmpR (op_eq_lst0 (Nat.lt_of_succ_lt (hu_of hr))) (pv 0) (pe_lst pa_nil) (nomark _)) (pss_one (ps_ret (pe_op op_add (pe_op op_mul (pv 1) pe_int) pe_int))) pss_nil) (pss_one (ps_ret (pe_op op_add (pe_ix ix_list (pv 0) (pe_op op_mod (pv 1) (pe_callB call_len (by rfl) T.b_len (by decide +kernel) (pa_cons (pv 0) pa_nil))) (fun _ _ => rfl)) (pe_op op_mul (pe_op op_mul (pe_op op_fdiv (pv 1) (pe_callB call_len (by rfl) T.b_len (by decide +kernel) (pa_cons (pv 0) pa_nil))) pe_int) (pe_op op_add (pv 1) pe_int)))))), ?_⟩
    refine ⟨_, rfl, Nat.zero_le _, fun e ne => ?_⟩
    have s1 : Same H (upd H e (.lst [])) := same_upd ne
    have ha1 : SqL K (upd H e (.lst [])) a (ns.map V.int) := sql_same ha s1
    refine ⟨a, e, ns.map V.int, rfl, rfl, ha1, SqL.of upd_same, _, rfl, ?_⟩
    generalize upd H e (.lst []) = H1 at s1 ha1
    refine ite2 (fun h => ?_) (fun h => ?_)
    · exact ⟨_, rfl, _, _, rfl, rfl, cml (by omega) (by omega), _, _, rfl, rfl, kk _ _ s1⟩
    · have hn0 : ns.length ≠ 0 := fun z => h (decide_eq_true (by rw [List.length_map]; exact z))
      have hn : 0 < ns.length := by omega
      have hm0 := Int.emod_nonneg k (show (ns.length : Int) ≠ 0 by omega)
      have hm1 := Int.emod_lt_of_pos k (show (0 : Int) < ns.length by omega)
      have hd0 := Int.ediv_nonneg k0 (show (0 : Int) ≤ ns.length by omega)
      have hd1 := Int.ediv_le_self (ns.length : Int) k0
      have lv : LenV K (.ref a) H1 ns.length := .inl ⟨_, ha1, (List.length_map _).symm⟩
      refine ⟨_, rfl, _, rfl, _, rfl, _, ns.length, rfl, lv, _, _, rfl, rfl, by omega, ?_⟩
      obtain ⟨z, hz⟩ : ∃ z, ns[(k % (ns.length : Int)).toNat]? = some z := ⟨ns[(k % (ns.length : Int)).toNat]'(by omega), List.getElem?_eq_getElem _⟩
      refine ⟨a, _, k % (ns.length : Int), .int z, rfl, rfl, ha1, at_of (j := (k % (ns.length : Int)).toNat) (by omega) (by rw [List.getElem?_map, hz] <;> rfl), ?_⟩
      refine ⟨_, rfl, _, rfl, _, ns.length, rfl, lv, _, _, rfl, rfl, ⟨by omega, by omega⟩, ?_⟩
      refine ⟨_, _, rfl, rfl, cmr (by omega) (by omega), ?_⟩
      refine ⟨_, rfl, _, _, rfl, rfl, _, _, rfl, rfl, cmr (by omega) (by omega), _, _, rfl, rfl, kk _ _ s1⟩
theorem cal_law_drawn (T : Tx K mg) : Cal P w K mg base 1 "_law_drawn" (spDrawn K) [] := by
  obtain ⟨fd, F⟩ := T.f_Dlaw_drawn
  exact ⟨_, fd, _, _, ok_law_drawn F T, T.g_law_drawn, F.kp, bi_Dlaw_drawn F, .nil⟩
theorem sc_Dlaw_mix : FnScope ["_law_number", "_law_k", "_law_more"] ["_law_number", "_law_k"] (defScope sDlaw_mix) := C8.fnScope_by (by decide +kernel)
theorem ok_law_mix (F : FDlaw_mix K fd) (T : Tx K mg) : FnOk P w K mg base C8.CX0 1 (He.ga K "_law_mix") fd ["_law_number", "_law_k"] spMix := by
  refine FunD.ok F sc_Dlaw_mix (fun vs H Q E h => ?_) (fun cdv A outer s H vs Q E hr h => ?_)
  · obtain ⟨_, _, rfl, _⟩ := h
    rfl
  · obtain ⟨n, k, rfl, kk⟩ := h
    refine ⟨_, PSs.nox (pss_cons (ps_set (i := 2) sc_Dlaw_mix.nd rfl (Or.inl rfl) (pe_op op_mod (pe_op op_add (pe_op op_add (pe_op op_mul (pe_op op_mod (pv 0) pe_int) pe_int) (pe_op op_mul (pv 1) pe_int)) pe_int) pe_int)) (pss_one (ps_ret (pe_op op_mod (pe_op op_add (pe_op op_add (pe_op op_mul (pv 2) (pv 2)) (pe_op op_mul pe_int (pv 2))) (pv 1)) pe_int)))), ?_⟩
    refine ⟨_, rfl, _, _, rfl, rfl, (by first | decide | (show (0 : Int) < _; decide)), _, _, rfl, rfl, cmr (by decide) (by decide), _, rfl, _, _, rfl, rfl, cmr (by decide) (by first | decide | (show (0 : Int) < _; decide)), _, _, rfl, rfl, _, _, rfl, rfl, _, _, rfl, rfl, (by first | decide | (show (0 : Int) < _; decide)), ?_⟩
    have e0 := Int.emod_nonneg ((n % 2147483647 * 48271 + k * 69621 + 11)) (show (2147483647 : Int) ≠ 0 by decide)
    have e1 := Int.emod_lt_of_pos ((n % 2147483647 * 48271 + k * 69621 + 11)) (show (0 : Int) < 2147483647 by decide)
    generalize (n % 2147483647 * 48271 + k * 69621 + 11) % 2147483647 = m at e0 e1
    refine ⟨_, rfl, _, rfl, _, _, rfl, rfl, cmr (by omega) (by omega), _, rfl, _, _, rfl, rfl, cml (by decide) (by first | decide | (show (0 : Int) < _; decide)), _, _, rfl, rfl, _, rfl, _, _, rfl, rfl, _, _, rfl, rfl, (by first | decide | (show (0 : Int) < _; decide)), ?_⟩
    exact kk _ (Int.emod_nonneg _ (by decide)) (Int.emod_lt_of_pos _ (by decide))
theorem cal_law_mix (T : Tx K mg) : Cal P w K mg base 1 "_law_mix" spMix [] := by
  obtain ⟨fd, F⟩ := T.f_Dlaw_mix
  exact ⟨_, fd, _, _, ok_law_mix F T, T.g_law_mix, F.kp, bi_Dlaw_mix F, .nil⟩
theorem sc_Dlaw_ratio : FnScope ["_law_one", "_law_other"] ["_law_one", "_law_other"] (defScope sDlaw_ratio) := C8.fnScope_by (by decide +kernel)
theorem ok_law_ratio (F : FDlaw_ratio K fd) (T : Tx K mg) : FnOk P w K mg base C8.CX0 4 (He.ga K "_law_ratio") fd ["_law_one", "_law_other"] (spLRatio K) := by
  refine FunD.ok F sc_Dlaw_ratio (fun vs H Q E h => ?_) (fun cdv A outer s H vs Q E hr h => ?_)
  · obtain ⟨_, _, rfl, _⟩ := h
    rfl
  · obtain ⟨a, b, rfl, kk⟩ := h
    refine ⟨_, PSs.nox (pss_one (ps_ret (pe_mk (mak_Ratio_2 T) hr (by decide) rfl (pa_cons (pe_op op_sub (pe_op op_mod (pv 0) (pe_op op_add (pe_op op_mul pe_int (pe_op op_pow pe_int pe_int)) pe_int)) (pe_op op_pow pe_int pe_int)) (pa_cons (pe_op op_add pe_int (pe_op op_mod (pv 1) (pe_op op_pow pe_int pe_int))) pa_nil))))), ?_⟩
    have hp : CPow 10 12 := ⟨by decide, by decide, by decide⟩
    have hp6 : CPow 10 6 := ⟨by decide, by decide, by decide⟩
    refine ⟨_, rfl, _, _, rfl, rfl, hp, _, _, rfl, rfl, cml (by decide) (by first | decide | (show (0 : Int) < _; decide)), _, _, rfl, rfl, _, _, rfl, rfl, (by first | decide | (show (0 : Int) < _; decide)), _, _, rfl, rfl, hp, _, _, rfl, rfl, _, rfl, _, _, rfl, rfl, hp6, _, _, rfl, rfl, (by first | decide | (show (0 : Int) < _; decide)), _, _, rfl, rfl, ?_⟩
    have e0 := Int.emod_nonneg a (show (2 * 10 ^ (12 : Int).toNat + 1 : Int) ≠ 0 by decide)
    have e1 := Int.emod_lt_of_pos a (show (0 : Int) < 2 * 10 ^ (12 : Int).toNat + 1 by decide)
    have f0 := Int.emod_nonneg b (show (10 ^ (6 : Int).toNat : Int) ≠ 0 by decide)
    have f1 := Int.emod_lt_of_pos b (show (0 : Int) < 10 ^ (6 : Int).toNat by decide)
    have c12 : (10 : Int) ^ (12 : Int).toNat = 1000000000000 := by decide
    have c6 : (10 : Int) ^ (6 : Int).toNat = 1000000 := by decide
    rw [c12] at e0 e1 ⊢
    rw [c6] at f0 f1 ⊢
    have b40 : (1000000000000 : Nat) < 2 ^ 40 := by decide
    refine rat_new (by omega) (Nat.lt_of_le_of_lt (show _ ≤ 1000000000000 by omega) (Nat.lt_of_lt_of_le b40 (pow_le (by decide)))) (Nat.lt_of_le_of_lt (show _ ≤ 1000000000000 by omega) (Nat.lt_of_lt_of_le b40 (pow_le (by decide)))) fun r H' s1 R => kk r _ H' s1 R (qok_div (by omega) (by omega) (by omega))
theorem cal_law_ratio (T : Tx K mg) : Cal P w K mg base 4 "_law_ratio" (spLRatio K) [] := by
  obtain ⟨fd, F⟩ := T.f_Dlaw_ratio
  exact ⟨_, fd, _, _, ok_law_ratio F T, T.g_law_ratio, F.kp, bi_Dlaw_ratio F, .nil⟩
theorem sc_Dlaw_name : FnScope ["_law_base", "_law_k", "_law_some"] ["_law_base", "_law_k"] (defScope sDlaw_name) := C8.fnScope_by (by decide +kernel)
theorem ok_law_name (F : FDlaw_name K fd) (T : Tx K mg) : FnOk P w K mg base C8.CX0 1 (He.ga K "_law_name") fd ["_law_base", "_law_k"] spName := by
  refine FunD.ok F sc_Dlaw_name (fun vs H Q E h => ?_) (fun cdv A outer s H vs Q E hr h => ?_)
  · obtain ⟨_, _, rfl, _⟩ := h
    rfl
  · obtain ⟨b, k, rfl, b0, b1, k0, k1, kk⟩ := h
    refine ⟨_, PSs.nox (pss_cons (ps_set (i := 2) sc_Dlaw_name.nd rfl (Or.inl rfl) pe_str) (pss_one (ps_ret (pe_op op_add_str (pe_op op_add_str (pe_item_str (pv 2) (pe_op op_mod (pv 0) pe_int) (fun _ _ => rfl)) (pe_op op_mul_str (pe_item_str (pv 2) (pe_op op_mod (pe_op op_fdiv (pv 0) pe_int) pe_int) (fun _ _ => rfl)) (pe_op op_mod (pe_op op_fdiv (pv 0) pe_int) pe_int))) (pe_callTy call_str_int (by rfl) T.b_str (by decide +kernel) (pa_cons (pv 1) pa_nil)))))), ?_⟩
    have a0 := Int.emod_nonneg b (show (26 : Int) ≠ 0 by decide)
    have a1 := Int.emod_lt_of_pos b (show (0 : Int) < 26 by decide)
    have c0 := Int.emod_nonneg (b / 26) (show (26 : Int) ≠ 0 by decide)
    have c1 := Int.emod_lt_of_pos (b / 26) (show (0 : Int) < 26 by decide)
    have hl : ∀ {i : Int}, i < 26 → i < (abc.length : Int) := fun h => by rw [abc_len]; exact h
    have cd : ∀ {i j : Int}, 0 < j → j ≤ 1000 → CDiv i j := fun h1 h2 => ⟨h1, by omega⟩
    have pl := pre_len b
    have dl := dig_len k0 k1
    refine ⟨_, rfl, _, rfl, _, _, rfl, rfl, (by first | decide | (show (0 : Int) < _; decide)), abc, b % 26, _, rfl, rfl, a0, by omega, hl a1, abc_at a0 a1, ?_⟩
    refine ⟨_, rfl, _, rfl, _, _, rfl, rfl, cd (by decide) (by first | decide | (show (0 : Int) < _; decide)), _, _, rfl, rfl, (by first | decide | (show (0 : Int) < _; decide)), abc, b / 26 % 26, _, rfl, rfl, c0, by omega, hl c1, abc_at c0 c1, ?_⟩
    refine ⟨_, rfl, _, _, rfl, rfl, cd (by decide) (by first | decide | (show (0 : Int) < _; decide)), _, _, rfl, rfl, (by first | decide | (show (0 : Int) < _; decide)), letter (b / 26 % 26), b / 676 % 2, rfl, rfl, by rw [letter_len]; decide, by omega, by omega, ?_⟩
    refine ⟨letter (b % 26), _, rfl, rfl, ?_, ?_⟩
    · have h1 := mul_len (x := letter (b / 26 % 26)) (n := b / 676 % 2) (by omega)
      rw [letter_len] at h1 ⊢
      exact Nat.le_trans (show _ ≤ 2 by omega) (by decide)
    refine ⟨_, rfl, k, rfl, ?_, preM b, digM k, rfl, rfl, Nat.le_trans (Nat.add_le_add pl dl) (by decide), kk⟩
    have : k.natAbs < 2 ^ 9 := by omega
    exact Nat.lt_of_lt_of_le (PySem.Flt.log2_lt_of (by decide) this) (by decide)
theorem cal_law_name (T : Tx K mg) : Cal P w K mg base 1 "_law_name" spName [] := by
  obtain ⟨fd, F⟩ := T.f_Dlaw_name
  exact ⟨_, fd, _, _, ok_law_name F T, T.g_law_name, F.kp, bi_Dlaw_name F, .nil⟩
theorem sc_Dlaw_due : FnScope ["_law_low", "_law_high", "_law_gain"] ["_law_low", "_law_high", "_law_gain"] (defScope sDlaw_due) := C8.fnScope_by (by decide +kernel)
theorem ok_law_due (F : FDlaw_due K fd) (T : Tx K mg) : FnOk P w K mg base C8.CX0 5 (He.ga K "_law_due") fd ["_law_low", "_law_high", "_law_gain"] (spDue K) := by
  refine FunD.ok F sc_Dlaw_due (fun vs H Q E h => ?_) (fun cdv A outer s H vs Q E hr h => ?_)
  · obtain ⟨_, _, _, _, _, rfl, _⟩ := h
    rfl
  · obtain ⟨pl, ph, lo, hi, g, rfl, Rl, Rh, ol, oh, kk⟩ := h
    refine ⟨_, PSs.nox (pss_cons (ps_if (pt_cmpR op_gt (pv 2) pe_int (nomark _)) (pss_one (ps_ret (pe_op op_sub (pe_mt0 (met_floor T) hr (by decide) (pe_mt0 (met_turned T) hr (by decide) (pv 0))) (pe_mt0 (met_floor T) hr (by decide) (pe_mt0 (met_turned T) hr (by decide) (pv 1)))))) pss_nil) (pss_one (ps_ret (pe_op op_sub (pe_mt0 (met_floor T) hr (by decide) (pv 0)) (pe_mt0 (met_floor T) hr (by decide) (pv 1)))))), ?_⟩
    obtain ⟨dl, el⟩ := id Rl
    refine ⟨_, rfl, _, _, rfl, rfl, _, rfl, ?_⟩
    refine ite2 (fun h => ?_) (fun h => ?_)
    · have hg : 0 < g := of_decide_eq_true h
      refine ⟨_, rfl, pl, dl, _, rfl, el, ratF_no _ (by decide +kernel) (by decide +kernel), pl, lo, rfl, Rl, ol, fun r1 H1 s1 R1 => ?_⟩
      obtain ⟨d1, e1⟩ := id R1
      have Rh1 := Rh.mono s1
      obtain ⟨dh, eh⟩ := id Rh1
      refine ⟨r1, d1, _, rfl, e1, ratF_no _ (by decide +kernel) (by decide +kernel), r1, _, rfl, R1, bd_neg ol, _, rfl, ph, dh, _, rfl, eh, ratF_no _ (by decide +kernel) (by decide +kernel), ph, hi, rfl, Rh1, oh, fun r2 H2 s2 R2 => ?_⟩
      obtain ⟨d2, e2⟩ := id R2
      refine ⟨r2, d2, _, rfl, e2, ratF_no _ (by decide +kernel) (by decide +kernel), r2, _, rfl, R2, bd_neg oh, _, _, rfl, rfl, ?_⟩
      have := kk H2 (Same.trans s1 s2)
      unfold dueM at this
      rw [if_pos hg] at this
      exact this
    · have hg : ¬ 0 < g := fun z => h (decide_eq_true z)
      obtain ⟨dh, eh⟩ := id Rh
      refine ⟨_, rfl, pl, dl, _, rfl, el, ratF_no _ (by decide +kernel) (by decide +kernel), pl, _, rfl, Rl, ol, _, rfl, ph, dh, _, rfl, eh, ratF_no _ (by decide +kernel) (by decide +kernel), ph, _, rfl, Rh, oh, _, _, rfl, rfl, ?_⟩
      have := kk H (fun _ _ z => z)
      unfold dueM at this
      rw [if_neg hg] at this
      exact this
theorem cal_law_due (T : Tx K mg) : Cal P w K mg base 5 "_law_due" (spDue K) [] := by
  obtain ⟨fd, F⟩ := T.f_Dlaw_due
  exact ⟨_, fd, _, _, ok_law_due F T, T.g_law_due, F.kp, bi_Dlaw_due F, .nil⟩
end
end Ty
set_option Elab.async false
set_option linter.all false
set_option maxRecDepth 100000
set_option maxHeartbeats 4000000
/-! The law's rows: _law_turned_rows, _law_arbors. -/
namespace Ty
open PySem PySem.Spec PyProof.Rows L2 C8
/-- how an arbor turns -/
inductive Tn where
  | drive (r : Rat) | still | free | pair (j t1 t2 : Int) (arm : Option Int) (ring : Bool)
def tnRows (b k : Int) : Tn → List RowM
  | .drive r => [.drive (nm b k) r]
  | .still => [.still (nm b k)]
  | .free => []
  | .pair j t1 t2 arm ring => [.wheel (nm b (100 + 2 * k)) (nm b j) t1, .wheel (nm b (101 + 2 * k)) (nm b k) t2,
      if ring then .ring (nm b (101 + 2 * k)) (nm b (100 + 2 * k)) (arm.map (nm b)) else .mesh (nm b (100 + 2 * k)) (nm b (101 + 2 * k)) (arm.map (nm b))]
def TnOk (k : Int) : Tn → Prop
  | .drive r => QOk r
  | .pair j t1 t2 arm _ => 0 ≤ j ∧ j < k ∧ 6 ≤ t1 ∧ t1 ≤ 400 ∧ 6 ≤ t2 ∧ t2 ≤ 400 ∧ ∀ i, arm = some i → 0 ≤ i ∧ i < k
  | _ => True
def grpRows (b k : Int) (t : Tn) : List RowM := .arbor (nm b k) :: tnRows b k t
def allRows (b : Int) : Int → List Tn → List RowM
  | _, [] => []
  | k, t :: ts => grpRows b k t ++ allRows b (k + 1) ts
theorem allRows_snoc {b : Int} : ∀ {ts : List Tn} {k : Int} {t : Tn}, allRows b k (ts ++ [t]) = allRows b k ts ++ grpRows b (k + ts.length) t := by
  intro ts
  induction ts with
  | nil =>
    intro k t
    show grpRows b k t ++ [] = [] ++ grpRows b (k + 0) t
    rw [List.append_nil, Int.add_zero] <;> rfl
  | cons t0 ts ih =>
    intro k t
    show grpRows b k t0 ++ allRows b (k + 1) (ts ++ [t]) = (grpRows b k t0 ++ allRows b (k + 1) ts) ++ _
    rw [ih, List.append_assoc]
    congr 3
    simp
    omega
theorem grp_len {b k : Int} {t : Tn} : (grpRows b k t).length ≤ 4 := by
  cases t <;> simp [grpRows, tnRows]
theorem all_len {b : Int} : ∀ {ts : List Tn} {k : Int}, (allRows b k ts).length ≤ 4 * ts.length := by
  intro ts
  induction ts with
  | nil => exact fun {k} => Nat.le_refl _
  | cons t ts ih =>
    intro k
    show (grpRows b k t ++ allRows b (k + 1) ts).length ≤ _
    rw [List.length_append]
    have h1 := grp_len (b := b) (k := k) (t := t)
    have h2 := ih (k := k + 1)
    simp
    omega
section
variable {K : PySem.W.Frag} {H H' : Hp} {l r p : Addr} {rs : List RowM} {row : RowM} {ps : List Addr}
theorem rows_push (h : H l = some (.lst (ps.map V.ref))) (pr : Paired (RowAt K H) ps rs) (R : RowAt K H r row) : RowsAt K (upd H l (.lst (ps.map V.ref ++ [.ref r]))) l (rs ++ [row]) := by
  have n : NL H (upd H l (.lst (ps.map V.ref ++ [.ref r]))) := nl_upd h
  refine ⟨ps ++ [r], ?_, Paired.snoc (Paired.mapP pr fun _ _ z => z.nl n) (R.nl n)⟩
  rw [upd_same, List.map_append] <;> rfl
theorem paired_app {α β : Type} {F : α → β → Prop} {a c : List α} {b d : List β} (h : Paired F a b) (g : Paired F c d) : Paired F (a ++ c) (b ++ d) := by
  induction h with
  | nil => exact g
  | cons r _ ih => exact .cons r ih
/-- two lists of rows, joined in a new one -/
theorem rows_cat {l2 q : Addr} {ps2 : List Addr} {rs2 : List RowM} (pr : Paired (RowAt K H) ps rs) (pr2 : Paired (RowAt K H) ps2 rs2) (hq : H q = none) : RowsAt K (upd H q (.lst (ps.map V.ref ++ ps2.map V.ref))) q (rs ++ rs2) := by
  have s : Same H (upd H q (.lst (ps.map V.ref ++ ps2.map V.ref))) := same_upd hq
  refine ⟨ps ++ ps2, ?_, paired_app (Paired.mapP pr fun _ _ z => z.mono s) (Paired.mapP pr2 fun _ _ z => z.mono s)⟩
  rw [upd_same, List.map_append]
end
def spTurned (K : PySem.W.Frag) : Sp := fun vs H Q _ => ∃ (b k n : Int), vs = [.int b, .int k, .int n] ∧ 0 ≤ b ∧ b < 2147483629 ∧ 1 ≤ k ∧ k ≤ 20 ∧ 0 ≤ n ∧ ∀ l t H', Same H H' → RowsAt K H' l (tnRows b k t) → TnOk k t → Q (.ref l) H'
section
variable {P : Program} {w : World} {K : PySem.W.Frag} {mg : Str → Option Value} {base : Heap} {fd : FuncData}
theorem map_armV {b : Int} {o : Option Int} : armV (o.map (nm b)) = (match o with | some i => V.str (nm b i) | none => V.non) := by
  cases o <;> rfl
theorem sc_Dlaw_turned_rows : FnScope ["_law_base", "_law_k", "_law_number", "_law_one", "_law_other", "_law_rows", "_law_arm"] ["_law_base", "_law_k", "_law_number"] (defScope sDlaw_turned_rows) := C8.fnScope_by (by decide +kernel)
theorem ok_law_turned_rows (F : FDlaw_turned_rows K fd) (T : Tx K mg) : FnOk P w K mg base C8.CX0 3 (He.ga K "_law_turned_rows") fd ["_law_base", "_law_k", "_law_number"] (spTurned K) := by
  refine FunD.ok F sc_Dlaw_turned_rows (fun vs H Q E h => ?_) (fun cdv A outer s H vs Q E hr h => ?_)
  · obtain ⟨_, _, _, rfl, _⟩ := h
    rfl
  · obtain ⟨b, k, n, rfl, b0, b1, k0, k1, n0, kk⟩ := h
    refine ⟨_, PSs.nox (pss_cons (ps_set (i := 3) sc_Dlaw_turned_rows.nd rfl (Or.inl rfl) (pe_c (cal_law_name T) hr (by decide) rfl (pa_cons (pv 0) (pa_cons (pe_op op_add pe_int (pe_op op_mul pe_int (pv 1))) pa_nil)))) (pss_cons (ps_set (i := 4) sc_Dlaw_turned_rows.nd rfl (Or.inl rfl) (pe_c (cal_law_name T) hr (by decide) rfl (pa_cons (pv 0) (pa_cons (pe_op op_add pe_int (pe_op op_mul pe_int (pv 1))) pa_nil)))) (pss_cons (ps_set (i := 5) sc_Dlaw_turned_rows.nd rfl (Or.inl rfl) (pe_lst (pa_cons (pe_mk (mak_Wheel_4 T) hr (by decide) rfl (pa_cons (pe_tup (pa_cons (pv 1) (pa_cons pe_int pa_nil))) (pa_cons (pv 3) (pa_cons (pe_c (cal_law_name T) hr (by decide) rfl (pa_cons (pv 0) (pa_cons (pe_op op_mod (pe_op op_fdiv (pv 2) pe_int) (pv 1)) pa_nil))) (pa_cons (pe_op op_add pe_int (pe_op op_mod (pe_op op_fdiv (pv 2) pe_int) pe_int)) pa_nil))))) pa_nil))) (pss_cons (ps_expr (pe_bm PySem.F.plainAttrs_list PySem.F.slot_list_append PySem.F.type_list_append mt_append (pv 5) (pa_cons (pe_mk (mak_Wheel_4 T) hr (by decide) rfl (pa_cons (pe_tup (pa_cons (pv 1) (pa_cons pe_int pa_nil))) (pa_cons (pv 4) (pa_cons (pe_c (cal_law_name T) hr (by decide) rfl (pa_cons (pv 0) (pa_cons (pv 1) pa_nil))) (pa_cons (pe_op op_add pe_int (pe_op op_mod (pe_op op_fdiv (pv 2) pe_int) pe_int)) pa_nil))))) pa_nil))) (pss_cons (ps_set (i := 6) sc_Dlaw_turned_rows.nd rfl (Or.inl rfl) (pe_ix ix_list (pe_lst (pa_cons pe_non (pa_cons pe_non (pa_cons (pe_c (cal_law_name T) hr (by decide) rfl (pa_cons (pv 0) (pa_cons (pe_op op_mod (pe_op op_fdiv (pv 2) pe_int) (pv 1)) pa_nil))) pa_nil)))) (pe_op op_mod (pe_op op_fdiv (pv 2) pe_int) pe_int) (fun _ _ => rfl))) (pss_cons (ps_if (pt_cmpR op_eq (pe_op op_mod (pe_op op_fdiv (pv 2) pe_int) pe_int) pe_int (nomark _)) (pss_one (ps_ret (pe_op op_cat (pv 5) (pe_lst (pa_cons (pe_mk (mak_Mesh_4 T) hr (by decide) rfl (pa_cons (pe_tup (pa_cons (pv 1) (pa_cons pe_int pa_nil))) (pa_cons (pv 3) (pa_cons (pv 4) (pa_cons (pv 6) pa_nil))))) pa_nil))))) pss_nil) (pss_one (ps_ret (pe_op op_cat (pv 5) (pe_lst (pa_cons (pe_mk (mak_Ring_4 T) hr (by decide) rfl (pa_cons (pe_tup (pa_cons (pv 1) (pa_cons pe_int pa_nil))) (pa_cons (pv 4) (pa_cons (pv 3) (pa_cons (pv 6) pa_nil))))) pa_nil))))))))))), ?_⟩
    have kp : (0 : Int) < k := by omega
    refine ⟨_, rfl, _, rfl, _, _, rfl, rfl, cml (by decide) (by decide), _, _, rfl, rfl, b, _, rfl, b0, b1, by omega, by omega, ?_⟩
    refine ⟨_, rfl, _, rfl, _, _, rfl, rfl, cml (by decide) (by decide), _, _, rfl, rfl, b, _, rfl, b0, b1, by omega, by omega, ?_⟩
    -- the first wheel
    have j0 := Int.emod_nonneg (n / 9) (show k ≠ 0 by omega)
    have j1 := Int.emod_lt_of_pos (n / 9) kp
    have u0 := Int.emod_nonneg (n / 90) (show (395 : Int) ≠ 0 by decide)
    have u1 := Int.emod_lt_of_pos (n / 90) (show (0 : Int) < 395 by decide)
    have w0 := Int.emod_nonneg (n / 40000) (show (395 : Int) ≠ 0 by decide)
    have w1 := Int.emod_lt_of_pos (n / 40000) (show (0 : Int) < 395 by decide)
    have i0 := Int.emod_nonneg (n / 81) (show k ≠ 0 by omega)
    have i1 := Int.emod_lt_of_pos (n / 81) kp
    have m0 := Int.emod_nonneg (n / 720) (show (3 : Int) ≠ 0 by decide)
    have m1 := Int.emod_lt_of_pos (n / 720) (show (0 : Int) < 3 by decide)
    refine ⟨_, rfl, (by show 2 ≤ sizeLine; decide), fun tp ntp => ?_⟩
    have s1 : Same H (upd H tp (.tup [.int k, .int 3])) := same_upd ntp
    refine ⟨_, rfl, _, rfl, _, rfl, _, _, rfl, rfl, ⟨by decide, by decide⟩, _, rfl, _, _, rfl, rfl, kp, b, _, rfl, b0, b1, j0, by omega, _, rfl, _, _, rfl, rfl, ⟨by decide, by decide⟩, _, _, rfl, rfl, (by first | decide | (show (0 : Int) < _; decide)), _, _, rfl, rfl, ?_⟩
    refine row_new (hl := rfl) (hw := SqT.of upd_same) fun r1 d1 H1 t1 h1 => ?_
    have R1 : RowAt K H1 r1 (.wheel (nm b (100 + 2 * k)) (nm b (n / 9 % k)) (6 + n / 90 % 395)) := ⟨d1, _, h1, _, rfl⟩
    have s01 : Same H H1 := Same.trans s1 t1
    refine ⟨(by show 1 ≤ sizeLine; decide), fun l nl => ?_⟩
    have s2 : Same H1 (upd H1 l (.lst [.ref r1])) := same_upd nl
    have R12 := R1.mono s2
    have hl2 : upd H1 l (.lst [.ref r1]) l = some (.lst [.ref r1]) := upd_same
    generalize upd H1 l (.lst [.ref r1]) = H2 at s2 R12 hl2
    -- the second
    refine ⟨_, rfl, .inl ⟨rfl, _, SqL.of hl2⟩, _, rfl, (by show 2 ≤ sizeLine; decide), fun tp2 ntp2 => ?_⟩
    have s3 : Same H2 (upd H2 tp2 (.tup [.int k, .int 4])) := same_upd ntp2
    refine ⟨_, rfl, _, rfl, _, rfl, b, k, rfl, b0, b1, by omega, by omega, _, rfl, _, _, rfl, rfl, ⟨by decide, by decide⟩, _, _, rfl, rfl, (by first | decide | (show (0 : Int) < _; decide)), _, _, rfl, rfl, ?_⟩
    refine row_new (hl := rfl) (hw := SqT.of upd_same) fun r2 d2 H3 t3 h3 => ?_
    have R2 : RowAt K H3 r2 (.wheel (nm b (101 + 2 * k)) (nm b k) (6 + n / 40000 % 395)) := ⟨d2, _, h3, _, rfl⟩
    have s23 : Same H2 H3 := Same.trans s3 t3
    have hl3 := s23 _ _ hl2
    refine ⟨l, _, _, rfl, rfl, hl3, (by show 1 < sizeLine; decide), ?_⟩
    have c4 : NL H3 (upd H3 l (.lst ([.ref r1] ++ [.ref r2]))) := nl_upd hl3
    have s03 : Same H H3 := Same.trans (Same.trans s01 s2) s23
    have nlH : H l = none := s01.free nl
    have s04 : Same H (upd H3 l (.lst ([.ref r1] ++ [.ref r2]))) := Same.upd s03 nlH
    have R14 := (R12.mono s23).nl c4
    have R24 := R2.nl c4
    have hl4 : upd H3 l (.lst ([.ref r1] ++ [.ref r2])) l = some (.lst ([r1, r2].map V.ref)) := upd_same
    generalize upd H3 l (.lst ([.ref r1] ++ [.ref r2])) = H4 at c4 s04 R14 R24 hl4
    -- the arm
    refine ⟨_, rfl, _, rfl, _, _, rfl, rfl, ⟨by decide, by decide⟩, _, rfl, _, _, rfl, rfl, kp, b, _, rfl, b0, b1, i0, by omega, (by show 3 ≤ sizeLine; decide), fun la nla => ?_⟩
    have s5 : Same H4 (upd H4 la (.lst [.non, .non, .str (nm b (n / 81 % k))])) := same_upd nla
    refine ⟨_, rfl, _, _, rfl, rfl, ⟨by decide, by decide⟩, _, _, rfl, rfl, (by first | decide | (show (0 : Int) < _; decide)), ?_⟩
    obtain ⟨arm, ha, hao⟩ : ∃ arm : Option Int, ([.non, .non, .str (nm b (n / 81 % k))] : List V)[(n / 720 % 3).toNat]? = some (armV (arm.map (nm b))) ∧ ∀ i, arm = some i → 0 ≤ i ∧ i < k := by
      have : n / 720 % 3 = 0 ∨ n / 720 % 3 = 1 ∨ n / 720 % 3 = 2 := by omega
      rcases this with e | e | e
      · exact ⟨none, by rw [e]; rfl, fun i z => by cases z⟩
      · exact ⟨none, by rw [e]; rfl, fun i z => by cases z⟩
      · exact ⟨some (n / 81 % k), by rw [e]; rfl, fun i z => by cases z; exact ⟨i0, i1⟩⟩
    refine ⟨la, _, n / 720 % 3, _, rfl, rfl, SqL.of upd_same, at_of (j := (n / 720 % 3).toNat) (by omega) ha, ?_⟩
    have s05 : Same H (upd H4 la (.lst [.non, .non, .str (nm b (n / 81 % k))])) := Same.trans s04 s5
    have R15 := R14.mono s5
    have R25 := R24.mono s5
    have hl5 := s5 _ _ hl4
    generalize upd H4 la (.lst [.non, .non, .str (nm b (n / 81 % k))]) = H5 at s5 s05 R15 R25 hl5
    refine ⟨_, rfl, _, _, rfl, rfl, ⟨by decide, by decide⟩, _, _, rfl, rfl, (by first | decide | (show (0 : Int) < _; decide)), rfl, _, rfl, ?_⟩
    have tok : ∀ ring, TnOk k (.pair (n / 9 % k) (6 + n / 90 % 395) (6 + n / 40000 % 395) arm ring) := fun ring => ⟨j0, j1, by omega, by omega, by omega, by omega, hao⟩
    refine ite2 (fun _ => ?_) (fun _ => ?_)
    · refine ⟨_, rfl, _, rfl, (by show 2 ≤ sizeLine; decide), fun tp3 ntp3 => ?_⟩
      have s6 : Same H5 (upd H5 tp3 (.tup [.int k, .int 5])) := same_upd ntp3
      refine ⟨_, rfl, _, rfl, _, rfl, ?_⟩
      refine row_new (hl := rfl) (hw := SqT.of upd_same) fun r3 d3 H6 t6 h6 => ?_
      have R3 : RowAt K H6 r3 (.mesh (nm b (100 + 2 * k)) (nm b (101 + 2 * k)) (arm.map (nm b))) := ⟨d3, _, h6, _, rfl⟩
      have s56 : Same H5 H6 := Same.trans s6 t6
      refine ⟨(by show 1 ≤ sizeLine; decide), fun l3 nl3 => ?_⟩
      have s7 : Same H6 (upd H6 l3 (.lst [.ref r3])) := same_upd nl3
      have s57 : Same H5 (upd H6 l3 (.lst [.ref r3])) := Same.trans s56 s7
      refine ⟨l, l3, _, _, rfl, rfl, s57 _ _ hl5, upd_same, (by show 3 ≤ sizeLine; decide), fun q nq => ?_⟩
      have := rows_cat (l2 := l3) (ps := [r1, r2]) (ps2 := [r3]) (.cons (R15.mono s57) (.cons (R25.mono s57) .nil)) (.cons (R3.mono s7) .nil) nq
      exact kk q (.pair (n / 9 % k) (6 + n / 90 % 395) (6 + n / 40000 % 395) arm false) _ (Same.trans s05 (Same.trans s57 (same_upd nq))) this (tok _)
    · refine ⟨_, rfl, _, rfl, (by show 2 ≤ sizeLine; decide), fun tp3 ntp3 => ?_⟩
      have s6 : Same H5 (upd H5 tp3 (.tup [.int k, .int 5])) := same_upd ntp3
      refine ⟨_, rfl, _, rfl, _, rfl, ?_⟩
      refine row_new (hl := rfl) (hw := SqT.of upd_same) fun r3 d3 H6 t6 h6 => ?_
      have R3 : RowAt K H6 r3 (.ring (nm b (101 + 2 * k)) (nm b (100 + 2 * k)) (arm.map (nm b))) := ⟨d3, _, h6, _, rfl⟩
      have s56 : Same H5 H6 := Same.trans s6 t6
      refine ⟨(by show 1 ≤ sizeLine; decide), fun l3 nl3 => ?_⟩
      have s7 : Same H6 (upd H6 l3 (.lst [.ref r3])) := same_upd nl3
      have s57 : Same H5 (upd H6 l3 (.lst [.ref r3])) := Same.trans s56 s7
      refine ⟨l, l3, _, _, rfl, rfl, s57 _ _ hl5, upd_same, (by show 3 ≤ sizeLine; decide), fun q nq => ?_⟩
      have := rows_cat (l2 := l3) (ps := [r1, r2]) (ps2 := [r3]) (.cons (R15.mono s57) (.cons (R25.mono s57) .nil)) (.cons (R3.mono s7) .nil) nq
      exact kk q (.pair (n / 9 % k) (6 + n / 90 % 395) (6 + n / 40000 % 395) arm true) _ (Same.trans s05 (Same.trans s57 (same_upd nq))) this (tok _)
theorem cal_law_turned_rows (T : Tx K mg) : Cal P w K mg base 3 "_law_turned_rows" (spTurned K) [] := by
  obtain ⟨fd, F⟩ := T.f_Dlaw_turned_rows
  exact ⟨_, fd, _, _, ok_law_turned_rows F T, T.g_law_turned_rows, F.kp, bi_Dlaw_turned_rows F, .nil⟩
end
def spArb (K : PySem.W.Frag) : Sp := fun vs H Q _ => ∃ (a : Addr) (ns : List Int) (b many : Int), vs = [.ref a, .int b, .int many] ∧ SqL K H a (ns.map V.int) ∧ ns.length ≤ 1000 ∧ 0 ≤ b ∧ b < 2147483629 ∧ 1 ≤ many ∧ many ≤ 6 ∧
  ∀ l ts H', Same H H' → H l = none → RowsAt K H' l (allRows b 0 ts) → ts.length = many.toNat → (∀ (i : Nat) t, ts[i]? = some t → TnOk i t) → (∃ r ts', ts = .drive r :: ts') → Q (.ref l) H'
section
variable {P : Program} {w : World} {K : PySem.W.Frag} {mg : Str → Option Value} {base : Heap} {fd : FuncData}
theorem sc_Dlaw_arbors : FnScope ["_law_script", "_law_base", "_law_many", "_law_rows", "_law_k", "_law_cell", "_law_number", "_law_arbor"] ["_law_script", "_law_base", "_law_many"] (defScope sDlaw_arbors) := C8.fnScope_by (by decide +kernel)
theorem ok_law_arbors (F : FDlaw_arbors K fd) (T : Tx K mg) : FnOk P w K mg base C8.CX0 5 (He.ga K "_law_arbors") fd ["_law_script", "_law_base", "_law_many"] (spArb K) := by
  refine FunD.ok F sc_Dlaw_arbors (fun vs H Q E h => ?_) (fun cdv A outer s H vs Q E hr h => ?_)
  · obtain ⟨_, _, _, _, rfl, _⟩ := h
    rfl
  · obtain ⟨a, ns, b, many, rfl, hs, hnl, b0, b1, m0, m1, kk⟩ := h
    refine ⟨_, PSs.nox (pss_cons (ps_set (i := 3) sc_Dlaw_arbors.nd rfl (Or.inl rfl) (pe_lst pa_nil)) (pss_cons (ps_for PassesOwn.never rfl (pi_range1 rfl T.b_range (pa_cons (pv 2) pa_nil)) (pg_name (i := 4) sc_Dlaw_arbors.nd rfl (Or.inl rfl)) (pss_cons (ps_set (i := 5) sc_Dlaw_arbors.nd rfl (Or.inl rfl) (pe_c (cal_law_drawn T) hr (by decide) rfl (pa_cons (pv 0) (pa_cons (pv 4) pa_nil)))) (pss_cons (ps_set (i := 6) sc_Dlaw_arbors.nd rfl (Or.inl rfl) (pe_c (cal_law_mix T) hr (by decide) rfl (pa_cons (pe_op op_add (pv 5) (pe_callB (cr_sum rfl) (by rfl) T.b_sum (by decide +kernel) (pa_cons (pv 0) pa_nil))) (pa_cons (pe_op op_add pe_int (pv 4)) pa_nil)))) (pss_cons (ps_set (i := 7) sc_Dlaw_arbors.nd rfl (Or.inl rfl) (pe_c (cal_law_name T) hr (by decide) rfl (pa_cons (pv 1) (pa_cons (pv 4) pa_nil)))) (pss_cons (ps_expr (pe_bm PySem.F.plainAttrs_list PySem.F.slot_list_append PySem.F.type_list_append mt_append (pv 3) (pa_cons (pe_mk (mak_Arbor_2 T) hr (by decide) rfl (pa_cons (pe_tup (pa_cons (pv 4) pa_nil)) (pa_cons (pv 7) pa_nil))) pa_nil))) (pss_one (ps_if (PW.pt (pw_or (pt_cmpR op_eq (pv 4) pe_int (nomark _)) (pw_or1 (pt_cmpR op_eq (pe_op op_mod (pv 6) pe_int) pe_int (nomark _))))) (pss_one (ps_expr (pe_bm PySem.F.plainAttrs_list PySem.F.slot_list_append PySem.F.type_list_append mt_append (pv 3) (pa_cons (pe_mk (mak_Drive_3 T) hr (by decide) rfl (pa_cons (pe_tup (pa_cons (pv 4) (pa_cons pe_int pa_nil))) (pa_cons (pv 7) (pa_cons (pe_c (cal_law_ratio T) hr (by decide) rfl (pa_cons (pe_op op_add (pv 5) (pv 6)) (pa_cons (pv 5) pa_nil))) pa_nil)))) pa_nil)))) (pss_one (ps_if (PW.pt (pw_and (pt_cmpR op_eq (pe_op op_mod (pv 6) pe_int) pe_int (nomark _)) (pw_and1 (pt_cmpR op_eq (pe_op op_mod (pe_op op_fdiv (pv 6) pe_int) pe_int) pe_int (nomark _))))) (pss_one (ps_expr (pe_bm PySem.F.plainAttrs_list PySem.F.slot_list_append PySem.F.type_list_append mt_append (pv 3) (pa_cons (pe_mk (mak_Still_2 T) hr (by decide) rfl (pa_cons (pe_tup (pa_cons (pv 4) (pa_cons pe_int pa_nil))) (pa_cons (pv 7) pa_nil))) pa_nil)))) (pss_one (ps_if (pt_cmpR op_eq (pe_op op_mod (pv 6) pe_int) pe_int (nomark _)) (pss_one (ps_expr (pe_bm PySem.F.plainAttrs_list PySem.F.slot_list_append PySem.F.type_list_append mt_append (pv 3) (pa_cons (pe_mk (mak_Drive_3 T) hr (by decide) rfl (pa_cons (pe_tup (pa_cons (pv 4) (pa_cons pe_int pa_nil))) (pa_cons (pv 7) (pa_cons (pe_mk (mak_Ratio_2 T) hr (by decide) rfl (pa_cons pe_int (pa_cons (pe_op op_add pe_int (pe_op op_mod (pe_op op_fdiv (pv 6) pe_int) pe_int)) pa_nil))) pa_nil)))) pa_nil)))) (pss_one (ps_if (pt_cmpR op_gt (pe_op op_mod (pv 6) pe_int) pe_int (nomark _)) (pss_one (ps_set (i := 3) sc_Dlaw_arbors.nd rfl (Or.inl rfl) (pe_op op_cat (pv 3) (pe_c (cal_law_turned_rows T) hr (by decide) rfl (pa_cons (pv 1) (pa_cons (pv 4) (pa_cons (pv 6) pa_nil))))))) pss_nil))))))))))))) (pss_one (ps_ret (pv 3))))), ?_⟩
    refine ⟨Nat.zero_le _, fun l0 nl0 => ?_⟩
    have s1 : Same H (upd H l0 (.lst [])) := same_upd nl0
    have hl0 : upd H l0 (.lst []) l0 = some (.lst []) := upd_same
    generalize upd H l0 (.lst []) = H1 at s1 hl0
    refine ⟨_, rfl, many, rfl, by omega, by omega, for_it (walk_range (lo := 0) (n := many.toNat)) (fun i σ H' => ∃ l ps ts v4 v5 v6 v7, σ = [some (.ref a), some (.int b), some (.int many), some (.ref l), v4, v5, v6, v7] ∧ Same H H' ∧ H l = none ∧
      H' l = some (.lst (ps.map V.ref)) ∧ Paired (RowAt K H') ps (allRows b 0 ts) ∧ ts.length = i ∧ (∀ (i : Nat) t, ts[i]? = some t → TnOk i t) ∧ (ts = [] ∨ ∃ r ts', ts = .drive r :: ts'))
      ⟨l0, [], [], _, _, _, _, rfl, s1, nl0, hl0, .nil, rfl, (fun i t z => by cases z), .inl rfl⟩ (fun _ _ _ _ _ => trivial) ?_ ?_⟩
    · rintro i x σ H2 H2' hi ⟨l, ps, ts, v4, v5, v6, v7, rfl, s2, nlH, hl, pr, hlen, tok, fst⟩ ⟨rfl, hx⟩
      have hk : (0 : Int) + (i : Int) = (i : Int) := Int.zero_add _
      have hx : x = V.int (0 + (i : Int)) := hx
      generalize hkk : (0 : Int) + (i : Int) = k at hx
      subst hx
      have k0 : 0 ≤ k := by omega
      have k1 : k < 6 := by omega
      have ki : k = (i : Int) := by omega
      refine ⟨_, rfl, _, rfl, a, ns, k, rfl, sql_same hs s2, hnl, k0, by omega, fun cell H3 s3 => ?_⟩
      have s03 : Same H H3 := Same.trans s2 s3
      refine ⟨_, rfl, _, rfl, a, ns, rfl, sql_same hs s03, _, _, rfl, rfl, _, rfl, _, _, rfl, rfl, _, _, rfl, fun n n0 n1 => ?_⟩
      refine ⟨_, rfl, _, rfl, b, k, rfl, b0, b1, k0, by omega, ?_⟩
      have hl3 := s3 _ _ hl
      refine ⟨_, rfl, .inl ⟨rfl, _, SqL.of hl3⟩, _, rfl, (by show 1 ≤ sizeLine; decide), fun tp ntp => ?_⟩
      have st : Same H3 (upd H3 tp (.tup [.int k])) := same_upd ntp
      refine ⟨_, rfl, ?_⟩
      refine row_new (hl := rfl) (hw := SqT.of upd_same) fun r1 d1 H3b st2 h1 => ?_
      have R1 : RowAt K H3b r1 (.arbor (nm b k)) := ⟨d1, _, h1, _, rfl⟩
      have s33 : Same H3 H3b := Same.trans st st2
      have hl3b := s33 _ _ hl3
      have pr3 := Paired.mapP pr fun _ _ z => z.mono (Same.trans s3 s33)
      have lenps : ps.length ≤ 24 := by
        have h1 := Paired.length pr
        have h2 := all_len (b := b) (ts := ts) (k := 0)
        omega
      refine ⟨l, _, _, rfl, rfl, hl3b, by rw [List.length_map]; exact Nat.lt_of_le_of_lt lenps (by decide), ?_⟩
      have P4 := rows_push hl3b pr3 R1
      have s04 : Same H (upd H3b l (.lst (ps.map V.ref ++ [.ref r1]))) := Same.upd (Same.trans s03 s33) nlH
      generalize upd H3b l (.lst (ps.map V.ref ++ [.ref r1])) = H4 at P4 s04
      obtain ⟨ps4, hl4, pr4⟩ := P4
      have len4 : (ps4.map V.ref).length < sizeLine := by
        rw [List.length_map, Paired.length pr4, List.length_append, ← Paired.length pr]
        exact Nat.lt_of_le_of_lt (show _ ≤ 25 by simp; omega) (by decide)
      have fin : ∀ (H5 : Hp) (l5 : Addr) (t : Tn) (v4 v5 v6 v7 : Option V), Same H H5 → H l5 = none → RowsAt K H5 l5 (allRows b 0 ts ++ grpRows b k t) → TnOk k t → (k = 0 → ∃ r, t = .drive r) →
          ∃ l ps ts' w4 w5 w6 w7, [some (.ref a), some (.int b), some (.int many), some (.ref l5), v4, v5, v6, v7] = [some (.ref a), some (.int b), some (.int many), some (.ref l), w4, w5, w6, w7] ∧ Same H H5 ∧ H l = none ∧
            H5 l = some (.lst (ps.map V.ref)) ∧ Paired (RowAt K H5) ps (allRows b 0 ts') ∧ ts'.length = i + 1 ∧ (∀ (i : Nat) t, ts'[i]? = some t → TnOk i t) ∧ (ts' = [] ∨ ∃ r ts'', ts' = .drive r :: ts'') := by
        intro H5 l5 t v4 v5 v6 v7 s5 n5 hR tk fk
        obtain ⟨ps5, h5, p5⟩ := hR
        refine ⟨l5, ps5, ts ++ [t], v4, v5, v6, v7, rfl, s5, n5, h5, ?_, by simp [hlen], fun j t' hj => ?_, .inr ?_⟩
        · rw [allRows_snoc, hlen, show (0 : Int) + (i : Int) = k from hkk]
          exact p5
        · rcases Nat.lt_or_ge j ts.length with h | h
          · rw [List.getElem?_append_left h] at hj
            exact tok j t' hj
          · rw [List.getElem?_append_right h] at hj
            have hj0 : j - ts.length = 0 := by
              rcases Nat.eq_zero_or_pos (j - ts.length) with z | z
              · exact z
              · rw [List.getElem?_eq_none (by simp; omega)] at hj
                cases hj
            rw [hj0] at hj
            cases hj
            have : (j : Int) = k := by omega
            rw [this]
            exact tk
        · rcases fst with z | ⟨r, ts', z⟩
          · subst z
            have : i = 0 := by simpa using hlen.symm
            obtain ⟨r, rfl⟩ := fk (by omega)
            exact ⟨r, [], rfl⟩
          · exact ⟨r, ts' ++ [t], by rw [z] <;> rfl⟩
      refine ⟨_, rfl, rfl, _, rfl, ?_⟩
      refine ite2 (fun hz => ?_) (fun hz => ?_)
      · refine ite2 (fun _ => ?_) (fun h => absurd rfl h)
        refine ⟨_, rfl, .inl ⟨rfl, _, SqL.of hl4⟩, _, rfl, (by show 2 ≤ sizeLine; decide), fun tp2 ntp2 => ?_⟩
        have s5 : Same H4 (upd H4 tp2 (.tup [.int k, .int 1])) := same_upd ntp2
        refine ⟨_, rfl, _, rfl, _, rfl, _, _, rfl, rfl, _, rfl, _, _, rfl, fun rr q H5 s6 RR qok => ?_⟩
        refine row_new (hl := rfl) (hw := SqT.of (s6 _ _ upd_same)) fun r2 d2 H6 s7 h6 => ?_
        have s46 : Same H4 H6 := Same.trans s5 (Same.trans s6 s7)
        have R2 : RowAt K H6 r2 (.drive (nm b k) q) := ⟨d2, _, h6, _, _, rfl, rr, rfl, RR.mono s7⟩
        have hl6 := s46 _ _ hl4
        refine ⟨l, _, _, rfl, rfl, hl6, len4, ?_⟩
        exact fin _ l (.drive q) _ _ _ _ (Same.upd (Same.trans s04 s46) nlH) nlH (by rw [show grpRows b k (.drive q) = [.arbor (nm b k)] ++ [.drive (nm b k) q] from rfl, ← List.append_assoc]; exact rows_push hl6 (Paired.mapP pr4 fun _ _ z => z.mono s46) R2) qok (fun z => ⟨q, rfl⟩)
      · have kne : k ≠ 0 := fun z => hz (decide_eq_true (by rw [z]))
        refine ⟨_, rfl, _, _, rfl, rfl, (by first | decide | (show (0 : Int) < _; decide)), rfl, _, rfl, ?_⟩
        refine ite2 (fun _ => ?_) (fun h9 => ?_)
        · refine ⟨_, rfl, .inl ⟨rfl, _, SqL.of hl4⟩, _, rfl, (by show 2 ≤ sizeLine; decide), fun tp2 ntp2 => ?_⟩
          have s5 : Same H4 (upd H4 tp2 (.tup [.int k, .int 1])) := same_upd ntp2
          refine ⟨_, rfl, _, rfl, _, rfl, _, _, rfl, rfl, _, rfl, _, _, rfl, fun rr q H5 s6 RR qok => ?_⟩
          refine row_new (hl := rfl) (hw := SqT.of (s6 _ _ upd_same)) fun r2 d2 H6 s7 h6 => ?_
          have s46 : Same H4 H6 := Same.trans s5 (Same.trans s6 s7)
          have R2 : RowAt K H6 r2 (.drive (nm b k) q) := ⟨d2, _, h6, _, _, rfl, rr, rfl, RR.mono s7⟩
          have hl6 := s46 _ _ hl4
          refine ⟨l, _, _, rfl, rfl, hl6, len4, ?_⟩
          exact fin _ l (.drive q) _ _ _ _ (Same.upd (Same.trans s04 s46) nlH) nlH (by rw [show grpRows b k (.drive q) = [.arbor (nm b k)] ++ [.drive (nm b k) q] from rfl, ← List.append_assoc]; exact rows_push hl6 (Paired.mapP pr4 fun _ _ z => z.mono s46) R2) qok (fun z => ⟨q, rfl⟩)
        · refine ⟨_, rfl, _, _, rfl, rfl, (by first | decide | (show (0 : Int) < _; decide)), rfl, _, rfl, ?_⟩
          refine ite2 (fun h91 => ?_) (fun h91 => ?_)
          · refine ⟨_, rfl, _, _, rfl, rfl, ⟨by decide, by decide⟩, _, _, rfl, rfl, (by first | decide | (show (0 : Int) < _; decide)), rfl, _, rfl, ?_⟩
            refine ite2 (fun _ => ?_) (fun _ => ?_)
            · refine ⟨_, rfl, .inl ⟨rfl, _, SqL.of hl4⟩, _, rfl, (by show 2 ≤ sizeLine; decide), fun tp2 ntp2 => ?_⟩
              have s5 : Same H4 (upd H4 tp2 (.tup [.int k, .int 2])) := same_upd ntp2
              refine ⟨_, rfl, ?_⟩
              refine row_new (hl := rfl) (hw := SqT.of upd_same) fun r2 d2 H6 s7 h6 => ?_
              have s46 : Same H4 H6 := Same.trans s5 s7
              have R2 : RowAt K H6 r2 (.still (nm b k)) := ⟨d2, _, h6, _, rfl⟩
              have hl6 := s46 _ _ hl4
              refine ⟨l, _, _, rfl, rfl, hl6, len4, ?_⟩
              exact fin _ l .still _ _ _ _ (Same.upd (Same.trans s04 s46) nlH) nlH (by rw [show grpRows b k .still = [.arbor (nm b k)] ++ [.still (nm b k)] from rfl, ← List.append_assoc]; exact rows_push hl6 (Paired.mapP pr4 fun _ _ z => z.mono s46) R2) trivial (fun z => absurd z kne)
            · refine ⟨_, rfl, _, _, rfl, rfl, (by first | decide | (show (0 : Int) < _; decide)), rfl, _, rfl, ?_⟩
              refine ite2 (fun _ => ?_) (fun h => absurd h91 h)
              refine ⟨_, rfl, .inl ⟨rfl, _, SqL.of hl4⟩, _, rfl, (by show 2 ≤ sizeLine; decide), fun tp2 ntp2 => ?_⟩
              have s5 : Same H4 (upd H4 tp2 (.tup [.int k, .int 2])) := same_upd ntp2
              have v0 := Int.emod_nonneg (n / 9) (show (400 : Int) ≠ 0 by decide)
              have v1 := Int.emod_lt_of_pos (n / 9) (show (0 : Int) < 400 by decide)
              have bb : (1 + n / 9 % 400).natAbs < 2 ^ 8000 := Nat.lt_of_le_of_lt (show _ ≤ 1000 by omega) (Nat.lt_of_lt_of_le (show 1000 < 2 ^ 10 by decide) (pow_le (by decide)))
              refine ⟨_, rfl, _, rfl, _, _, rfl, rfl, ⟨by decide, by decide⟩, _, _, rfl, rfl, (by first | decide | (show (0 : Int) < _; decide)), _, _, rfl, rfl, ?_⟩
              refine rat_new (by omega) o8 bb fun rr H5 s6 RR => ?_
              refine row_new (hl := rfl) (hw := SqT.of (s6 _ _ upd_same)) fun r2 d2 H6 s7 h6 => ?_
              have s46 : Same H4 H6 := Same.trans s5 (Same.trans s6 s7)
              have R2 : RowAt K H6 r2 (.drive (nm b k) (Rat.divInt 1 (1 + n / 9 % 400))) := ⟨d2, _, h6, _, _, rfl, rr, rfl, RR.mono s7⟩
              have hl6 := s46 _ _ hl4
              refine ⟨l, _, _, rfl, rfl, hl6, len4, ?_⟩
              exact fin _ l (.drive (Rat.divInt 1 (1 + n / 9 % 400))) _ _ _ _ (Same.upd (Same.trans s04 s46) nlH) nlH (by rw [show grpRows b k (.drive (Rat.divInt 1 (1 + n / 9 % 400))) = [.arbor (nm b k)] ++ [.drive (nm b k) (Rat.divInt 1 (1 + n / 9 % 400))] from rfl, ← List.append_assoc]; exact rows_push hl6 (Paired.mapP pr4 fun _ _ z => z.mono s46) R2) (qok_div (by omega) (by decide) (by omega)) (fun z => absurd z kne)
          · refine ite2 (fun h => by cases h) (fun _ => ?_)
            refine ⟨_, rfl, _, _, rfl, rfl, (by first | decide | (show (0 : Int) < _; decide)), rfl, _, rfl, ?_⟩
            refine ite2 (fun h => absurd h h91) (fun _ => ?_)
            refine ⟨_, rfl, _, _, rfl, rfl, (by first | decide | (show (0 : Int) < _; decide)), _, _, rfl, rfl, _, rfl, ?_⟩
            refine ite2 (fun _ => ?_) (fun _ => ?_)
            · refine ⟨_, rfl, _, rfl, _, rfl, _, rfl, b, k, n, rfl, b0, b1, by omega, by omega, n0, fun l2 t H5 s5 hR tk => ?_⟩
              obtain ⟨ps5, hl5, pr5⟩ := hR
              have hl45 := s5 _ _ hl4
              have l5 : ps5.length ≤ 3 := by
                rw [Paired.length pr5]
                have := grp_len (b := b) (k := k) (t := t)
                unfold grpRows at this
                simp at this
                omega
              refine ⟨l, l2, _, _, rfl, rfl, hl45, hl5, ?_, fun q nq => ?_⟩
              · rw [List.length_map, List.length_map, Paired.length pr4, List.length_append, ← Paired.length pr]
                exact Nat.le_trans (show _ ≤ 28 by simp; omega) (by decide)
              · have := rows_cat (l2 := l2) (Paired.mapP pr4 fun _ _ z => z.mono s5) pr5 nq
                rw [List.append_assoc] at this
                exact fin _ q t _ _ _ _ (Same.trans s04 (Same.trans s5 (same_upd nq))) ((Same.trans s04 s5).free nq) this tk (fun z => absurd z kne)
            · exact fin _ l .free _ _ _ _ s04 nlH ⟨ps4, hl4, pr4⟩ trivial (fun z => absurd z kne)
    · rintro σ H' ⟨l, ps, ts, v4, v5, v6, v7, rfl, s2, nlH, hl, pr, hlen, tok, fst⟩
      refine ⟨_, rfl, kk l ts H' s2 nlH ⟨ps, hl, pr⟩ hlen tok ?_⟩
      rcases fst with z | z
      · subst z
        have : many.toNat = 0 := hlen.symm
        omega
      · exact z
theorem cal_law_arbors (T : Tx K mg) : Cal P w K mg base 5 "_law_arbors" (spArb K) [] := by
  obtain ⟨fd, F⟩ := T.f_Dlaw_arbors
  exact ⟨_, fd, _, _, ok_law_arbors F T, T.g_law_arbors, F.kp, bi_Dlaw_arbors F, .nil⟩
end
end Ty
set_option Elab.async false
set_option linter.all false
set_option maxRecDepth 100000
set_option maxHeartbeats 4000000
/-! What the law's rows come to: they can be solved, each speed told has a small bottom. -/
namespace Ty
open PySem PySem.Spec PyProof.Rows L2 C8
def askT (b k : Int) : Tn → Option (Rw Str)
  | .drive r => some (own (nm b k) r)
  | .still => some (own (nm b k) 0)
  | .free => none
  | .pair j t1 t2 arm ring => some (initT (if ring then wterms (nm b k) t2 (nm b j) (-t1) (arm.map (nm b)) else wterms (nm b j) t1 (nm b k) t2 (arm.map (nm b))), 0)
def lList (b : Int) : Int → List Tn → List (Str × Option (Rw Str))
  | _, [] => []
  | k, t :: ts => (nm b k, askT b k t) :: lList b (k + 1) ts
theorem lList_len {b : Int} : ∀ {ts : List Tn} {k : Int}, (lList b k ts).length = ts.length := by
  intro ts
  induction ts with
  | nil => exact fun {k} => rfl
  | cons t ts ih =>
    intro k
    show (lList b (k + 1) ts).length + 1 = _
    rw [ih] <;> rfl
def TnsOk : Int → List Tn → Prop
  | _, [] => True
  | k, t :: ts => TnOk k t ∧ TnsOk (k + 1) ts
theorem tnsOk_of : ∀ {ts : List Tn} {k : Int}, (∀ (i : Nat) t, ts[i]? = some t → TnOk (k + i) t) → TnsOk k ts := by
  intro ts
  induction ts with
  | nil => exact fun {k} _ => trivial
  | cons t ts ih =>
    intro k h
    refine ⟨?_, ih fun i t' e => ?_⟩
    · have := h 0 t rfl
      rwa [show k + ((0 : Nat) : Int) = k from Int.add_zero _] at this
    · have := h (i + 1) t' e
      rwa [show k + ((i + 1 : Nat) : Int) = k + 1 + (i : Int) by push_cast; omega] at this
/-! ### wheels -/
def wT (b k : Int) : Tn → List (Str × (Str × Int))
  | .pair j t1 t2 _ _ => [(nm b (100 + 2 * k), (nm b j, t1)), (nm b (101 + 2 * k), (nm b k, t2))]
  | _ => []
def wl (b k : Int) (ts : List Tn) : List (Str × (Str × Int)) := (allRows b k ts).filterMap wheelP
theorem wl_cons {b k : Int} {t : Tn} {ts : List Tn} : wl b k (t :: ts) = wT b k t ++ wl b (k + 1) ts := by
  unfold wl
  show (grpRows b k t ++ allRows b (k + 1) ts).filterMap wheelP = _
  rw [List.filterMap_append]
  congr 1
  cases t with
  | pair j t1 t2 arm ring => cases ring <;> rfl
  | _ => rfl
theorem wl_names {b : Int} : ∀ {ts : List Tn} {k : Int}, ∀ p ∈ wl b k ts, ∃ i, 100 + 2 * k ≤ i ∧ i < 100 + 2 * (k + ts.length) ∧ p.1 = nm b i := by
  intro ts
  induction ts with
  | nil => exact fun {k} p h => by cases h
  | cons t ts ih =>
    intro k p h
    rw [wl_cons] at h
    rcases List.mem_append.mp h with h | h
    · cases t with
      | pair j t1 t2 arm ring =>
        have h : p = (nm b (100 + 2 * k), (nm b j, t1)) ∨ p = (nm b (101 + 2 * k), (nm b k, t2)) := by simpa [wT] using h
        rcases h with rfl | rfl
        · exact ⟨_, Int.le_refl _, by simp; omega, rfl⟩
        · exact ⟨_, by omega, by simp; omega, rfl⟩
      | _ => cases h
    · obtain ⟨i, h1, h2, h3⟩ := ih p h
      exact ⟨i, by omega, by simp; omega, h3⟩
theorem wl_nodup {b : Int} : ∀ {ts : List Tn} {k : Int}, 0 ≤ k → k + ts.length ≤ 20 → ((wl b k ts).map (·.1)).Nodup := by
  intro ts
  induction ts with
  | nil => exact fun {k} _ _ => List.nodup_nil
  | cons t ts ih =>
    intro k k0 kl
    have kl : k + 1 + ts.length ≤ 20 := by simp at kl; omega
    rw [wl_cons, List.map_append, List.nodup_append]
    refine ⟨?_, ih (by omega) kl, ?_⟩
    · cases t with
      | pair j t1 t2 arm ring =>
        show [nm b (100 + 2 * k), nm b (101 + 2 * k)].Nodup
        have : nm b (100 + 2 * k) ≠ nm b (101 + 2 * k) := fun z => by
          have := nm_inj (by omega) (by omega) (by omega) (by omega) z
          omega
        simp [this]
      | _ => exact List.nodup_nil
    · intro x hx y hy e
      subst e
      obtain ⟨p, hp, rfl⟩ := List.mem_map.mp hy
      obtain ⟨i, h1, h2, h3⟩ := wl_names p hp
      cases t with
      | pair j t1 t2 arm ring =>
        have hx : p.1 = nm b (100 + 2 * k) ∨ p.1 = nm b (101 + 2 * k) := by simpa [wT] using hx
        rcases hx with z | z
        · have := nm_inj (by omega) (by omega) (by omega) (by omega) (h3.symm.trans z)
          omega
        · have := nm_inj (by omega) (by omega) (by omega) (by omega) (h3.symm.trans z)
          omega
      | _ => cases hx
theorem fold_get {β : Type} {n : Str} {v : β} : ∀ {ps m : List (Str × β)}, (ps.map (·.1)).Nodup → (n, v) ∈ ps → getT (ps.foldl (fun a p => putT a p.1 p.2) m) n = some v := by
  have keep : ∀ {ps m : List (Str × β)}, n ∉ ps.map (·.1) → getT (ps.foldl (fun a p => putT a p.1 p.2) m) n = getT m n := by
    intro ps
    induction ps with
    | nil => exact fun {m} _ => rfl
    | cons p ps ih =>
      intro m h
      show getT (ps.foldl _ (putT m p.1 p.2)) n = _
      rw [ih (fun z => h (List.mem_cons_of_mem _ z)), getT_put, if_neg (fun z => h (by rw [z]; exact List.mem_cons_self))]
  intro ps
  induction ps with
  | nil => exact fun {m} _ h => by cases h
  | cons p ps ih =>
    intro m nd h
    show getT (ps.foldl _ (putT m p.1 p.2)) n = _
    have nd : (p.1 :: ps.map (·.1)).Nodup := nd
    obtain ⟨n1, n2⟩ := List.nodup_cons.mp nd
    rcases List.mem_cons.mp h with e | h
    · subst e
      rw [keep n1, getT_put, if_pos rfl]
    · exact ih n2 h
def WsOk (ws : Whs) (b : Int) : Int → List Tn → Prop
  | _, [] => True
  | k, t :: ts => (∀ p ∈ wT b k t, getT ws p.1 = some p.2) ∧ WsOk ws b (k + 1) ts
theorem wsOk_of {ws : Whs} {b : Int} : ∀ {ts : List Tn} {k : Int}, (∀ p ∈ wl b k ts, getT ws p.1 = some p.2) → WsOk ws b k ts := by
  intro ts
  induction ts with
  | nil => exact fun {k} _ => trivial
  | cons t ts ih =>
    intro k h
    rw [wl_cons] at h
    exact ⟨fun p hp => h p (List.mem_append_left _ hp), ih fun p hp => h p (List.mem_append_right _ hp)⟩
theorem qok_ok {q : Rat} (h : QOk q) : Ok q := ⟨Nat.lt_of_le_of_lt h.1 (Nat.lt_of_lt_of_le (show 2 ^ 40 < 2 ^ 41 by decide) (pow_le (by decide))), Nat.lt_of_le_of_lt h.2 (Nat.lt_of_lt_of_le (show 2 ^ 20 < 2 ^ 41 by decide) (pow_le (by decide)))⟩
theorem asks_eq {ws : Whs} {b : Int} : ∀ {ts : List Tn} {k : Int}, WsOk ws b k ts → TnsOk k ts → (allRows b k ts).filterMap (askM ws) = rowsOf (lList b k ts) ∧ ∀ r ∈ allRows b k ts, RowOk ws r := by
  intro ts
  induction ts with
  | nil => exact fun {k} _ _ => ⟨rfl, fun r h => by cases h⟩
  | cons t ts ih =>
    intro k hw ht
    obtain ⟨h1, h2⟩ := ih hw.2 ht.2
    have hw1 := hw.1
    have ht1 := ht.1
    have key : (grpRows b k t).filterMap (askM ws) = (match askT b k t with | some r => [r] | none => []) ∧ ∀ r ∈ grpRows b k t, RowOk ws r := by
      cases t with
      | drive r => exact ⟨rfl, fun x hx => by
          have hx : x = .arbor (nm b k) ∨ x = .drive (nm b k) r := by simpa [grpRows, tnRows] using hx
          rcases hx with rfl | rfl
          · trivial
          · exact qok_ok ht1⟩
      | still => exact ⟨rfl, fun x hx => by
          have hx : x = .arbor (nm b k) ∨ x = .still (nm b k) := by simpa [grpRows, tnRows] using hx
          rcases hx with rfl | rfl <;> trivial⟩
      | free => exact ⟨rfl, fun x hx => by
          have hx : x = .arbor (nm b k) := by simpa [grpRows, tnRows] using hx
          subst hx
          trivial⟩
      | pair j t1 t2 arm ring =>
        have g1 := hw1 (nm b (100 + 2 * k), (nm b j, t1)) (by simp [wT])
        have g2 := hw1 (nm b (101 + 2 * k), (nm b k, t2)) (by simp [wT])
        have g1 : getT ws (nm b (100 + 2 * k)) = some (nm b j, t1) := g1
        have g2 : getT ws (nm b (101 + 2 * k)) = some (nm b k, t2) := g2
        obtain ⟨j0, j1, a1, a2, a3, a4, ha⟩ := ht1
        cases ring with
        | true =>
          refine ⟨?_, fun x hx => ?_⟩
          · have e : askM ws (.ring (nm b (101 + 2 * k)) (nm b (100 + 2 * k)) (arm.map (nm b))) = some (initT (wterms (nm b k) t2 (nm b j) (-t1) (arm.map (nm b))), 0) := by
              show (match getT ws _, getT ws _ with | some w1, some w2 => _ | _, _ => none) = _
              rw [g1, g2]
            show ([RowM.ring (nm b (101 + 2 * k)) (nm b (100 + 2 * k)) (arm.map (nm b))].filterMap (askM ws)) = _
            rw [List.filterMap_cons, e] <;> rfl
          · have hx : x = .arbor (nm b k) ∨ x = .wheel (nm b (100 + 2 * k)) (nm b j) t1 ∨ x = .wheel (nm b (101 + 2 * k)) (nm b k) t2 ∨ x = .ring (nm b (101 + 2 * k)) (nm b (100 + 2 * k)) (arm.map (nm b)) := by simpa [grpRows, tnRows] using hx
            rcases hx with rfl | rfl | rfl | rfl
            · trivial
            · trivial
            · trivial
            · exact ⟨_, _, g2, g1, by show t2.natAbs ≤ 1000; omega, by show t1.natAbs ≤ 1000; omega⟩
        | false =>
          refine ⟨?_, fun x hx => ?_⟩
          · have e : askM ws (.mesh (nm b (100 + 2 * k)) (nm b (101 + 2 * k)) (arm.map (nm b))) = some (initT (wterms (nm b j) t1 (nm b k) t2 (arm.map (nm b))), 0) := by
              show (match getT ws _, getT ws _ with | some w1, some w2 => _ | _, _ => none) = _
              rw [g1, g2]
            show ([RowM.mesh (nm b (100 + 2 * k)) (nm b (101 + 2 * k)) (arm.map (nm b))].filterMap (askM ws)) = _
            rw [List.filterMap_cons, e] <;> rfl
          · have hx : x = .arbor (nm b k) ∨ x = .wheel (nm b (100 + 2 * k)) (nm b j) t1 ∨ x = .wheel (nm b (101 + 2 * k)) (nm b k) t2 ∨ x = .mesh (nm b (100 + 2 * k)) (nm b (101 + 2 * k)) (arm.map (nm b)) := by simpa [grpRows, tnRows] using hx
            rcases hx with rfl | rfl | rfl | rfl
            · trivial
            · trivial
            · trivial
            · exact ⟨_, _, g1, g2, by show t1.natAbs ≤ 1000; omega, by show t2.natAbs ≤ 1000; omega⟩
    refine ⟨?_, fun r hr => ?_⟩
    · show (grpRows b k t ++ allRows b (k + 1) ts).filterMap (askM ws) = ((nm b k, askT b k t) :: lList b (k + 1) ts).filterMap (·.2)
      rw [List.filterMap_append, key.1, h1, List.filterMap_cons]
      generalize askT b k t = o
      cases o <;> rfl
    · rcases List.mem_append.mp (show r ∈ grpRows b k t ++ allRows b (k + 1) ts from hr) with h | h
      · exact key.2 r h
      · exact h2 r h
/-! ### the equations -/
theorem good_init {ps : Terms Str} : Good (initT ps) := by
  have : ∀ (ps acc : Terms Str), Good acc → Good (ps.foldl (fun acc p => addT acc p.1 p.2) acc) := by
    intro ps
    induction ps with
    | nil => exact fun acc h => h
    | cons p ps ih => exact fun acc h => ih _ (h.add _ _)
  exact this ps [] Good.nil
theorem dot_init {u : Str → Rat} {ps : Terms Str} : dot (initT ps) u = dot ps u := by
  have : ∀ (ps acc : Terms Str), Good acc → dot (ps.foldl (fun acc p => addT acc p.1 p.2) acc) u = dot acc u + dot ps u := by
    intro ps
    induction ps with
    | nil =>
      intro acc h
      show dot acc u = dot acc u + 0
      rw [Rat.add_zero]
    | cons p ps ih =>
      intro acc h
      show dot (ps.foldl _ (addT acc p.1 p.2)) u = _
      rw [ih _ (h.add _ _), dot_add h.nd, dot_cons, Rat.add_assoc]
  have := this ps [] Good.nil
  rw [show dot ([] : Terms Str) u = 0 from rfl, Rat.zero_add] at this
  exact this
/-- a coefficient -/
def coef (A : Str) (x : Int) (C : Str) (y : Int) (o : Option Str) (n : Str) : Int := (if n = A then x else 0) + (if n = C then y else 0) + (match o with | some s => if n = s then -x - y else 0 | none => 0)
theorem cast_ite {p : Prop} [Decidable p] {x : Int} : ((if p then x else 0 : Int) : Rat) = if p then (x : Rat) else 0 := by
  split <;> rfl
theorem cf_wterms {A C n : Str} {x y : Int} {o : Option Str} : cf (initT (wterms A x C y o)) n = ((coef A x C y o n : Int) : Rat) := by
  have z : cf ([] : Terms Str) n = 0 := rfl
  cases o with
  | none =>
    show cf (addT (addT [] A (x : Rat)) C (y : Rat)) n = _
    rw [cf_add, cf_add, z]
    unfold coef
    rw [Rat.intCast_add, Rat.intCast_add, cast_ite, cast_ite, Rat.zero_add]
    exact (Rat.add_zero _).symm
  | some s =>
    show cf (addT (addT (addT [] A (x : Rat)) C (y : Rat)) s ((-x - y : Int) : Rat)) n = _
    rw [cf_add, cf_add, cf_add, z]
    unfold coef
    rw [Rat.intCast_add, Rat.intCast_add, cast_ite, cast_ite, Rat.zero_add]
    congr 1
    exact cast_ite.symm
theorem rin_wterms {ns : List Str} {k A C : Str} {x y : Int} {o : Option Str} (hk : k ∉ ns) (hx : x.natAbs ≤ 400) (hy : y.natAbs ≤ 400) (hA : A = k ∨ A ∈ ns) (hC : C = k ∨ C ∈ ns) (ho : ∀ s, o = some s → s ∈ ns) (nz : coef A x C y o k ≠ 0) :
    RIn ns k (initT (wterms A x C y o), 0) := by
  refine ⟨good_init, hk, ?_, fun n hn => ?_, fun n => ⟨coef A x C y o n, cf_wterms, ?_⟩, rfl⟩
  · show cf (initT _) k ≠ 0
    rw [cf_wterms]
    exact fun z => nz (Rat.intCast_eq_zero_iff.mp z)
  · have hn : cf (initT (wterms A x C y o)) n ≠ 0 := hn
    rw [cf_wterms] at hn
    have hn : coef A x C y o n ≠ 0 := fun z => hn (by rw [z]; rfl)
    unfold coef at hn
    by_cases e1 : n = A
    · rw [e1]
      exact hA
    · by_cases e2 : n = C
      · rw [e2]
        exact hC
      · rw [if_neg e1, if_neg e2] at hn
        cases o with
        | none => exact absurd rfl hn
        | some s =>
          by_cases e3 : n = s
          · rw [e3]
            exact .inr (ho s rfl)
          · have hn : (0 : Int) + 0 + (if n = s then -x - y else 0) ≠ 0 := hn
            rw [if_neg e3] at hn
            exact absurd rfl hn
  · unfold coef
    have h2 : (2 : Nat) ^ 10 = 1024 := by decide
    rw [h2]
    cases o with
    | none =>
      show ((if n = A then x else 0) + (if n = C then y else 0) + 0 : Int).natAbs ≤ 1024
      split <;> split <;> omega
    | some s =>
      show ((if n = A then x else 0) + (if n = C then y else 0) + (if n = s then -x - y else 0) : Int).natAbs ≤ 1024
      split <;> split <;> split <;> omega
theorem chain_of {b : Int} : ∀ {ts : List Tn} {k : Int} {ns : List Str}, (∀ i, 0 ≤ i → i < k → nm b i ∈ ns) → (∀ n ∈ ns, ∃ i, 0 ≤ i ∧ i < k ∧ n = nm b i) → TnsOk k ts → 0 ≤ k → k + ts.length ≤ 20 → Chain ns (lList b k ts) := by
  intro ts
  induction ts with
  | nil => exact fun {k ns} _ _ _ _ _ => trivial
  | cons t ts ih =>
    intro k ns h1 h2 ht k0 kl
    have kl : k + 1 + ts.length ≤ 20 := by simp at kl; omega
    have hk : nm b k ∉ ns := fun z => by
      obtain ⟨i, i0, i1, e⟩ := h2 _ z
      have := nm_inj (by omega) (by omega) (by omega) (by omega) e
      omega
    refine ⟨?_, ih (fun i i0 i1 => ?_) (fun n hn => ?_) ht.2 (by omega) kl⟩
    · have ht1 := ht.1
      cases t with
      | drive r => exact .inr ⟨hk, r, rfl, ht1.1, ht1.2⟩
      | still => exact .inr ⟨hk, 0, rfl, by decide, by decide⟩
      | free => trivial
      | pair j t1 t2 arm ring =>
        obtain ⟨j0, j1, a1, a2, a3, a4, ha⟩ := ht1
        have hj := h1 j j0 j1
        have hjk : nm b k ≠ nm b j := fun z => hk (by rw [z]; exact hj)
        have harm : ∀ s, arm.map (nm b) = some s → s ∈ ns := fun s e => by
          cases arm with
          | none => cases e
          | some i =>
            cases e
            obtain ⟨i0, i1⟩ := ha i rfl
            exact h1 i i0 i1
        have hz : ∀ z : Int, (match arm.map (nm b) with | some s => if nm b k = s then z else 0 | none => 0) = 0 := fun z => by
          cases hm : arm.map (nm b) with
          | none => rfl
          | some s => exact if_neg fun e => hk (by rw [e]; exact harm s hm)
        left
        cases ring with
        | true =>
          refine rin_wterms hk (by omega) (by omega) (.inl rfl) (.inr hj) harm ?_
          unfold coef
          rw [hz, if_pos rfl, if_neg hjk]
          omega
        | false =>
          refine rin_wterms hk (by omega) (by omega) (.inr hj) (.inl rfl) harm ?_
          unfold coef
          rw [hz, if_pos rfl, if_neg hjk]
          omega
    · by_cases e : i = k
      · rw [e]
        exact List.mem_cons_self
      · exact List.mem_cons_of_mem _ (h1 i i0 (by omega))
    · rcases List.mem_cons.mp hn with e | hn
      · exact ⟨k, k0, by omega, e⟩
      · obtain ⟨i, i0, i1, e⟩ := h2 n hn
        exact ⟨i, i0, by omega, e⟩
/-! ### an assignment that keeps the rows -/
def armU (us : List Rat) : Option Int → Rat
  | none => 0
  | some i => us.getD i.toNat 0
def valT (us : List Rat) : Tn → Rat
  | .drive r => r
  | .still => 0
  | .free => 0
  | .pair j t1 t2 arm ring => if ring then (us.getD j.toNat 0 * (t1 : Rat) - armU us arm * ((t1 - t2 : Int) : Rat)) / (t2 : Rat) else (armU us arm * ((t1 + t2 : Int) : Rat) - us.getD j.toNat 0 * (t1 : Rat)) / (t2 : Rat)
def uL : List Rat → List Tn → List Rat
  | us, [] => us
  | us, t :: ts => uL (us ++ [valT us t]) ts
theorem uL_len : ∀ {ts : List Tn} {us : List Rat}, (uL us ts).length = us.length + ts.length := by
  intro ts
  induction ts with
  | nil => exact fun {us} => rfl
  | cons t ts ih =>
    intro us
    show (uL (us ++ [valT us t]) ts).length = _
    rw [ih]
    simp
    omega
theorem uL_get : ∀ {ts : List Tn} {us : List Rat} {i : Nat}, i < us.length → (uL us ts).getD i 0 = us.getD i 0 := by
  intro ts
  induction ts with
  | nil => exact fun {us i} _ => rfl
  | cons t ts ih =>
    intro us i h
    show (uL (us ++ [valT us t]) ts).getD i 0 = _
    rw [ih (by simp; omega)]
    simp [List.getD, List.getElem?_append_left h]
theorem uL_at {ts : List Tn} {t : Tn} {us : List Rat} : (uL us (t :: ts)).getD us.length 0 = valT us t := by
  show (uL (us ++ [valT us t]) ts).getD us.length 0 = _
  rw [uL_get (by simp)]
  simp
theorem uL_sat {b : Int} {u : Str → Rat} : ∀ {ts : List Tn} {us : List Rat}, TnsOk us.length ts → (∀ i : Nat, i < (uL us ts).length → u (nm b i) = (uL us ts).getD i 0) → ∀ r ∈ rowsOf (lList b us.length ts), Sat u r := by
  intro ts
  induction ts with
  | nil => exact fun {us} _ _ r h => by cases h
  | cons t ts ih =>
    intro us ht hu r hr
    have hlt : us.length < (uL us (t :: ts)).length := by
      rw [uL_len]
      simp
    have old : ∀ i : Nat, i < us.length → u (nm b i) = us.getD i 0 := fun i hi => by
      rw [hu i (by omega), uL_get hi]
    have new : u (nm b us.length) = valT us t := by
      rw [hu us.length hlt, uL_at]
    have hr : r ∈ ((nm b us.length, askT b us.length t) :: lList b (us.length + 1) ts).filterMap (·.2) := hr
    rw [List.filterMap_cons] at hr
    have rest : r ∈ rowsOf (lList b (us.length + 1) ts) → Sat u r := fun h => by
      have := ih (us := us ++ [valT us t]) (by have := ht.2; simpa using this) hu r
      simp only [List.length_append, List.length_singleton] at this
      exact this (by push_cast; exact h)
    have ht1 := ht.1
    have one : ∀ q, askT b us.length t = some q → Sat u q := fun q e => by
      cases t with
      | drive x =>
        cases e
        show (1 : Rat) * u (nm b us.length) + 0 = x
        rw [new, Rat.one_mul, Rat.add_zero] <;> rfl
      | still =>
        cases e
        show (1 : Rat) * u (nm b us.length) + 0 = 0
        rw [new, Rat.one_mul, Rat.add_zero] <;> rfl
      | free => cases e
      | pair j t1 t2 arm ring =>
        cases e
        obtain ⟨j0, j1, a1, a2, a3, a4, ha⟩ := ht1
        have uj : u (nm b j) = us.getD j.toNat 0 := by
          have := old j.toNat (by omega)
          rwa [Int.toNat_of_nonneg j0] at this
        have ht2 : (t2 : Rat) ≠ 0 := fun z => by
          have := Rat.intCast_eq_zero_iff.mp z
          omega
        have z0 : dot ([] : Terms Str) u = 0 := rfl
        have dm : ∀ x : Rat, x / (t2 : Rat) * (t2 : Rat) = x := fun x => Rat.div_mul_cancel ht2
        show dot (initT _) u = 0
        rw [dot_init]
        cases arm with
        | none =>
          cases ring with
          | true =>
            show dot (wterms (nm b us.length) t2 (nm b j) (-t1) none) u = 0
            show dot [(nm b us.length, (t2 : Rat)), (nm b j, ((-t1 : Int) : Rat))] u = 0
            rw [dot_cons, dot_cons, z0]
            show (t2 : Rat) * u (nm b us.length) + (((-t1 : Int) : Rat) * u (nm b j) + 0) = 0
            rw [new, uj]
            show (t2 : Rat) * ((us.getD j.toNat 0 * (t1 : Rat) - 0 * ((t1 - t2 : Int) : Rat)) / (t2 : Rat)) + _ = 0
            have := dm (us.getD j.toNat 0 * (t1 : Rat) - 0 * ((t1 - t2 : Int) : Rat))
            rw [Rat.mul_comm, this, Rat.intCast_neg]
            grind
          | false =>
            show dot [(nm b j, (t1 : Rat)), (nm b us.length, (t2 : Rat))] u = 0
            rw [dot_cons, dot_cons, z0]
            show (t1 : Rat) * u (nm b j) + ((t2 : Rat) * u (nm b us.length) + 0) = 0
            rw [new, uj]
            show _ + ((t2 : Rat) * ((0 * ((t1 + t2 : Int) : Rat) - us.getD j.toNat 0 * (t1 : Rat)) / (t2 : Rat)) + 0) = 0
            have := dm (0 * ((t1 + t2 : Int) : Rat) - us.getD j.toNat 0 * (t1 : Rat))
            rw [Rat.mul_comm (t2 : Rat), this]
            grind
        | some i =>
          obtain ⟨i0, i1⟩ := ha i rfl
          have ui : u (nm b i) = us.getD i.toNat 0 := by
            have := old i.toNat (by omega)
            rwa [Int.toNat_of_nonneg i0] at this
          cases ring with
          | true =>
            show dot [(nm b us.length, (t2 : Rat)), (nm b j, ((-t1 : Int) : Rat)), (nm b i, ((-t2 - -t1 : Int) : Rat))] u = 0
            rw [dot_cons, dot_cons, dot_cons, z0]
            show (t2 : Rat) * u (nm b us.length) + (((-t1 : Int) : Rat) * u (nm b j) + (((-t2 - -t1 : Int) : Rat) * u (nm b i) + 0)) = 0
            rw [new, uj, ui]
            show (t2 : Rat) * ((us.getD j.toNat 0 * (t1 : Rat) - us.getD i.toNat 0 * ((t1 - t2 : Int) : Rat)) / (t2 : Rat)) + _ = 0
            have := dm (us.getD j.toNat 0 * (t1 : Rat) - us.getD i.toNat 0 * ((t1 - t2 : Int) : Rat))
            rw [Rat.mul_comm, this, Rat.intCast_sub, Rat.intCast_sub, Rat.intCast_neg, Rat.intCast_neg]
            grind
          | false =>
            show dot [(nm b j, (t1 : Rat)), (nm b us.length, (t2 : Rat)), (nm b i, ((-t1 - t2 : Int) : Rat))] u = 0
            rw [dot_cons, dot_cons, dot_cons, z0]
            show (t1 : Rat) * u (nm b j) + ((t2 : Rat) * u (nm b us.length) + (((-t1 - t2 : Int) : Rat) * u (nm b i) + 0)) = 0
            rw [new, uj, ui]
            show _ + ((t2 : Rat) * ((us.getD i.toNat 0 * ((t1 + t2 : Int) : Rat) - us.getD j.toNat 0 * (t1 : Rat)) / (t2 : Rat)) + _) = 0
            have := dm (us.getD i.toNat 0 * ((t1 + t2 : Int) : Rat) - us.getD j.toNat 0 * (t1 : Rat))
            rw [Rat.mul_comm (t2 : Rat), this, Rat.intCast_sub, Rat.intCast_add, Rat.intCast_neg]
            grind
    cases ha : askT b us.length t with
    | none =>
      rw [ha] at hr
      exact rest hr
    | some q =>
      rw [ha] at hr
      rcases List.mem_cons.mp hr with e | h
      · rw [e]
        exact one q ha
      · exact rest h
end Ty
set_option Elab.async false
set_option linter.all false
set_option maxRecDepth 100000
set_option maxHeartbeats 4000000
/-! Bounds of the speeds; the whole solve. -/
namespace Ty
open PySem PySem.Spec PyProof.Rows L2 C8
theorem Fr.divNat {D M t : Nat} {y : Rat} (f : Fr D M y) (ht : 0 < t) : Fr (D * t) M (y / (t : Rat)) := by
  obtain ⟨z, e, hz⟩ := f
  refine ⟨z, ?_, hz⟩
  have : y / (t : Rat) * (t : Rat) = y := Rat.div_mul_cancel (natR_ne ht)
  rw [Rat.natCast_mul, ← e]
  generalize y / (t : Rat) = w at this ⊢
  rw [← this]
  grind
theorem fr_self {v : Rat} {N : Nat} (h : v.num.natAbs ≤ N) : Fr v.den N v := ⟨v.num, by
  have := rq_self v
  rw [Rat.divInt_eq_div] at this
  conv => lhs; lhs; rw [← this]
  exact Rat.div_mul_cancel (rden_ne v), h⟩
theorem fr_getD {D N : Nat} {us : List Rat} (h : ∀ x ∈ us, Fr D N x) (i : Nat) : Fr D N (us.getD i 0) := by
  rcases Nat.lt_or_ge i us.length with hi | hi
  · have : us.getD i 0 = us[i] := by simp [List.getD, hi]
    rw [this]
    exact h _ (List.getElem_mem hi)
  · have : us.getD i 0 = 0 := by simp [List.getD, List.getElem?_eq_none hi]
    rw [this]
    exact Fr.zero
theorem fr_arm {D N : Nat} {us : List Rat} (h : ∀ x ∈ us, Fr D N x) (o : Option Int) : Fr D N (armU us o) := by
  cases o with
  | none => exact Fr.zero
  | some i => exact fr_getD h _
theorem uL_fr : ∀ {ts : List Tn} {us : List Rat} {k D : Nat} {n : Int}, (∀ x ∈ us, Fr D (2 ^ (40 + 20 * k)) x) → 0 < D → D ≤ 2 ^ (20 * k) → TnsOk n ts → ∃ D', 0 < D' ∧ D' ≤ 2 ^ (20 * (k + ts.length)) ∧ ∀ x ∈ uL us ts, Fr D' (2 ^ (40 + 20 * (k + ts.length))) x := by
  intro ts
  induction ts with
  | nil => exact fun {us k D n} h d0 d1 _ => ⟨D, d0, d1, h⟩
  | cons t ts ih =>
    intro us k D n h d0 d1 ht
    have step : ∃ D1, 0 < D1 ∧ D1 ≤ 2 ^ (20 * (k + 1)) ∧ (∀ x ∈ us, Fr D1 (2 ^ (40 + 20 * (k + 1))) x) ∧ Fr D1 (2 ^ (40 + 20 * (k + 1))) (valT us t) := by
      have p1 : 2 ^ (20 * (k + 1)) = 2 ^ (20 * k) * 2 ^ 20 := by rw [← Nat.pow_add] <;> rfl
      have p2 : 2 ^ (40 + 20 * (k + 1)) = 2 ^ (40 + 20 * k) * 2 ^ 20 := by rw [← Nat.pow_add] <;> rfl
      have ht1 := ht.1
      have same : ∃ D1, 0 < D1 ∧ D1 ≤ 2 ^ (20 * (k + 1)) ∧ (∀ x ∈ us, Fr D1 (2 ^ (40 + 20 * (k + 1))) x) ∧ Fr D1 (2 ^ (40 + 20 * (k + 1))) 0 :=
        ⟨D, d0, Nat.le_trans d1 (pow_le (by omega)), fun x hx => (h x hx).mono (pow_le (by omega)), Fr.zero⟩
      cases t with
      | drive r =>
        have rd := r.den_pos
        obtain ⟨q1, q2⟩ := ht1
        refine ⟨D * r.den, Nat.mul_pos d0 rd, by rw [p1]; exact Nat.mul_le_mul d1 q2, fun x hx => ((h x hx).scale (E := r.den)).mono (by rw [p2]; exact Nat.mul_le_mul_left _ q2), ?_⟩
        have h0 := (fr_self q1).scale (E := D)
        rw [Nat.mul_comm r.den D] at h0
        refine h0.mono ?_
        rw [Nat.pow_add]
        exact Nat.mul_le_mul_left _ (Nat.le_trans d1 (pow_le (by omega)))
      | still => exact same
      | free => exact same
      | pair j t1 t2 arm ring =>
        obtain ⟨j0, j1, a1, a2, a3, a4, ha⟩ := ht1
        have t20 : (9 : Nat) = 9 := rfl
        have e2 : (t2 : Rat) = ((t2.toNat : Nat) : Rat) := by
          have : t2 = ((t2.toNat : Nat) : Int) := (Int.toNat_of_nonneg (by omega)).symm
          conv => lhs; rw [this]
          rfl
        have t2p : 0 < t2.toNat := by omega
        have t2l : t2.toNat ≤ 2 ^ 20 := Nat.le_trans (show _ ≤ 400 by omega) (by decide)
        have fw := fr_getD h j.toNat
        have fa := fr_arm h arm
        have k1 : 2 ^ (40 + 20 * k) * 400 + 2 ^ (40 + 20 * k) * 800 ≤ 2 ^ (40 + 20 * k) * 2 ^ 20 := by
          rw [← Nat.mul_add]
          exact Nat.mul_le_mul_left _ (by decide)
        refine ⟨D * t2.toNat, Nat.mul_pos d0 t2p, by rw [p1]; exact Nat.mul_le_mul d1 t2l, fun x hx => ((h x hx).scale (E := t2.toNat)).mono (by rw [p2]; exact Nat.mul_le_mul_left _ t2l), ?_⟩
        rw [p2]
        cases ring with
        | true =>
          show Fr _ _ ((us.getD j.toNat 0 * (t1 : Rat) - armU us arm * ((t1 - t2 : Int) : Rat)) / (t2 : Rat))
          rw [e2]
          exact (((fw.mulInt (k := t1) (B := 400) (by omega)).sub (fa.mulInt (k := t1 - t2) (B := 800) (by omega))).divNat t2p).mono k1
        | false =>
          show Fr _ _ ((armU us arm * ((t1 + t2 : Int) : Rat) - us.getD j.toNat 0 * (t1 : Rat)) / (t2 : Rat))
          rw [e2]
          exact (((fa.mulInt (k := t1 + t2) (B := 800) (by omega)).sub (fw.mulInt (k := t1) (B := 400) (by omega))).divNat t2p).mono (by omega)
    obtain ⟨D1, e0, e1, e2, e3⟩ := step
    have := ih (us := us ++ [valT us t]) (k := k + 1) (D := D1) (n := n + 1) (fun x hx => by
      rcases List.mem_append.mp hx with hx | hx
      · exact e2 x hx
      · rw [List.mem_singleton.mp hx]
        exact e3) e0 e1 ht.2
    rw [show k + 1 + ts.length = k + (t :: ts).length by simp; omega] at this
    exact this
/-- what shows -/
def ShM : RowM → Prop
  | .hand _ _ _ => True
  | .count _ _ _ => True
  | .bell => True
  | _ => False
theorem filterMap_none {α β : Type} {f : α → Option β} {l : List α} (h : ∀ x ∈ l, f x = none) : l.filterMap f = [] := by
  rw [List.filterMap_eq_nil_iff]
  exact h
theorem sh_wheels {rs hs : List RowM} (h : ∀ r ∈ hs, ShM r) : wheelsM (rs ++ hs) = wheelsM rs := by
  unfold wheelsM
  rw [List.filterMap_append, filterMap_none (l := hs) fun r hr => by
    have := h r hr
    cases r <;> first | rfl | exact this.elim]
  rw [List.append_nil]
theorem sh_arbors {rs hs : List RowM} (h : ∀ r ∈ hs, ShM r) : arborsM (rs ++ hs) = arborsM rs := by
  unfold arborsM
  rw [List.filterMap_append, filterMap_none (l := hs) fun r hr => by
    have := h r hr
    cases r <;> first | rfl | exact this.elim]
  rw [List.append_nil]
theorem sh_asks {rs hs : List RowM} (h : ∀ r ∈ hs, ShM r) : asksM (rs ++ hs) = asksM rs := by
  unfold asksM
  rw [sh_wheels h, List.filterMap_append, filterMap_none (l := hs) fun r hr => by
    have := h r hr
    cases r <;> first | rfl | exact this.elim]
  rw [List.append_nil]
/-- the speeds told -/
def knM (b : Int) (ts : List Tn) : Kn := toldM (runR (asksM (allRows b 0 ts)) []) (arborsM (allRows b 0 ts))
theorem getT_told {S : Sys Str} {n : Str} : ∀ {k : Nat} {ns : List Str}, ns.length = k → getT (toldM S ns) n = if n ∈ ns then some (toldT S n) else none := by
  intro k
  induction k with
  | zero =>
    intro ns h
    rw [List.length_eq_zero_iff.mp h] <;> rfl
  | succ k ih =>
    intro ns h
    obtain ⟨a, p, rfl⟩ : ∃ b p, ns = b ++ [p] := ⟨ns.dropLast, ns.getLast (by intro z; rw [z] at h; cases h), (List.dropLast_concat_getLast _).symm⟩
    rw [toldM_snoc, getT_put, ih (ns := a) (by simpa using h)]
    by_cases e : n = p
    · rw [if_pos e, if_pos (by rw [e]; simp), e]
    · rw [if_neg e]
      by_cases e2 : n ∈ a
      · rw [if_pos e2, if_pos (List.mem_append_left _ e2)]
      · rw [if_neg e2, if_neg (fun z => by
          rcases List.mem_append.mp z with z | z
          · exact e2 z
          · exact e (List.mem_singleton.mp z))]
structure Good6 (b : Int) (ts : List Tn) : Prop where
  tn : TnsOk 0 ts
  dr : ∃ r ts', ts = .drive r :: ts'
  l6 : ts.length ≤ 6
/-- all that the solve comes to -/
theorem solved {b : Int} {ts : List Tn} (G : Good6 b ts) {hs : List RowM} (hh : ∀ r ∈ hs, ShM r) :
    (∀ r ∈ allRows b 0 ts ++ hs, RowOk (wheelsM (allRows b 0 ts ++ hs)) r) ∧ RunOk (asksM (allRows b 0 ts ++ hs)) [] ∧ (asksM (allRows b 0 ts ++ hs)).length ≤ 100 ∧
      toldM (runR (asksM (allRows b 0 ts ++ hs)) []) (arborsM (allRows b 0 ts ++ hs)) = knM b ts := by
  obtain ⟨tn, dr, l6⟩ := G
  have hw : WsOk (wheelsM (allRows b 0 ts)) b 0 ts := wsOk_of fun p hp => fold_get (wl_nodup (by decide) (by omega)) hp
  obtain ⟨ea, ro⟩ := asks_eq hw tn
  have ea : asksM (allRows b 0 ts) = rowsOf (lList b 0 ts) := ea
  have hc : Chain [] (lList b 0 ts) := chain_of (fun i i0 i1 => by omega) (fun n h => by cases h) tn (by decide) (by omega)
  have hn : (lList b 0 ts).length ≤ 6 := by rw [lList_len]; exact l6
  obtain ⟨r1, _⟩ := run_inv (lList b 0 ts) [] [] 1 hc (by simpa using hn) (by simp) SInv.nil
  rw [sh_wheels hh, sh_asks hh, sh_arbors hh]
  refine ⟨fun r hr => ?_, by rw [ea]; exact r1, ?_, rfl⟩
  · rcases List.mem_append.mp hr with h | h
    · exact ro r h
    · have := hh r h
      cases r <;> first | trivial | exact this.elim
  · rw [ea]
    have := List.length_filterMap_le (fun p : Str × Option (Rw Str) => p.2) (lList b 0 ts)
    show ((lList b 0 ts).filterMap (·.2)).length ≤ 100
    omega
/-- the speeds that are told -/
theorem speeds_ok {b : Int} {ts : List Tn} (G : Good6 b ts) : ∃ D, 0 < D ∧ D ≤ 2 ^ 120 ∧ (∀ n v, getT (knM b ts) n = some (some v) → Fr D (2 ^ 160) v) ∧ (∃ v, getT (knM b ts) (nm b 0) = some (some v)) ∧ (arborsM (allRows b 0 ts)).length ≤ 24 := by
  obtain ⟨tn, dr, l6⟩ := G
  have hw : WsOk (wheelsM (allRows b 0 ts)) b 0 ts := wsOk_of fun p hp => fold_get (wl_nodup (by decide) (by omega)) hp
  obtain ⟨ea, _⟩ := asks_eq hw tn
  have ea : asksM (allRows b 0 ts) = rowsOf (lList b 0 ts) := ea
  have hc : Chain [] (lList b 0 ts) := chain_of (fun i i0 i1 => by omega) (fun n h => by cases h) tn (by decide) (by omega)
  have hn : (lList b 0 ts).length ≤ 6 := by rw [lList_len]; exact l6
  obtain ⟨D, d0, d1, fr⟩ := uL_fr (ts := ts) (us := []) (k := 0) (D := 1) (n := 0) (fun x h => by cases h) (by decide) (by decide) tn
  -- the assignment
  have hul : (uL [] ts).length = ts.length := by rw [uL_len]; simp
  let tab : List (Str × Rat) := (List.range ts.length).map fun i => (nm b (i : Nat), (uL [] ts).getD i 0)
  have ndt : (tab.map (·.1)).Nodup := by
    show (((List.range ts.length).map fun i => (nm b (i : Nat), (uL [] ts).getD i 0)).map (fun p : Str × Rat => p.1)).Nodup
    rw [List.map_map]
    refine List.pairwise_iff_getElem.mpr fun i j hi hj hij => ?_
    simp only [List.length_map, List.length_range] at hi hj
    simp only [List.getElem_map, List.getElem_range, Function.comp]
    intro z
    have := nm_inj (by omega) (by omega) (by omega) (by omega) z
    omega
  let u : Str → Rat := fun n => (getT tab n).getD 0
  have hu : ∀ i : Nat, i < (uL [] ts).length → u (nm b i) = (uL [] ts).getD i 0 := fun i hi => by
    show (getT tab (nm b i)).getD 0 = _
    rw [getT_of_mem ndt (v := (uL [] ts).getD i 0) (List.mem_map.mpr ⟨i, List.mem_range.mpr (by omega), rfl⟩)] <;> rfl
  have sat := uL_sat (b := b) (u := u) (ts := ts) (us := []) (by simpa using tn) hu
  obtain ⟨_, told, first⟩ := solve_all (u := u) hc hn (by simpa using sat)
  rw [← ea] at told first
  have frN : 2 ^ (40 + 20 * (0 + ts.length)) ≤ 2 ^ 160 := pow_le (by omega)
  have fru : ∀ n, Fr D (2 ^ 160) (u n) := fun n => by
    show Fr D (2 ^ 160) ((getT tab n).getD 0)
    cases h : getT tab n with
    | none => exact Fr.zero
    | some v =>
      obtain ⟨i, _, e⟩ := List.mem_map.mp (getT_mem h)
      have e2 : (uL [] ts).getD i 0 = v := congrArg Prod.snd e
      show Fr D _ v
      rw [← e2]
      exact (fr_getD fr i).mono frN
  refine ⟨D, d0, Nat.le_trans d1 (pow_le (by omega)), fun n v h => ?_, ?_, ?_⟩
  · unfold knM at h
    rw [getT_told rfl] at h
    split at h
    · have h := Option.some.inj h
      rw [told n v h]
      exact fru n
    · cases h
  · obtain ⟨r, ts', rfl⟩ := dr
    have := first (nm b 0) r (lList b 1 ts') rfl
    refine ⟨r, ?_⟩
    unfold knM
    rw [getT_told rfl, this, if_pos]
    show nm b 0 ∈ (grpRows b 0 (.drive r) ++ allRows b 1 ts').filterMap arborP
    rw [List.filterMap_append]
    exact List.mem_append_left _ (by simp [grpRows, tnRows, arborP])
  · have h1 := List.length_filterMap_le arborP (allRows b 0 ts)
    have h2 := all_len (b := b) (ts := ts) (k := 0)
    show ((allRows b 0 ts).filterMap arborP).length ≤ 24
    omega
end Ty
set_option Elab.async false
set_option linter.all false
set_option maxRecDepth 100000
set_option maxHeartbeats 4000000
/-! _law_bell, _law_shown. -/
namespace Ty
open PySem PySem.Spec PyProof.Rows L2 C8
/-- a new Bell -/
theorem bell_new {K : PySem.W.Frag} {H : Hp} {wp tp : Addr} {ws ts : List V} {x1 x2 : V} {Q : Addr → Hp → Prop} {E : XK} (hw : SqT K H wp ws) (ht : SqT K H tp ts)
    (h : ∀ r H', Same H H' → RowAt K H' r .bell → Q r H') :
    ∀ x dx, H x = none → H dx = none → dx ≠ x → spBell K [.ref x, .ref wp, x1, x2, .ref tp] (upd (upd H dx (.own x)) x (.ins (He.ga K "Bell") dx [])) (fun v H2 => v = .non ∧ Q x H2) E := by
  intro x dx nx nd nex
  have s1 : Same H (upd (upd H dx (.own x)) x (.ins (He.ga K "Bell") dx [])) := fun c o e => by
    rw [upd_ne (ne_of_none e nx), upd_ne (ne_of_none e nd)]
    exact e
  have sq : ∀ {a : Addr} {xs : List V}, SqT K H a xs → SqT K (upd (upd H dx (.own x)) x (.ins (He.ga K "Bell") dx [])) a xs := fun {a xs} hw => by
    rcases hw with (z | ⟨o, z⟩) | z
    · exact .inl (.inl (s1 _ _ z))
    · exact .inl (.inr ⟨o, s1 _ _ z⟩)
    · exact .inr z
  refine ⟨x, dx, wp, tp, ws, ts, x1, x2, rfl, sq hw, sq ht, upd_same, rfl, h x _ (fun c o e => ?_) ⟨dx, _, upd_same, fun z => by cases z⟩⟩
  rw [upd_ne (ne_of_none e nx), upd_ne (ne_of_none e nx), upd_ne (ne_of_none e nd)]
  exact e
def spLBell (K : PySem.W.Frag) : Sp := fun vs H Q _ => ∃ (n t : Int) (wp c : Addr) (ws : List V) (x cn ca : Str), vs = [.int n, .ref wp, .str x, .ref c] ∧ SqT K H wp ws ∧ RowAt K H c (.count cn ca t) ∧ 0 ≤ t ∧ t ≤ 1000 ∧ ∀ r H', Same H H' → RowAt K H' r .bell → Q (.ref r) H'
def spShown (K : PySem.W.Frag) : Sp := fun vs H Q _ => ∃ (n cell : Int) (wp : Addr) (ws : List V) (x a : Str), vs = [.int n, .int cell, .ref wp, .str x, .str a] ∧ SqT K H wp ws ∧ 0 ≤ n ∧
  ∀ r row H', Same H H' → RowAt K H' r row → ((∃ bg, row = .hand x a bg) ∨ ∃ t, row = .count x a t ∧ 0 ≤ t ∧ t ≤ 1000) → Q (.ref r) H'
section
variable {P : Program} {w : World} {K : PySem.W.Frag} {mg : Str → Option Value} {base : Heap} {fd : FuncData}
theorem sqt_same {H H' : Hp} {a : Addr} {xs : List V} (h : SqT K H a xs) (s : Same H H') : SqT K H' a xs := by
  rcases h with (h | ⟨o, h⟩) | h
  · exact .inl (.inl (s _ _ h))
  · exact .inl (.inr ⟨o, s _ _ h⟩)
  · exact .inr h
theorem sc_Dlaw_bell : FnScope ["_law_number", "_law_way", "_law_name_here", "_law_counter", "_law_found", "_law_k", "_law_more"] ["_law_number", "_law_way", "_law_name_here", "_law_counter"] (defScope sDlaw_bell) := C8.fnScope_by (by decide +kernel)
theorem ok_law_bell (F : FDlaw_bell K fd) (T : Tx K mg) : FnOk P w K mg base C8.CX0 3 (He.ga K "_law_bell") fd ["_law_number", "_law_way", "_law_name_here", "_law_counter"] (spLBell K) := by
  refine FunD.ok F sc_Dlaw_bell (fun vs H Q E h => ?_) (fun cdv A outer s H vs Q E hr h => ?_)
  · obtain ⟨_, _, _, _, _, _, _, _, rfl, _⟩ := h
    rfl
  · obtain ⟨n, t, wp, c, ws, x, cn, ca, rfl, hw, hc, t0, t1, kk⟩ := h
    refine ⟨_, PSs.nox (pss_cons (ps_set (i := 4) sc_Dlaw_bell.nd rfl (Or.inl rfl) (pe_lst pa_nil)) (pss_cons (ps_for PassesOwn.never rfl (pi_range1 rfl T.b_range (pa_cons (pe_fld (pv 3) rfl) pa_nil)) (pg_name (i := 5) sc_Dlaw_bell.nd rfl (Or.inl rfl)) (pss_cons (ps_set (i := 6) sc_Dlaw_bell.nd rfl (Or.inl rfl) (pe_c (cal_law_mix T) hr (by decide) rfl (pa_cons (pv 0) (pa_cons (pv 5) pa_nil)))) (pss_one (ps_expr (pe_bm PySem.F.plainAttrs_list PySem.F.slot_list_append PySem.F.type_list_append mt_append (pv 4) (pa_cons (pe_ix ix_list (pe_lst (pa_cons pe_int (pa_cons pe_int (pa_cons pe_int (pa_cons pe_int (pa_cons (pe_op op_mod (pv 5) pe_int) (pa_cons (pe_op op_mod (pe_op op_fdiv (pv 6) pe_int) pe_int) pa_nil))))))) (pe_op op_mod (pv 6) pe_int) (fun _ _ => rfl)) pa_nil)))))) (pss_one (ps_ret (pe_mk (mak_Bell_4 T) hr (by decide) rfl (pa_cons (pv 1) (pa_cons (pv 2) (pa_cons (pe_fld (pv 3) rfl) (pa_cons (pe_callTy call_tuple_of (by rfl) T.b_tuple (by decide +kernel) (pa_cons (pv 4) pa_nil)) pa_nil))))))))), ?_⟩
    obtain ⟨dxc, fs, hc1, v, xb, rfl⟩ := id hc
    refine ⟨Nat.zero_le _, fun l nl => ?_⟩
    have s1 : Same H (upd H l (.lst [])) := same_upd nl
    have hl : upd H l (.lst []) l = some (.lst []) := upd_same
    generalize upd H l (.lst []) = H1 at s1 hl
    refine ⟨_, rfl, c, _, _, _, _, rfl, (s1 _ _ hc1), T.cl_Count, T.na_Count_teeth, lk_Count_teeth, t, rfl, by omega, by omega, for_it (walk_range (lo := 0) (n := t.toNat)) (fun i σ H' => ∃ v5 v6 ys, σ = [some (.int n), some (.ref wp), some (.str x), some (.ref c), some (.ref l), v5, v6] ∧ Same H H' ∧ H' l = some (.lst ys) ∧ ys.length = i)
      ⟨_, _, [], rfl, s1, hl, rfl⟩ (fun _ _ _ _ _ => trivial) ?_ ?_⟩
    · rintro i y σ H2 H2' hi ⟨v5, v6, ys, rfl, s2, hl2, hy⟩ ⟨rfl, hx⟩
      have hx : y = V.int (0 + (i : Int)) := hx
      generalize (0 : Int) + (i : Int) = k at hx
      subst hx
      refine ⟨_, rfl, _, rfl, _, _, rfl, fun m m0 m1 => ?_⟩
      have e0 := Int.emod_nonneg m (show (6 : Int) ≠ 0 by decide)
      have e1 := Int.emod_lt_of_pos m (show (0 : Int) < 6 by decide)
      refine ⟨_, rfl, .inl ⟨rfl, _, SqL.of hl2⟩, _, rfl, _, _, rfl, rfl, (by first | decide | (show (0 : Int) < _; decide)), _, rfl, _, _, rfl, rfl, ⟨by decide, by decide⟩, _, _, rfl, rfl, (by first | decide | (show (0 : Int) < _; decide)), (by show 6 ≤ sizeLine; decide), fun e ne => ?_⟩
      refine ⟨_, rfl, _, _, rfl, rfl, (by first | decide | (show (0 : Int) < _; decide)), ?_⟩
      obtain ⟨z, hz⟩ : ∃ z, ([V.int 0, V.int 0, V.int 1, V.int 2, V.int (k % 100), V.int (m / 6 % 100)] : List V)[(m % 6).toNat]? = some z := ⟨_, List.getElem?_eq_getElem (by show (m % 6).toNat < 6; omega)⟩
      refine ⟨e, _, m % 6, z, rfl, rfl, SqL.of upd_same, at_of (j := (m % 6).toNat) (by omega) hz, ?_⟩
      have s3 : Same H2' (upd H2' e (.lst [V.int 0, V.int 0, V.int 1, V.int 2, V.int (k % 100), V.int (m / 6 % 100)])) := same_upd ne
      refine ⟨l, _, _, rfl, rfl, s3 _ _ hl2, by rw [hy]; exact Nat.lt_of_lt_of_le hi (Nat.le_trans (show _ ≤ 1000 by omega) (by decide)), ?_⟩
      refine ⟨_, _, _, rfl, Same.upd (Same.trans s2 s3) nl, upd_same, ?_⟩
      rw [List.length_append, hy] <;> rfl
    · rintro σ H2 ⟨v5, v6, ys, rfl, s2, hl2, hy⟩
      have hc2 := s2 _ _ hc1
      refine ⟨_, rfl, _, rfl, _, rfl, c, _, _, _, _, rfl, hc2, T.cl_Count, T.na_Count_name, lk_Count_name, _, rfl, l, ys, rfl, .inl ⟨SqL.of hl2, fun tp ntp => ?_⟩⟩
      have s3 : Same H2 (upd H2 tp (.tup ys)) := same_upd ntp
      have s03 : Same H (upd H2 tp (.tup ys)) := Same.trans s2 s3
      exact bell_new (sqt_same hw s03) (SqT.of upd_same) fun r H' s4 R => kk r H' (Same.trans s03 s4) R
theorem cal_law_bell (T : Tx K mg) : Cal P w K mg base 3 "_law_bell" (spLBell K) [] := by
  obtain ⟨fd, F⟩ := T.f_Dlaw_bell
  exact ⟨_, fd, _, _, ok_law_bell F T, T.g_law_bell, F.kp, bi_Dlaw_bell F, .nil⟩
theorem sc_Dlaw_shown : FnScope ["_law_number", "_law_cell", "_law_way", "_law_name_here", "_law_arbor", "_law_begin", "_law_marks", "_law_teeth"] ["_law_number", "_law_cell", "_law_way", "_law_name_here", "_law_arbor"] (defScope sDlaw_shown) := C8.fnScope_by (by decide +kernel)
theorem ok_law_shown (F : FDlaw_shown K fd) (T : Tx K mg) : FnOk P w K mg base C8.CX0 5 (He.ga K "_law_shown") fd ["_law_number", "_law_cell", "_law_way", "_law_name_here", "_law_arbor"] (spShown K) := by
  refine FunD.ok F sc_Dlaw_shown (fun vs H Q E h => ?_) (fun cdv A outer s H vs Q E hr h => ?_)
  · obtain ⟨_, _, _, _, _, _, rfl, _⟩ := h
    rfl
  · obtain ⟨n, cell, wp, ws, x, a, rfl, hw, n0, kk⟩ := h
    refine ⟨_, PSs.nox (pss_cons (ps_if (pt_cmpR op_lt (pe_op op_mod (pv 0) pe_int) pe_int (nomark _)) (pss_cons (ps_set (i := 5) sc_Dlaw_shown.nd rfl (Or.inl rfl) (pe_ix ix_list (pe_lst (pa_cons pe_non (pa_cons (pe_mt0 (met_rest T) hr (by decide) (pe_c (cal_law_ratio T) hr (by decide) rfl (pa_cons (pv 1) (pa_cons (pv 0) pa_nil)))) (pa_cons (pe_mk (mak_Ratio_2 T) hr (by decide) rfl (pa_cons (pe_op op_mod (pe_op op_fdiv (pv 0) pe_int) pe_int) (pa_cons pe_int pa_nil))) pa_nil)))) (pe_op op_mod (pe_op op_fdiv (pv 0) pe_int) pe_int) (fun _ _ => rfl))) (pss_cons (ps_set (i := 6) sc_Dlaw_shown.nd rfl (Or.inl rfl) (pe_ix ix_list (pe_lst (pa_cons pe_int (pa_cons pe_int (pa_cons pe_int (pa_cons (pe_op op_add pe_int (pe_op op_mod (pe_c (cal_law_mix T) hr (by decide) rfl (pa_cons (pv 0) (pa_cons pe_int pa_nil))) pe_int)) pa_nil))))) (pe_op op_mod (pe_op op_fdiv (pv 0) pe_int) pe_int) (fun _ _ => rfl))) (pss_one (ps_ret (pe_mk (mak_Hand_5 T) hr (by decide) rfl (pa_cons (pv 2) (pa_cons (pv 3) (pa_cons (pv 4) (pa_cons (pv 6) (pa_cons (pv 5) pa_nil)))))))))) pss_nil) (pss_cons (ps_set (i := 7) sc_Dlaw_shown.nd rfl (Or.inl rfl) (pe_op op_add pe_int (pe_op op_mod (pe_c (cal_law_mix T) hr (by decide) rfl (pa_cons (pv 0) (pa_cons pe_int pa_nil))) (pe_ix ix_list (pe_lst (pa_cons pe_int (pa_cons pe_int pa_nil))) (pe_callTy call_int1 (by rfl) T.b_int (by decide +kernel) (pa_cons (pe_cmpR op_eq (pe_op op_mod (pe_op op_fdiv (pv 0) pe_int) pe_int) pe_int (nomark _)) pa_nil)) (fun _ _ => rfl))))) (pss_one (ps_ret (pe_mk (mak_Count_5 T) hr (by decide) rfl (pa_cons (pv 2) (pa_cons (pv 3) (pa_cons (pv 4) (pa_cons (pv 7) (pa_cons (pe_ix ix_list (pe_lst (pa_cons pe_int (pa_cons (pe_op op_mod (pv 1) (pv 7)) pa_nil))) (pe_op op_mod (pe_op op_fdiv (pv 0) pe_int) pe_int) (fun _ _ => rfl)) pa_nil)))))))))), ?_⟩
    refine ⟨_, rfl, _, _, rfl, rfl, (by first | decide | (show (0 : Int) < _; decide)), _, _, rfl, rfl, _, rfl, ?_⟩
    refine ite2 (fun _ => ?_) (fun _ => ?_)
    · -- the begin
      have e0 := Int.emod_nonneg (n / 600) (show (3 : Int) ≠ 0 by decide)
      have e1 := Int.emod_lt_of_pos (n / 600) (show (0 : Int) < 3 by decide)
      have g0 := Int.emod_nonneg (n / 2000) (show (4 : Int) ≠ 0 by decide)
      have g1 := Int.emod_lt_of_pos (n / 2000) (show (0 : Int) < 4 by decide)
      have f0 := Int.emod_nonneg (n / 50) (show (12 : Int) ≠ 0 by decide)
      have f1 := Int.emod_lt_of_pos (n / 50) (show (0 : Int) < 12 by decide)
      refine ⟨_, rfl, _, rfl, _, _, rfl, fun r1 q1 H1 s1 R1 k1 => ?_⟩
      obtain ⟨d1, h1⟩ := id R1
      refine ⟨r1, d1, _, rfl, h1, ratF_no _ (by decide +kernel) (by decide +kernel), r1, q1, rfl, R1, qok_ok k1, fun r2 H2 s2 R2 => ?_⟩
      refine ⟨_, rfl, _, _, rfl, rfl, ⟨by decide, by decide⟩, _, _, rfl, rfl, (by first | decide | (show (0 : Int) < _; decide)), ?_⟩
      have b12 : (n / 50 % 12).natAbs < 2 ^ 8000 := b8 (by omega)
      refine rat_new (by decide) b12 (b8 (by decide)) fun r3 H3 s3 R3 => ?_
      refine ⟨(by show 3 ≤ sizeLine; decide), fun e ne => ?_⟩
      have s4 : Same H3 (upd H3 e (.lst [.non, .ref r2, .ref r3])) := same_upd ne
      refine ⟨_, rfl, _, _, rfl, rfl, ⟨by decide, by decide⟩, _, _, rfl, rfl, (by first | decide | (show (0 : Int) < _; decide)), ?_⟩
      obtain ⟨bv, bg, hb, hov⟩ : ∃ (bv : V) (bg : Option Rat), ([.non, .ref r2, .ref r3] : List V)[(n / 600 % 3).toNat]? = some bv ∧ OV K (upd H3 e (.lst [.non, .ref r2, .ref r3])) bv bg := by
        have : n / 600 % 3 = 0 ∨ n / 600 % 3 = 1 ∨ n / 600 % 3 = 2 := by omega
        rcases this with z | z | z
        · exact ⟨.non, none, by rw [z]; rfl, rfl⟩
        · exact ⟨.ref r2, some _, by rw [z]; rfl, r2, rfl, (R2.mono s3).mono s4⟩
        · exact ⟨.ref r3, some _, by rw [z]; rfl, r3, rfl, R3.mono s4⟩
      refine ⟨e, _, n / 600 % 3, bv, rfl, rfl, SqL.of upd_same, at_of (j := (n / 600 % 3).toNat) (by omega) hb, ?_⟩
      generalize upd H3 e (.lst [.non, .ref r2, .ref r3]) = H4 at s4 hov
      have s04 : Same H H4 := Same.trans (Same.trans s1 s2) (Same.trans s3 s4)
      refine ⟨_, rfl, _, _, rfl, fun m m0 m1 => ?_⟩
      refine ⟨_, _, rfl, rfl, (by first | decide | (show (0 : Int) < _; decide)), _, _, rfl, rfl, (by show 4 ≤ sizeLine; decide), fun e2 ne2 => ?_⟩
      have s5 : Same H4 (upd H4 e2 (.lst [.int 1, .int 12, .int 60, .int (1 + m % 400)])) := same_upd ne2
      refine ⟨_, rfl, _, _, rfl, rfl, ⟨by decide, by decide⟩, _, _, rfl, rfl, (by first | decide | (show (0 : Int) < _; decide)), ?_⟩
      obtain ⟨mk, hmk⟩ : ∃ z, ([.int 1, .int 12, .int 60, .int (1 + m % 400)] : List V)[(n / 2000 % 4).toNat]? = some z := ⟨_, List.getElem?_eq_getElem (by show _ < 4; omega)⟩
      refine ⟨e2, _, n / 2000 % 4, mk, rfl, rfl, SqL.of upd_same, at_of (j := (n / 2000 % 4).toNat) (by omega) hmk, ?_⟩
      have s05 : Same H (upd H4 e2 (.lst [.int 1, .int 12, .int 60, .int (1 + m % 400)])) := Same.trans s04 s5
      refine ⟨_, rfl, _, rfl, _, rfl, _, rfl, _, rfl, ?_⟩
      refine row_new (hl := rfl) (hw := sqt_same hw s05) fun r dx H6 s6 h6 => ?_
      exact kk r (.hand x a bg) H6 (Same.trans s05 s6) ⟨dx, _, h6, _, _, _, rfl, (hov.mono s5).mono s6⟩ (.inl ⟨bg, rfl⟩)
    · refine ⟨_, rfl, _, _, rfl, fun m m0 m1 => ?_⟩
      refine ⟨(by show 2 ≤ sizeLine; decide), fun e ne => ?_⟩
      have s1 : Same H (upd H e (.lst [.int 12, .int 400])) := same_upd ne
      refine ⟨_, rfl, _, _, rfl, rfl, ⟨by decide, by decide⟩, _, _, rfl, rfl, (by first | decide | (show (0 : Int) < _; decide)), rfl, .inr ⟨_, rfl, ?_⟩⟩
      obtain ⟨d, d0, d1, hd⟩ : ∃ d : Int, 0 < d ∧ d ≤ 400 ∧ atI ([.int 12, .int 400] : List V) (if decide (V.int (n / 2000 % 5) = V.int 1) = true then 1 else 0) = some (.int d) := by
        split
        · exact ⟨400, by decide, by decide, at_of (j := 1) rfl rfl⟩
        · exact ⟨12, by decide, by decide, at_of (j := 0) rfl rfl⟩
      refine ⟨e, _, _, .int d, rfl, rfl, SqL.of upd_same, hd, m, d, rfl, rfl, d0, _, _, rfl, rfl, ?_⟩
      generalize upd H e (.lst [.int 12, .int 400]) = H1 at s1
      have f0 := Int.emod_nonneg m (show d ≠ 0 by omega)
      have f1 := Int.emod_lt_of_pos m d0
      have tp : 0 < 1 + m % d := by omega
      have h0 := Int.emod_nonneg (n / 9000) (show (2 : Int) ≠ 0 by decide)
      have h1 := Int.emod_lt_of_pos (n / 9000) (show (0 : Int) < 2 by decide)
      refine ⟨_, rfl, _, rfl, _, rfl, _, rfl, _, rfl, _, rfl, _, _, rfl, rfl, tp, (by show 2 ≤ sizeLine; decide), fun e2 ne2 => ?_⟩
      have s2 : Same H1 (upd H1 e2 (.lst [.int 0, .int (cell % (1 + m % d))])) := same_upd ne2
      refine ⟨_, rfl, _, _, rfl, rfl, ⟨by decide, by decide⟩, _, _, rfl, rfl, (by first | decide | (show (0 : Int) < _; decide)), ?_⟩
      obtain ⟨z, hz⟩ : ∃ z, ([.int 0, .int (cell % (1 + m % d))] : List V)[(n / 9000 % 2).toNat]? = some z := ⟨_, List.getElem?_eq_getElem (by show _ < 2; omega)⟩
      refine ⟨e2, _, n / 9000 % 2, z, rfl, rfl, SqL.of upd_same, at_of (j := (n / 9000 % 2).toNat) (by omega) hz, ?_⟩
      have s02 : Same H (upd H1 e2 (.lst [.int 0, .int (cell % (1 + m % d))])) := Same.trans s1 s2
      refine row_new (hl := rfl) (hw := sqt_same hw s02) fun r dx H6 s6 h6 => ?_
      exact kk r (.count x a (1 + m % d)) H6 (Same.trans s02 s6) ⟨dx, _, h6, _, _, rfl⟩ (.inr ⟨_, rfl, by omega, by omega⟩)
theorem cal_law_shown (T : Tx K mg) : Cal P w K mg base 5 "_law_shown" (spShown K) [] := by
  obtain ⟨fd, F⟩ := T.f_Dlaw_shown
  exact ⟨_, fd, _, _, ok_law_shown F T, T.g_law_shown, F.kp, bi_Dlaw_shown F, .nil⟩
end
end Ty
set_option Elab.async false
set_option linter.all false
set_option maxRecDepth 100000
set_option maxHeartbeats 4000000
/-! _law_clock, _law_hands. -/
namespace Ty
open PySem PySem.Spec PyProof.Rows L2 C8
theorem Chg.upd {S : List Addr} {H0 H : Hp} {p : Addr} {o : HO} (c : Chg S H0 H) (h : H0 p = none) : Chg S H0 (upd H p o) := fun b u e n => by
  rw [upd_ne (ne_of_none e h)]
  exact c b u e n
theorem unlock_same {H H' : Hp} {d : Addr} {u : HO} (hd : H d = some u) (c : Chg [d] H H') : Same H (upd H' d u) := fun b o e => by
  by_cases z : b = d
  · rw [z, upd_same]
    rw [z, hd] at e
    exact e
  · rw [upd_ne z]
    exact c b o e (by simpa using z)
/-- the names that have a speed -/
def namesM (kn : Kn) : List Str := (kn.filter fun p => p.2.isSome).map (·.1)
def optN (n : Str) : Option Rat → List Str
  | some _ => [n]
  | none => []
theorem names_snoc {kn : Kn} {n : Str} {o : Option Rat} : namesM (kn ++ [(n, o)]) = namesM kn ++ optN n o := by
  unfold namesM
  rw [List.filter_append, List.map_append]
  cases o <;> rfl
theorem names_len {kn : Kn} : (namesM kn).length ≤ kn.length := by
  unfold namesM
  rw [List.length_map]
  exact List.length_filter_le _ _
theorem names_told {kn : Kn} (nd : (kn.map (·.1)).Nodup) {n : Str} (h : n ∈ namesM kn) : ∃ v, getT kn n = some (some v) := by
  obtain ⟨p, hp, e⟩ := List.mem_map.mp h
  obtain ⟨h1, h2⟩ := List.mem_filter.mp hp
  obtain ⟨m, o⟩ := p
  have e : m = n := e
  subst e
  cases o with
  | none => cases h2
  | some v => exact ⟨v, getT_of_mem nd h1⟩
theorem told_names {kn : Kn} {n : Str} {v : Rat} (h : getT kn n = some (some v)) : n ∈ namesM kn := List.mem_map.mpr ⟨(n, some v), List.mem_filter.mpr ⟨getT_mem h, rfl⟩, rfl⟩
theorem toldM_nodup {S : Sys Str} : ∀ {k : Nat} {ns : List Str}, ns.length = k → ((toldM S ns).map (·.1)).Nodup := by
  intro k
  induction k with
  | zero =>
    intro ns h
    rw [List.length_eq_zero_iff.mp h]
    exact List.nodup_nil
  | succ k ih =>
    intro ns h
    obtain ⟨a, p, rfl⟩ : ∃ b p, ns = b ++ [p] := ⟨ns.dropLast, ns.getLast (by intro z; rw [z] at h; cases h), (List.dropLast_concat_getLast _).symm⟩
    rw [toldM_snoc]
    exact nodup_put (ih (ns := a) (by simpa using h))
/-- a row that shows: its name, its arbor's speed -/
def HsOk (b : Int) (kn : Kn) : RowM → Prop
  | .hand n a _ => (∃ k, 200 ≤ k ∧ k < 400 ∧ n = nm b k) ∧ ∃ v, getT kn a = some (some v)
  | .count _ a _ => ∃ v, getT kn a = some (some v)
  | .bell => True
  | _ => False
theorem HsOk.sh {b : Int} {kn : Kn} {r : RowM} (h : HsOk b kn r) : ShM r := by
  cases r <;> first | trivial | exact h.elim
theorem HsOk.shown {b : Int} {kn : Kn} {r : RowM} (h : HsOk b kn r) : ShownOk kn r := by
  cases r <;> first | exact h.2 | exact h | trivial
def spClock (K : PySem.W.Frag) : Sp := fun vs H Q _ => ∃ (a : Addr) (ns : List Int), vs = [.ref a, .int 5] ∧ SqL K H a (ns.map V.int) ∧ ns.length ≤ 1000 ∧
  ∀ l b ts hs H', Same H H' → RowsAt K H' l (allRows b 0 ts ++ hs) → Good6 b ts → (∀ r ∈ hs, HsOk b (knM b ts) r) → hs.length ≤ 5 → Q (.ref l) H'
section
variable {P : Program} {w : World} {K : PySem.W.Frag} {mg : Str → Option Value} {base : Heap} {fd : FuncData}
theorem sc_Dlaw_clock : FnScope ["_law_script", "_law_most", "_law_base", "_law_rows", "_law_told", "_law_arbors_here", "_law_counters", "_law_k", "_law_cell", "_law_number", "_law_name_here"] ["_law_script", "_law_most"] (defScope sDlaw_clock) := C8.fnScope_by (by decide +kernel)
theorem ok_law_clock (F : FDlaw_clock K fd) (T : Tx K mg) : FnOk P w K mg base C8.CX0 14 (He.ga K "_law_clock") fd ["_law_script", "_law_most"] (spClock K) := by
  refine FunD.ok F sc_Dlaw_clock (fun vs H Q E h => ?_) (fun cdv A outer s H vs Q E hr h => ?_)
  · obtain ⟨_, _, rfl, _⟩ := h
    rfl
  · obtain ⟨a, ns, rfl, hs0, hnl, kk⟩ := h
    refine ⟨_, PSs.nox (pss_cons (ps_set (i := 2) sc_Dlaw_clock.nd rfl (Or.inl rfl) (pe_c (cal_law_mix T) hr (by decide) rfl (pa_cons (pe_callB (cr_sum rfl) (by rfl) T.b_sum (by decide +kernel) (pa_cons (pv 0) pa_nil)) (pa_cons pe_int pa_nil)))) (pss_cons (ps_set (i := 3) sc_Dlaw_clock.nd rfl (Or.inl rfl) (pe_c (cal_law_arbors T) hr (by decide) rfl (pa_cons (pv 0) (pa_cons (pv 2) (pa_cons (pe_op op_add pe_int (pe_op op_mod (pe_op op_fdiv (pv 2) pe_int) pe_int)) pa_nil))))) (pss_cons (ps_set (i := 4) sc_Dlaw_clock.nd rfl (Or.inr rfl) (pe_c (cal_speeds T) hr (by decide) rfl (pa_cons (pv 3) pa_nil))) (pss_cons (ps_lock (ps_setLc (i := 5) (own := [("_law_name_here", 10)]) (g := gName 10) (tt := (tB (tNotN (tDGet (tVar 4) (tVar 10))))) (te := (tVar 10)) (by rfl) sc_Dlaw_clock.nd rfl rfl (sw_true rfl rfl rfl (by decide +kernel)) (pi_keys (pv 4)) (blkOk_by (N := ["_law_script", "_law_most", "_law_base", "_law_rows", "_law_told", "_law_arbors_here", "_law_counters", "_law_k", "_law_cell", "_law_number", "_law_name_here"]) (sc := defScope sDlaw_clock) (by decide +kernel)) (fun _ _ _ _ _ => pg_name (i := 10) sc_Dlaw_clock.nd rfl (Or.inl rfl)) (fun _ _ _ _ _ => pts_one (pt_cmp (pc_notN (pe_dget (hu_of hr) (pv 4) (pv 10) (fun _ _ => rfl))))) (fun _ _ _ _ _ => (pv 10)))) (pss_cons (ps_set (i := 6) sc_Dlaw_clock.nd rfl (Or.inl rfl) (pe_lst pa_nil)) (pss_cons (ps_for PassesOwn.never rfl (pi_range1 rfl T.b_range (pa_cons (pe_callB (call_max2 rfl) (by rfl) T.b_max (by decide +kernel) (pa_cons pe_int (pa_cons (pe_callB (call_min2 rfl) (by rfl) T.b_min (by decide +kernel) (pa_cons (pv 1) (pa_cons (pe_callB call_len (by rfl) T.b_len (by decide +kernel) (pa_cons (pv 0) pa_nil)) pa_nil))) pa_nil))) pa_nil)) (pg_name (i := 7) sc_Dlaw_clock.nd rfl (Or.inl rfl)) (pss_cons (ps_set (i := 8) sc_Dlaw_clock.nd rfl (Or.inl rfl) (pe_c (cal_law_drawn T) hr (by decide) rfl (pa_cons (pv 0) (pa_cons (pv 7) pa_nil)))) (pss_cons (ps_set (i := 9) sc_Dlaw_clock.nd rfl (Or.inl rfl) (pe_c (cal_law_mix T) hr (by decide) rfl (pa_cons (pv 8) (pa_cons (pv 7) pa_nil)))) (pss_cons (ps_set (i := 10) sc_Dlaw_clock.nd rfl (Or.inl rfl) (pe_c (cal_law_name T) hr (by decide) rfl (pa_cons (pv 2) (pa_cons (pe_op op_add pe_int (pv 7)) pa_nil)))) (pss_cons (ps_if (PW.pt (pw_and (pt_cmpR op_eq (pe_op op_mod (pv 9) pe_int) pe_int (nomark _)) (pw_and1 (pt_cmpR (op_ne_lst0 (Nat.lt_of_succ_lt (hu_of hr))) (pv 6) (pe_lst pa_nil) (nomark _))))) (pss_one (ps_expr (pe_bm PySem.F.plainAttrs_list PySem.F.slot_list_append PySem.F.type_list_append mt_append (pv 3) (pa_cons (pe_c (cal_law_bell T) hr (by decide) rfl (pa_cons (pv 9) (pa_cons (pe_tup (pa_cons (pe_op op_add pe_int (pv 7)) pa_nil)) (pa_cons (pv 10) (pa_cons (pe_ix ix_list (pv 6) (pe_op op_mod (pe_op op_fdiv (pv 9) pe_int) (pe_callB call_len (by rfl) T.b_len (by decide +kernel) (pa_cons (pv 6) pa_nil))) (fun _ _ => rfl)) pa_nil))))) pa_nil)))) (pss_one (ps_expr (pe_bm PySem.F.plainAttrs_list PySem.F.slot_list_append PySem.F.type_list_append mt_append (pv 3) (pa_cons (pe_c (cal_law_shown T) hr (by decide) rfl (pa_cons (pv 9) (pa_cons (pv 8) (pa_cons (pe_tup (pa_cons (pe_op op_add pe_int (pv 7)) pa_nil)) (pa_cons (pv 10) (pa_cons (pe_ix ix_list (pv 5) (pe_op op_mod (pe_op op_fdiv (pv 9) pe_int) (pe_callB call_len (by rfl) T.b_len (by decide +kernel) (pa_cons (pv 5) pa_nil))) (fun _ _ => rfl)) pa_nil)))))) pa_nil))))) (pss_one (ps_if (pt_val (pe_callB call_isi (by rfl) T.b_isinstance (by decide +kernel) (pa_cons (pe_ix ix_list (pv 3) (pe_un un_neg pe_int) (fun _ _ => rfl)) (pa_cons (pe_cls rfl T.g_Count) pa_nil)))) (pss_one (ps_expr (pe_bm PySem.F.plainAttrs_list PySem.F.slot_list_append PySem.F.type_list_append mt_append (pv 6) (pa_cons (pe_ix ix_list (pv 3) (pe_un un_neg pe_int) (fun _ _ => rfl)) pa_nil)))) pss_nil))))))) (pss_one (ps_ret (pv 3))))))))), ?_⟩
    refine ⟨_, rfl, a, ns, rfl, hs0, _, _, rfl, fun b b0 b1 => ?_⟩
    have x0 := Int.emod_nonneg (b / 7) (show (5 : Int) ≠ 0 by decide)
    have x1 := Int.emod_lt_of_pos (b / 7) (show (0 : Int) < 5 by decide)
    refine ⟨_, rfl, _, rfl, _, rfl, _, _, rfl, rfl, ⟨by decide, by decide⟩, _, _, rfl, rfl, (by first | decide | (show (0 : Int) < _; decide)), _, _, rfl, rfl, a, ns, b, _, rfl, hs0, hnl, b0, b1, by omega, by omega, fun l ts H1 s1 nlH hrows hlen htok hdr => ?_⟩
    have G : Good6 b ts := ⟨tnsOk_of fun i t e => by rw [Int.zero_add]; exact htok i t e, hdr, by omega⟩
    obtain ⟨v1, v2, v3, v4⟩ := solved G (hs := []) (by simp)
    rw [List.append_nil] at v1 v2 v3 v4
    have lrows : (allRows b 0 ts).length ≤ 24 := by
      have := all_len (b := b) (ts := ts) (k := 0)
      have := G.l6
      omega
    refine ⟨_, rfl, l, _, rfl, hrows, Nat.le_trans lrows (by decide), v1, v2, v3, fun H2 d s2 DD nd => ?_⟩
    rw [v4] at DD
    obtain ⟨D, D0, D1, frs, ⟨w0, hw0⟩, lar⟩ := speeds_ok G
    have nd0 : ((knM b ts).map (·.1)).Nodup := toldM_nodup rfl
    have knl : (knM b ts).length ≤ 24 := Nat.le_trans (toldM_len rfl) lar
    have hne : 0 < (namesM (knM b ts)).length := List.length_pos_of_mem (told_names hw0)
    generalize hkn : knM b ts = kn at DD nd0 knl hne
    obtain ⟨kvs, hd, dp⟩ := DD
    refine ⟨d, _, hd, trivial, fun od => ?_⟩
    have cf0 : Chg [d] H2 (upd H2 d (.frz od (.dK kvs))) := chg_upd (by simp)
    have hf0 : upd H2 d (.frz od (.dK kvs)) d = some (.frz od (.dK kvs)) := upd_same
    generalize upd H2 d (.frz od (.dK kvs)) = Hf at cf0 hf0
    refine ⟨_, rfl, d, od, rfl, .inl ⟨kvs, hf0, fun AH nAH => ?_⟩⟩
    have dnAH : d ≠ AH := ne_of_none hf0 nAH
    have nA2 : H2 AH = none := by
      cases hz : H2 AH with
      | none => rfl
      | some o =>
        have := cf0 _ _ hz (by simpa using dnAH.symm)
        rw [nAH] at this
        cases this
    refine lc_it (walk_keys (d := d) (o := od) (kvs := kvs)) (fun i H' => Chg [d] H2 H' ∧ H' d = some (.frz od (.dK kvs)) ∧ H' AH = some (.lst ((namesM (kn.take i)).map V.str))) ⟨cf0.trans (Same.chg (same_upd nAH)), (by rw [upd_ne dnAH]; exact hf0), upd_same⟩ (fun i H' _ ⟨_, h, _⟩ => h) ?_ ?_
    · rintro i x H' H'' hi ⟨c, hf, hA⟩ ⟨rfl, key, v, hk, rfl⟩
      obtain ⟨⟨n, o⟩, hki, e1, ov⟩ := LiI.paired_get dp hk
      have e1 : key = .inr n := e1
      subst e1
      have et := take_snoc hki
      have hget : getT kn n = some o := getT_of_mem nd0 (List.mem_of_getElem? hki)
      obtain ⟨v', hval, ov'⟩ : ∃ v', valV kvs (.inr n) = some v' ∧ OV K H2 v' o := by
        rcases dp.val n with ⟨_, e2⟩ | ⟨v', y, e2, e3, e4⟩
        · rw [hget] at e2
          cases e2
        · rw [hget] at e3
          cases e3
          exact ⟨v', e2, e4⟩
      refine ⟨rfl, ?_⟩
      refine ⟨_, rfl, _, rfl, d, v', rfl, .inl ⟨kvs, .inr n, .inr ⟨od, hf⟩, rfl, hval.symm⟩, _, rfl, ?_⟩
      have snoc : namesM (kn.take (i + 1)) = namesM (kn.take i) ++ optN n o := by
        rw [et]
        exact names_snoc
      cases o with
      | none =>
        have ov' : v' = .non := ov'
        subst ov'
        refine ite2 (fun h => by cases h) (fun _ => ?_)
        refine ⟨c, hf, ?_⟩
        rw [snoc]
        show _ = some (HO.lst ((_ ++ []).map V.str))
        rw [List.append_nil]
        exact hA
      | some q =>
        obtain ⟨rr, e5, _⟩ := ov'
        subst e5
        refine ite2 (fun _ => ?_) (fun h => absurd (show (!decide (V.ref rr = V.non)) = true by simp) h)
        refine ⟨_, rfl, _, hA, ?_, c.upd nA2, by rw [upd_ne dnAH]; exact hf, ?_⟩
        · rw [List.length_map]
          have h1 := names_len (kn := kn.take i)
          have h2 : (kn.take i).length ≤ kn.length := List.length_take_le' _ _
          exact Nat.lt_of_le_of_lt (Nat.le_trans h1 (Nat.le_trans h2 knl)) (by decide)
        · rw [upd_same, snoc, List.map_append] <;> rfl
    · rintro H' ⟨c, hf, hA⟩
      rw [dp.len, List.take_length] at hA
      refine ⟨hf, ?_⟩
      have sU : Same H2 (upd H' d (.dK kvs)) := unlock_same hd c
      have hA' : upd H' d (.dK kvs) AH = some (.lst ((namesM kn).map V.str)) := by
        rw [upd_ne dnAH.symm]
        exact hA
      generalize upd H' d (.dK kvs) = H3 at sU hA'
      have s03 : Same H H3 := Same.trans (Same.trans s1 s2) sU
      have hl1 := hrows
      obtain ⟨ps0, hl0, pr0⟩ := hrows.mono (Same.trans s2 sU)
      have nAl : AH ≠ l := by
        obtain ⟨ps9, hl9, _⟩ := hl1
        exact (ne_of_none (s2 _ _ hl9) nA2).symm
      refine ⟨Nat.zero_le _, fun C nC => ?_⟩
      have s4 : Same H3 (upd H3 C (.lst [])) := same_upd nC
      have hC4 : upd H3 C (.lst []) C = some (.lst []) := upd_same
      have nCl : C ≠ l := (ne_of_none hl0 nC).symm
      have nAC : AH ≠ C := ne_of_none hA' nC
      have nCH : H C = none := s03.free nC
      generalize upd H3 C (.lst []) = H4 at s4 hC4
      have s04 : Same H H4 := Same.trans s03 s4
      obtain ⟨m, hm, m0, m1⟩ : ∃ m : Int, (if (if ((ns.length : Nat) : Int) < 5 then ((ns.length : Nat) : Int) else 5) > 3 then (if ((ns.length : Nat) : Int) < 5 then ((ns.length : Nat) : Int) else 5) else 3) = m ∧ 0 ≤ m ∧ m ≤ 5 := ⟨_, rfl, by split <;> split <;> omega, by split <;> split <;> omega⟩
      refine ⟨_, rfl, _, rfl, _, ns.length, rfl, .inl ⟨_, sql_same hs0 s04, (List.length_map _).symm⟩, _, _, rfl, _, _, rfl, ?_⟩
      rw [hm]
      refine ⟨m, rfl, by omega, by omega, for_it (walk_range (lo := 0) (n := m.toNat)) (fun i σ H' => ∃ ps hs cs v7 v8 v9 v10, σ = [some (.ref a), some (.int 5), some (.int b), some (.ref l), some (.ref d), some (.ref AH), some (.ref C), v7, v8, v9, v10] ∧ Same H H' ∧
        H' l = some (.lst (ps.map V.ref)) ∧ Paired (RowAt K H') ps (allRows b 0 ts ++ hs) ∧ H' AH = some (.lst ((namesM kn).map V.str)) ∧ H' C = some (.lst (cs.map V.ref)) ∧ (∀ c ∈ cs, ∃ n a t, RowAt K H' c (.count n a t) ∧ 0 ≤ t ∧ t ≤ 1000) ∧ (∀ r ∈ hs, HsOk b kn r) ∧ hs.length = i ∧ cs.length ≤ i)
        ⟨ps0, [], [], _, _, _, _, rfl, s04, s4 _ _ hl0, by rw [List.append_nil]; exact Paired.mapP pr0 fun _ _ z => z.mono s4, s4 _ _ hA', hC4, (by simp), (by simp), rfl, Nat.le_refl _⟩ (fun _ _ _ _ _ => trivial) ?_ ?_⟩
      · rintro i x σ H2' H2'' hi ⟨ps, hs, cs, v7, v8, v9, v10, rfl, sH, hl, pr, hA, hC, csok, hsok, lhs, lcs⟩ ⟨rfl, hx⟩
        have hx : x = V.int (0 + (i : Int)) := hx
        have hk0 : 0 ≤ (0 : Int) + (i : Int) := by omega
        have hk1 : (0 : Int) + (i : Int) < 6 := by omega
        generalize (0 : Int) + (i : Int) = k at hx hk0 hk1
        subst hx
        have lenl : (ps.map V.ref).length < sizeLine := by
          rw [List.length_map, Paired.length pr, List.length_append]
          exact Nat.lt_of_le_of_lt (show _ ≤ 40 by omega) (by decide)
        have lenC : (cs.map V.ref).length < sizeLine := by
          rw [List.length_map]
          exact Nat.lt_of_le_of_lt (show _ ≤ 40 by omega) (by decide)
        refine ⟨_, rfl, _, rfl, a, ns, k, rfl, sql_same hs0 sH, hnl, hk0, by omega, fun cell H5 s5 => ?_⟩
        refine ⟨_, rfl, _, rfl, _, _, rfl, fun n n0 n1 => ?_⟩
        refine ⟨_, rfl, _, rfl, _, _, rfl, rfl, b, _, rfl, b0, b1, by omega, by omega, ?_⟩
        refine ⟨_, rfl, _, _, rfl, rfl, (by first | decide | (show (0 : Int) < _; decide)), rfl, _, rfl, ?_⟩
        refine ite2 (fun _ => ?_) (fun _ => ?_)
        · refine ⟨_, rfl, Nat.zero_le _, fun e ne => ?_⟩
          have s5e : Same H5 (upd H5 e (.lst [])) := same_upd ne
          have hee : upd H5 e (.lst []) e = some (.lst []) := upd_same
          refine ⟨C, e, _, rfl, rfl, SqL.of (s5e _ _ (s5 _ _ hC)), SqL.of hee, _, rfl, ?_⟩
          generalize upd H5 e (.lst []) = H5' at s5e
          have s5 : Same H2'' H5' := Same.trans s5 s5e
          clear s5e
          revert s5
          generalize H5' = H5
          intro s5
          refine ite2 (fun hcs => ?_) (fun _ => ?_)
          · have hcs : 0 < cs.length := by
              have := of_decide_eq_true hcs
              rw [List.length_map] at this
              omega
            refine ⟨_, rfl, .inl ⟨rfl, _, SqL.of (s5 _ _ hl)⟩, _, rfl, _, rfl, _, _, rfl, rfl, (by show 1 ≤ sizeLine; decide), fun tp ntp => ?_⟩
            have st : Same H5 (upd H5 tp (.tup [.int (50 + k)])) := same_upd ntp
            have hwt : SqT K (upd H5 tp (.tup [.int (50 + k)])) tp [.int (50 + k)] := SqT.of upd_same
            generalize upd H5 tp (.tup [.int (50 + k)]) = H5b at st hwt
            have s5b : Same H2'' H5b := Same.trans s5 st
            have e0 := Int.emod_nonneg (n / 50) (show (cs.length : Int) ≠ 0 by omega)
            have e1 := Int.emod_lt_of_pos (n / 50) (show (0 : Int) < cs.length by omega)
            obtain ⟨cc, hcc⟩ : ∃ c, cs[(n / 50 % (cs.length : Int)).toNat]? = some c := ⟨_, List.getElem?_eq_getElem (by omega)⟩
            refine ⟨_, rfl, _, rfl, _, rfl, _, _, rfl, rfl, ⟨by decide, by decide⟩, _, rfl, _, cs.length, rfl, .inl ⟨_, SqL.of (s5b _ _ hC), (List.length_map _).symm⟩, _, _, rfl, rfl, (by show (0 : Int) < _; omega), C, _, _, .ref cc, rfl, rfl, SqL.of (s5b _ _ hC), at_of (j := (n / 50 % (cs.length : Int)).toNat) (by omega) (by rw [List.getElem?_map, hcc] <;> rfl), ?_⟩
            obtain ⟨cn, ca, ct, hct, ct0, ct1⟩ := csok cc (List.mem_of_getElem? hcc)
            refine ⟨n, ct, tp, cc, _, nm b (200 + k), cn, ca, rfl, hwt, hct.mono s5b, ct0, ct1, fun r H6 s6b R6 => ?_⟩
            have s6 : Same H2'' H6 := Same.trans s5b s6b
            have hrow : HsOk b kn .bell := trivial
            have hcnt : RowM.bell.cl = .count → ∃ n a t, RowM.bell = .count n a t ∧ 0 ≤ t ∧ t ≤ 1000 := fun h => by cases h
            have s26 : Same H2'' H6 := s6
            have hl6 := s26 _ _ hl
            have hA6 := s26 _ _ hA
            have hC6 := s26 _ _ hC
            refine ⟨l, _, _, rfl, rfl, hl6, lenl, ?_⟩
            have P7 := rows_push hl6 (Paired.mapP pr fun _ _ z => z.mono s26) R6
            have n7 : NL H6 (upd H6 l (.lst (ps.map V.ref ++ [.ref r]))) := nl_upd hl6
            have c7 : Chg [l] H6 (upd H6 l (.lst (ps.map V.ref ++ [.ref r]))) := chg_upd (by simp)
            have s07 : Same H (upd H6 l (.lst (ps.map V.ref ++ [.ref r]))) := Same.upd (Same.trans sH s26) nlH
            have h7 : upd H6 l (.lst (ps.map V.ref ++ [.ref r])) l = some (.lst (ps.map V.ref ++ [.ref r])) := upd_same
            have R7 := R6.nl n7
            have hA7 := c7 _ _ hA6 (by simpa using nAl)
            have hC7 := c7 _ _ hC6 (by simpa using nCl)
            have cs7 : ∀ c ∈ cs, ∃ n a t, RowAt K (upd H6 l (.lst (ps.map V.ref ++ [.ref r]))) c (.count n a t) ∧ 0 ≤ t ∧ t ≤ 1000 := fun c hc => by
              obtain ⟨n, a, t, z, z2⟩ := csok c hc
              exact ⟨n, a, t, (z.mono s26).nl n7, z2⟩
            generalize upd H6 l (.lst (ps.map V.ref ++ [.ref r])) = H7 at P7 s07 h7 R7 hA7 hC7 cs7
            rw [List.append_assoc] at P7
            obtain ⟨ps7, hl7, pr7⟩ := P7
            have hsok7 : ∀ r ∈ hs ++ [RowM.bell], HsOk b kn r := fun r hr => by
              rcases List.mem_append.mp hr with hr | hr
              · exact hsok r hr
              · rw [List.mem_singleton.mp hr]
                exact hrow
            obtain ⟨dxr, fsr, hr7, _⟩ := id R7
            refine ⟨_, rfl, _, rfl, l, _, -1, .ref r, rfl, rfl, SqL.of h7, atI_last _ _, _, _, _, _, _, rfl, .own _, T.ty RowM.bell.cl hr7, T.kit RowM.bell.cl .count, _, rfl, ?_⟩
            refine ite2 (fun h => ?_) (fun _ => ?_)
            · have hc : RowM.bell.cl = .count := of_decide_eq_true h
              cases hc
            · exact ⟨ps7, hs ++ [RowM.bell], cs, _, _, _, _, rfl, s07, hl7, pr7, hA7, hC7, cs7, hsok7, by simp [lhs], by omega⟩
          · have dummy : True := trivial
            refine ⟨_, rfl, .inl ⟨rfl, _, SqL.of (s5 _ _ hl)⟩, _, rfl, _, rfl, _, rfl, _, _, rfl, rfl, (by show 1 ≤ sizeLine; decide), fun tp ntp => ?_⟩
            have st : Same H5 (upd H5 tp (.tup [.int (50 + k)])) := same_upd ntp
            have hwt : SqT K (upd H5 tp (.tup [.int (50 + k)])) tp [.int (50 + k)] := SqT.of upd_same
            generalize upd H5 tp (.tup [.int (50 + k)]) = H5b at st hwt
            have s5b : Same H2'' H5b := Same.trans s5 st
            have e0 := Int.emod_nonneg (n / 5) (show ((namesM kn).length : Int) ≠ 0 by omega)
            have e1 := Int.emod_lt_of_pos (n / 5) (show (0 : Int) < (namesM kn).length by omega)
            obtain ⟨a, hka⟩ : ∃ a, (namesM kn)[(n / 5 % ((namesM kn).length : Int)).toNat]? = some a := ⟨_, List.getElem?_eq_getElem (by omega)⟩
            refine ⟨_, rfl, _, rfl, _, rfl, _, _, rfl, rfl, ⟨by decide, by decide⟩, _, rfl, _, (namesM kn).length, rfl, .inl ⟨_, SqL.of (s5b _ _ hA), (List.length_map _).symm⟩, _, _, rfl, rfl, (by show (0 : Int) < _; omega), AH, _, _, .str a, rfl, rfl, SqL.of (s5b _ _ hA), at_of (j := (n / 5 % ((namesM kn).length : Int)).toNat) (by omega) (by rw [List.getElem?_map, hka] <;> rfl), ?_⟩
            refine ⟨n, cell, tp, _, nm b (200 + k), a, rfl, hwt, n0, fun r row H6 s6b R6 hcase => ?_⟩
            have s6 : Same H2'' H6 := Same.trans s5b s6b
            have told : ∃ v, getT kn a = some (some v) := names_told nd0 (List.mem_of_getElem? hka)
            have hrow : HsOk b kn row := by
              rcases hcase with ⟨bg, rfl⟩ | ⟨t, rfl, _⟩
              · exact ⟨⟨200 + k, by omega, by omega, rfl⟩, told⟩
              · exact told
            have hcnt : row.cl = .count → ∃ n a t, row = .count n a t ∧ 0 ≤ t ∧ t ≤ 1000 := fun h => by
              rcases hcase with ⟨bg, rfl⟩ | ⟨t, rfl, t0, t1⟩
              · cases h
              · exact ⟨_, _, t, rfl, t0, t1⟩
            have s26 : Same H2'' H6 := s6
            have hl6 := s26 _ _ hl
            have hA6 := s26 _ _ hA
            have hC6 := s26 _ _ hC
            refine ⟨l, _, _, rfl, rfl, hl6, lenl, ?_⟩
            have P7 := rows_push hl6 (Paired.mapP pr fun _ _ z => z.mono s26) R6
            have n7 : NL H6 (upd H6 l (.lst (ps.map V.ref ++ [.ref r]))) := nl_upd hl6
            have c7 : Chg [l] H6 (upd H6 l (.lst (ps.map V.ref ++ [.ref r]))) := chg_upd (by simp)
            have s07 : Same H (upd H6 l (.lst (ps.map V.ref ++ [.ref r]))) := Same.upd (Same.trans sH s26) nlH
            have h7 : upd H6 l (.lst (ps.map V.ref ++ [.ref r])) l = some (.lst (ps.map V.ref ++ [.ref r])) := upd_same
            have R7 := R6.nl n7
            have hA7 := c7 _ _ hA6 (by simpa using nAl)
            have hC7 := c7 _ _ hC6 (by simpa using nCl)
            have cs7 : ∀ c ∈ cs, ∃ n a t, RowAt K (upd H6 l (.lst (ps.map V.ref ++ [.ref r]))) c (.count n a t) ∧ 0 ≤ t ∧ t ≤ 1000 := fun c hc => by
              obtain ⟨n, a, t, z, z2⟩ := csok c hc
              exact ⟨n, a, t, (z.mono s26).nl n7, z2⟩
            generalize upd H6 l (.lst (ps.map V.ref ++ [.ref r])) = H7 at P7 s07 h7 R7 hA7 hC7 cs7
            rw [List.append_assoc] at P7
            obtain ⟨ps7, hl7, pr7⟩ := P7
            have hsok7 : ∀ r ∈ hs ++ [row], HsOk b kn r := fun r hr => by
              rcases List.mem_append.mp hr with hr | hr
              · exact hsok r hr
              · rw [List.mem_singleton.mp hr]
                exact hrow
            obtain ⟨dxr, fsr, hr7, _⟩ := id R7
            refine ⟨_, rfl, _, rfl, l, _, -1, .ref r, rfl, rfl, SqL.of h7, atI_last _ _, _, _, _, _, _, rfl, .own _, T.ty row.cl hr7, T.kit row.cl .count, _, rfl, ?_⟩
            refine ite2 (fun h => ?_) (fun _ => ?_)
            · have hc : row.cl = .count := of_decide_eq_true h
              obtain ⟨cn, ca, ct, rfl, ct0, ct1⟩ := hcnt hc
              refine ⟨_, rfl, .inl ⟨rfl, _, SqL.of hC7⟩, _, rfl, _, rfl, l, _, -1, .ref r, rfl, rfl, SqL.of h7, atI_last _ _, C, _, _, rfl, rfl, hC7, lenC, ?_⟩
              have n8 : NL H7 (upd H7 C (.lst (cs.map V.ref ++ [.ref r]))) := nl_upd hC7
              have c8 : Chg [C] H7 (upd H7 C (.lst (cs.map V.ref ++ [.ref r]))) := chg_upd (by simp)
              refine ⟨ps7, hs ++ [_], cs ++ [r], _, _, _, _, rfl, Same.upd s07 nCH, c8 _ _ hl7 (by simpa using nCl.symm), Paired.mapP pr7 fun _ _ z => z.nl n8, c8 _ _ hA7 (by simpa using nAC), by rw [upd_same, List.map_append] <;> rfl, fun c hc => ?_, hsok7, by simp [lhs], by simp; omega⟩
              rcases List.mem_append.mp hc with hc | hc
              · obtain ⟨n, a, t, z, z2⟩ := cs7 c hc
                exact ⟨n, a, t, z.nl n8, z2⟩
              · rw [List.mem_singleton.mp hc]
                exact ⟨cn, ca, ct, R7.nl n8, ct0, ct1⟩
            · exact ⟨ps7, hs ++ [row], cs, _, _, _, _, rfl, s07, hl7, pr7, hA7, hC7, cs7, hsok7, by simp [lhs], by omega⟩
        · refine ite2 (fun h => by cases h) (fun _ => ?_)
          refine ⟨_, rfl, .inl ⟨rfl, _, SqL.of (s5 _ _ hl)⟩, _, rfl, _, rfl, _, rfl, _, _, rfl, rfl, (by show 1 ≤ sizeLine; decide), fun tp ntp => ?_⟩
          have st : Same H5 (upd H5 tp (.tup [.int (50 + k)])) := same_upd ntp
          have hwt : SqT K (upd H5 tp (.tup [.int (50 + k)])) tp [.int (50 + k)] := SqT.of upd_same
          generalize upd H5 tp (.tup [.int (50 + k)]) = H5b at st hwt
          have s5b : Same H2'' H5b := Same.trans s5 st
          have e0 := Int.emod_nonneg (n / 5) (show ((namesM kn).length : Int) ≠ 0 by omega)
          have e1 := Int.emod_lt_of_pos (n / 5) (show (0 : Int) < (namesM kn).length by omega)
          obtain ⟨a, hka⟩ : ∃ a, (namesM kn)[(n / 5 % ((namesM kn).length : Int)).toNat]? = some a := ⟨_, List.getElem?_eq_getElem (by omega)⟩
          refine ⟨_, rfl, _, rfl, _, rfl, _, _, rfl, rfl, ⟨by decide, by decide⟩, _, rfl, _, (namesM kn).length, rfl, .inl ⟨_, SqL.of (s5b _ _ hA), (List.length_map _).symm⟩, _, _, rfl, rfl, (by show (0 : Int) < _; omega), AH, _, _, .str a, rfl, rfl, SqL.of (s5b _ _ hA), at_of (j := (n / 5 % ((namesM kn).length : Int)).toNat) (by omega) (by rw [List.getElem?_map, hka] <;> rfl), ?_⟩
          refine ⟨n, cell, tp, _, nm b (200 + k), a, rfl, hwt, n0, fun r row H6 s6b R6 hcase => ?_⟩
          have s6 : Same H2'' H6 := Same.trans s5b s6b
          have told : ∃ v, getT kn a = some (some v) := names_told nd0 (List.mem_of_getElem? hka)
          have hrow : HsOk b kn row := by
            rcases hcase with ⟨bg, rfl⟩ | ⟨t, rfl, _⟩
            · exact ⟨⟨200 + k, by omega, by omega, rfl⟩, told⟩
            · exact told
          have hcnt : row.cl = .count → ∃ n a t, row = .count n a t ∧ 0 ≤ t ∧ t ≤ 1000 := fun h => by
            rcases hcase with ⟨bg, rfl⟩ | ⟨t, rfl, t0, t1⟩
            · cases h
            · exact ⟨_, _, t, rfl, t0, t1⟩
          have s26 : Same H2'' H6 := s6
          have hl6 := s26 _ _ hl
          have hA6 := s26 _ _ hA
          have hC6 := s26 _ _ hC
          refine ⟨l, _, _, rfl, rfl, hl6, lenl, ?_⟩
          have P7 := rows_push hl6 (Paired.mapP pr fun _ _ z => z.mono s26) R6
          have n7 : NL H6 (upd H6 l (.lst (ps.map V.ref ++ [.ref r]))) := nl_upd hl6
          have c7 : Chg [l] H6 (upd H6 l (.lst (ps.map V.ref ++ [.ref r]))) := chg_upd (by simp)
          have s07 : Same H (upd H6 l (.lst (ps.map V.ref ++ [.ref r]))) := Same.upd (Same.trans sH s26) nlH
          have h7 : upd H6 l (.lst (ps.map V.ref ++ [.ref r])) l = some (.lst (ps.map V.ref ++ [.ref r])) := upd_same
          have R7 := R6.nl n7
          have hA7 := c7 _ _ hA6 (by simpa using nAl)
          have hC7 := c7 _ _ hC6 (by simpa using nCl)
          have cs7 : ∀ c ∈ cs, ∃ n a t, RowAt K (upd H6 l (.lst (ps.map V.ref ++ [.ref r]))) c (.count n a t) ∧ 0 ≤ t ∧ t ≤ 1000 := fun c hc => by
            obtain ⟨n, a, t, z, z2⟩ := csok c hc
            exact ⟨n, a, t, (z.mono s26).nl n7, z2⟩
          generalize upd H6 l (.lst (ps.map V.ref ++ [.ref r])) = H7 at P7 s07 h7 R7 hA7 hC7 cs7
          rw [List.append_assoc] at P7
          obtain ⟨ps7, hl7, pr7⟩ := P7
          have hsok7 : ∀ r ∈ hs ++ [row], HsOk b kn r := fun r hr => by
            rcases List.mem_append.mp hr with hr | hr
            · exact hsok r hr
            · rw [List.mem_singleton.mp hr]
              exact hrow
          obtain ⟨dxr, fsr, hr7, _⟩ := id R7
          refine ⟨_, rfl, _, rfl, l, _, -1, .ref r, rfl, rfl, SqL.of h7, atI_last _ _, _, _, _, _, _, rfl, .own _, T.ty row.cl hr7, T.kit row.cl .count, _, rfl, ?_⟩
          refine ite2 (fun h => ?_) (fun _ => ?_)
          · have hc : row.cl = .count := of_decide_eq_true h
            obtain ⟨cn, ca, ct, rfl, ct0, ct1⟩ := hcnt hc
            refine ⟨_, rfl, .inl ⟨rfl, _, SqL.of hC7⟩, _, rfl, _, rfl, l, _, -1, .ref r, rfl, rfl, SqL.of h7, atI_last _ _, C, _, _, rfl, rfl, hC7, lenC, ?_⟩
            have n8 : NL H7 (upd H7 C (.lst (cs.map V.ref ++ [.ref r]))) := nl_upd hC7
            have c8 : Chg [C] H7 (upd H7 C (.lst (cs.map V.ref ++ [.ref r]))) := chg_upd (by simp)
            refine ⟨ps7, hs ++ [_], cs ++ [r], _, _, _, _, rfl, Same.upd s07 nCH, c8 _ _ hl7 (by simpa using nCl.symm), Paired.mapP pr7 fun _ _ z => z.nl n8, c8 _ _ hA7 (by simpa using nAC), by rw [upd_same, List.map_append] <;> rfl, fun c hc => ?_, hsok7, by simp [lhs], by simp; omega⟩
            rcases List.mem_append.mp hc with hc | hc
            · obtain ⟨n, a, t, z, z2⟩ := cs7 c hc
              exact ⟨n, a, t, z.nl n8, z2⟩
            · rw [List.mem_singleton.mp hc]
              exact ⟨cn, ca, ct, R7.nl n8, ct0, ct1⟩
          · exact ⟨ps7, hs ++ [row], cs, _, _, _, _, rfl, s07, hl7, pr7, hA7, hC7, cs7, hsok7, by simp [lhs], by omega⟩
      · rintro σ H5 ⟨ps, hs, cs, v7, v8, v9, v10, rfl, sH, hl, pr, hA, hC, csok, hsok, lhs, lcs⟩
        subst hkn
        exact ⟨_, rfl, kk l b ts hs H5 sH ⟨ps, hl, pr⟩ G hsok (by omega)⟩
theorem cal_law_clock (T : Tx K mg) : Cal P w K mg base 14 "_law_clock" (spClock K) [] := by
  obtain ⟨fd, F⟩ := T.f_Dlaw_clock
  exact ⟨_, fd, _, _, ok_law_clock F T, T.g_law_clock, F.kp, bi_Dlaw_clock F, .nil⟩
end
end Ty
set_option Elab.async false
set_option linter.all false
set_option maxRecDepth 100000
set_option maxHeartbeats 4000000
/-! _law_hands. -/
namespace Ty
open PySem PySem.Spec PyProof.Rows L2 C8
def BegB (q : Rat) : Prop := Bd 7 q
theorem begB_div {a b : Int} (hb : b ≠ 0) (h1 : a.natAbs ≤ 100) (h2 : b.natAbs ≤ 100) : BegB (Rat.divInt a b) := by
  obtain ⟨e1, e2⟩ := divInt_le (a := a) hb
  have : (2 : Nat) ^ 7 = 128 := by decide
  exact ⟨by omega, by omega⟩
def hands3 (a1 a2 : Str) (q1 : Rat) (o2 : Option Rat) : List RowM := [.hand "first" a1 (some q1), .hand "second" a2 o2, .hand "third" a1 none]
def spHands (K : PySem.W.Frag) : Sp := fun vs H Q _ => ∃ (l : Addr) (n b : Int) (ts : List Tn) (hs : List RowM), vs = [.ref l, .int n] ∧ 0 ≤ n ∧ RowsAt K H l (allRows b 0 ts ++ hs) ∧ Good6 b ts ∧ (∀ r ∈ hs, HsOk b (knM b ts) r) ∧ hs.length ≤ 5 ∧
  ∀ l2 a1 a2 q1 o2 H', Same H H' → RowsAt K H' l2 (hands3 a1 a2 q1 o2) → (∃ v, getT (knM b ts) a1 = some (some v)) → (∃ v, getT (knM b ts) a2 = some (some v)) → BegB q1 → (∀ q, o2 = some q → BegB q) → Q (.ref l2) H'
section
variable {P : Program} {w : World} {K : PySem.W.Frag} {mg : Str → Option Value} {base : Heap} {fd : FuncData}
theorem sc_Dlaw_hands : FnScope ["_law_rows", "_law_number", "_law_told", "_law_arbors_here", "_law_one", "_law_other", "_law_first", "_law_second", "_law_name_here"] ["_law_rows", "_law_number"] (defScope sDlaw_hands) := C8.fnScope_by (by decide +kernel)
theorem ok_law_hands (F : FDlaw_hands K fd) (T : Tx K mg) : FnOk P w K mg base C8.CX0 14 (He.ga K "_law_hands") fd ["_law_rows", "_law_number"] (spHands K) := by
  refine FunD.ok F sc_Dlaw_hands (fun vs H Q E h => ?_) (fun cdv A outer s H vs Q E hr h => ?_)
  · obtain ⟨_, _, _, _, _, rfl, _⟩ := h
    rfl
  · obtain ⟨l, n, b, ts, hs, rfl, n0, hrows, G, hsok, hsl, kk⟩ := h
    refine ⟨_, PSs.nox (pss_cons (ps_set (i := 2) sc_Dlaw_hands.nd rfl (Or.inr rfl) (pe_c (cal_speeds T) hr (by decide) rfl (pa_cons (pv 0) pa_nil))) (pss_cons (ps_lock (ps_setLc (i := 3) (own := [("_law_name_here", 8)]) (g := gName 8) (tt := (tB (tNotN (tDGet (tVar 2) (tVar 8))))) (te := (tVar 8)) (by rfl) sc_Dlaw_hands.nd rfl rfl (sw_true rfl rfl rfl (by decide +kernel)) (pi_keys (pv 2)) (blkOk_by (N := ["_law_rows", "_law_number", "_law_told", "_law_arbors_here", "_law_one", "_law_other", "_law_first", "_law_second", "_law_name_here"]) (sc := defScope sDlaw_hands) (by decide +kernel)) (fun _ _ _ _ _ => pg_name (i := 8) sc_Dlaw_hands.nd rfl (Or.inl rfl)) (fun _ _ _ _ _ => pts_one (pt_cmp (pc_notN (pe_dget (hu_of hr) (pv 2) (pv 8) (fun _ _ => rfl))))) (fun _ _ _ _ _ => (pv 8)))) (pss_cons (ps_set (i := 4) sc_Dlaw_hands.nd rfl (Or.inl rfl) (pe_ix ix_list (pv 3) (pe_op op_mod (pv 1) (pe_callB call_len (by rfl) T.b_len (by decide +kernel) (pa_cons (pv 3) pa_nil))) (fun _ _ => rfl))) (pss_cons (ps_set (i := 5) sc_Dlaw_hands.nd rfl (Or.inl rfl) (pe_ix ix_list (pv 3) (pe_op op_mod (pe_op op_fdiv (pv 1) pe_int) (pe_callB call_len (by rfl) T.b_len (by decide +kernel) (pa_cons (pv 3) pa_nil))) (fun _ _ => rfl))) (pss_cons (ps_set (i := 6) sc_Dlaw_hands.nd rfl (Or.inl rfl) (pe_mk (mak_Hand_5 T) hr (by decide) rfl (pa_cons (pe_tup (pa_cons pe_int pa_nil)) (pa_cons pe_str (pa_cons (pv 4) (pa_cons pe_int (pa_cons (pe_mk (mak_Ratio_2 T) hr (by decide) rfl (pa_cons (pe_op op_mod (pe_op op_fdiv (pv 1) pe_int) pe_int) (pa_cons pe_int pa_nil))) pa_nil))))))) (pss_cons (ps_set (i := 7) sc_Dlaw_hands.nd rfl (Or.inl rfl) (pe_mk (mak_Hand_5 T) hr (by decide) rfl (pa_cons (pe_tup (pa_cons pe_int pa_nil)) (pa_cons pe_str (pa_cons (pv 5) (pa_cons pe_int (pa_cons (pe_ix ix_list (pe_lst (pa_cons pe_non (pa_cons (pe_mk (mak_Ratio_2 T) hr (by decide) rfl (pa_cons (pe_op op_mod (pe_op op_fdiv (pv 1) pe_int) pe_int) (pa_cons pe_int pa_nil))) pa_nil))) (pe_op op_mod (pe_op op_fdiv (pv 1) pe_int) pe_int) (fun _ _ => rfl)) pa_nil))))))) (pss_one (ps_ret (pe_lst (pa_cons (pv 6) (pa_cons (pv 7) (pa_cons (pe_mk (mak_Hand_4 T) hr (by decide) rfl (pa_cons (pe_tup (pa_cons pe_int pa_nil)) (pa_cons pe_str (pa_cons (pv 4) (pa_cons pe_int pa_nil))))) pa_nil)))))))))))), ?_⟩
    obtain ⟨v1, v2, v3, v4⟩ := solved G (hs := hs) fun r hr => (hsok r hr).sh
    have lrows : (allRows b 0 ts ++ hs).length ≤ 30 := by
      have := all_len (b := b) (ts := ts) (k := 0)
      have := G.l6
      rw [List.length_append]
      omega
    refine ⟨_, rfl, l, _, rfl, hrows, Nat.le_trans lrows (by decide), v1, v2, v3, fun H2 d s2 DD nd => ?_⟩
    rw [v4] at DD
    obtain ⟨D, D0, D1, frs, ⟨w0, hw0⟩, lar⟩ := speeds_ok G
    have nd0 : ((knM b ts).map (·.1)).Nodup := toldM_nodup rfl
    have knl : (knM b ts).length ≤ 24 := Nat.le_trans (toldM_len rfl) lar
    have hne : 0 < (namesM (knM b ts)).length := List.length_pos_of_mem (told_names hw0)
    generalize knM b ts = kn at DD nd0 knl hne kk
    obtain ⟨kvs, hd, dp⟩ := DD
    refine ⟨d, _, hd, trivial, fun od => ?_⟩
    have cf0 : Chg [d] H2 (upd H2 d (.frz od (.dK kvs))) := chg_upd (by simp)
    have hf0 : upd H2 d (.frz od (.dK kvs)) d = some (.frz od (.dK kvs)) := upd_same
    generalize upd H2 d (.frz od (.dK kvs)) = Hf at cf0 hf0
    refine ⟨_, rfl, d, od, rfl, .inl ⟨kvs, hf0, fun AH nAH => ?_⟩⟩
    have dnAH : d ≠ AH := ne_of_none hf0 nAH
    have nA2 : H2 AH = none := by
      cases hz : H2 AH with
      | none => rfl
      | some o =>
        have := cf0 _ _ hz (by simpa using dnAH.symm)
        rw [nAH] at this
        cases this
    refine lc_it (walk_keys (d := d) (o := od) (kvs := kvs)) (fun i H' => Chg [d] H2 H' ∧ H' d = some (.frz od (.dK kvs)) ∧ H' AH = some (.lst ((namesM (kn.take i)).map V.str))) ⟨cf0.trans (Same.chg (same_upd nAH)), (by rw [upd_ne dnAH]; exact hf0), upd_same⟩ (fun i H' _ ⟨_, h, _⟩ => h) ?_ ?_
    · rintro i x H' H'' hi ⟨c, hf, hA⟩ ⟨rfl, key, v, hk, rfl⟩
      obtain ⟨⟨n, o⟩, hki, e1, ov⟩ := LiI.paired_get dp hk
      have e1 : key = .inr n := e1
      subst e1
      have et := take_snoc hki
      have hget : getT kn n = some o := getT_of_mem nd0 (List.mem_of_getElem? hki)
      obtain ⟨v', hval, ov'⟩ : ∃ v', valV kvs (.inr n) = some v' ∧ OV K H2 v' o := by
        rcases dp.val n with ⟨_, e2⟩ | ⟨v', y, e2, e3, e4⟩
        · rw [hget] at e2
          cases e2
        · rw [hget] at e3
          cases e3
          exact ⟨v', e2, e4⟩
      refine ⟨rfl, ?_⟩
      refine ⟨_, rfl, _, rfl, d, v', rfl, .inl ⟨kvs, .inr n, .inr ⟨od, hf⟩, rfl, hval.symm⟩, _, rfl, ?_⟩
      have snoc : namesM (kn.take (i + 1)) = namesM (kn.take i) ++ optN n o := by
        rw [et]
        exact names_snoc
      cases o with
      | none =>
        have ov' : v' = .non := ov'
        subst ov'
        refine ite2 (fun h => by cases h) (fun _ => ?_)
        refine ⟨c, hf, ?_⟩
        rw [snoc]
        show _ = some (HO.lst ((_ ++ []).map V.str))
        rw [List.append_nil]
        exact hA
      | some q =>
        obtain ⟨rr, e5, _⟩ := ov'
        subst e5
        refine ite2 (fun _ => ?_) (fun h => absurd (show (!decide (V.ref rr = V.non)) = true by simp) h)
        refine ⟨_, rfl, _, hA, ?_, c.upd nA2, by rw [upd_ne dnAH]; exact hf, ?_⟩
        · rw [List.length_map]
          have h1 := names_len (kn := kn.take i)
          have h2 : (kn.take i).length ≤ kn.length := List.length_take_le' _ _
          exact Nat.lt_of_le_of_lt (Nat.le_trans h1 (Nat.le_trans h2 knl)) (by decide)
        · rw [upd_same, snoc, List.map_append] <;> rfl
    · rintro H' ⟨c, hf, hA⟩
      rw [dp.len, List.take_length] at hA
      refine ⟨hf, ?_⟩
      have sU : Same H2 (upd H' d (.dK kvs)) := unlock_same hd c
      have hA' : upd H' d (.dK kvs) AH = some (.lst ((namesM kn).map V.str)) := by
        rw [upd_ne dnAH.symm]
        exact hA
      generalize upd H' d (.dK kvs) = H3 at sU hA'
      have s03 : Same H H3 := Same.trans s2 sU
      have pick : ∀ z : Int, ∃ a, (namesM kn)[(z % ((namesM kn).length : Int)).toNat]? = some a ∧ (∃ v, getT kn a = some (some v)) ∧ z % ((namesM kn).length : Int) = ((z % ((namesM kn).length : Int)).toNat : Nat) := fun z => by
        have e0 := Int.emod_nonneg z (show ((namesM kn).length : Int) ≠ 0 by omega)
        have e1 := Int.emod_lt_of_pos z (show (0 : Int) < (namesM kn).length by omega)
        have hk : (namesM kn)[(z % ((namesM kn).length : Int)).toNat]? = some (namesM kn)[(z % ((namesM kn).length : Int)).toNat] := List.getElem?_eq_getElem (by omega)
        exact ⟨_, hk, names_told nd0 (List.mem_of_getElem? hk), by omega⟩
      obtain ⟨a1, p1, t1, z1⟩ := pick n
      obtain ⟨a2, p2, t2, z2⟩ := pick (n / 7)
      refine ⟨_, rfl, _, rfl, _, rfl, _, (namesM kn).length, rfl, .inl ⟨_, SqL.of hA', (List.length_map _).symm⟩, _, _, rfl, rfl, (by show (0 : Int) < _; omega), AH, _, _, .str a1, rfl, rfl, SqL.of hA', at_of z1 (by rw [List.getElem?_map, p1] <;> rfl), ?_⟩
      refine ⟨_, rfl, _, rfl, _, _, rfl, rfl, ⟨by decide, by decide⟩, _, rfl, _, (namesM kn).length, rfl, .inl ⟨_, SqL.of hA', (List.length_map _).symm⟩, _, _, rfl, rfl, (by show (0 : Int) < _; omega), AH, _, _, .str a2, rfl, rfl, SqL.of hA', at_of z2 (by rw [List.getElem?_map, p2] <;> rfl), ?_⟩
      -- first
      have f0 := Int.emod_nonneg (n / 49) (show (60 : Int) ≠ 0 by decide)
      have f1 := Int.emod_lt_of_pos (n / 49) (show (0 : Int) < 60 by decide)
      have g0 := Int.emod_nonneg (n / 3000) (show (24 : Int) ≠ 0 by decide)
      have g1 := Int.emod_lt_of_pos (n / 3000) (show (0 : Int) < 24 by decide)
      have h0 := Int.emod_nonneg (n / 49) (show (2 : Int) ≠ 0 by decide)
      have h1 := Int.emod_lt_of_pos (n / 49) (show (0 : Int) < 2 by decide)
      refine ⟨(by show 1 ≤ sizeLine; decide), fun tp ntp => ?_⟩
      have u1 : Same H3 (upd H3 tp (.tup [.int 300])) := same_upd ntp
      refine ⟨_, rfl, _, rfl, _, _, rfl, rfl, ⟨by decide, by decide⟩, _, _, rfl, rfl, (by first | decide | (show (0 : Int) < _; decide)), ?_⟩
      refine rat_new (by decide) (b8 (by omega)) (b8 (by decide)) fun r1 H4 u2 R1 => ?_
      refine row_new (hl := rfl) (hw := SqT.of (u2 _ _ upd_same)) fun p1' d1' H5 u3 h5 => ?_
      have W1 : RowAt K H5 p1' (.hand "first" a1 (some (Rat.divInt (n / 49 % 60) 60))) := ⟨d1', _, h5, _, _, _, rfl, r1, rfl, R1.mono u3⟩
      have w35 : Same H3 H5 := Same.trans u1 (Same.trans u2 u3)
      -- second
      refine ⟨(by show 1 ≤ sizeLine; decide), fun tp2 ntp2 => ?_⟩
      have u4 : Same H5 (upd H5 tp2 (.tup [.int 301])) := same_upd ntp2
      refine ⟨_, rfl, _, rfl, _, _, rfl, rfl, ⟨by decide, by decide⟩, _, _, rfl, rfl, (by first | decide | (show (0 : Int) < _; decide)), ?_⟩
      refine rat_new (by decide) (b8 (by omega)) (b8 (by decide)) fun r2 H6 u5 R2 => ?_
      refine ⟨(by show 2 ≤ sizeLine; decide), fun e ne => ?_⟩
      have u6 : Same H6 (upd H6 e (.lst [.non, .ref r2])) := same_upd ne
      refine ⟨_, rfl, _, _, rfl, rfl, ⟨by decide, by decide⟩, _, _, rfl, rfl, (by first | decide | (show (0 : Int) < _; decide)), ?_⟩
      obtain ⟨bv, o2, hb, hov, hbb⟩ : ∃ (bv : V) (o2 : Option Rat), ([.non, .ref r2] : List V)[(n / 49 % 2).toNat]? = some bv ∧ OV K (upd H6 e (.lst [.non, .ref r2])) bv o2 ∧ ∀ q, o2 = some q → BegB q := by
        have : n / 49 % 2 = 0 ∨ n / 49 % 2 = 1 := by omega
        rcases this with z | z
        · exact ⟨.non, none, by rw [z]; rfl, rfl, fun q h => by cases h⟩
        · exact ⟨.ref r2, some (Rat.divInt (n / 3000 % 24) 24), by rw [z]; rfl, ⟨r2, rfl, R2.mono u6⟩, fun q h => by cases h; exact begB_div (b := 24) (by decide) (by omega) (by decide)⟩
      refine ⟨e, _, n / 49 % 2, bv, rfl, rfl, SqL.of upd_same, at_of (j := (n / 49 % 2).toNat) (by omega) hb, ?_⟩
      refine row_new (hl := rfl) (hw := SqT.of (u6 _ _ (u5 _ _ upd_same))) fun p2' d2' H7 u7 h7 => ?_
      have W2 : RowAt K H7 p2' (.hand "second" a2 o2) := ⟨d2', _, h7, _, _, _, rfl, hov.mono u7⟩
      have w57 : Same H5 H7 := Same.trans u4 (Same.trans u5 (Same.trans u6 u7))
      -- third
      refine ⟨_, rfl, _, rfl, (by show 1 ≤ sizeLine; decide), fun tp3 ntp3 => ?_⟩
      have u8 : Same H7 (upd H7 tp3 (.tup [.int 302])) := same_upd ntp3
      refine ⟨_, rfl, ?_⟩
      refine row_new (hl := rfl) (hw := SqT.of upd_same) fun p3' d3' H8 u9 h8 => ?_
      have W3 : RowAt K H8 p3' (.hand "third" a1 none) := ⟨d3', _, h8, _, _, _, rfl, rfl⟩
      have w78 : Same H7 H8 := Same.trans u8 u9
      refine ⟨(by show 3 ≤ sizeLine; decide), fun L nL => ?_⟩
      have u10 : Same H8 (upd H8 L (.lst [.ref p1', .ref p2', .ref p3'])) := same_upd nL
      refine kk L a1 a2 (Rat.divInt (n / 49 % 60) 60) o2 _ (Same.trans s03 (Same.trans w35 (Same.trans w57 (Same.trans w78 u10)))) ⟨[p1', p2', p3'], upd_same, .cons ?_ (.cons ?_ (.cons ?_ .nil))⟩ t1 t2 (begB_div (b := 60) (by decide) (by omega) (by decide)) hbb
      · exact ((W1.mono w57).mono w78).mono u10
      · exact (W2.mono w78).mono u10
      · exact W3.mono u10
theorem cal_law_hands (T : Tx K mg) : Cal P w K mg base 14 "_law_hands" (spHands K) [] := by
  obtain ⟨fd, F⟩ := T.f_Dlaw_hands
  exact ⟨_, fd, _, _, ok_law_hands F T, T.g_law_hands, F.kp, bi_Dlaw_hands F, .nil⟩
end
end Ty
set_option Elab.async false
set_option linter.all false
set_option maxRecDepth 100000
set_option maxHeartbeats 4000000
/-! _law_ahead, _law_part_right. -/
namespace Ty
open PySem PySem.Spec PyProof.Rows L2 C8
def turnM (v m : Rat) : Option Rat → Rat
  | none => v * m
  | some q => v * m + q
def ahT (one other n : Str) (acc t : Rat) : Rat := if n = other then (if n = one then acc - t else acc) + t else (if n = one then acc - t else acc)
def ahF (kn : Kn) (one other : Str) (m : Rat) (acc : Rat) : RowM → Rat
  | .hand n a bg => (match getT kn a with
    | some (some v) => ahT one other n acc (turnM v m bg)
    | _ => acc)
  | _ => acc
def ahM (kn : Kn) (one other : Str) (m : Rat) (rs : List RowM) : Rat := rs.foldl (ahF kn one other m) 0
structure StepOk (acc v m : Rat) (bg : Option Rat) : Prop where
  hv : Ok v
  hm : Ok m
  vm : Ok (v * m)
  hb : ∀ q, bg = some q → Ok q
  t : Ok (turnM v m bg)
  ha : Ok acc
  acc2 : Ok (acc - turnM v m bg)
def spAhead (K : PySem.W.Frag) : Sp := fun vs H Q _ => ∃ (d l m : Addr) (one other : Str) (kn : Kn) (rs : List RowM) (mm : Rat), vs = [.ref d, .ref l, .str one, .str other, .ref m] ∧ DictAt (OV K H) H d kn ∧ RowsAt K H l rs ∧ RatAt K H m mm ∧
  (∀ (i : Nat) n a bg, rs[i]? = some (.hand n a bg) → (n = one ∨ n = other) → ∃ v, getT kn a = some (some v) ∧ StepOk (ahM kn one other mm (rs.take i)) v mm bg) ∧ (∀ (i : Nat) n a bg, rs[i]? = some (.hand n a bg) → ∃ v, getT kn a = some (some v)) ∧
  ∀ r H', Same H H' → RatAt K H' r (ahM kn one other mm rs) → Q (.ref r) H'
theorem ahM_snoc {kn : Kn} {one other : Str} {m : Rat} {rs : List RowM} {r : RowM} : ahM kn one other m (rs ++ [r]) = ahF kn one other m (ahM kn one other m rs) r := by
  unfold ahM
  rw [List.foldl_append] <;> rfl
theorem in2 {n a b : Str} : inV (.str n) [.str a, .str b] = decide (n = a ∨ n = b) := by
  show ((a == n) || ((b == n) || false)) = _
  by_cases h1 : n = a
  · subst h1
    simp
  · by_cases h2 : n = b
    · subst h2
      simp
    · have e1 : (a == n) = false := beq_eq_false_iff_ne.mpr fun z => h1 z.symm
      have e2 : (b == n) = false := beq_eq_false_iff_ne.mpr fun z => h2 z.symm
      rw [e1, e2]
      simp [h1, h2]
section
variable {P : Program} {w : World} {K : PySem.W.Frag} {mg : Str → Option Value} {base : Heap} {fd : FuncData}
theorem sc_Dlaw_ahead : FnScope ["_law_told", "_law_rows", "_law_one", "_law_other", "_law_moment", "_law_found", "_law_row", "_law_turned"] ["_law_told", "_law_rows", "_law_one", "_law_other", "_law_moment"] (defScope sDlaw_ahead) := C8.fnScope_by (by decide +kernel)
theorem ok_law_ahead (F : FDlaw_ahead K fd) (T : Tx K mg) : FnOk P w K mg base C8.CX0 6 (He.ga K "_law_ahead") fd ["_law_told", "_law_rows", "_law_one", "_law_other", "_law_moment"] (spAhead K) := by
  refine FunD.ok F sc_Dlaw_ahead (fun vs H Q E h => ?_) (fun cdv A outer s H vs Q E hr h => ?_)
  · obtain ⟨_, _, _, _, _, _, _, _, rfl, _⟩ := h
    rfl
  · obtain ⟨d, l, m, one, other, kn, rs, mm, rfl, DD, hrows, Rm, st, tl, kk⟩ := h
    refine ⟨_, PSs.nox (pss_cons (ps_set (i := 5) sc_Dlaw_ahead.nd rfl (Or.inl rfl) (pe_mk (mak_Ratio_1 T) hr (by decide) rfl (pa_cons pe_int pa_nil))) (pss_cons (ps_for PassesOwn.never rfl (pi_list (pv 1)) (pg_name (i := 6) sc_Dlaw_ahead.nd rfl (Or.inl rfl)) (pss_one (ps_if (PW.pt (pw_and (pt_val (pe_callB call_isi (by rfl) T.b_isinstance (by decide +kernel) (pa_cons (pv 6) (pa_cons (pe_cls rfl T.g_Hand) pa_nil)))) (pw_and1 (pt_cmpR op_in_seq (pe_fld (pv 6) rfl) (pe_tup (pa_cons (pv 2) (pa_cons (pv 3) pa_nil))) (by with_unfolding_all rfl))))) (pss_cons (ps_set (i := 7) sc_Dlaw_ahead.nd rfl (Or.inl rfl) (pe_mt (met_times T) hr (by decide) (pe_dget (hu_of hr) (pv 0) (pe_fld (pv 6) rfl) (fun _ _ => rfl)) (pa_cons (pv 4) pa_nil))) (pss_cons (ps_if (pt_cmp (pc_notN (pe_fld (pv 6) rfl))) (pss_one (ps_set (i := 7) sc_Dlaw_ahead.nd rfl (Or.inl rfl) (pe_mt (met_plus T) hr (by decide) (pv 7) (pa_cons (pe_fld (pv 6) rfl) pa_nil)))) pss_nil) (pss_cons (ps_if (pt_cmpR op_eq (pe_fld (pv 6) rfl) (pv 2) (nomark _)) (pss_one (ps_set (i := 5) sc_Dlaw_ahead.nd rfl (Or.inl rfl) (pe_mt (met_minus T) hr (by decide) (pv 5) (pa_cons (pv 7) pa_nil)))) pss_nil) (pss_one (ps_if (pt_cmpR op_eq (pe_fld (pv 6) rfl) (pv 3) (nomark _)) (pss_one (ps_set (i := 5) sc_Dlaw_ahead.nd rfl (Or.inl rfl) (pe_mt (met_plus T) hr (by decide) (pv 5) (pa_cons (pv 7) pa_nil)))) pss_nil))))) pss_nil))) (pss_one (ps_ret (pv 5))))), ?_⟩
    refine rat_new (by decide) z8 o8 fun r0 H1 s1 R0 => ?_
    rw [rq_int] at R0
    obtain ⟨ps, hl, pr⟩ := hrows.mono s1
    refine ⟨_, rfl, l, rfl, ⟨_, SqL.of hl⟩, for_list (K := K) (a := l) (xs := ps.map V.ref) (fun i σ H' => ∃ r v6 v7, σ = [some (.ref d), some (.ref l), some (.str one), some (.str other), some (.ref m), some (.ref r), v6, v7] ∧ Same H1 H' ∧ RatAt K H' r (ahM kn one other mm (rs.take i)))
      ⟨r0, _, _, rfl, fun _ _ z => z, R0⟩ (fun i σ H' _ ⟨_, _, _, _, c, _⟩ => SqL.of (c _ _ hl)) ?_ ?_⟩
    · rintro i x σ H2 hi ⟨r, v6, v7, rfl, s2, R⟩
      obtain ⟨q, hq, rfl⟩ := ref_nth hi
      obtain ⟨row, hri, hr0⟩ := paired_nth pr hq
      have hrow := hr0.mono s2
      have et := take_snoc hri
      obtain ⟨dxr, fs, hq1, hf⟩ := id hrow
      have s02 : Same H H2 := Same.trans s1 s2
      refine ⟨_, rfl, _, _, _, _, _, rfl, .own _, T.ty row.cl hq1, T.kit row.cl .hand, _, rfl, ?_⟩
      cases row with
      | hand n a bg =>
        obtain ⟨wy, mk, xb, rfl, ob⟩ := hf
        obtain ⟨v0, hv0⟩ := tl i n a bg hri
        have efold : ahM kn one other mm (rs.take (i + 1)) = ahT one other n (ahM kn one other mm (rs.take i)) (turnM v0 mm bg) := by
          rw [et, ahM_snoc]
          show (match getT kn a with | some (some v) => ahT one other n _ (turnM v mm bg) | _ => _) = _
          rw [hv0]
        refine ite2 (fun _ => ?_) (fun h => absurd (show decide (Cl.hand = Cl.hand) = true from decide_eq_true rfl) h)
        refine ⟨_, rfl, q, _, _, _, _, rfl, hq1, T.cl_Hand, T.na_Hand_name, lk_Hand_name, _, rfl, _, rfl, (by show 2 ≤ sizeLine; decide), fun tp ntp => ?_⟩
        have s3 : Same H2 (upd H2 tp (.tup [.str one, .str other])) := same_upd ntp
        refine ⟨tp, _, rfl, .inr (SqT.of upd_same), rfl, rfl, _, rfl, ?_⟩
        generalize upd H2 tp (.tup [.str one, .str other]) = H3 at s3
        show (if inV (.str n) [.str one, .str other] = true then _ else _)
        rw [in2]
        have hq3 := s3 _ _ hq1
        have ob3 : OV K H3 xb bg := ob.mono s3
        have s03 : Same H H3 := Same.trans s02 s3
        refine ite2 (fun hin => ?_) (fun hin => ?_)
        · have hin : n = one ∨ n = other := of_decide_eq_true hin
          obtain ⟨v, hv, so⟩ := st i n a bg hri hin
          rw [hv0] at hv
          obtain rfl : v0 = v := Option.some.inj (Option.some.inj hv)
          obtain ⟨kvs, hd, dp⟩ := id DD
          obtain ⟨vr, hget, Rv⟩ : ∃ vr, DGet H3 d (.str a) (some (.ref vr)) ∧ RatAt K H3 vr v0 := by
            have h := DGet.k (k := .inr a) (s03 _ _ hd)
            rcases dp.val a with ⟨_, e2⟩ | ⟨v', y, e2, e3, e4⟩
            · rw [hv0] at e2
              cases e2
            · rw [hv0] at e3
              cases e3
              obtain ⟨vr, e5, R5⟩ := e4
              rw [e2, e5] at h
              exact ⟨vr, h, R5.mono s03⟩
          obtain ⟨dv, hvr⟩ := id Rv
          have R3 := R.mono s3
          refine ⟨_, rfl, _, rfl, q, _, _, _, _, rfl, hq3, T.cl_Hand, T.na_Hand_arbor, lk_Hand_arbor, d, .ref vr, rfl, hget, vr, dv, _, rfl, hvr, ratF_no _ (by decide +kernel) (by decide +kernel), _, rfl, vr, m, v0, mm, rfl, Rv, Rm.mono s03, ⟨so.hv, so.hm⟩, fun r1 H4 s4 R1 => ?_⟩
          have R1 : RatAt K H4 r1 (v0 * mm) := R1
          have hq4 := s4 _ _ hq3
          have R4 := R3.mono s4
          have ob4 := ob3.mono s4
          refine ⟨_, rfl, q, _, _, _, _, rfl, hq4, T.cl_Hand, T.na_Hand_begin, lk_Hand_begin, _, rfl, ?_⟩
          cases bg with
          | none =>
            have ob4 : xb = .non := ob4
            subst ob4
            refine ite2 (fun h => by cases h) (fun _ => ?_)
            have s5 : Same H4 H4 := fun _ _ z => z
            have R2 : RatAt K H4 r1 (turnM v0 mm none) := R1
            have R5 := R4.mono s5
            have hq5 := s5 _ _ hq4
            refine ⟨_, rfl, q, _, _, _, _, rfl, hq5, T.cl_Hand, T.na_Hand_name, lk_Hand_name, _, rfl, rfl, _, rfl, ?_⟩
            refine ite2 (fun h1 => ?_) (fun h1 => ?_)
            · have h1 : n = one := V.str.inj (of_decide_eq_true h1)
              obtain ⟨dr5, hr5⟩ := id R5
              refine ⟨_, rfl, r, dr5, _, rfl, hr5, ratF_no _ (by decide +kernel) (by decide +kernel), _, rfl, r, r1, _, _, rfl, R5, R2, ⟨so.ha, so.t⟩, fun r6 H6 s6 R6 => ?_⟩
              have R6 : RatAt K H6 r6 (ahM kn one other mm (rs.take i) - turnM v0 mm none) := R6
              refine ⟨_, rfl, q, _, _, _, _, rfl, (s6 _ _ hq5), T.cl_Hand, T.na_Hand_name, lk_Hand_name, _, rfl, rfl, _, rfl, ?_⟩
              refine ite2 (fun h2 => ?_) (fun h2 => ?_)
              · have h2 : n = other := V.str.inj (of_decide_eq_true h2)
                obtain ⟨dX, hX⟩ := id R6
                refine ⟨_, rfl, r6, dX, _, rfl, hX, ratF_no _ (by decide +kernel) (by decide +kernel), _, rfl, r6, r1, _, _, rfl, R6, (R2.mono s6), ⟨so.acc2, so.t⟩, fun r9 H9 s9 R9 => ?_⟩
                refine ⟨r9, _, _, rfl, Same.trans (Same.trans s2 (Same.trans s3 s4)) (Same.trans (Same.trans s5 s6) s9), ?_⟩
                rw [efold]
                unfold ahT
                rw [if_pos h2, if_pos h1]
                exact R9
              · have h2 : ¬ n = other := fun z => h2 (decide_eq_true (by rw [z]))
                refine ⟨r6, _, _, rfl, Same.trans (Same.trans s2 (Same.trans s3 s4)) (Same.trans s5 s6), ?_⟩
                rw [efold]
                unfold ahT
                rw [if_neg h2, if_pos h1]
                exact R6
            · have h1 : ¬ n = one := fun z => h1 (decide_eq_true (by rw [z]))
              refine ⟨_, rfl, q, _, _, _, _, rfl, (hq5), T.cl_Hand, T.na_Hand_name, lk_Hand_name, _, rfl, rfl, _, rfl, ?_⟩
              refine ite2 (fun h2 => ?_) (fun h2 => ?_)
              · have h2 : n = other := V.str.inj (of_decide_eq_true h2)
                obtain ⟨dX, hX⟩ := id R5
                refine ⟨_, rfl, r, dX, _, rfl, hX, ratF_no _ (by decide +kernel) (by decide +kernel), _, rfl, r, r1, _, _, rfl, R5, R2, ⟨so.ha, so.t⟩, fun r9 H9 s9 R9 => ?_⟩
                refine ⟨r9, _, _, rfl, Same.trans (Same.trans s2 (Same.trans s3 s4)) (Same.trans s5 s9), ?_⟩
                rw [efold]
                unfold ahT
                rw [if_pos h2, if_neg h1]
                exact R9
              · have h2 : ¬ n = other := fun z => h2 (decide_eq_true (by rw [z]))
                refine ⟨r, _, _, rfl, Same.trans (Same.trans s2 (Same.trans s3 s4)) s5, ?_⟩
                rw [efold]
                unfold ahT
                rw [if_neg h2, if_neg h1]
                exact R5
          | some bq =>
            obtain ⟨br, e7, Rb⟩ := ob4
            subst e7
            refine ite2 (fun _ => ?_) (fun h => absurd (show (!decide (V.ref br = V.non)) = true by simp) h)
            obtain ⟨d1', h1'⟩ := id R1
            refine ⟨_, rfl, r1, d1', _, rfl, h1', ratF_no _ (by decide +kernel) (by decide +kernel), _, rfl, q, _, _, _, _, rfl, hq4, T.cl_Hand, T.na_Hand_begin, lk_Hand_begin, r1, br, _, bq, rfl, R1, Rb, ⟨so.vm, so.hb bq rfl⟩, fun r2 H5 s5 R2 => ?_⟩
            have R2 : RatAt K H5 r2 (turnM v0 mm (some bq)) := R2
            have R5 := R4.mono s5
            have hq5 := s5 _ _ hq4
            refine ⟨_, rfl, q, _, _, _, _, rfl, hq5, T.cl_Hand, T.na_Hand_name, lk_Hand_name, _, rfl, rfl, _, rfl, ?_⟩
            refine ite2 (fun h1 => ?_) (fun h1 => ?_)
            · have h1 : n = one := V.str.inj (of_decide_eq_true h1)
              obtain ⟨dr5, hr5⟩ := id R5
              refine ⟨_, rfl, r, dr5, _, rfl, hr5, ratF_no _ (by decide +kernel) (by decide +kernel), _, rfl, r, r2, _, _, rfl, R5, R2, ⟨so.ha, so.t⟩, fun r6 H6 s6 R6 => ?_⟩
              have R6 : RatAt K H6 r6 (ahM kn one other mm (rs.take i) - turnM v0 mm (some bq)) := R6
              refine ⟨_, rfl, q, _, _, _, _, rfl, (s6 _ _ hq5), T.cl_Hand, T.na_Hand_name, lk_Hand_name, _, rfl, rfl, _, rfl, ?_⟩
              refine ite2 (fun h2 => ?_) (fun h2 => ?_)
              · have h2 : n = other := V.str.inj (of_decide_eq_true h2)
                obtain ⟨dX, hX⟩ := id R6
                refine ⟨_, rfl, r6, dX, _, rfl, hX, ratF_no _ (by decide +kernel) (by decide +kernel), _, rfl, r6, r2, _, _, rfl, R6, (R2.mono s6), ⟨so.acc2, so.t⟩, fun r9 H9 s9 R9 => ?_⟩
                refine ⟨r9, _, _, rfl, Same.trans (Same.trans s2 (Same.trans s3 s4)) (Same.trans (Same.trans s5 s6) s9), ?_⟩
                rw [efold]
                unfold ahT
                rw [if_pos h2, if_pos h1]
                exact R9
              · have h2 : ¬ n = other := fun z => h2 (decide_eq_true (by rw [z]))
                refine ⟨r6, _, _, rfl, Same.trans (Same.trans s2 (Same.trans s3 s4)) (Same.trans s5 s6), ?_⟩
                rw [efold]
                unfold ahT
                rw [if_neg h2, if_pos h1]
                exact R6
            · have h1 : ¬ n = one := fun z => h1 (decide_eq_true (by rw [z]))
              refine ⟨_, rfl, q, _, _, _, _, rfl, (hq5), T.cl_Hand, T.na_Hand_name, lk_Hand_name, _, rfl, rfl, _, rfl, ?_⟩
              refine ite2 (fun h2 => ?_) (fun h2 => ?_)
              · have h2 : n = other := V.str.inj (of_decide_eq_true h2)
                obtain ⟨dX, hX⟩ := id R5
                refine ⟨_, rfl, r, dX, _, rfl, hX, ratF_no _ (by decide +kernel) (by decide +kernel), _, rfl, r, r2, _, _, rfl, R5, R2, ⟨so.ha, so.t⟩, fun r9 H9 s9 R9 => ?_⟩
                refine ⟨r9, _, _, rfl, Same.trans (Same.trans s2 (Same.trans s3 s4)) (Same.trans s5 s9), ?_⟩
                rw [efold]
                unfold ahT
                rw [if_pos h2, if_neg h1]
                exact R9
              · have h2 : ¬ n = other := fun z => h2 (decide_eq_true (by rw [z]))
                refine ⟨r, _, _, rfl, Same.trans (Same.trans s2 (Same.trans s3 s4)) s5, ?_⟩
                rw [efold]
                unfold ahT
                rw [if_neg h2, if_neg h1]
                exact R5
        · have hin : ¬ (n = one ∨ n = other) := fun z => hin (decide_eq_true z)
          refine ⟨r, _, _, rfl, Same.trans s2 s3, ?_⟩
          rw [efold]
          unfold ahT
          rw [if_neg (fun z => hin (.inr z)), if_neg (fun z => hin (.inl z))]
          exact R.mono s3
      | _ =>
        refine ite2 (fun h => absurd (of_decide_eq_true h) (fun z => by cases z)) (fun _ => ?_)
        refine ite2 (fun h => by cases h) (fun _ => ?_)
        refine ⟨r, _, _, rfl, s2, ?_⟩
        rw [et, ahM_snoc]
        exact R
    · rintro σ H2 ⟨r, v6, v7, rfl, s2, R⟩
      have hl2 : (ps.map V.ref).length = rs.length := by rw [List.length_map, Paired.length pr]
      rw [hl2, List.take_length] at R
      exact ⟨_, rfl, kk r H2 (Same.trans s1 s2) R⟩
theorem cal_law_ahead (T : Tx K mg) : Cal P w K mg base 6 "_law_ahead" (spAhead K) [] := by
  obtain ⟨fd, F⟩ := T.f_Dlaw_ahead
  exact ⟨_, fd, _, _, ok_law_ahead F T, T.g_law_ahead, F.kp, bi_Dlaw_ahead F, .nil⟩
end
end Ty
set_option Elab.async false
set_option linter.all false
set_option maxRecDepth 100000
set_option maxHeartbeats 4000000
set_option exponentiation.threshold 10000
/-! Counting meetings, in plain numbers. -/
namespace Ty
def cntM (A g b e : Rat) : Int := (numsM (firstM A g) (perM g) b e).2 - (numsM (firstM A g) (perM g) b e).1
def sg (g : Rat) : Rat := if g < 0 then -1 else 1
/-- whole meetings before m, up to a constant -/
def CM (A g m : Rat) : Int := ceilM (sg g * (A + g * m))
theorem ceil_add {x : Rat} {n : Int} : ceilM (x + (n : Rat)) = ceilM x + n := by
  unfold ceilM
  have : -(x + (n : Rat)) = -x + ((-n : Int) : Rat) := by
    rw [Rat.intCast_neg]
    grind
  rw [this, Rat.floor_add_intCast]
  omega
theorem ceil_mono {x y : Rat} (h : x ≤ y) : ceilM x ≤ ceilM y := by
  unfold ceilM
  have := Rat.floor_monotone (a := -y) (b := -x) (by grind)
  omega
theorem one_div_neg {g : Rat} (h : g ≠ 0) : (1 / g < 0) ↔ g < 0 := by
  have e : (1 : Rat) / g = g⁻¹ := by rw [Rat.div_def, Rat.one_mul]
  rw [e]
  constructor
  · intro z
    rcases Decidable.em (0 < g) with p | p
    · have := Rat.inv_pos.mpr p
      grind
    · grind
  · intro z
    rcases Decidable.em (0 < g⁻¹) with p | p
    · have := Rat.inv_pos.mp p
      grind
    · have hn : g⁻¹ ≠ 0 := fun z2 => h (by rw [← Rat.inv_inv g, z2, Rat.inv_zero])
      grind
theorem per_eq {g : Rat} (h : g ≠ 0) : perM g = sg g / g := by
  unfold perM sg
  by_cases z : g < 0
  · rw [if_pos ((one_div_neg h).mpr z), if_pos z, Rat.div_def, Rat.div_def, Rat.one_mul]
    grind
  · rw [if_neg (fun q => z ((one_div_neg h).mp q)), if_neg z]
theorem sg_sq (g : Rat) : sg g * sg g = 1 := by
  unfold sg
  split <;> grind
theorem div_per {g x : Rat} (h : g ≠ 0) : x / perM g = sg g * g * x := by
  have hp := per_ne h
  have e : perM g * (sg g * g) = 1 := by
    rw [per_eq h]
    have : sg g / g * g = sg g := Rat.div_mul_cancel h
    have s := sg_sq g
    generalize sg g / g = y at this ⊢
    grind
  have : x / perM g * perM g = x := Rat.div_mul_cancel hp
  generalize x / perM g = y at this ⊢
  rw [← this]
  grind
theorem place {A g b : Rat} (h : g ≠ 0) : ∃ N : Int, ∀ b : Rat, (b - firstM A g) / perM g = sg g * (A + g * b) + (N : Rat) := by
  refine ⟨Rat.floor ((-A) / g / perM g), fun b => ?_⟩
  have e1 : (-A) / g / perM g = -(sg g * A) := by
    rw [div_per h]
    have : (-A) / g * g = -A := Rat.div_mul_cancel h
    generalize (-A) / g = y at this ⊢
    grind
  have hp := per_ne h
  have e2 : (b - firstM A g) / perM g = b / perM g - rest ((-A) / g / perM g) := by
    unfold firstM
    generalize rest ((-A) / g / perM g) = r
    rw [Rat.div_def, Rat.div_def]
    have hi := Rat.mul_inv_cancel _ hp
    generalize (perM g)⁻¹ = y at hi ⊢
    have : (b - r * perM g) * y = b * y - r * (perM g * y) := by grind
    rw [this, hi, Rat.mul_one]
  rw [e2, div_per h]
  unfold rest
  rw [e1]
  generalize ((Rat.floor (-(sg g * A)) : Int) : Rat) = N
  grind
theorem sg_mul_pos {g : Rat} (h : g ≠ 0) : 0 < sg g * g := by
  unfold sg
  split
  · grind
  · grind
theorem cnt_eq {A g b e : Rat} (h : g ≠ 0) (hb : b ≤ e) : cntM A g b e = CM A g e - CM A g b := by
  unfold cntM numsM
  by_cases hlt : b < e
  · rw [if_pos hlt]
    obtain ⟨N, hN⟩ := place (A := A) (b := b) h
    rw [hN, hN, ceil_add, ceil_add]
    unfold CM
    omega
  · rw [if_neg hlt]
    have : b = e := by grind
    rw [this]
    simp
theorem CM_mono {A g b e : Rat} (h : g ≠ 0) (hb : b ≤ e) : CM A g b ≤ CM A g e := by
  refine ceil_mono ?_
  have h1 := sg_mul_pos h
  have h2 := Rat.mul_le_mul_of_nonneg_left hb (Rat.le_of_lt h1)
  grind
theorem sg_neg {g : Rat} (h : g ≠ 0) : sg (-g) = -sg g := by
  unfold sg
  by_cases z : g < 0
  · rw [if_pos z, if_neg (by grind), Rat.neg_neg]
  · rw [if_neg z, if_pos (by grind)]
theorem CM_swap {A g m : Rat} (h : g ≠ 0) : CM (-A) (-g) m = CM A g m := by
  unfold CM
  rw [sg_neg h]
  congr 1
  grind
theorem CM_shift {A g m : Rat} : ∃ n : Int, ∀ m : Rat, CM (A - 1) g m = CM A g m + n := by
  refine ⟨if g < 0 then 1 else -1, fun m => ?_⟩
  unfold CM
  rw [← ceil_add]
  congr 1
  unfold sg
  split
  · show -1 * (A - 1 + g * m) = -1 * (A + g * m) + ((1 : Int) : Rat)
    have : ((1 : Int) : Rat) = 1 := rfl
    rw [this]
    grind
  · show 1 * (A - 1 + g * m) = 1 * (A + g * m) + ((-1 : Int) : Rat)
    have : ((-1 : Int) : Rat) = -1 := rfl
    rw [this]
    grind
theorem due_eq {A g b e : Rat} (h : g ≠ 0) : dueM (A + g * b) (A + g * e) (sgn g) = CM A g e - CM A g b := by
  unfold dueM CM
  by_cases z : g < 0
  · have h1 : ¬ 0 < sgn g := fun q => by
      have := sgn_pos.mp q
      grind
    rw [if_neg h1]
    unfold sg ceilM
    rw [if_pos z]
    have e1 : ∀ x : Rat, -(-1 * x) = x := fun x => by grind
    rw [e1, e1]
    omega
  · have h1 : 0 < sgn g := sgn_pos.mpr (by grind)
    rw [if_pos h1]
    unfold sg ceilM
    rw [if_neg z]
    have e1 : ∀ x : Rat, -(1 * x) = -x := fun x => by grind
    rw [e1, e1]
    omega
/-! ### whole or not -/
theorem rest_zero {A : Rat} : rest A = 0 ↔ A.den = 1 := by
  unfold rest
  constructor
  · intro z
    have : A = (A.floor : Rat) := by grind
    rw [this]
    rfl
  · intro z
    have : A = (A.num : Rat) := by
      have h1 := rq_self A
      rw [z] at h1
      have h2 := rq_int A.num
      exact h1.symm.trans h2
    rw [this, Rat.floor_intCast]
    exact Rat.sub_self
/-! ### bounds -/
theorem bd_per {g : Rat} (h : g ≠ 0) {n : Nat} (b : Bd n g) (hn : 0 < n) : Bd (n + 1) (perM g) := by
  have h1 : Bd 1 ((1 : Int) : Rat) := bd_int (by decide) (by decide)
  have h2 : Bd (1 + n) (1 / g) := bd_div h h1 b
  have h2 : Bd (n + 1) (1 / g) := h2.mono (by omega)
  unfold perM
  split
  · exact bd_neg h2
  · exact h2
theorem bd_ceil {n : Nat} {q : Rat} (b : Bd n q) : (ceilM q).natAbs < 2 ^ (n + 1) := by
  unfold ceilM
  rw [Rat.floor_def]
  have h1 : (-q).num.natAbs = q.num.natAbs := by
    show (-q.num).natAbs = _
    exact Int.natAbs_neg _
  have h2 := b.1
  have hd : (0 : Int) < ((-q).den : Int) := by have := (-q).den_pos; omega
  have h3 : ((-q).num / ((-q).den : Int)).natAbs ≤ (-q).num.natAbs + 1 := by
    have e1 := Int.ediv_mul_le (-q).num (show ((-q).den : Int) ≠ 0 by omega)
    have e2 := Int.lt_ediv_add_one_mul_self (-q).num hd
    generalize (-q).num / ((-q).den : Int) = f at e1 e2
    generalize ((-q).den : Int) = d at e1 e2 hd
    generalize (-q).num = x at e1 e2
    have e3 : f * d ≤ x := e1
    have e4 : x < (f + 1) * d := e2
    rcases (show f < 0 ∨ 0 ≤ f by omega) with hf | hf
    · have : (f + 1) * d ≤ (f + 1) * 1 := Int.mul_le_mul_of_nonpos_left (by omega) (by omega)
      omega
    · have : f * 1 ≤ f * d := Int.mul_le_mul_of_nonneg_left (by omega) hf
      omega
  rw [Int.natAbs_neg, Nat.pow_succ]
  have hp : 0 < 2 ^ n := Nat.two_pow_pos n
  omega
structure CtOk (A g b : Rat) : Prop where
  m : MeetOk A g
  f : Ok (firstM A g)
  n : NumOk (firstM A g) (perM g) b
  q : Bd 3000 ((b - firstM A g) / perM g)
theorem ct_ok {A g b : Rat} (hA : Bd 100 A) (hg : Bd 330 g) (h : g ≠ 0) (hb : Bd 1500 b) : CtOk A g b := by
  have p := bd_per h hg (by decide)
  have hp := per_ne h
  have q1 : Bd 430 ((-A) / g) := (bd_div h (bd_neg hA) hg).mono (by decide)
  have q2 : Bd 761 ((-A) / g / perM g) := (bd_div hp q1 p).mono (by decide)
  have f : Bd 1092 (firstM A g) := (bd_mul (bd_rest q2) p).mono (by decide)
  have s : Bd 2593 (b - firstM A g) := (bd_sub hb f).mono (by decide)
  have q : Bd 3000 ((b - firstM A g) / perM g) := (bd_div hp s p).mono (by decide)
  exact ⟨⟨hA.mono (by decide), hg.mono (by decide), q1.mono (by decide), p.mono (by decide), q2.mono (by decide)⟩, f.mono (by decide), ⟨hb.mono (by decide), s.mono (by decide), q.mono (by decide)⟩, q⟩
theorem ks_ok {A g b e : Rat} (hA : Bd 100 A) (hg : Bd 330 g) (h : g ≠ 0) (hb : Bd 1500 b) (he : Bd 1500 e) {k : Int} (h1 : (numsM (firstM A g) (perM g) b e).1 ≤ k) (h2 : k < (numsM (firstM A g) (perM g) b e).2) :
    k.natAbs < 2 ^ 3900 ∧ Ok (perM g * (k : Rat)) := by
  have b1 := bd_ceil (ct_ok hA hg h hb).q
  have b2 := bd_ceil (ct_ok hA hg h he).q
  have hk : k.natAbs < 2 ^ 3001 := by
    unfold numsM at h1 h2
    by_cases hlt : b < e
    · rw [if_pos hlt] at h1 h2
      have h1 : ceilM ((b - firstM A g) / perM g) ≤ k := h1
      have h2 : k < ceilM ((e - firstM A g) / perM g) := h2
      generalize (2 : Nat) ^ (3000 + 1) = z at b1 b2 ⊢
      omega
    · rw [if_neg hlt] at h1 h2
      have h1 : (0 : Int) ≤ k := h1
      have h2 : k < 0 := h2
      omega
  refine ⟨Nat.lt_of_lt_of_le hk (pow_le (by decide)), ?_⟩
  exact (bd_mul (bd_per h hg (by decide)) (bd_int (by decide) hk)).mono (by decide)
end Ty
set_option Elab.async false
set_option linter.all false
set_option maxRecDepth 100000
set_option maxHeartbeats 4000000
/-! _law_part_right. -/
namespace Ty
open PySem PySem.Spec PyProof.Rows L2 C8
/-- two hands of a Work: their begins, their speeds -/
def LeadD (K : PySem.W.Frag) (H : Hp) (p : Addr) (one other : Str) (b1 b2 v1 v2 : Rat) : Prop := ∃ (rs : List RowM) (kn : Kn) (a1 a2 : Str) (o1 o2 : Option Rat), WorkAt K H p rs kn ∧ handM rs one = some (a1, o1) ∧ handM rs other = some (a2, o2) ∧
  getT kn a1 = some (some v1) ∧ getT kn a2 = some (some v2) ∧ o1.getD 0 = b1 ∧ o2.getD 0 = b2
section
variable {K : PySem.W.Frag} {H H' : Hp} {p o : Addr} {one other : Str} {b1 b2 v1 v2 off : Rat}
theorem LeadD.mono (h : LeadD K H p one other b1 b2 v1 v2) (s : Same H H') : LeadD K H' p one other b1 b2 v1 v2 := by
  obtain ⟨rs, kn, a1, a2, o1, o2, h1, h2⟩ := h
  exact ⟨rs, kn, a1, a2, o1, o2, h1.mono s, h2⟩
theorem LeadD.swap (h : LeadD K H p one other b1 b2 v1 v2) : LeadD K H p other one b2 b1 v2 v1 := by
  obtain ⟨rs, kn, a1, a2, o1, o2, h1, h2, h3, h4, h5, h6, h7⟩ := h
  exact ⟨rs, kn, a2, a1, o2, o1, h1, h3, h2, h5, h4, h7, h6⟩
theorem LeadD.lead (h : LeadD K H p one other b1 b2 v1 v2) (R : RatAt K H o off) (c1 : Bd 7 b1) (c2 : Bd 7 b2) (c3 : Bd 43 off) (c4 : Bd 161 v1) (c5 : Bd 161 v2) : LeadIn K H p o one other (b2 - b1 - off) (v2 - v1) := by
  obtain ⟨rs, kn, a1, a2, o1, o2, h1, h2, h3, h4, h5, rfl, rfl⟩ := h
  exact ⟨rs, kn, a1, a2, o1, o2, v1, v2, off, h1, h2, h3, h4, h5, R, c1.mono (by decide), c2.mono (by decide), (bd_sub c2 c1).mono (by decide), c3.mono (by decide), c4.mono (by decide), c5.mono (by decide), rfl, rfl⟩
end
theorem bdA {b1 b2 off : Rat} (c1 : Bd 7 b1) (c2 : Bd 7 b2) (c3 : Bd 43 off) : Bd 100 (b2 - b1 - off) := (bd_sub (bd_sub c2 c1) c3).mono (by decide)
def spPart (K : PySem.W.Frag) : Sp := fun vs H Q _ => ∃ (p pr po pb pe : Addr) (one other : Str) (b1 b2 v1 v2 off b e : Rat) (due : Int), vs = [.ref p, .ref pr, .ref po, .ref pb, .ref pe, .int due] ∧ H pr = some (.lst [.str one, .str other]) ∧ LeadD K H p one other b1 b2 v1 v2 ∧
  RatAt K H po off ∧ RatAt K H pb b ∧ RatAt K H pe e ∧ Bd 7 b1 ∧ Bd 7 b2 ∧ Bd 41 off ∧ Bd 161 v1 ∧ Bd 161 v2 ∧ v2 - v1 ≠ 0 ∧ Bd 330 (v2 - v1) ∧ Bd 1500 b ∧ Bd 1500 e ∧ b ≤ e ∧ due = CM (b2 - b1 - off) (v2 - v1) e - CM (b2 - b1 - off) (v2 - v1) b ∧
  ∀ H', Same H H' → Q (.bl true) H'
section
variable {P : Program} {w : World} {K : PySem.W.Frag} {mg : Str → Option Value} {base : Heap} {fd : FuncData}
theorem sc_Dlaw_part_right : FnScope ["_law_work", "_law_pair", "_law_off", "_law_begin", "_law_end", "_law_due_here", "_law_one", "_law_other"] ["_law_work", "_law_pair", "_law_off", "_law_begin", "_law_end", "_law_due_here"] (defScope sDlaw_part_right) := C8.fnScope_by (by decide +kernel)
theorem ok_law_part_right (F : FDlaw_part_right K fd) (T : Tx K mg) : FnOk P w K mg base C8.CX0 10 (He.ga K "_law_part_right") fd ["_law_work", "_law_pair", "_law_off", "_law_begin", "_law_end", "_law_due_here"] (spPart K) := by
  refine FunD.ok F sc_Dlaw_part_right (fun vs H Q E h => ?_) (fun cdv A outer s H vs Q E hr h => ?_)
  · obtain ⟨_, _, _, _, _, _, _, _, _, _, _, _, _, _, _, rfl, _⟩ := h
    rfl
  · obtain ⟨p, pr, po, pb, pe, one, other, b1, b2, v1, v2, off, b, e, due, rfl, hpr, hL, Ro, Rb, Re, c1, c2, c3, c4, c5, gn, cg, cb, ce, hbe, hdue, kk⟩ := h
    refine ⟨_, PSs.nox (pss_cons (ps_asg (pv 1) (pg_lst rfl (pgs_cons (pg_name (i := 6) sc_Dlaw_part_right.nd rfl (Or.inl rfl)) (pgs_cons (pg_name (i := 7) sc_Dlaw_part_right.nd rfl (Or.inl rfl)) pgs_nil)))) (pss_cons (ps_if (pt_cmpR op_ne (pe_c (cal_count_of T) hr (by decide) rfl (pa_cons (pv 0) (pa_cons (pv 6) (pa_cons (pv 7) (pa_cons (pv 2) (pa_cons (pv 3) (pa_cons (pv 4) pa_nil))))))) (pv 5) (nomark _)) (pss_one (ps_ret pe_bl)) pss_nil) (pss_cons (ps_if (pt_cmpR op_ne (pe_c (cal_count_of T) hr (by decide) rfl (pa_cons (pv 0) (pa_cons (pv 7) (pa_cons (pv 6) (pa_cons (pe_mt0 (met_turned T) hr (by decide) (pv 2)) (pa_cons (pv 3) (pa_cons (pv 4) pa_nil))))))) (pv 5) (nomark _)) (pss_one (ps_ret pe_bl)) pss_nil) (pss_cons (ps_if (pt_cmpR op_ne (pe_c (cal_count_of T) hr (by decide) rfl (pa_cons (pv 0) (pa_cons (pv 6) (pa_cons (pv 7) (pa_cons (pe_mt (met_plus T) hr (by decide) (pv 2) (pa_cons (pe_mk (mak_Ratio_1 T) hr (by decide) rfl (pa_cons pe_int pa_nil)) pa_nil)) (pa_cons (pv 3) (pa_cons (pv 4) pa_nil))))))) (pv 5) (nomark _)) (pss_one (ps_ret pe_bl)) pss_nil) (pss_one (ps_ret (pe_or (pe_cmpR op_gt (pv 5) pe_int (nomark _)) (pe_one (pe_cmpR op_eq (pe_callB call_len (by rfl) T.b_len (by decide +kernel) (pa_cons (pe_c (cal_meetings T) hr (by decide) rfl (pa_cons (pv 0) (pa_cons (pv 6) (pa_cons (pv 7) (pa_cons (pv 2) (pa_cons (pv 3) (pa_cons (pv 4) pa_nil))))))) pa_nil)) (pv 5) (nomark _)))))))))), ?_⟩
    have c3' : Bd 43 off := c3.mono (by decide)
    have cA := bdA c1 c2 c3'
    have t1 := ct_ok cA cg gn cb
    have t2 := ct_ok cA cg gn ce
    have hc := cnt_eq (A := b2 - b1 - off) gn hbe
    have hmono := CM_mono (A := b2 - b1 - off) gn hbe
    refine ⟨_, rfl, pr, _, rfl, SqL.of hpr, rfl, _, _, rfl, _, _, rfl, rfl, ?_⟩
    refine ⟨_, rfl, _, rfl, _, rfl, _, rfl, _, rfl, _, rfl, p, po, pb, pe, one, other, _, _, b, e, rfl, hL.lead Ro c1 c2 c3' c4 c5, gn, t1.m, Rb, Re, t1.f, t1.n, t2.n, fun H1 s1 => ?_⟩
    have hc' : (numsM (firstM (b2 - b1 - off) (v2 - v1)) (perM (v2 - v1)) b e).2 - (numsM (firstM (b2 - b1 - off) (v2 - v1)) (perM (v2 - v1)) b e).1 = due := by
      have : cntM (b2 - b1 - off) (v2 - v1) b e = due := by rw [hc, hdue]
      exact this
    rw [hc']
    refine ⟨_, rfl, rfl, _, rfl, ?_⟩
    refine ite2 (fun h => absurd (show (!decide (V.int due = V.int due)) = true from h) (by simp)) (fun _ => ?_)
    -- the other way round
    have Ro1 := Ro.mono s1
    obtain ⟨do1, ho1⟩ := id Ro1
    refine ⟨_, rfl, _, rfl, _, rfl, _, rfl, po, do1, _, rfl, ho1, ratF_no _ (by decide +kernel) (by decide +kernel), po, off, rfl, Ro1, c3.mono (by decide), fun r2 H2 s2 R2 => ?_⟩
    have s02 : Same H H2 := Same.trans s1 s2
    have c3n : Bd 43 (-off) := bd_neg c3'
    have gn' : v1 - v2 ≠ 0 := fun z => gn (by grind)
    have eg : v1 - v2 = -(v2 - v1) := by grind
    have eA : b1 - b2 - -off = -(b2 - b1 - off) := by grind
    have cg' : Bd 330 (v1 - v2) := by
      rw [eg]
      exact bd_neg cg
    have cA' := bdA c2 c1 c3n
    have t3 := ct_ok cA' cg' gn' cb
    have t4 := ct_ok cA' cg' gn' ce
    refine ⟨_, rfl, _, rfl, p, r2, pb, pe, other, one, _, _, b, e, rfl, ((hL.mono s02).swap).lead R2 c2 c1 c3n c5 c4, gn', t3.m, Rb.mono s02, Re.mono s02, t3.f, t3.n, t4.n, fun H3 s3 => ?_⟩
    have hd' : (numsM (firstM (b1 - b2 - -off) (v1 - v2)) (perM (v1 - v2)) b e).2 - (numsM (firstM (b1 - b2 - -off) (v1 - v2)) (perM (v1 - v2)) b e).1 = due := by
      have : cntM (b1 - b2 - -off) (v1 - v2) b e = due := by rw [cnt_eq gn' hbe, eA, eg, CM_swap gn, CM_swap gn, hdue]
      exact this
    rw [hd']
    refine ⟨_, rfl, rfl, _, rfl, ?_⟩
    refine ite2 (fun h => absurd (show (!decide (V.int due = V.int due)) = true from h) (by simp)) (fun _ => ?_)
    -- one turn further
    have s03 : Same H H3 := Same.trans s02 s3
    have Ro3 := Ro.mono s03
    obtain ⟨do3, ho3⟩ := id Ro3
    refine ⟨_, rfl, _, rfl, _, rfl, _, rfl, po, do3, _, rfl, ho3, ratF_no _ (by decide +kernel) (by decide +kernel), ?_⟩
    refine rat_new (by decide) o8 o8 fun r4 H4 s4 R4 => ?_
    rw [rq_int] at R4
    have s04 : Same H H4 := Same.trans s03 s4
    refine ⟨po, r4, off, _, rfl, Ro.mono s04, R4, ⟨c3.mono (by decide), bd_int (by decide) (Nat.one_lt_two_pow (by decide))⟩, fun r5 H5 s5 R5 => ?_⟩
    have R5 : RatAt K H5 r5 (off + ((1 : Int) : Rat)) := R5
    have s05 : Same H H5 := Same.trans s04 s5
    have c3o : Bd 43 (off + ((1 : Int) : Rat)) := (bd_add c3 (bd_int (n := 1) (by decide) (by decide))).mono (by decide)
    have eA1 : b2 - b1 - (off + ((1 : Int) : Rat)) = b2 - b1 - off - 1 := by
      have : ((1 : Int) : Rat) = 1 := rfl
      rw [this]
      grind
    have cA1 := bdA c1 c2 c3o
    have t5 := ct_ok cA1 cg gn cb
    have t6 := ct_ok cA1 cg gn ce
    refine ⟨_, rfl, _, rfl, p, r5, pb, pe, one, other, _, _, b, e, rfl, (hL.mono s05).lead R5 c1 c2 c3o c4 c5, gn, t5.m, Rb.mono s05, Re.mono s05, t5.f, t5.n, t6.n, fun H6 s6 => ?_⟩
    have hd1 : (numsM (firstM (b2 - b1 - (off + ((1 : Int) : Rat))) (v2 - v1)) (perM (v2 - v1)) b e).2 - (numsM (firstM (b2 - b1 - (off + ((1 : Int) : Rat))) (v2 - v1)) (perM (v2 - v1)) b e).1 = due := by
      have : cntM (b2 - b1 - (off + ((1 : Int) : Rat))) (v2 - v1) b e = due := by
        obtain ⟨n, hn⟩ := CM_shift (A := b2 - b1 - off) (g := v2 - v1) (m := b)
        rw [cnt_eq gn hbe, eA1, hn, hn, hdue]
        omega
      exact this
    rw [hd1]
    refine ⟨_, rfl, rfl, _, rfl, ?_⟩
    refine ite2 (fun h => absurd (show (!decide (V.int due = V.int due)) = true from h) (by simp)) (fun _ => ?_)
    have s06 : Same H H6 := Same.trans s05 s6
    refine ⟨_, rfl, _, _, rfl, rfl, _, rfl, ?_⟩
    refine ite2 (fun _ => kk H6 s06) (fun h60 => ?_)
    have hle : due ≤ 60 := by
      have : ¬ decide (60 < due) = true := h60
      rw [decide_eq_true_eq] at this
      omega
    refine ⟨_, rfl, _, rfl, _, rfl, _, rfl, _, rfl, _, rfl, p, po, pb, pe, one, other, _, _, b, e, rfl, (hL.mono s06).lead (Ro.mono s06) c1 c2 c3' c4 c5, gn, t1.m, Rb.mono s06, Re.mono s06, t1.f, t1.n, t2.n, (by rw [hc']; exact hle), fun k h1 h2 => ks_ok cA cg gn cb ce h1 h2, fun l ys H7 s7 hl hy => ?_⟩
    rw [hc'] at hy
    refine ⟨_, ys.length, rfl, .inl ⟨ys, SqL.of hl, rfl⟩, _, rfl, rfl, ?_⟩
    have : decide (V.int ((ys.length : Nat) : Int) = V.int due) = true := by
      rw [decide_eq_true_eq, hy, Int.toNat_of_nonneg (by omega)]
    rw [this]
    exact kk H7 (Same.trans s06 s7)
theorem cal_law_part_right (T : Tx K mg) : Cal P w K mg base 10 "_law_part_right" (spPart K) [] := by
  obtain ⟨fd, F⟩ := T.f_Dlaw_part_right
  exact ⟨_, fd, _, _, ok_law_part_right F T, T.g_law_part_right, F.kp, bi_Dlaw_part_right F, .nil⟩
end
end Ty
set_option Elab.async false
set_option linter.all false
set_option maxRecDepth 100000
set_option maxHeartbeats 4000000
/-! found_of, count_of where the two hands stand still to each other: they may raise NoAsk. -/
namespace Ty
open PySem PySem.Spec PyProof.Rows L2 C8
section
variable {K : PySem.W.Frag} {mg : Str → Option Value}
theorem Tx.exc (T : Tx K mg) : PySem.W.excIn K (He.ga K "NoAsk") He.veBase "ValueError.__new__" = true ∧ PySem.W.keepIn K (.ref (He.ga K "NoAsk")) = true ∧ PySem.W.subIn K (.ref (He.ga K "NoAsk")) (.type "BaseException") = some true ∧
    PySem.W.typeIn K (.ref (He.ga K "NoAsk")) = some (.type "type") := He.exc_ok (T.c.fact 145)
theorem Tx.exm (T : Tx K mg) : PySem.W.exmOne K (.ref (He.ga K "NoAsk")) (.ref (He.ga K "WorkError")) = some true := He.exm_ok (T.c.fact 146)
theorem Tx.eb (T : Tx K mg) : ExcC K (He.ga K "NoAsk") ∧ (∀ d ∈ excL, PySem.W.kitOne K (.ref (He.ga K "NoAsk")) (.ref (He.ga K d)) = some (decide (("NoAsk" : Str) = d))) ∧ PySem.W.kitOne K (.type "NoneType") (.ref (He.ga K "NoAsk")) = some false := by
  obtain ⟨h1, h2, _, _, e⟩ := T.ex1
  unfold excB at e
  obtain ⟨a1, e⟩ := He.ba e
  obtain ⟨a2, e⟩ := He.ba e
  obtain ⟨a3, e⟩ := He.ba e
  obtain ⟨a4, e⟩ := He.ba e
  obtain ⟨a5, a6⟩ := He.ba e
  obtain ⟨b1, b2⟩ := He.ba a4
  refine ⟨⟨He.eqO_ok a1, He.eqO_ok a2, T.exc.2.2.1, of_decide_eq_true a3, He.eqO_ok b1, h1, h2, of_decide_eq_true b2⟩, fun d hd => of_decide_eq_true (List.all_eq_true.mp a5 d hd), of_decide_eq_true a6⟩
end
def spFoundZ (K : PySem.W.Frag) : Sp := fun vs H Q E => ∃ (p o : Addr) (one other : Str) (A : Rat), vs = [.ref p, .str one, .str other, .ref o] ∧ LeadIn K H p o one other A 0 ∧ Ok A ∧
  (rest A = 0 → ∀ H', Same H H' → E (.ref (He.ga K "NoAsk")) none H') ∧ (rest A ≠ 0 → ∀ H', Same H H' → Q .non H')
def spCountZ (K : PySem.W.Frag) : Sp := fun vs H Q E => ∃ (p o pb pe : Addr) (one other : Str) (A : Rat), vs = [.ref p, .str one, .str other, .ref o, .ref pb, .ref pe] ∧ LeadIn K H p o one other A 0 ∧ Ok A ∧
  (rest A = 0 → ∀ H', Same H H' → E (.ref (He.ga K "NoAsk")) none H') ∧ (rest A ≠ 0 → ∀ H', Same H H' → Q (.int 0) H')
section
variable {P : Program} {w : World} {K : PySem.W.Frag} {mg : Str → Option Value} {base : Heap} {fd : FuncData}
theorem ok_found_ofZ (F : FDfound_of K fd) (T : Tx K mg) : FnOk P w K mg base (L2.CX P w) 8 (He.ga K "found_of") fd ["work", "one", "other", "off"] (spFoundZ K) := by
  refine FunD.ok F sc_Dfound_of (fun vs H Q E h => ?_) (fun cdv A outer s H vs Q E hr h => ?_)
  · obtain ⟨_, _, _, _, _, rfl, _⟩ := h
    rfl
  · obtain ⟨p, o, one, other, AA, rfl, hL, oA, ke, kn⟩ := h
    refine ⟨_, (pss_cons (ps_set (i := 4) sc_Dfound_of.nd rfl (Or.inl rfl) (pe_c (cal_meeting T) hr (by decide) rfl (pa_cons (pv 0) (pa_cons (pv 1) (pa_cons (pv 2) (pa_cons (pv 3) pa_nil)))))) (pss_cons (ps_if (PW.pt (pw_and (pt_cmp (pc_notN (pv 4))) (pw_and1 (pt_cmpR op_eq (pe_mt0 (met_sign T) hr (by decide) (pe_ix ix_tup (pv 4) pe_int (fun _ _ => rfl))) pe_int (nomark _))))) (pss_one (ps_raise (X := cxOf (L2.CX P w) P w K mg base ["work", "one", "other", "off", "found"] "found_of" (defScope sDfound_of) (He.ga K "found_of") cdv A outer s H E) rfl (takes_of rfl rfl rfl rfl) (pmk_own PySem.F.excBase_ValueError T.exc.1 T.g_NoAsk T.exc.2.1 (raises_own T.exc.2.2.1 T.exc.2.2.2) rfl))) pss_nil) (pss_one (ps_ret (pv 4))))), ?_⟩
    have z0 : Ok (0 : Rat) := ok0
    refine ⟨_, rfl, _, rfl, _, rfl, _, rfl, p, o, one, other, AA, 0, rfl, hL, oA, z0, fun h => absurd rfl h, fun _ => ⟨fun hz t rf rp H1 s1 ht Rf Rp => ?_, fun hz H1 s1 => ?_⟩⟩
    · obtain ⟨dp, ep⟩ := id Rp
      refine ⟨_, rfl, _, rfl, ?_⟩
      refine ite2 (fun _ => ?_) (fun h => absurd (show (!decide (V.ref t = V.non)) = true by simp) h)
      refine ⟨_, rfl, t, _, 1, .ref rp, rfl, rfl, SqT.of ht, at_of (j := 1) rfl rfl, rp, dp, _, rfl, ep, ratF_no _ (by decide +kernel) (by decide +kernel), rp, _, rfl, Rp, z0, rfl, _, rfl, ?_⟩
      refine ite2 (fun _ => ?_) (fun h => absurd (decide_eq_true (by rw [sgn_zero.mpr rfl])) h)
      exact ke hz H1 s1
    · refine ⟨_, rfl, _, rfl, ?_⟩
      refine ite2 (fun h => by cases h) (fun _ => ?_)
      refine ite2 (fun h => by cases h) (fun _ => ?_)
      exact ⟨_, rfl, kn hz H1 s1⟩
theorem ok_count_ofZ (F : FDcount_of K fd) (T : Tx K mg) : FnOk P w K mg base (L2.CX P w) 9 (He.ga K "count_of") fd ["work", "one", "other", "off", "begin", "end"] (spCountZ K) := by
  obtain ⟨fd2, F2⟩ := T.f_Dfound_of
  refine FunD.ok F sc_Dcount_of (fun vs H Q E h => ?_) (fun cdv A outer s H vs Q E hr h => ?_)
  · obtain ⟨_, _, _, _, _, _, _, rfl, _⟩ := h
    rfl
  · obtain ⟨p, o, pb, pe, one, other, AA, rfl, hL, oA, ke, kn⟩ := h
    refine ⟨_, (pss_cons (ps_set (i := 6) sc_Dcount_of.nd rfl (Or.inl rfl) (pe_call (ok_found_ofZ F2 T) (hr.mono (by decide)) rfl T.g_found_of F2.kp (bi_Dfound_of F2) .nil (passes_call (takes_of rfl rfl rfl rfl) (fun _ _ _ _ h => h)) (pa_cons (pv 0) (pa_cons (pv 1) (pa_cons (pv 2) (pa_cons (pv 3) pa_nil)))))) (pss_cons (ps_if (pt_cmp (pc_isN (pv 6))) (pss_one (ps_ret pe_int)) pss_nil) (pss_cons (ps_asg (pe_c (cal_numbers_of T) hr (by decide) rfl (pa_cons (pe_ix ix_tup (pv 6) pe_int (fun _ _ => rfl)) (pa_cons (pe_ix ix_tup (pv 6) pe_int (fun _ _ => rfl)) (pa_cons (pv 4) (pa_cons (pv 5) pa_nil))))) (pg_tup rfl (pgs_cons (pg_name (i := 7) sc_Dcount_of.nd rfl (Or.inl rfl)) (pgs_cons (pg_name (i := 8) sc_Dcount_of.nd rfl (Or.inl rfl)) pgs_nil)))) (pss_one (ps_ret (pe_op op_sub (pv 8) (pv 7))))))), ?_⟩
    refine ⟨_, rfl, _, rfl, _, rfl, _, rfl, p, o, one, other, AA, rfl, hL, oA, ke, fun hz H1 s1 => ?_⟩
    refine ⟨_, rfl, _, rfl, ?_⟩
    refine ite2 (fun _ => ?_) (fun h => absurd (decide_eq_true rfl) h)
    exact kn hz H1 s1
end
end Ty
set_option Elab.async false
set_option linter.all false
set_option maxRecDepth 100000
set_option maxHeartbeats 4000000
/-! A try whose clause stores the exception, and what comes behind it; _law_no_ask. -/
namespace Ty
open PySem PySem.Spec PyProof.Rows L2 C8
section
variable {X : Cx} {pins : List (Addr × Obj)} {σ : L2.St} {H : Hp} {s : Shared}
theorem inv_drop {q : Addr × Obj} (I : Inv X (q :: pins) σ H s) : Inv X pins σ H s :=
  ⟨I.ok, I.os, I.bare, I.base, I.loc, I.cell, I.free, I.freeC, fun p hp => I.pin p (by
    rcases List.mem_append.mp hp with h | h
    · exact List.mem_append_left _ h
    · exact List.mem_append_right _ (List.mem_cons_of_mem _ h)), I.hok, I.len⟩
/-- the suite is left, the exception stays known -/
theorem inv_leave {a : Addr} {q : Addr × Obj} {pn' : List (Addr × Obj)} (I : Inv (X.suite a (q :: (X.pn ++ pins))) pn' σ H s) (ok : X.Ok) : Inv X (q :: pins) σ H s :=
  ⟨ok, I.os, I.bare, I.base, I.loc, I.cell, I.free, I.freeC, fun p hp => I.pin p (by
    rcases List.mem_append.mp hp with h | h
    · exact List.mem_append_left _ (List.mem_cons_of_mem _ (List.mem_append_left _ h))
    · rcases List.mem_cons.mp h with h | h
      · rw [h]
        exact List.mem_append_left _ List.mem_cons_self
      · exact List.mem_append_left _ (List.mem_cons_of_mem _ (List.mem_append_right _ h))), I.hok, I.len⟩
end
/-- what the clause wishes of an exception of the body; u2: what comes behind, the exception known -/
def wThen (K : PySem.W.Frag) (len : Nat) (c : Value) (i : Nat) (ts : Addr → Value → Option Addr → TS) (u2 : Addr → Value → Option Addr → TS) (Wout : WX) (D : Ends) : WX := fun cls d σ H =>
  ∃ b, PySem.W.exmOne K cls c = some b ∧ (b = true → σ.length = len → ∀ a, H a = none → ts a cls d { nx := fun σ' H' => u2 a cls d D (σ'.set i none) H', rt := fun _ _ => False, bk := fun _ _ => False, ct := fun _ _ => False } (σ.set i (some (.ref a))) H) ∧ (b = false → Wout cls d σ H)
section
variable {X : Cx} {x n : Str} {c : Value} {i : Nat} {body suite rest : List Stmt} {b₀ : Stmt} {np pos pos' : Pos} {tb : WX → TS} {ts u2 : Addr → Value → Option Addr → TS} {u1 : TS} {Wout : WX}
theorem pss_try_then (hs : X.stack = X.env :: X.outer) (hf : X.env.frame = some X.env.locals) (hN : X.N.Nodup) (hi : X.N[i]? = some n) (hln : X.env.kindOf n = some .local) (hc : Names X x c) (tk : Takes X Wout)
    (hb : ∀ (W : WX) (pn : List (Addr × Obj)) (xe : Value → Shared → Prop), Takes (X.tr pn xe) W → PassesOwn (model X.prog X.w) X.A X.env xe → PSs (X.tr pn xe) body (tb W))
    (hsu : ∀ (a : Addr) (oe : Obj) (cls : Value) (d : Option Addr) (pn : List (Addr × Obj)), Zc cls d oe → (∃ vs, oe.data = .fields vs) → PSs (X.suite a ((a, oe) :: pn)) (b₀ :: suite) (ts a cls d))
    (h1 : PSs X rest u1) (h2 : ∀ (a : Addr) (oe : Obj) (cls : Value) (d : Option Addr) (pn : List (Addr × Obj)), (a, oe) ∈ pn → Zc cls d oe → (∃ vs, oe.data = .fields vs) → PSs (X.tr pn X.xe) rest (u2 a cls d)) :
    PSs X (.Try body [.ExceptHandler (some (.Name x np)) (some n) (b₀ :: suite) pos'] [] [] pos :: rest) (fun D σ H => tb (wThen X.K X.N.length c i ts u2 Wout D) { D with nx := u1 D } σ H) := by
  refine ⟨fun pins s σ H D I h => ?_⟩
  have ok := I.ok
  have hfr : X.A.frames = some (X.env :: X.outer) := by rw [ok.frames, hs]
  have hloc : Loc X.env.scope n := .inl hln
  let P : Flow → Shared → Prop := fun f s' => match f with
    | .next => (∃ σ' H', Inv X pins σ' H' s' ∧ u1 D σ' H') ∨ ∃ a oe cls d σ' H', Inv X ((a, oe) :: pins) σ' H' s' ∧ Zc cls d oe ∧ (∃ vs, oe.data = .fields vs) ∧ u2 a cls d D σ' H'
    | .brk => SP X pins D .brk s'
    | .cont => SP X pins D .cont s'
    | .ret u => SP X pins D (.ret u) s'
  have main : wpAny (model X.prog X.w) X.A (exec (.Try body [.ExceptHandler (some (.Name x np)) (some n) (b₀ :: suite) pos'] [] [] pos) X.env) P X.xe s := by
    refine wpAny_Try_except ?_
    refine wpAny_mono ((hb (wThen X.K X.N.length c i ts u2 Wout D) (X.pn ++ pins) (fun e s₁ => wpAny (model X.prog X.w) X.A (noteFrame e X.env) (fun _ s₂ => wpAny (model X.prog X.w) X.A (setFlight e none) (fun _ s₃ =>
      wpAny (model X.prog X.w) X.A (handleBy e X.env [.ExceptHandler (some (.Name x np)) (some n) (b₀ :: suite) pos']) P X.xe s₃) X.xe s₂) X.xe s₁) (fun u s' xx => ?_) PassesOwn.looking).run [] s σ H { D with nx := u1 D } (I.toTry _) h) (fun f s1 hsp => ?_) (fun e s1 he => he)
    · obtain ⟨a, B, sI, pins', σ', H', cls, d, rfl, J', nb, up, sky, na, os, ag, b, hb1, hyes, hno⟩ := xx
      have J : Inv X pins σ' H' sI := J'.ofTry ok
      have sky' : Sky B (X.env :: X.outer) a (Zc cls d) X.env.locals s'.heap := by rw [← hs]; exact sky
      show wpAny _ X.A (noteFrame (.ref a) X.env) _ _ _
      refine Sky.land Zc.steady hfr hf sky' fun h3 fl3 up3 => ?_
      have J3 : Inv X pins σ' H' { s' with heap := h3 } := J.landed nb fl3.1 (up.trans up3) os ag
      obtain ⟨oe3, vs3, he3, hz3, hd3⟩ := fl3.there
      have nfr : a ∉ frs (X.env :: X.outer) := fun hm => by
        obtain ⟨_, o', e', hnf⟩ := fl3.2.2.1.mem hm
        rw [he3] at e'
        cases e'
        exact hnf _ hd3
      have nL : a ≠ X.env.locals := fun z => nfr (List.mem_filterMap.mpr ⟨X.env, List.mem_cons_self, by rw [hf, z]⟩)
      have nF : a ∉ X.fs := fun hm => by
        obtain ⟨e, he, q⟩ := List.mem_filterMap.mp hm
        exact nfr (List.mem_filterMap.mpr ⟨e, List.mem_cons_of_mem _ he, q⟩)
      have S3 := J3.suite he3 hd3 na nL nF
      refine wpAny_handleBy_cons (codeAny_handlers_test ?_) (by intro q; cases q)
      have LT : PySem.W.Looks (model X.prog X.w) h3 (typeOf (.ref a)) cls := fun A Q E s k q => wpAny_typeOf_ref (k _ _ he3) (by rw [hz3.1]; exact q)
      have LM := PySem.W.exm_one (M := model X.prog X.w) (J3.kIn) LT hb1
      have test : ∀ {Q : Value → Shared → Prop} {E : Value → Shared → Prop}, Q c { s' with heap := h3 } → wpAny (model X.prog X.w) (X.A.mark (some (.ref a))) (eval (.Name x np) X.env) Q E { s' with heap := h3 } := fun {Q E} q => by
        obtain ⟨hg, hdbg, hm | ⟨hm, hv, hnn⟩⟩ := hc
        · exact ld_glob (X := X.suite a ((a, oe3) :: (X.pn ++ pins))) S3 hg hm q hdbg
        · exact ld_blt (X := X.suite a ((a, oe3) :: (X.pn ++ pins))) S3 hg hm hv q hnn hdbg
      refine test (LM.here ?_)
      cases b with
      | true =>
        refine codeAny_handlers_suite_as ?_
        refine HandSPX.lands_againZ fl3 fun h4 fl4 up4 => ?_
        have J4 : Inv X pins σ' H' { s' with heap := h4 } := J.landed nb fl4.1 ((up.trans up3).trans up4) os ag
        obtain ⟨oe4, vs4, he4, hz4, hd4⟩ := fl4.there
        have S4 := J4.suite he4 hd4 na nL nF
        refine store_ok (X := X.suite a ((a, oe4) :: (X.pn ++ pins))) (v := .ref a) S4 hN hi hloc rfl (fun s5 S5 => ?_) (.inr hln)
        refine wpAny_mono ((hsu a oe4 cls d (X.pn ++ pins) hz4 ⟨_, hd4⟩).run [] s5 _ H' _ S5 (hyes rfl J.len a na)) (fun f s6 hsp => ?_) (fun _ _ z => False.elim z)
        cases f with
        | next =>
          obtain ⟨σ6, H6, S6, q6⟩ := hsp
          exact gone_ok (inv_leave S6 ok) hN hi hln fun s7 J7 => .inr ⟨a, oe4, cls, d, _, _, J7, hz4, ⟨_, hd4⟩, q6⟩
        | brk =>
          obtain ⟨σ6, H6, S6, q6⟩ := hsp
          exact q6.elim
        | cont =>
          obtain ⟨σ6, H6, S6, q6⟩ := hsp
          exact q6.elim
        | ret u =>
          obtain ⟨v6, σ6, H6, S6, r6, q6⟩ := hsp
          exact q6.elim
      | false =>
        show wpAny _ X.A (handleBy (.ref a) X.env []) _ _ _
        refine wpAny_handleBy_nil ?_
        obtain ⟨k1, k2, k3, oe, vs, T, oT, ts', he, hz, hd, hv1, hr⟩ := id fl3
        unfold PySem.passOn
        refine wpAny_bind (wpAny_field he hd hv1 ?_)
        rw [if_neg (show ¬ ((Value.ref T == Value.none) = true) from by simp)]
        have fin : wpAny (model X.prog X.w) X.A (setFlight (.ref a) X.env.frame) (fun _ s4 => wpAny (model X.prog X.w) X.A (throw (.ref a) : Sem Flow) P X.xe s4) X.xe { s' with heap := h3 } := by
          rw [hf]
          refine HandSPX.setFlight_upZ fl3 fun h4 hh4 up4 => wpAny_throw (tk _ _ ?_)
          exact ⟨a, B, sI, pins, σ', H', cls, d, rfl, J, nb, (up.trans up3).trans up4, .inr (.inr (by rw [hs]; exact hh4)), na, os, ag, hno rfl⟩
        first
          | exact wpAny_bind (wpAny_pure (wpAny_bind fin))
          | exact wpAny_bind fin
    · cases f with
      | next =>
        obtain ⟨σ', H', J', q⟩ := hsp
        exact wpAny_execs_nil (.inl ⟨σ', H', J'.ofTry ok, q⟩)
      | brk =>
        obtain ⟨σ', H', J', q⟩ := hsp
        exact ⟨σ', H', J'.ofTry ok, q⟩
      | cont =>
        obtain ⟨σ', H', J', q⟩ := hsp
        exact ⟨σ', H', J'.ofTry ok, q⟩
      | ret u =>
        obtain ⟨v, σ', H', J', r, q⟩ := hsp
        exact ⟨v, σ', H', J'.ofTry ok, r, q⟩
  refine wpAny_execs_cons (thn main fun f s1 q => ?_)
  cases f with
  | next =>
    rcases q with ⟨σ', H', J, q⟩ | ⟨a, oe, cls, d, σ', H', J, hz, hv, q⟩
    · exact h1.run pins s1 σ' H' D J q
    · have hpn : (a, oe) ∈ X.pn ++ ((a, oe) :: pins) := List.mem_append_right _ List.mem_cons_self
      refine wpAny_mono ((h2 a oe cls d _ hpn hz hv).run [] s1 σ' H' D (J.toTry X.xe) q) (fun f s2 hsp => ?_) (fun _ _ z => z)
      have back : ∀ {σ' : L2.St} {H' : Hp}, Inv (X.tr (X.pn ++ ((a, oe) :: pins)) X.xe) [] σ' H' s2 → Inv X pins σ' H' s2 := fun K => inv_drop (K.ofTry ok)
      cases f with
      | next =>
        obtain ⟨σ', H', J', q⟩ := hsp
        exact ⟨σ', H', back J', q⟩
      | brk =>
        obtain ⟨σ', H', J', q⟩ := hsp
        exact ⟨σ', H', back J', q⟩
      | cont =>
        obtain ⟨σ', H', J', q⟩ := hsp
        exact ⟨σ', H', back J', q⟩
      | ret u =>
        obtain ⟨v, σ', H', J', r, q⟩ := hsp
        exact ⟨v, σ', H', back J', r, q⟩
  | brk => exact q
  | cont => exact q
  | ret v => exact q
end
section
variable {X : Cx} {a D : Addr} {oe : Obj} {pn : List (Addr × Obj)} {xe : Value → Shared → Prop}
theorem kitX_pin {s : Shared} {pins : List (Addr × Obj)} {σ : L2.St} {H : Hp} (I : Inv (X.tr pn xe) pins σ H s) (hm : (a, oe) ∈ pn) (hz : Zc (.ref D) none oe) (hf : ∃ vs, oe.data = .fields vs) : PySem.W.InstAt s.heap a oe D none := by
  obtain ⟨hget, _⟩ := I.pin (a, oe) (List.mem_append_left _ hm)
  obtain ⟨vs, hv⟩ := hf
  obtain ⟨oc, od, oda, osl⟩ := oe
  obtain ⟨h1, h2⟩ := hz
  dsimp only at h1 h2 hv
  subst h1 h2 hv
  exact ⟨hget, rfl, rfl, trivial⟩
theorem call_isP (C : ExcC X.K D) (hm : (a, oe) ∈ pn) (hz : Zc (.ref D) none oe) (hf : ∃ vs, oe.data = .fields vs) : CallR (X.tr pn xe) (.builtin "isinstance") (rIsE X.K D a) := by
  intro pins s σ H xs us Q I r h
  obtain ⟨c, cv, b, rfl, hcv, e, q⟩ := h
  obtain ⟨u1, u2, rfl, r1, r2⟩ := vals2 r
  obtain rfl : u1 = Value.ref a := r1
  have ec := hcv _ r2
  subst ec
  exact PySem.W.kia_one (PySem.W.handS_kitx_exc C.hg C.hk C.hs C.hd C.ha C.hn C.ht C.hm) I.kIn (kitX_pin I hm hz hf) e (fun z => nomatch z) fun tk => ⟨.bl b, H, I.kept (t' := tk) fun _ _ z => z, rfl, q⟩
/-- isinstance(e, (c1, c2, ..)) -/
def rIsPT (K : PySem.W.Frag) (D a : Addr) : List V → Hp → VK → Prop := fun xs H Q => ∃ (tp : Addr) (cs : List V) (us : List Value) (b : Bool), xs = [.ref a, .ref tp] ∧ H tp = some (.tup cs) ∧ Paired ClsV cs us ∧ PySem.W.kitAny K (.ref D) us = some b ∧ Q (.bl b) H
theorem call_isPT (C : ExcC X.K D) (hm : (a, oe) ∈ pn) (hz : Zc (.ref D) none oe) (hf : ∃ vs, oe.data = .fields vs) : CallR (X.tr pn xe) (.builtin "isinstance") (rIsPT X.K D a) := by
  intro pins s σ H xs us Q I r h
  obtain ⟨tp, cs, ws, b, rfl, hT, k, e, q⟩ := h
  obtain ⟨u1, u2, rfl, r1, r2⟩ := vals2 r
  obtain rfl : u1 = Value.ref a := r1
  cases (show u2 = Value.ref tp from r2)
  obtain ⟨_, its, rv, o, h1, h2, n, h3⟩ := (show ObjOk X.prog X.w H s.heap tp (.tup cs) from I.hok tp _ hT)
  have e3 := ClsV.all k rv
  subst e3
  obtain ⟨oc, od, dt, sl⟩ := o
  simp only at h2 h3
  subst h2 h3
  exact PySem.W.kia_tup (PySem.W.handS_kitx_exc C.hg C.hk C.hs C.hd C.ha C.hn C.ht C.hm) I.kIn (kitX_pin I hm hz hf) h1 e (fun z => nomatch z) fun tk => ⟨.bl b, H, I.tok tk, rfl, q⟩
end
end Ty
set_option Elab.async false
set_option linter.all false
set_option maxRecDepth 100000
set_option maxHeartbeats 4000000
/-! _law_no_ask. -/
namespace Ty
open PySem PySem.Spec PyProof.Rows L2 C8 LamX
/-- what _law_no_ask makes of the lambda's reading: True where it raises NoAsk, False where it gives anything -/
def TTna (K : PySem.W.Frag) : (XK → Hp → VK → Prop) → Hp → VK → Prop := fun tl H Q =>
  tl (fun cls d H' => cls = .ref (He.ga K "NoAsk") ∧ d = none ∧ ∀ H2, Same H' H2 → Q (.bl true) H2) H (fun _ H' => ∀ H2, Same H' H2 → Q (.bl false) H2)
theorem sc_Dlaw_no_ask : FnScope ["_law_call", "_law_caught", "e"] ["_law_call"] (defScope sDlaw_no_ask) := C8.fnScope_by (by decide +kernel)
theorem kit4 {K : PySem.W.Frag} {mg : Str → Option Value} (T : Tx K mg) : PySem.W.kitAny K (.ref (He.ga K "NoAsk")) [.ref (He.ga K "Free"), .ref (He.ga K "NoRatio"), .ref (He.ga K "RowError"), .ref (He.ga K "Stuck")] = some false := by
  obtain ⟨_, h, _⟩ := T.eb
  have f1 := h "Free" (by simp [excL])
  have f2 := h "NoRatio" (by simp [excL])
  have f3 := h "RowError" (by simp [excL])
  have f4 := h "Stuck" (by simp [excL])
  have n1 : decide (("NoAsk" : Str) = "Free") = false := by decide +kernel
  have n2 : decide (("NoAsk" : Str) = "NoRatio") = false := by decide +kernel
  have n3 : decide (("NoAsk" : Str) = "RowError") = false := by decide +kernel
  have n4 : decide (("NoAsk" : Str) = "Stuck") = false := by decide +kernel
  rw [n1] at f1
  rw [n2] at f2
  rw [n3] at f3
  rw [n4] at f4
  unfold PySem.W.kitAny
  rw [f1]
  show PySem.W.kitAny K _ [_, _, _] = _
  unfold PySem.W.kitAny
  rw [f2]
  show PySem.W.kitAny K _ [_, _] = _
  unfold PySem.W.kitAny
  rw [f3]
  show PySem.W.kitAny K _ [_] = _
  unfold PySem.W.kitAny
  rw [f4] <;> rfl
theorem na_gives {X : Cx} (T : Tx X.K X.mg) (q : Str) (cdg : Value) : GivesTo X ["_law_call", "_law_caught", "e"] "_law_no_ask" (defScope sDlaw_no_ask) (He.ga X.K "_law_no_ask") cdg (defBody sDlaw_no_ask) "_law_call" q (TTna X.K) := by
  intro f c' s H Q tl act hc h
  obtain ⟨C, kits, kn⟩ := T.eb
  have hself : PySem.W.kitOne X.K (.ref (He.ga X.K "NoAsk")) (.ref (He.ga X.K "NoAsk")) = some true := by
    have := kits "NoAsk" (by simp [excL])
    rw [decide_eq_true rfl] at this
    exact this
  refine ⟨_, pss_cons (ps_set (i := 1) sc_Dlaw_no_ask.nd rfl (Or.inl rfl) pe_non) (pss_try_then (X := (cxOf C8.CX0 X.prog X.w X.K X.mg X.base ["_law_call", "_law_caught", "e"] "_law_no_ask" (defScope sDlaw_no_ask) (He.ga X.K "_law_no_ask") cdg X.A X.stack s H C8.E0).nox) (i := 2) (c := .ref (He.ga X.K "WorkError"))
      (tb := fun W D σ H => ∃ (Ech : XK) (Q0 : VK), (∀ cls d σ' H', Ech cls d H' → W cls d σ' H') ∧ σ[0]? = some (some (.ref f)) ∧ H c' = some (CodeO c' q) ∧ tl Ech H Q0 ∧ ∀ v H', Q0 v H' → D.nx σ H')
      (ts := fun _ _ _ => tAsg (tVar 2) (gName 1))
      (u2 := fun a cls d D σ H => cls = .ref (He.ga X.K "NoAsk") ∧ d = none ∧ tRet (tAndV (tCB (rIsE X.K (He.ga X.K "NoAsk") a) (tCons (tVar 1) (tCons (tC (.ref (He.ga X.K "NoAsk"))) tNil))) (tNotV (tCB (rIsPT X.K (He.ga X.K "NoAsk") a) (tCons (tVar 1) (tCons (tTup (tCons (tC (.ref (He.ga X.K "Free"))) (tCons (tC (.ref (He.ga X.K "NoRatio"))) (tCons (tC (.ref (He.ga X.K "RowError"))) (tCons (tC (.ref (He.ga X.K "Stuck"))) tNil))))) tNil))))) D σ H)
      rfl rfl sc_Dlaw_no_ask.nd rfl rfl ⟨rfl, by decide, .inl T.g_WorkError⟩ L2.takes0 (fun W pn xe tk _ => pss_one ⟨fun pins s2 σ H2 D I hu => ?_⟩) (fun a oe cls d pn hz hf => pss_one (ps_set (i := 1) sc_Dlaw_no_ask.nd rfl (Or.inl rfl) (pv 2)))
      (pss_one (ps_ret (pe_and (pe_callB call_isi (by rfl) T.b_isinstance (by decide +kernel) (pa_cons (pv 1) (pa_cons (pe_cls rfl T.g_NoAsk) pa_nil))) (pe_one (pe_not (pe_callB call_isiT (by rfl) T.b_isinstance (by decide +kernel) (pa_cons (pv 1) (pa_cons (pe_tup (pa_cons (pe_cls rfl T.g_Free) (pa_cons (pe_cls rfl T.g_NoRatio) (pa_cons (pe_cls rfl T.g_RowError) (pa_cons (pe_cls rfl T.g_Stuck) pa_nil))))) pa_nil))))))))
      (fun a oe cls d pn hm hz hf => ⟨fun pins s2 σ H2 D I hu => ?_⟩)), ?_⟩
  · obtain ⟨Ech, Q0, hW, e1, e2, e3, mono⟩ := hu
    exact wpAny_Expr_any (thn ((act W pn xe Ech _ _ tk hW).run pins s2 σ H2 Q0 I ⟨e1, e2, e3⟩) fun v s1 ⟨x, H1, I1, r1, q1⟩ => ⟨σ, H1, I1, mono _ _ q1⟩) I.quiet (by rfl)
  · obtain ⟨rfl, rfl, hu⟩ := hu
    refine PSs.run (X := ((cxOf C8.CX0 X.prog X.w X.K X.mg X.base ["_law_call", "_law_caught", "e"] "_law_no_ask" (defScope sDlaw_no_ask) (He.ga X.K "_law_no_ask") cdg X.A X.stack s H C8.E0).nox).tr pn ((cxOf C8.CX0 X.prog X.w X.K X.mg X.base ["_law_call", "_law_caught", "e"] "_law_no_ask" (defScope sDlaw_no_ask) (He.ga X.K "_law_no_ask") cdg X.A X.stack s H C8.E0).nox).xe) (pss_one (ps_ret (pe_and (pe_callB (call_isP (X := (cxOf C8.CX0 X.prog X.w X.K X.mg X.base ["_law_call", "_law_caught", "e"] "_law_no_ask" (defScope sDlaw_no_ask) (He.ga X.K "_law_no_ask") cdg X.A X.stack s H C8.E0).nox) (xe := ((cxOf C8.CX0 X.prog X.w X.K X.mg X.base ["_law_call", "_law_caught", "e"] "_law_no_ask" (defScope sDlaw_no_ask) (He.ga X.K "_law_no_ask") cdg X.A X.stack s H C8.E0).nox).xe) C hm hz hf) (by rfl) T.b_isinstance (by decide +kernel) (pa_cons (pv 1) (pa_cons (pe_cls (x := "NoAsk") rfl T.g_NoAsk) pa_nil))) (pe_one (pe_not (pe_callB (call_isPT (X := (cxOf C8.CX0 X.prog X.w X.K X.mg X.base ["_law_call", "_law_caught", "e"] "_law_no_ask" (defScope sDlaw_no_ask) (He.ga X.K "_law_no_ask") cdg X.A X.stack s H C8.E0).nox) (xe := ((cxOf C8.CX0 X.prog X.w X.K X.mg X.base ["_law_call", "_law_caught", "e"] "_law_no_ask" (defScope sDlaw_no_ask) (He.ga X.K "_law_no_ask") cdg X.A X.stack s H C8.E0).nox).xe) C hm hz hf) (by rfl) T.b_isinstance (by decide +kernel) (pa_cons (pv 1) (pa_cons (pe_tup (pa_cons (pe_cls (x := "Free") rfl T.g_Free) (pa_cons (pe_cls (x := "NoRatio") rfl T.g_NoRatio) (pa_cons (pe_cls (x := "RowError") rfl T.g_RowError) (pa_cons (pe_cls (x := "Stuck") rfl T.g_Stuck) pa_nil))))) pa_nil)))))))) pins s2 σ H2 D I hu
  · refine ⟨_, _, ?_, rfl, hc, h, fun v H' hq => ?_⟩
    · rintro cls d σ' H' ⟨rfl, rfl, hq⟩
      refine ⟨true, T.exm, fun _ hlen a na => ?_, fun z => by cases z⟩
      obtain ⟨x0, x1, x2, rfl⟩ : ∃ x0 x1 x2, σ' = [x0, x1, x2] := match σ', hlen with | [x0, x1, x2], _ => ⟨_, _, _, rfl⟩
      refine ⟨_, rfl, rfl, rfl, _, rfl, _, _, true, rfl, fun u hu => hu, hself, _, rfl, ?_⟩
      refine ite2 (fun _ => ?_) (fun h => absurd rfl h)
      refine ⟨_, rfl, (by show 4 ≤ sizeLine; decide), fun tp ntp => ?_⟩
      exact ⟨tp, _, _, false, rfl, upd_same, .cons (.own _) (.cons (.own _) (.cons (.own _) (.cons (.own _) .nil))), kit4 T, _, rfl, hq _ (same_upd ntp)⟩
    · refine ⟨_, rfl, _, _, _, _, false, rfl, .own _, .base .non, kn, _, rfl, ?_⟩
      refine ite2 (fun h => by cases h) (fun _ => ?_)
      exact hq H' (fun _ _ z => z)
end Ty
set_option Elab.async false
set_option linter.all false
set_option maxRecDepth 100000
set_option maxHeartbeats 4000000
/-! Helpers for law: a new Work; the hands; the moments in order. -/
namespace Ty
open PySem PySem.Spec PyProof.Rows L2 C8
def tCut (t : TS) : TS := fun D σ H => ∃ R : L2.St → Hp → Prop, t { D with nx := R } σ H ∧ ∀ σ' H', R σ' H' → D.nx σ' H'
/-- a statement, what it leaves said by R -/
theorem ps_cut {X : Cx} {st : Stmt} {t : TS} (h : PS X st t) : PS X st (tCut t) := by
  refine ⟨fun pins s σ H D I ⟨R, ht, hR⟩ => thn (h.run pins s σ H { D with nx := R } I ht) fun f s1 q => ?_⟩
  cases f with
  | next =>
    obtain ⟨σ', H', J, q⟩ := q
    exact ⟨σ', H', J, hR _ _ q⟩
  | ret v => exact q
  | brk => exact q
  | cont => exact q
theorem work_new {K : PySem.W.Frag} {H : Hp} {a : Addr} {rs : List RowM} {kn : Kn} {Q : Addr → Hp → Prop} {E : XK} (hr : RowsAt K H a rs) (hl : rs.length ≤ 1000) (ro : ∀ r ∈ rs, RowOk (wheelsM rs) r) (run : RunOk (asksM rs) []) (al : (asksM rs).length ≤ 100)
    (ek : toldM (runR (asksM rs) []) (arborsM rs) = kn) (sh : ∀ r ∈ rs, ShownOk kn r) (h : ∀ p H', Same H H' → WorkAt K H' p rs kn → Q p H') :
    ∀ x dx, H x = none → H dx = none → dx ≠ x → spWorkI K [.ref x, .ref a] (upd (upd H dx (.own x)) x (.ins (He.ga K "Work") dx [])) (fun v H2 => v = .non ∧ Q x H2) E := by
  intro x dx nx nd nex
  subst ek
  have s1 : Same H (upd (upd H dx (.own x)) x (.ins (He.ga K "Work") dx [])) := fun c o e => by
    rw [upd_ne (ne_of_none e nx), upd_ne (ne_of_none e nd)]
    exact e
  refine ⟨x, dx, a, rs, rfl, upd_same, hr.mono s1, hl, ro, run, al, sh, fun H' c W => ⟨rfl, h x H' (fun b o e => c b o (s1 b o e) ?_) W⟩⟩
  have : b ≠ x := ne_of_none e nx
  simpa using this
/-! ### the hands -/
theorem all_nohand {b : Int} : ∀ {ts : List Tn} {k : Int}, ∀ r ∈ allRows b k ts, ∀ n a q, r ≠ .hand n a q := by
  intro ts
  induction ts with
  | nil => exact fun {k} r h => by cases h
  | cons t ts ih =>
    intro k r h n a q e
    subst e
    rcases List.mem_append.mp (show _ ∈ grpRows b k t ++ allRows b (k + 1) ts from h) with h | h
    · cases t with
      | pair j t1 t2 arm ring => cases ring <;> simp [grpRows, tnRows] at h
      | drive x => simp [grpRows, tnRows] at h
      | still => simp [grpRows, tnRows] at h
      | free => simp [grpRows, tnRows] at h
    · exact ih _ h n a q rfl
theorem all_nocount {b : Int} : ∀ {ts : List Tn} {k : Int} {n a : Str} {t : Int}, RowM.count n a t ∉ allRows b k ts := by
  intro ts
  induction ts with
  | nil => exact fun {k n a t} h => by cases h
  | cons t ts ih =>
    intro k n a x h
    rcases List.mem_append.mp (show _ ∈ grpRows b k t ++ allRows b (k + 1) ts from h) with h | h
    · cases t with
      | pair j t1 t2 arm ring => cases ring <;> simp [grpRows, tnRows] at h
      | drive x => simp [grpRows, tnRows] at h
      | still => simp [grpRows, tnRows] at h
      | free => simp [grpRows, tnRows] at h
    · exact ih h
theorem qok_bd {q : Rat} (h : QOk q) : Bd 41 q := ⟨Nat.lt_of_le_of_lt h.1 (by decide), Nat.lt_of_le_of_lt h.2 (by decide)⟩
def handD : RowM → Option (Str × Str)
  | .hand n a _ => some (n, a)
  | _ => none
def handsD (rs : List RowM) : List (Str × Str) := (rs.filterMap handD).foldl (fun acc p => putT acc p.1 p.2) []
theorem n12 : ¬ (("first" : Str) = "second") := by decide +kernel
theorem n13 : ¬ (("first" : Str) = "third") := by decide +kernel
theorem n23 : ¬ (("second" : Str) = "third") := by decide +kernel
theorem n21 : ¬ (("second" : Str) = "first") := fun z => n12 z.symm
theorem n31 : ¬ (("third" : Str) = "first") := fun z => n13 z.symm
theorem n32 : ¬ (("third" : Str) = "second") := fun z => n23 z.symm
def Apart (pre : List RowM) : Prop := ∀ r ∈ pre, ∀ n a q, r = .hand n a q → n ≠ "first" ∧ n ≠ "second" ∧ n ≠ "third"
theorem apart_of {b : Int} {ts : List Tn} {hs : List RowM} {kn : Kn} (h : ∀ r ∈ hs, HsOk b kn r) : Apart (allRows b 0 ts ++ hs) := fun r hr n a q e => by
  subst e
  rcases List.mem_append.mp hr with z | z
  · exact absurd rfl (all_nohand _ z n a q)
  · obtain ⟨⟨k, k0, k1, rfl⟩, _⟩ := h _ z
    exact ⟨nm_ne (by omega) k1 first_last, nm_ne (by omega) k1 second_last, nm_ne (by omega) k1 third_last⟩
theorem handP_pos {n a : Str} {b : Option Rat} : handP n (.hand n a b) = some (a, b) := if_pos rfl
theorem handP_neg {n m a : Str} {b : Option Rat} (h : ¬ m = n) : handP n (.hand m a b) = none := if_neg h
theorem handM_skip {pre rs : List RowM} {n : Str} (h : ∀ r ∈ pre, handP n r = none) : handM (pre ++ rs) n = handM rs n := by
  unfold handM
  rw [List.findSome?_append, List.findSome?_eq_none_iff.mpr h] <;> rfl
theorem apart_handP {pre : List RowM} (h : Apart pre) {n : Str} (hn : n = "first" ∨ n = "second" ∨ n = "third") : ∀ r ∈ pre, handP n r = none := fun r hr => by
  cases r with
  | hand m a q =>
    obtain ⟨h1, h2, h3⟩ := h _ hr m a q rfl
    refine if_neg fun z => ?_
    rcases hn with e | e | e
    · exact h1 (z.trans e)
    · exact h2 (z.trans e)
    · exact h3 (z.trans e)
  | _ => rfl
theorem ah_skip {kn : Kn} {one other : Str} {m : Rat} : ∀ {l : List RowM} {acc : Rat}, (∀ r ∈ l, ∀ n a q, r = .hand n a q → n ≠ one ∧ n ≠ other) → l.foldl (ahF kn one other m) acc = acc := by
  intro l
  induction l with
  | nil => exact fun {acc} _ => rfl
  | cons r l ih =>
    intro acc h
    have e : ahF kn one other m acc r = acc := by
      cases r with
      | hand n a q =>
        obtain ⟨h1, h2⟩ := h _ List.mem_cons_self n a q rfl
        show (match getT kn a with | some (some v) => ahT one other n acc (turnM v m q) | _ => acc) = acc
        split
        · unfold ahT
          rw [if_neg h2, if_neg h1]
        · rfl
      | _ => rfl
    show l.foldl (ahF kn one other m) (ahF kn one other m acc r) = acc
    rw [e]
    exact ih fun r hr => h r (List.mem_cons_of_mem _ hr)
theorem ah_step {kn : Kn} {one other : Str} {m acc : Rat} {n a : Str} {q : Option Rat} {v : Rat} (h : getT kn a = some (some v)) : ahF kn one other m acc (.hand n a q) = ahT one other n acc (turnM v m q) := by
  show (match getT kn a with | some (some v) => ahT one other n acc (turnM v m q) | _ => acc) = _
  rw [h]
theorem turn_eq {v m : Rat} {q : Option Rat} : turnM v m q = v * m + q.getD 0 := by
  cases q with
  | none => exact (Rat.add_zero _).symm
  | some q => rfl
theorem bd_turn {v m : Rat} {q : Option Rat} (hv : Bd 161 v) (hm : Bd 700 m) (hq : Bd 7 (q.getD 0)) : Bd 869 (turnM v m q) := by
  rw [turn_eq]
  exact (bd_add (bd_mul hv hm) hq).mono (by decide)
theorem bd0 {n : Nat} (h : 0 < n) : Bd n 0 := ⟨Nat.two_pow_pos _, Nat.one_lt_two_pow (by omega)⟩
/-- what the two hands of a pair come to -/
structure PairOk (kn : Kn) (rs : List RowM) (one other A1 A2 : Str) (c1 c2 : Option Rat) (w1 w2 : Rat) : Prop where
  h1 : handM rs one = some (A1, c1)
  h2 : handM rs other = some (A2, c2)
  g1 : getT kn A1 = some (some w1)
  g2 : getT kn A2 = some (some w2)
  d1 : getT (handsD rs) one = some A1
  d2 : getT (handsD rs) other = some A2
  b1 : Bd 7 (c1.getD 0)
  b2 : Bd 7 (c2.getD 0)
  ah : ∀ m, Bd 700 m → Bd 161 w1 → Bd 161 w2 → (∀ (i : Nat) n a bg, rs[i]? = some (.hand n a bg) → (n = one ∨ n = other) → ∃ v, getT kn a = some (some v) ∧ StepOk (ahM kn one other m (rs.take i)) v m bg) ∧
    ahM kn one other m rs = (w2 * m + c2.getD 0) - (w1 * m + c1.getD 0)
theorem step_ok {acc v m : Rat} {bg : Option Rat} (h1 : Bd 161 v) (h2 : Bd 700 m) (h3 : Bd 7 (bg.getD 0)) (h4 : Bd 900 acc) : StepOk acc v m bg := by
  have t := bd_turn h1 h2 h3
  refine ⟨h1.mono (by decide), h2.mono (by decide), (bd_mul h1 h2).mono (by decide), fun q e => ?_, t.mono (by decide), h4.mono (by decide), (bd_sub h4 t).mono (by decide)⟩
  subst e
  exact Bd.mono h3 (by decide)
theorem get3 {x : List (Str × Str)} {a1 a2 : Str} : getT (putT (putT (putT x "first" a1) "second" a2) "third" a1) "first" = some a1 ∧ getT (putT (putT (putT x "first" a1) "second" a2) "third" a1) "second" = some a2 ∧ getT (putT (putT (putT x "first" a1) "second" a2) "third" a1) "third" = some a1 := by
  refine ⟨?_, ?_, ?_⟩
  · rw [getT_put, if_neg n13, getT_put, if_neg n12, getT_put, if_pos rfl]
  · rw [getT_put, if_neg n23, getT_put, if_pos rfl]
  · rw [getT_put, if_pos rfl]
theorem pair_ok {kn : Kn} {pre : List RowM} {a1 a2 one other : Str} {q1 : Rat} {o2 : Option Rat} {v1 v2 : Rat} (hp : Apart pre) (g1 : getT kn a1 = some (some v1)) (g2 : getT kn a2 = some (some v2)) (hq1 : BegB q1) (ho2 : ∀ q, o2 = some q → BegB q)
    (hc : (one = "first" ∧ other = "second") ∨ (one = "second" ∧ other = "third")) : ∃ A1 A2 c1 c2 w1 w2, PairOk kn (pre ++ hands3 a1 a2 q1 o2) one other A1 A2 c1 c2 w1 w2 := by
  have dd : ∃ x : List (Str × Str), handsD (pre ++ hands3 a1 a2 q1 o2) = putT (putT (putT x "first" a1) "second" a2) "third" a1 := by
    refine ⟨(pre.filterMap handD).foldl (fun acc p => putT acc p.1 p.2) [], ?_⟩
    unfold handsD
    rw [List.filterMap_append, List.foldl_append] <;> rfl
  obtain ⟨x, dd⟩ := dd
  obtain ⟨e1, e2, e3⟩ := get3 (x := x) (a1 := a1) (a2 := a2)
  rw [← dd] at e1 e2 e3
  have m1 : handM (pre ++ hands3 a1 a2 q1 o2) "first" = some (a1, some q1) := by
    rw [handM_skip (apart_handP hp (.inl rfl))]
    unfold handM hands3
    rw [List.findSome?_cons, handP_pos]
  have m2 : handM (pre ++ hands3 a1 a2 q1 o2) "second" = some (a2, o2) := by
    rw [handM_skip (apart_handP hp (.inr (.inl rfl)))]
    unfold handM hands3
    rw [List.findSome?_cons, handP_neg n12]
    show ([RowM.hand "second" a2 o2, .hand "third" a1 none].findSome? (handP "second")) = _
    rw [List.findSome?_cons, handP_pos]
  have m3 : handM (pre ++ hands3 a1 a2 q1 o2) "third" = some (a1, none) := by
    rw [handM_skip (apart_handP hp (.inr (.inr rfl)))]
    unfold handM hands3
    rw [List.findSome?_cons, handP_neg n13]
    show ([RowM.hand "second" a2 o2, .hand "third" a1 none].findSome? (handP "third")) = _
    rw [List.findSome?_cons, handP_neg n23]
    show ([RowM.hand "third" a1 none].findSome? (handP "third")) = _
    rw [List.findSome?_cons, handP_pos]
  have bo2 : Bd 7 (o2.getD 0) := by
    cases o2 with
    | none => exact bd0 (by decide)
    | some q => exact ho2 q rfl
  have bn : Bd 7 ((none : Option Rat).getD 0) := bd0 (by decide)
  have skip : ∀ one' other' m, (∀ n, n ≠ ("first" : Str) ∧ n ≠ "second" ∧ n ≠ "third" → n ≠ one' ∧ n ≠ other') → pre.foldl (ahF kn one' other' m) 0 = 0 := fun one' other' m h => ah_skip fun r hr n a q e => h n (hp r hr n a q e)
  -- where a hand of that name stands
  have place : ∀ (i : Nat) n a bg, (pre ++ hands3 a1 a2 q1 o2)[i]? = some (.hand n a bg) → (n = "first" ∨ n = "second" ∨ n = "third") → ∃ j, i = pre.length + j ∧ (hands3 a1 a2 q1 o2)[j]? = some (.hand n a bg) := fun i n a bg hi hn => by
    rcases Nat.lt_or_ge i pre.length with z | z
    · rw [List.getElem?_append_left z] at hi
      obtain ⟨x1, x2, x3⟩ := hp _ (List.mem_of_getElem? hi) n a bg rfl
      rcases hn with e | e | e
      · exact absurd e x1
      · exact absurd e x2
      · exact absurd e x3
    · rw [List.getElem?_append_right z] at hi
      exact ⟨i - pre.length, by omega, hi⟩
  have tk : ∀ j, (pre ++ hands3 a1 a2 q1 o2).take (pre.length + j) = pre ++ (hands3 a1 a2 q1 o2).take j := fun j => by
    rw [List.take_append, List.take_of_length_le (by omega)]
    congr 2
    omega
  rcases hc with ⟨rfl, rfl⟩ | ⟨rfl, rfl⟩
  · refine ⟨a1, a2, some q1, o2, v1, v2, m1, m2, g1, g2, e1, e2, hq1, bo2, fun m hm hv1 hv2 => ⟨fun i n a bg hi hn => ?_, ?_⟩⟩
    · have sk := skip "first" "second" m fun n h => ⟨h.1, h.2.1⟩
      obtain ⟨j, rfl, hj⟩ := place i n a bg hi (hn.elim .inl fun z => .inr (.inl z))
      rw [tk j]
      unfold ahM
      rw [List.foldl_append, sk]
      match j, hj with
      | 0, hj =>
        cases hj
        exact ⟨v1, g1, step_ok hv1 hm hq1 (bd0 (by decide))⟩
      | 1, hj =>
        cases hj
        refine ⟨v2, g2, step_ok hv2 hm bo2 ?_⟩
        show Bd 900 (ahF kn "first" "second" m 0 (.hand "first" a1 (some q1)))
        rw [ah_step g1]
        unfold ahT
        rw [if_neg n12, if_pos rfl]
        exact (bd_sub (bd0 (n := 1) (by decide)) (bd_turn (q := some q1) hv1 hm hq1)).mono (by decide)
      | 2, hj =>
        cases hj
        rcases hn with z | z
        · exact absurd z n31
        · exact absurd z n32
    · unfold ahM
      rw [List.foldl_append, skip "first" "second" m fun n h => ⟨h.1, h.2.1⟩]
      show ahF kn "first" "second" m (ahF kn "first" "second" m (ahF kn "first" "second" m 0 (.hand "first" a1 (some q1))) (.hand "second" a2 o2)) (.hand "third" a1 none) = _
      rw [ah_step g1, ah_step g2, ah_step g1]
      unfold ahT
      rw [if_neg n32, if_neg n31, if_pos rfl, if_neg n21, if_neg n12, if_pos rfl, turn_eq, turn_eq]
      show 0 - (v1 * m + q1) + (v2 * m + o2.getD 0) = v2 * m + o2.getD 0 - (v1 * m + q1)
      grind
  · refine ⟨a2, a1, o2, none, v2, v1, m2, m3, g2, g1, e2, e3, bo2, bn, fun m hm hv1 hv2 => ⟨fun i n a bg hi hn => ?_, ?_⟩⟩
    · have sk := skip "second" "third" m fun n h => ⟨h.2.1, h.2.2⟩
      obtain ⟨j, rfl, hj⟩ := place i n a bg hi (hn.elim (fun z => .inr (.inl z)) fun z => .inr (.inr z))
      rw [tk j]
      unfold ahM
      rw [List.foldl_append, sk]
      have f1 : ahF kn "second" "third" m 0 (.hand "first" a1 (some q1)) = 0 := by
        rw [ah_step g1]
        unfold ahT
        rw [if_neg n13, if_neg n12]
      match j, hj with
      | 0, hj =>
        cases hj
        rcases hn with z | z
        · exact absurd z n12
        · exact absurd z n13
      | 1, hj =>
        cases hj
        refine ⟨v2, g2, step_ok hv1 hm bo2 ?_⟩
        show Bd 900 (ahF kn "second" "third" m 0 (.hand "first" a1 (some q1)))
        rw [f1]
        exact bd0 (by decide)
      | 2, hj =>
        cases hj
        refine ⟨v1, g1, step_ok hv2 hm bn ?_⟩
        show Bd 900 (ahF kn "second" "third" m (ahF kn "second" "third" m 0 (.hand "first" a1 (some q1))) (.hand "second" a2 o2))
        rw [f1, ah_step g2]
        unfold ahT
        rw [if_neg n23, if_pos rfl]
        exact (bd_sub (bd0 (n := 1) (by decide)) (bd_turn hv1 hm bo2)).mono (by decide)
    · unfold ahM
      rw [List.foldl_append, skip "second" "third" m fun n h => ⟨h.2.1, h.2.2⟩]
      show ahF kn "second" "third" m (ahF kn "second" "third" m (ahF kn "second" "third" m 0 (.hand "first" a1 (some q1))) (.hand "second" a2 o2)) (.hand "third" a1 none) = _
      rw [ah_step g1, ah_step g2, ah_step g1]
      unfold ahT
      rw [if_pos rfl, if_neg n32, if_neg n23, if_pos rfl, if_neg n13, if_neg n12, turn_eq, turn_eq]
      show 0 - (v2 * m + o2.getD 0) + (v1 * m + (none : Option Rat).getD 0) = v1 * m + (none : Option Rat).getD 0 - (v2 * m + o2.getD 0)
      grind
/-! ### moments in order -/
theorem paired_rget {α β : Type} {F : α → β → Prop} {xs : List α} {ys : List β} (h : Paired F xs ys) : ∀ {i : Nat} {y : β}, ys[i]? = some y → ∃ x, xs[i]? = some x ∧ F x y := by
  induction h with
  | nil => exact fun {i y} e => by cases e
  | cons r t ih =>
    intro i y e
    cases i with
    | zero =>
      cases e
      exact ⟨_, rfl, r⟩
    | succ i => exact ih e
theorem paired_take {α β : Type} {F : α → β → Prop} {xs : List α} {ys : List β} (h : Paired F xs ys) : ∀ {n : Nat}, Paired F (xs.take n) (ys.take n) := by
  induction h with
  | nil => exact fun {n} => by simpa using Paired.nil
  | cons r _ ih =>
    intro n
    cases n with
    | zero => exact .nil
    | succ n => exact .cons r ih
theorem paired_drop {α β : Type} {F : α → β → Prop} {xs : List α} {ys : List β} (h : Paired F xs ys) : ∀ {n : Nat}, Paired F (xs.drop n) (ys.drop n) := by
  induction h with
  | nil => exact fun {n} => by simpa using Paired.nil
  | cons r t ih =>
    intro n
    cases n with
    | zero => exact .cons r t
    | succ n => exact ih
def Asc (ms : List Rat) : Prop := ms.Pairwise (· ≤ ·)
def below (m : Rat) (ms : List Rat) : Nat := (ms.filter fun x => decide (x < m)).length
theorem below_snoc {m x : Rat} {ms : List Rat} : below m (ms ++ [x]) = below m ms + (if x < m then 1 else 0) := by
  unfold below
  rw [List.filter_append, List.length_append]
  congr 1
  by_cases h : x < m
  · simp [h]
  · simp [h]
theorem asc_split {m : Rat} : ∀ {ms : List Rat}, Asc ms → (∀ x ∈ ms.take (below m ms), x ≤ m) ∧ ∀ x ∈ ms.drop (below m ms), m ≤ x := by
  intro ms
  induction ms with
  | nil => exact fun _ => ⟨fun x h => by simp at h, fun x h => by simp at h⟩
  | cons y ms ih =>
    intro h
    obtain ⟨h1, h2⟩ := List.pairwise_cons.mp h
    by_cases hy : y < m
    · have e : below m (y :: ms) = below m ms + 1 := by
        unfold below
        rw [List.filter_cons, if_pos (by simpa using hy)] <;> rfl
      obtain ⟨i1, i2⟩ := ih h2
      rw [e]
      refine ⟨fun x hx => ?_, fun x hx => i2 x hx⟩
      rcases List.mem_cons.mp (show x ∈ y :: ms.take (below m ms) from hx) with z | z
      · rw [z]
        exact Rat.le_of_lt hy
      · exact i1 x z
    · have e : below m (y :: ms) = 0 := by
        unfold below
        rw [List.filter_cons, if_neg (by simpa using hy), List.filter_eq_nil_iff.mpr fun x hx => by
          have := h1 x hx
          simp
          grind]
        rfl
      rw [e]
      refine ⟨fun x hx => by simp at hx, fun x hx => ?_⟩
      rcases List.mem_cons.mp (show x ∈ y :: ms from hx) with z | z
      · rw [z]
        grind
      · have := h1 x z
        grind
theorem asc_put {m : Rat} {ms : List Rat} (h : Asc ms) : Asc (ms.take (below m ms) ++ [m] ++ ms.drop (below m ms)) := by
  obtain ⟨h1, h2⟩ := asc_split (m := m) h
  have hs : ms.take (below m ms) ++ ms.drop (below m ms) = ms := List.take_append_drop _ _
  have hp := h
  unfold Asc at hp
  rw [← hs] at hp
  obtain ⟨p1, p2, p3⟩ := List.pairwise_append.mp hp
  unfold Asc
  rw [List.append_assoc]
  refine List.pairwise_append.mpr ⟨p1, List.pairwise_cons.mpr ⟨h2, p2⟩, fun x hx y hy => ?_⟩
  rcases List.mem_cons.mp (show y ∈ m :: ms.drop (below m ms) from hy) with z | z
  · rw [z]
    exact h1 x hx
  · exact p3 x hx y z
theorem below_le {m : Rat} {ms : List Rat} : below m ms ≤ ms.length := List.length_filter_le _ _
end Ty
set_option Elab.async false
set_option linter.all false
set_option maxRecDepth 100000
set_option maxHeartbeats 8000000
/-! law. -/
namespace Ty
open PySem PySem.Spec PyProof.Rows L2 C8
def qlam : Str := ("law" ++ ".<locals>.") ++ "<lambda>"
def spLaw (K : PySem.W.Frag) (Pt : Addr) : Sp := fun vs H Q _ => ∃ (a : Addr) (ns : List Int), vs = [.ref a] ∧ SqL K H a (ns.map V.int) ∧ ns.length ≤ 1000 ∧ H Pt = some (.tbl #[]) ∧ ∀ H', Q (.bl true) H'

theorem cut_take {xs : List V} {k : Nat} (h : k ≤ xs.length) : cutV xs none (some (k : Int)) = xs.take k := by
  unfold cutV
  rw [HT.sIx_none, HT.sIx_nat, List.drop_zero, Nat.min_eq_left h, Nat.sub_zero]
theorem cut_drop {xs : List V} {k : Nat} (h : k ≤ xs.length) : cutV xs (some (k : Int)) none = xs.drop k := by
  unfold cutV
  rw [HT.sIx_none, HT.sIx_nat, Nat.min_eq_left h, List.take_of_length_le (by rw [List.length_drop]; exact Nat.le_refl _)]
section
variable {K : PySem.W.Frag} {H H' : Hp} {d a : Addr} {kn : Kn} {l : List (Str × Str)} {n x : Str} {v : Rat}
theorem kn_same (h : DictAt (OV K H) H d kn) (s : Same H H') : DictAt (OV K H') H' d kn := h.mono (by obtain ⟨kvs, e, _⟩ := h; rw [s _ _ e, e]) fun v o z => z.mono s
abbrev StrR (v : V) (a : Str) : Prop := v = .str a
theorem str_same (h : DictAt StrR H d l) (s : Same H H') : DictAt StrR H' d l := h.mono (by obtain ⟨kvs, e, _⟩ := h; rw [s _ _ e, e]) fun v o z => z
theorem dget_str (h : DictAt StrR H d l) (e : getT l n = some x) : DGet H d (.str n) (some (.str x)) := by
  obtain ⟨kvs, hd, dp⟩ := h
  have g := DGet.k (k := .inr n) hd
  rcases dp.val n with ⟨_, e2⟩ | ⟨v', y, e2, e3, e4⟩
  · rw [e] at e2
    cases e2
  · rw [e] at e3
    cases e3
    rw [e2, e4] at g
    exact g
theorem dget_kn (h : DictAt (OV K H) H d kn) (e : getT kn n = some (some v)) : ∃ r, DGet H d (.str n) (some (.ref r)) ∧ RatAt K H r v := by
  obtain ⟨kvs, hd, dp⟩ := h
  have g := DGet.k (k := .inr n) hd
  rcases dp.val n with ⟨_, e2⟩ | ⟨v', y, e2, e3, e4⟩
  · rw [e] at e2
    cases e2
  · rw [e] at e3
    cases e3
    obtain ⟨r, e5, R⟩ := e4
    rw [e2, e5] at g
    exact ⟨r, g, R⟩
open LamX in
theorem rat_ext {q : Rat} (r : RatAt K H a q) (e : ExtN H H') : RatAt K H' a q := by
  obtain ⟨dx, h⟩ := r
  exact ⟨dx, e _ _ h fun _ z => by cases z⟩
open LamX in
theorem ov_ext {u : V} {o : Option Rat} (r : OV K H u o) (e : ExtN H H') : OV K H' u o := by
  cases o with
  | none => exact r
  | some q =>
    obtain ⟨a, h, R⟩ := r
    exact ⟨a, h, rat_ext R e⟩
open LamX in
theorem row_ext {r : RowM} (h : RowAt K H a r) (e : ExtN H H') : RowAt K H' a r := by
  obtain ⟨dx, fs, h1, h2⟩ := h
  refine ⟨dx, fs, e _ _ h1 (fun _ z => by cases z), ?_⟩
  cases r with
  | drive a r =>
    obtain ⟨v, x, e1, b, e2, R⟩ := h2
    exact ⟨v, x, e1, b, e2, rat_ext R e⟩
  | hand n a b =>
    obtain ⟨v, m, x, e1, z⟩ := h2
    exact ⟨v, m, x, e1, ov_ext z e⟩
  | _ => exact h2
open LamX in
theorem work_ext {rs : List RowM} (h : WorkAt K H a rs kn) (e : ExtN H H') : WorkAt K H' a rs kn := by
  obtain ⟨dx, L, D, B, m, h1, ⟨ps, h2, h3⟩, kvs, h4, h5⟩ := h
  exact ⟨dx, L, D, B, m, e _ _ h1 (fun _ z => by cases z), ⟨ps, e _ _ h2 (fun _ z => by cases z), Paired.mapP h3 fun _ _ z => row_ext z e⟩, kvs, e _ _ h4 (fun _ z => by cases z), h5.mono fun _ _ z => ov_ext z e⟩
end
section
variable {P : Program} {w : World} {K : PySem.W.Frag} {mg : Str → Option Value} {base : Heap} {fd : FuncData}
theorem sc_Dlaw : FnScope ["_law_script", "_law_rows", "_law_draw", "_law_told", "_law_work", "_law_pair", "_law_off", "_law_arbors_here", "_law_speed", "_law_gain", "_law_moments", "_law_k", "_law_cell", "_law_number", "_law_moment", "_law_lead", "_law_at", "_law_leads", "_law_always", "_law_total", "_law_due_here", "_law_row", "_law_one"] ["_law_script"] (defScope sDlaw) := C8.fnScope_by (by decide +kernel)
theorem ok_law (F : FDlaw K fd) (T : Tx K mg) (TB : LamX.TabB base mg (He.cT K ("law", none)).1 (He.cT K ("law", none)).2) : FnOk P w K mg base C8.CX0 18 (He.ga K "law") fd ["_law_script"] (spLaw K (He.cT K ("law", none)).2) := by
  obtain ⟨fdN, FN⟩ := T.f_Dlaw_no_ask
  obtain ⟨fdC, FC⟩ := T.f_Dcount_of
  obtain ⟨ocN, odN, dVN, kVN, docN, pmN, anN, cdvN, ctN, oslN, eN, lkN, hcdN, _, _⟩ := FN.ex
  obtain ⟨oc, od, dV0, kV0, doc, pm, an, cdv, ct, osl, rfl, lk, hcd, _, _⟩ := F.ex
  have hcode : cdv = .ref (He.cT K ("law", none)).1 := by
    have h := hcd
    unfold PySem.W.codeIn at h
    split at h
    · rename_i c
      show Value.ref c = .ref (He.codeOf K ("law", none))
      rw [He.codeOf_eq (p := ("law", none)) lk rfl]
    · cases h
  subst hcode
  generalize (He.cT K ("law", none)).1 = cc at *
  generalize (He.cT K ("law", none)).2 = Pt at *
  have kpN := FN.kp
  have biN := bi_Dlaw_no_ask FN
  subst eN
  refine fn_of lk hcd sc_Dlaw (fun vs H Q E h => ?_) (fun A outer s H vs Q E hr h => ?_)
  · obtain ⟨_, _, rfl, _⟩ := h
    rfl
  · refine ⟨_, PSs.nox (pss_cons (ps_set (i := 1) sc_Dlaw.nd rfl (Or.inr rfl) (pe_c (cal_law_clock T) hr (by decide) rfl (pa_cons (pv 0) (pa_cons pe_int pa_nil)))) (pss_cons (ps_set (i := 2) sc_Dlaw.nd rfl (Or.inl rfl) (pe_c (cal_law_mix T) hr (by decide) rfl (pa_cons (pe_callB (cr_sum rfl) (by rfl) T.b_sum (by decide +kernel) (pa_cons (pv 0) pa_nil)) (pa_cons pe_int pa_nil)))) (pss_cons (ps_set (i := 1) sc_Dlaw.nd rfl (Or.inr rfl) (pe_op op_cat (pv 1) (pe_c (cal_law_hands T) hr (by decide) rfl (pa_cons (pv 1) (pa_cons (pv 2) pa_nil))))) (pss_cons (ps_set (i := 3) sc_Dlaw.nd rfl (Or.inr rfl) (pe_c (cal_speeds T) hr (by decide) rfl (pa_cons (pv 1) pa_nil))) (pss_cons (ps_set (i := 4) sc_Dlaw.nd rfl (Or.inr rfl) (pe_mk (mak_Work_1 T) hr (by decide) rfl (pa_cons (pv 1) pa_nil))) (pss_cons (ps_set (i := 5) sc_Dlaw.nd rfl (Or.inr rfl) (pe_ix ix_list (pe_lst (pa_cons (pe_lst (pa_cons pe_str (pa_cons pe_str pa_nil))) (pa_cons (pe_lst (pa_cons pe_str (pa_cons pe_str pa_nil))) pa_nil))) (pe_op op_mod (pe_op op_fdiv (pv 2) pe_int) pe_int) (fun _ _ => rfl))) (pss_cons (ps_set (i := 6) sc_Dlaw.nd rfl (Or.inr rfl) (pe_ix ix_list (pe_lst (pa_cons (pe_c (cal_law_ratio T) hr (by decide) rfl (pa_cons (pv 2) (pa_cons (pv 2) pa_nil))) (pa_cons (pe_mk (mak_Ratio_2 T) hr (by decide) rfl (pa_cons (pe_op op_mod (pe_op op_fdiv (pv 2) pe_int) pe_int) (pa_cons pe_int pa_nil))) pa_nil))) (pe_op op_mod (pe_op op_fdiv (pv 2) pe_int) pe_int) (fun _ _ => rfl))) (pss_cons (ps_set (i := 7) sc_Dlaw.nd rfl (Or.inl rfl) (pe_callTy (call_dictP rfl) (by rfl) T.b_dict (by decide +kernel) (pa_cons (pe_lc (own := [("_law_row", 21)]) (g := gName 21) (tt := (tB (tCB (rIsi K) (tCons (tVar 21) (tCons (tC (.ref (He.ga K "Hand"))) tNil))))) (te := (tTup (tCons (tFld K (tVar 21) "name") (tCons (tFld K (tVar 21) "arbor") tNil)))) (by rfl) sc_Dlaw.nd (pi_list (pv 1)) (blkOk_by (N := ["_law_script", "_law_rows", "_law_draw", "_law_told", "_law_work", "_law_pair", "_law_off", "_law_arbors_here", "_law_speed", "_law_gain", "_law_moments", "_law_k", "_law_cell", "_law_number", "_law_moment", "_law_lead", "_law_at", "_law_leads", "_law_always", "_law_total", "_law_due_here", "_law_row", "_law_one"]) (sc := defScope sDlaw) (by decide +kernel)) (fun _ _ _ _ _ => pg_name (i := 21) sc_Dlaw.nd rfl (Or.inl rfl)) (fun _ _ _ _ _ => pts_one (pt_val (pe_callB call_isi (by rfl) T.b_isinstance (by decide +kernel) (pa_cons (pv 21) (pa_cons (pe_cls rfl T.g_Hand) pa_nil))))) (fun _ _ _ _ _ => (pe_tup (pa_cons (pe_fld (pv 21) rfl) (pa_cons (pe_fld (pv 21) rfl) pa_nil))))) pa_nil))) (pss_cons (ps_set (i := 8) sc_Dlaw.nd rfl (Or.inl rfl) (pe_mt (met_minus T) hr (by decide) (pe_dget (hu_of hr) (pv 3) (pe_dget (hu_of hr) (pv 7) (pe_ix ix_list (pv 5) pe_int (fun _ _ => rfl)) (fun _ _ => rfl)) (fun _ _ => rfl)) (pa_cons (pe_dget (hu_of hr) (pv 3) (pe_dget (hu_of hr) (pv 7) (pe_ix ix_list (pv 5) pe_int (fun _ _ => rfl)) (fun _ _ => rfl)) (fun _ _ => rfl)) pa_nil))) (pss_cons (ps_set (i := 9) sc_Dlaw.nd rfl (Or.inl rfl) (pe_mt0 (met_sign T) hr (by decide) (pv 8))) (pss_cons (ps_set (i := 10) sc_Dlaw.nd rfl (Or.inr rfl) (pe_lst pa_nil)) (pss_cons (ps_for PassesOwn.never rfl (pi_range1 rfl T.b_range (pa_cons (pe_callB (call_max2 rfl) (by rfl) T.b_max (by decide +kernel) (pa_cons pe_int (pa_cons (pe_callB (call_min2 rfl) (by rfl) T.b_min (by decide +kernel) (pa_cons pe_int (pa_cons (pe_callB call_len (by rfl) T.b_len (by decide +kernel) (pa_cons (pv 0) pa_nil)) pa_nil))) pa_nil))) pa_nil)) (pg_name (i := 11) sc_Dlaw.nd rfl (Or.inl rfl)) (pss_cons (ps_set (i := 12) sc_Dlaw.nd rfl (Or.inl rfl) (pe_c (cal_law_drawn T) hr (by decide) rfl (pa_cons (pv 0) (pa_cons (pv 11) pa_nil)))) (pss_cons (ps_set (i := 13) sc_Dlaw.nd rfl (Or.inl rfl) (pe_c (cal_law_mix T) hr (by decide) rfl (pa_cons (pv 12) (pa_cons (pv 11) pa_nil)))) (pss_cons (ps_set (i := 14) sc_Dlaw.nd rfl (Or.inr rfl) (pe_mk (mak_Ratio_2 T) hr (by decide) rfl (pa_cons (pe_op op_sub (pe_op op_mod (pv 13) pe_int) pe_int) (pa_cons (pe_op op_add pe_int (pe_op op_mod (pe_op op_fdiv (pv 13) pe_int) pe_int)) pa_nil)))) (pss_cons (ps_cut (ps_if (pt_cmpR op_eq (pe_op op_mod (pe_op op_fdiv (pv 13) pe_int) pe_int) pe_int (nomark _)) (pss_one (ps_set (i := 14) sc_Dlaw.nd rfl (Or.inr rfl) (pe_c (cal_law_ratio T) hr (by decide) rfl (pa_cons (pv 12) (pa_cons (pv 13) pa_nil))))) pss_nil)) (pss_cons (ps_cut (ps_if (PW.pt (pw_and (pt_cmpR op_ne (pv 9) pe_int (nomark _)) (pw_and1 (pt_cmpR op_eq (pe_op op_mod (pe_op op_fdiv (pv 13) pe_int) pe_int) pe_int (nomark _))))) (pss_cons (ps_set (i := 15) sc_Dlaw.nd rfl (Or.inl rfl) (pe_mt (met_minus T) hr (by decide) (pe_c (cal_law_ahead T) hr (by decide) rfl (pa_cons (pv 3) (pa_cons (pv 1) (pa_cons (pe_ix ix_list (pv 5) pe_int (fun _ _ => rfl)) (pa_cons (pe_ix ix_list (pv 5) pe_int (fun _ _ => rfl)) (pa_cons (pv 14) pa_nil)))))) (pa_cons (pv 6) pa_nil))) (pss_one (ps_set (i := 14) sc_Dlaw.nd rfl (Or.inr rfl) (pe_mt (met_minus T) hr (by decide) (pv 14) (pa_cons (pe_mt (met_over T) hr (by decide) (pe_mt0 (met_rest T) hr (by decide) (pv 15)) (pa_cons (pv 8) pa_nil)) pa_nil))))) pss_nil)) (pss_cons (ps_set (i := 16) sc_Dlaw.nd rfl (Or.inl rfl) (pe_callB call_len (by rfl) T.b_len (by decide +kernel) (pa_cons (pe_lc (own := [("_law_one", 22)]) (g := gName 22) (tt := (tTest (tOp (rI0 fun i j => .bl (decide (j < i))) (tMeth (He.ga K "Ratio") "sign" (spRatV K sgn) [] C8.E0 (tMeth (He.ga K "Ratio") "minus" (spRat2 K Ok2 (· - ·)) [] C8.E0 (tVar 14) (tCons (tVar 22) tNil)) tNil) (tC (.int 0))))) (te := (tVar 22)) (by rfl) sc_Dlaw.nd (pi_list (pv 10)) (blkOk_by (N := ["_law_script", "_law_rows", "_law_draw", "_law_told", "_law_work", "_law_pair", "_law_off", "_law_arbors_here", "_law_speed", "_law_gain", "_law_moments", "_law_k", "_law_cell", "_law_number", "_law_moment", "_law_lead", "_law_at", "_law_leads", "_law_always", "_law_total", "_law_due_here", "_law_row", "_law_one"]) (sc := defScope sDlaw) (by decide +kernel)) (fun _ _ _ _ _ => pg_name (i := 22) sc_Dlaw.nd rfl (Or.inl rfl)) (fun _ _ _ _ _ => pts_one (pt_cmpR op_gt (pe_mt0 (met_sign T) hr (by decide) (pe_mt (met_minus T) hr (by decide) (pv 14) (pa_cons (pv 22) pa_nil))) pe_int (nomark _))) (fun _ _ _ _ _ => (pv 22))) pa_nil))) (pss_one (ps_set (i := 10) sc_Dlaw.nd rfl (Or.inr rfl) (pe_op op_cat (pe_op op_cat (pe_slice sl_list (pv 10) po_none (po_some (pv 16))) (pe_lst (pa_cons (pv 14) pa_nil))) (pe_slice sl_list (pv 10) (po_some (pv 16)) po_none))))))))))) (pss_cons (ps_setLc (i := 17) (own := [("_law_moment", 14)]) (g := gName 14) (tt := tYes) (te := (tMeth (He.ga K "Ratio") "minus" (spRat2 K Ok2 (· - ·)) [] C8.E0 (tCall (spAhead K) [] C8.E0 (tCons (tVar 3) (tCons (tVar 1) (tCons (tOp (rIxL K) (tVar 5) (tC (.int 0))) (tCons (tOp (rIxL K) (tVar 5) (tC (.int 1))) (tCons (tVar 14) tNil)))))) (tCons (tVar 6) tNil))) (by rfl) sc_Dlaw.nd rfl rfl (sw_true rfl rfl rfl (by decide +kernel)) (pi_list (pv 10)) (blkOk_by (N := ["_law_script", "_law_rows", "_law_draw", "_law_told", "_law_work", "_law_pair", "_law_off", "_law_arbors_here", "_law_speed", "_law_gain", "_law_moments", "_law_k", "_law_cell", "_law_number", "_law_moment", "_law_lead", "_law_at", "_law_leads", "_law_always", "_law_total", "_law_due_here", "_law_row", "_law_one"]) (sc := defScope sDlaw) (by decide +kernel)) (fun _ _ _ _ _ => pg_name (i := 14) sc_Dlaw.nd rfl (Or.inl rfl)) (fun _ _ _ _ _ => pts_nil) (fun _ _ _ _ _ => (pe_mt (met_minus T) hr (by decide) (pe_c (cal_law_ahead T) hr (by decide) rfl (pa_cons (pv 3) (pa_cons (pv 1) (pa_cons (pe_ix ix_list (pv 5) pe_int (fun _ _ => rfl)) (pa_cons (pe_ix ix_list (pv 5) pe_int (fun _ _ => rfl)) (pa_cons (pv 14) pa_nil)))))) (pa_cons (pv 6) pa_nil)))) (pss_cons (ps_if (pt_cmpR op_eq (pv 9) pe_int (nomark _)) (pss_cons (ps_set (i := 18) sc_Dlaw.nd rfl (Or.inl rfl) (LamX.pe_lamcall (T := [(Pt, qlam)]) (TT := TTna K) (x := "_law_no_ask") (a := "_law_call") (k := 10) (Ng := ["_law_call", "_law_caught", "e"]) (t := fun E => tCall (spCountZ K) [] E (tCons (tVar 4) (tCons (tOp (rIxL K) (tVar 5) (tC (.int 0))) (tCons (tOp (rIxL K) (tVar 5) (tC (.int 1))) (tCons (tVar 6) (tCons (tOp (rIxL K) (tVar 10) (tC (.int 0))) (tCons (tOp (rIxL K) (tVar 10) (tUn (rU fun i => .int (-i)) (tC (.int 1)))) tNil))))))) rfl T.g_law_no_ask kpN lkN hcdN biN sc_Dlaw_no_ask rfl (.inl rfl) (na_gives T _ _) TB rfl (List.mem_singleton.mpr rfl) (fun p hp _ => by rw [List.mem_singleton.mp hp] <;> rfl) (hr.mono (by decide)) (LamX.lamS_by (sc := defScope sDlaw) (by decide +kernel)) rfl (fun _ _ _ _ _ => rfl) (fun A outer s H E f c2 hr2 => pe_call (ok_count_ofZ FC T) (hr2.mono (by decide)) rfl T.g_count_of FC.kp (bi_Dcount_of FC) .nil (passes_call (takes_of rfl rfl rfl rfl) (fun _ _ _ _ h => h)) (pa_cons (pv 4) (pa_cons (pe_ix ix_list (pv 5) pe_int (fun _ _ => rfl)) (pa_cons (pe_ix ix_list (pv 5) pe_int (fun _ _ => rfl)) (pa_cons (pv 6) (pa_cons (pe_ix ix_list (pv 10) pe_int (fun _ _ => rfl)) (pa_cons (pe_ix ix_list (pv 10) (pe_un un_neg pe_int) (fun _ _ => rfl)) pa_nil))))))))) (pss_one (ps_ret (pe_cmpR op_eq (pv 18) (pe_cmpR op_eq (pe_fld (pe_ix ix_list (pv 17) pe_int (fun _ _ => rfl)) rfl) pe_int (nomark _)) (nomark _))))) pss_nil) (pss_cons (ps_set (i := 19) sc_Dlaw.nd rfl (Or.inl rfl) pe_int) (pss_cons (ps_for PassesOwn.never rfl (pi_range1 rfl T.b_range (pa_cons (pe_op op_sub (pe_callB call_len (by rfl) T.b_len (by decide +kernel) (pa_cons (pv 10) pa_nil)) pe_int) pa_nil)) (pg_name (i := 11) sc_Dlaw.nd rfl (Or.inl rfl)) (pss_cons (ps_set (i := 20) sc_Dlaw.nd rfl (Or.inl rfl) (pe_c (cal_law_due T) hr (by decide) rfl (pa_cons (pe_ix ix_list (pv 17) (pv 11) (fun _ _ => rfl)) (pa_cons (pe_ix ix_list (pv 17) (pe_op op_add (pv 11) pe_int) (fun _ _ => rfl)) (pa_cons (pv 9) pa_nil))))) (pss_cons (ps_if (pt_not (pt_val (pe_c (cal_law_part_right T) hr (by decide) rfl (pa_cons (pv 4) (pa_cons (pv 5) (pa_cons (pv 6) (pa_cons (pe_ix ix_list (pv 10) (pv 11) (fun _ _ => rfl)) (pa_cons (pe_ix ix_list (pv 10) (pe_op op_add (pv 11) pe_int) (fun _ _ => rfl)) (pa_cons (pv 20) pa_nil))))))))) (pss_one (ps_ret pe_bl)) pss_nil) (pss_one (ps_set (i := 19) sc_Dlaw.nd rfl (Or.inl rfl) (pe_op op_add (pv 19) (pv 20))))))) (pss_one (ps_ret (pe_cmpR op_eq (pe_c (cal_count_of T) hr (by decide) rfl (pa_cons (pv 4) (pa_cons (pe_ix ix_list (pv 5) pe_int (fun _ _ => rfl)) (pa_cons (pe_ix ix_list (pv 5) pe_int (fun _ _ => rfl)) (pa_cons (pv 6) (pa_cons (pe_ix ix_list (pv 10) pe_int (fun _ _ => rfl)) (pa_cons (pe_ix ix_list (pv 10) (pe_un un_neg pe_int) (fun _ _ => rfl)) pa_nil))))))) (pv 19) (nomark _)))))))))))))))))))), ?_⟩
    obtain ⟨a, ns, rfl, hs0, hnl, hPt, kk⟩ := h
    refine ⟨_, rfl, a, ns, rfl, hs0, hnl, fun l b ts hs H1 s1 hrows G hsok hsl => ?_⟩
    refine ⟨_, rfl, a, ns, rfl, sql_same hs0 s1, _, _, rfl, fun dr d0 d1 => ?_⟩
    refine ⟨_, rfl, _, rfl, _, rfl, l, dr, b, ts, hs, rfl, d0, hrows, G, hsok, hsl, fun l2 a1 a2 q1 o2 H2 s2 hr2 t1 t2 bq1 bo2 => ?_⟩
    obtain ⟨ps, hl, pr⟩ := hrows.mono s2
    obtain ⟨ps2, hl2, pr2⟩ := hr2
    have lrows : (allRows b 0 ts ++ hs).length ≤ 30 := by
      have := all_len (b := b) (ts := ts) (k := 0)
      have := G.l6
      rw [List.length_append]
      omega
    have lps : ps.length ≤ 30 := by rw [Paired.length pr]; exact lrows
    have lps2 : ps2.length = 3 := by rw [Paired.length pr2] <;> rfl
    refine ⟨l, l2, _, _, rfl, rfl, hl, hl2, by rw [List.length_map, List.length_map]; exact Nat.le_trans (show _ ≤ 33 by omega) (by decide), fun L nL => ?_⟩
    have hR := rows_cat (l2 := l2) pr pr2 nL
    have s3 : Same H2 (upd H2 L (.lst (ps.map V.ref ++ ps2.map V.ref))) := same_upd nL
    generalize upd H2 L (.lst (ps.map V.ref ++ ps2.map V.ref)) = H3 at hR s3
    have s03 : Same H H3 := Same.trans (Same.trans s1 s2) s3
    have hap : Apart (allRows b 0 ts ++ hs) := apart_of hsok
    have ers : (allRows b 0 ts ++ hs) ++ hands3 a1 a2 q1 o2 = allRows b 0 ts ++ (hs ++ hands3 a1 a2 q1 o2) := List.append_assoc ..
    have sh3 : ∀ r ∈ hs ++ hands3 a1 a2 q1 o2, ShM r := fun r hr => by
      rcases List.mem_append.mp hr with z | z
      · exact (hsok r z).sh
      · have z : r = .hand "first" a1 (some q1) ∨ r = .hand "second" a2 o2 ∨ r = .hand "third" a1 none := by simpa [hands3] using z
        rcases z with rfl | rfl | rfl <;> trivial
    obtain ⟨v1, v2, v3, v4⟩ := solved G sh3
    rw [← ers] at v1 v2 v3 v4
    obtain ⟨w1', t1⟩ := t1
    obtain ⟨w2', t2⟩ := t2
    have shown : ∀ r ∈ (allRows b 0 ts ++ hs) ++ hands3 a1 a2 q1 o2, ShownOk (knM b ts) r := fun r hr => by
      rcases List.mem_append.mp hr with z | z
      · rcases List.mem_append.mp z with z | z
        · cases r with
          | hand n a q => exact absurd rfl (all_nohand _ z n a q)
          | count n a t => exact absurd z all_nocount
          | _ => trivial
        · exact (hsok r z).shown
      · have z : r = .hand "first" a1 (some q1) ∨ r = .hand "second" a2 o2 ∨ r = .hand "third" a1 none := by simpa [hands3] using z
        rcases z with rfl | rfl | rfl
        · exact ⟨_, t1⟩
        · exact ⟨_, t2⟩
        · exact ⟨_, t1⟩
    obtain ⟨D, D0, D1, frs, _, _⟩ := speeds_ok G
    have pok : ∀ one other, ((one = ("first" : Str) ∧ other = ("second" : Str)) ∨ (one = "second" ∧ other = "third")) → ∃ A1 A2 c1 c2 w1 w2, PairOk (knM b ts) ((allRows b 0 ts ++ hs) ++ hands3 a1 a2 q1 o2) one other A1 A2 c1 c2 w1 w2 := fun one other hc => pair_ok hap t1 t2 bq1 bo2 hc
    have lrs : ((allRows b 0 ts ++ hs) ++ hands3 a1 a2 q1 o2).length ≤ 1000 := by
      rw [List.length_append]
      have : (hands3 a1 a2 q1 o2).length = 3 := rfl
      omega
    have told_h : ∀ (i : Nat) n a bg, ((allRows b 0 ts ++ hs) ++ hands3 a1 a2 q1 o2)[i]? = some (.hand n a bg) → ∃ v, getT (knM b ts) a = some (some v) := fun i n a bg hi => shown _ (List.mem_of_getElem? hi)
    generalize (allRows b 0 ts ++ hs) ++ hands3 a1 a2 q1 o2 = rs at hR v1 v2 v3 v4 shown pok lrs told_h
    generalize knM b ts = kn at v4 shown pok frs told_h
    refine ⟨_, rfl, L, rs, rfl, hR, lrs, v1, v2, v3, fun H4 d s4 DD nd => ?_⟩
    rw [v4] at DD
    refine ⟨_, rfl, ?_⟩
    refine work_new (hR.mono s4) lrs v1 v2 v3 v4 shown fun W H5 s5 hW => ?_
    have s05 : Same H H5 := Same.trans s03 (Same.trans s4 s5)
    -- the pair
    refine ⟨(by show 2 ≤ sizeLine; decide), fun e1 ne1 => ?_⟩
    have u1 : Same H5 (upd H5 e1 (.lst [.str "first", .str "second"])) := same_upd ne1
    have he1 : upd H5 e1 (.lst [.str "first", .str "second"]) e1 = some (.lst [.str "first", .str "second"]) := upd_same
    refine ⟨(by show 2 ≤ sizeLine; decide), fun e2 ne2 => ?_⟩
    generalize upd H5 e1 (.lst [.str "first", .str "second"]) = H6 at u1 he1 ne2
    have u2 : Same H6 (upd H6 e2 (.lst [.str "second", .str "third"])) := same_upd ne2
    have he2 : upd H6 e2 (.lst [.str "second", .str "third"]) e2 = some (.lst [.str "second", .str "third"]) := upd_same
    refine ⟨(by show 2 ≤ sizeLine; decide), fun e3 ne3 => ?_⟩
    generalize upd H6 e2 (.lst [.str "second", .str "third"]) = H7 at u2 he2 ne3
    have u3 : Same H7 (upd H7 e3 (.lst [.ref e1, .ref e2])) := same_upd ne3
    have he3 : upd H7 e3 (.lst [.ref e1, .ref e2]) e3 = some (.lst [.ref e1, .ref e2]) := upd_same
    refine ⟨_, rfl, _, _, rfl, rfl, ⟨by decide, by decide⟩, _, _, rfl, rfl, (by first | decide | (show (0 : Int) < _; decide)), ?_⟩
    generalize upd H7 e3 (.lst [.ref e1, .ref e2]) = H8 at u3 he3
    have b0 := Int.emod_nonneg (dr / 7) (show (2 : Int) ≠ 0 by decide)
    have b1' := Int.emod_lt_of_pos (dr / 7) (show (0 : Int) < 2 by decide)
    obtain ⟨pp, one, other, hz, hpp, hc⟩ : ∃ pp one other, ([.ref e1, .ref e2] : List V)[(dr / 7 % 2).toNat]? = some (.ref pp) ∧ H8 pp = some (.lst [.str one, .str other]) ∧ ((one = ("first" : Str) ∧ other = ("second" : Str)) ∨ (one = "second" ∧ other = "third")) := by
      have : dr / 7 % 2 = 0 ∨ dr / 7 % 2 = 1 := by omega
      rcases this with z | z
      · exact ⟨e1, _, _, by rw [z]; rfl, u3 _ _ (u2 _ _ he1), .inl ⟨rfl, rfl⟩⟩
      · exact ⟨e2, _, _, by rw [z]; rfl, u3 _ _ he2, .inr ⟨rfl, rfl⟩⟩
    obtain ⟨A1, A2, c1, c2, w1, w2, pk⟩ := pok one other hc
    refine ⟨e3, _, dr / 7 % 2, .ref pp, rfl, rfl, SqL.of he3, at_of (j := (dr / 7 % 2).toNat) (by omega) hz, ?_⟩
    have s58 : Same H5 H8 := Same.trans u1 (Same.trans u2 u3)
    -- off
    refine ⟨_, rfl, _, rfl, dr, dr, rfl, fun r1 qf H9 s9 R1 k1 => ?_⟩
    have x0 := Int.emod_nonneg (dr / 14) (show (24 : Int) ≠ 0 by decide)
    have x1 := Int.emod_lt_of_pos (dr / 14) (show (0 : Int) < 24 by decide)
    have y0 := Int.emod_nonneg (dr / 400) (show (2 : Int) ≠ 0 by decide)
    have y1 := Int.emod_lt_of_pos (dr / 400) (show (0 : Int) < 2 by decide)
    refine ⟨_, rfl, _, _, rfl, rfl, ⟨by decide, by decide⟩, _, _, rfl, rfl, (by first | decide | (show (0 : Int) < _; decide)), ?_⟩
    refine rat_new (by decide) (b8 (by omega)) (b8 (by decide)) fun r2 H10 s10 R2 => ?_
    refine ⟨(by show 2 ≤ sizeLine; decide), fun e4 ne4 => ?_⟩
    have u4 : Same H10 (upd H10 e4 (.lst [.ref r1, .ref r2])) := same_upd ne4
    have he4 : upd H10 e4 (.lst [.ref r1, .ref r2]) e4 = some (.lst [.ref r1, .ref r2]) := upd_same
    refine ⟨_, rfl, _, _, rfl, rfl, ⟨by decide, by decide⟩, _, _, rfl, rfl, (by first | decide | (show (0 : Int) < _; decide)), ?_⟩
    generalize upd H10 e4 (.lst [.ref r1, .ref r2]) = H11 at u4 he4
    obtain ⟨ro, off, hz2, Ro, bo⟩ : ∃ ro off, ([.ref r1, .ref r2] : List V)[(dr / 400 % 2).toNat]? = some (.ref ro) ∧ RatAt K H11 ro off ∧ Bd 41 off := by
      have : dr / 400 % 2 = 0 ∨ dr / 400 % 2 = 1 := by omega
      rcases this with z | z
      · exact ⟨r1, qf, by rw [z]; rfl, (R1.mono s10).mono u4, qok_bd k1⟩
      · exact ⟨r2, _, by rw [z]; rfl, R2.mono u4, (begB_div (b := 24) (by decide) (by omega) (by decide) : Bd 7 _).mono (by decide)⟩
    refine ⟨e4, _, dr / 400 % 2, .ref ro, rfl, rfl, SqL.of he4, at_of (j := (dr / 400 % 2).toNat) (by omega) hz2, ?_⟩
    have s811 : Same H8 H11 := Same.trans s9 (Same.trans s10 u4)
    have s3_11 : Same H3 H11 := Same.trans (Same.trans s4 s5) (Same.trans s58 s811)
    -- the hands' arbors
    obtain ⟨pL, hL, prL⟩ := hR.mono s3_11
    refine ⟨_, rfl, L, rfl, ⟨_, SqL.of hL⟩, fun DL nDL => ?_⟩
    refine lc_list (K := K) (a := L) (xs := pL.map V.ref) (fun i H' => Same H11 H' ∧ ∃ (tt : List Addr) (kvs : List (Key × V)), H' DL = some (.lst (tt.map V.ref)) ∧ Paired (fun t kv => H' t = some (.tup [kV kv.1, kv.2])) tt kvs ∧
      DP StrR kvs ((rs.take i).filterMap handD)) ?_ ?_ ?_ ?_
    · exact ⟨same_upd nDL, [], [], upd_same, .nil, .nil⟩
    · rintro i H' _ ⟨sx, _⟩
      exact SqL.of (sx _ _ hL)
    · rintro i x H' hi ⟨sx, tt, kvs, hD, pt, dp⟩
      obtain ⟨p, hp, rfl⟩ := ref_nth hi
      obtain ⟨r, hri, hr0⟩ := paired_nth prL hp
      have hrr := hr0.mono sx
      obtain ⟨dx, fs, f1, f2⟩ := id hrr
      have et := take_snoc hri
      refine ⟨rfl, ?_⟩
      refine ⟨_, rfl, _, _, _, _, _, rfl, .own _, T.ty _ f1, T.kit r.cl .hand, _, rfl, ?_⟩
      cases r with
      | hand n ar bg =>
        obtain ⟨wy, mk, xb, rfl, ob⟩ := f2
        refine ite2 (fun _ => ?_) (fun h => absurd (show decide (Cl.hand = Cl.hand) = true from decide_eq_true rfl) h)
        refine ⟨_, rfl, p, _, _, _, _, rfl, f1, T.cl_Hand, T.na_Hand_name, lk_Hand_name, _, rfl, p, _, _, _, _, rfl, f1, T.cl_Hand, T.na_Hand_arbor, lk_Hand_arbor, (by show 2 ≤ sizeLine; decide), fun tp ntp => ?_⟩
        have sy : Same H' (upd H' tp (.tup [.str n, .str ar])) := same_upd ntp
        have nDt : DL ≠ tp := ne_of_none hD ntp
        refine ⟨_, sy _ _ hD, ?_, ?_⟩
        · rw [List.length_map, Paired.length pt, dp.len]
          have h1 := List.length_filterMap_le handD (rs.take i)
          have h2 : (rs.take i).length ≤ rs.length := List.length_take_le' _ _
          exact Nat.lt_of_le_of_lt (Nat.le_trans h1 (Nat.le_trans h2 lrs)) (by decide)
        · have htp : upd H' tp (.tup [.str n, .str ar]) tp = some (.tup [.str n, .str ar]) := upd_same
          generalize upd H' tp (.tup [.str n, .str ar]) = Hq at sy htp
          have c : Chg [DL] Hq (upd Hq DL (.lst (tt.map V.ref ++ [V.ref tp]))) := chg_upd (by simp)
          refine ⟨Same.upd (Same.trans sx sy) nDL, tt ++ [tp], kvs ++ [(.inr n, .str ar)], ?_, ?_, ?_⟩
          · rw [upd_same, List.map_append] <;> rfl
          · refine Paired.snoc (Paired.mapP pt fun t kv e => ?_) ?_
            · have h3 := sy _ _ e
              exact c _ _ h3 (by simpa using ne_of h3 (sy _ _ hD) (fun z => by cases z))
            · exact c _ _ htp (by simpa using nDt.symm)
          · rw [et, filterMap_snoc]
            exact Paired.snoc dp ⟨rfl, rfl⟩
      | _ =>
        refine ite2 (fun h => absurd (of_decide_eq_true h) (fun z => by cases z)) (fun _ => ?_)
        refine ⟨sx, tt, kvs, hD, pt, ?_⟩
        rw [et, filterMap_snoc]
        show DP _ kvs (_ ++ [])
        rw [List.append_nil]
        exact dp
    rintro H12 ⟨s12, tt, kvs, hD, pt, dp⟩
    have hlL : (pL.map V.ref).length = rs.length := by rw [List.length_map, Paired.length prL]
    rw [hlL, List.take_length] at dp
    refine ⟨DL, tt, kvs, rfl, SqL.of hD, Paired.mapP pt fun _ _ e => SqT.of e, fun ah nah => ?_⟩
    have u5 : Same H12 (upd H12 ah (.dK (mergeK [] kvs))) := same_upd nah
    have hAD : DictAt StrR (upd H12 ah (.dK (mergeK [] kvs))) ah (handsD rs) := ⟨_, upd_same, merge_dp dp .nil⟩
    generalize upd H12 ah (.dK (mergeK [] kvs)) = H13 at u5 hAD
    have s11_13 : Same H11 H13 := Same.trans s12 u5
    have s4_13 : Same H4 H13 := Same.trans s5 (Same.trans s58 (Same.trans s811 s11_13))
    have s8_13 : Same H8 H13 := Same.trans s811 s11_13
    have s5_13 : Same H5 H13 := Same.trans s58 s8_13
    have hpp13 := s8_13 _ _ hpp
    have DD13 := kn_same DD s4_13
    have hW13 := hW.mono s5_13
    have Ro13 := Ro.mono s11_13
    have hR13 := hR.mono (Same.trans s3_11 s11_13)
    have s0_13 : Same H H13 := Same.trans s05 s5_13
    -- the speed
    have bw1 : Bd 161 w1 := (frs _ _ pk.g1).bd D0 (Nat.lt_of_le_of_lt D1 (pow2_lt (by decide))) (pow2_lt (by decide))
    have bw2 : Bd 161 w2 := (frs _ _ pk.g2).bd D0 (Nat.lt_of_le_of_lt D1 (pow2_lt (by decide))) (pow2_lt (by decide))
    have bg : Bd 330 (w2 - w1) := (bd_sub bw2 bw1).mono (by decide)
    obtain ⟨q2r, dg2, Rq2⟩ := dget_kn DD13 pk.g2
    obtain ⟨q1r, dg1, Rq1⟩ := dget_kn DD13 pk.g1
    obtain ⟨dq2, hq2⟩ := id Rq2
    refine ⟨_, rfl, _, rfl, _, rfl, pp, _, 1, .str other, rfl, rfl, SqL.of hpp13, at_of (j := 1) rfl rfl, ah, .str A2, rfl, dget_str hAD pk.d2, d, .ref q2r, rfl, dg2, q2r, dq2, _, rfl, hq2, ratF_no _ (by decide +kernel) (by decide +kernel), _, rfl, _, rfl, _, rfl, pp, _, 0, .str one, rfl, rfl, SqL.of hpp13, at_of (j := 0) rfl rfl, ah, .str A1, rfl, dget_str hAD pk.d1, d, .ref q1r, rfl, dg1, q2r, q1r, w2, w1, rfl, Rq2, Rq1, ⟨bw2.mono (by decide), bw1.mono (by decide)⟩, fun rs' H14 s14 Rs => ?_⟩
    have Rs : RatAt K H14 rs' (w2 - w1) := Rs
    obtain ⟨drs, hrs'⟩ := id Rs
    refine ⟨_, rfl, rs', drs, _, rfl, hrs', ratF_no _ (by decide +kernel) (by decide +kernel), rs', _, rfl, Rs, bg.mono (by decide), ?_⟩
    refine ⟨Nat.zero_le _, fun M0 nM0 => ?_⟩
    have u6 : Same H14 (upd H14 M0 (.lst [])) := same_upd nM0
    have hM0 : upd H14 M0 (.lst []) M0 = some (.lst []) := upd_same
    generalize upd H14 M0 (.lst []) = Hb at u6 hM0
    have sb : Same H13 Hb := Same.trans s14 u6
    have s0b : Same H Hb := Same.trans s0_13 sb
    have hppb := sb _ _ hpp13
    have DDb := kn_same DD13 sb
    have hWb := hW13.mono sb
    have Rob := Ro13.mono sb
    have hRb := hR13.mono sb
    have Rsb := Rs.mono u6
    have hPtb : Hb Pt = some (.tbl #[]) := s0b _ _ hPt
    have leadEq : ∀ m : Rat, w2 * m + c2.getD 0 - (w1 * m + c1.getD 0) - off = (c2.getD 0 - c1.getD 0 - off) + (w2 - w1) * m := fun m => by grind
    have bA : Bd 100 (c2.getD 0 - c1.getD 0 - off) := bdA pk.b1 pk.b2 (bo.mono (by decide))
    have bdL : ∀ m, Bd 700 m → Bd 2000 (w2 * m + c2.getD 0 - (w1 * m + c1.getD 0)) := fun m hm => (bd_sub (bd_add (bd_mul bw2 hm) pk.b2) (bd_add (bd_mul bw1 hm) pk.b1)).mono (by decide)
    obtain ⟨cnt, hcnt, cnt0, cnt1⟩ : ∃ m : Int, (if (if ((ns.length : Nat) : Int) < 20 then ((ns.length : Nat) : Int) else 20) > 4 then (if ((ns.length : Nat) : Int) < 20 then ((ns.length : Nat) : Int) else 20) else 4) = m ∧ 4 ≤ m ∧ m ≤ 20 := ⟨_, rfl, by split <;> split <;> omega, by split <;> split <;> omega⟩
    refine ⟨_, rfl, _, ns.length, rfl, .inl ⟨_, sql_same hs0 s0b, (List.length_map _).symm⟩, _, _, rfl, _, _, rfl, ?_⟩
    rw [hcnt]
    refine ⟨cnt, rfl, by omega, by omega, for_it (walk_range (lo := 0) (n := cnt.toNat)) (fun i σ H' => ∃ M mp ms v11 v12 v13 v14 v15 v16, σ = [some (.ref a), some (.ref L), some (.int dr), some (.ref d), some (.ref W), some (.ref pp), some (.ref ro), some (.ref ah), some (.ref rs'), some (.int (sgn (w2 - w1))), some (.ref M), v11, v12, v13, v14, v15, v16, none, none, none, none, none, none] ∧
      Same Hb H' ∧ H' M = some (.lst (mp.map V.ref)) ∧ Paired (RatAt K H') mp ms ∧ Asc ms ∧ (∀ x ∈ ms, Bd 700 x) ∧ ms.length = i)
      ⟨M0, [], [], _, _, _, _, _, _, rfl, fun _ _ z => z, hM0, .nil, List.Pairwise.nil, (by simp), rfl⟩ (fun _ _ _ _ _ => trivial) ?_ ?_⟩
    · rintro i x σ H2' H2'' hi ⟨M, mp, ms, v11, v12, v13, v14, v15, v16, rfl, sH, hM, pm', asc, bms, lms⟩ ⟨rfl, hx⟩
      have hx : x = V.int (0 + (i : Int)) := hx
      have hk0 : 0 ≤ (0 : Int) + (i : Int) := by omega
      have hk1 : (0 : Int) + (i : Int) < 21 := by omega
      generalize (0 : Int) + (i : Int) = k at hx hk0 hk1
      subst hx
      have lmp : mp.length = i := (Paired.length pm').trans lms
      refine ⟨_, rfl, _, rfl, a, ns, k, rfl, sql_same hs0 (Same.trans s0b sH), hnl, hk0, by omega, fun cell H3' s3' => ?_⟩
      refine ⟨_, rfl, _, rfl, _, _, rfl, fun n n0 n1 => ?_⟩
      have g0 := Int.emod_nonneg n (show (2001 : Int) ≠ 0 by decide)
      have g1 := Int.emod_lt_of_pos n (show (0 : Int) < 2001 by decide)
      have g2 := Int.emod_nonneg (n / 2001) (show (12 : Int) ≠ 0 by decide)
      have g3 := Int.emod_lt_of_pos (n / 2001) (show (0 : Int) < 12 by decide)
      refine ⟨_, rfl, _, _, rfl, rfl, (by first | decide | (show (0 : Int) < _; decide)), _, _, rfl, rfl, _, rfl, _, _, rfl, rfl, ⟨by decide, by decide⟩, _, _, rfl, rfl, (by first | decide | (show (0 : Int) < _; decide)), _, _, rfl, rfl, ?_⟩
      refine rat_new (by omega) (b8 (by omega)) (b8 (by omega)) fun mo0 H4' s4' Rm0 => ?_
      have bm0 : Bd 41 (Rat.divInt (n % 2001 - 1000) (1 + n / 2001 % 12)) := qok_bd (qok_div (by omega) (by omega) (by omega))
      have s24 : Same H2'' H4' := Same.trans s3' s4'
      -- drawn by itself
      refine ⟨fun σ H => ∃ mo m, σ = [some (.ref a), some (.ref L), some (.int dr), some (.ref d), some (.ref W), some (.ref pp), some (.ref ro), some (.ref ah), some (.ref rs'), some (.int (sgn (w2 - w1))), some (.ref M), some (.int k), some (.int cell), some (.int n), some (.ref mo), v15, v16, none, none, none, none, none, none] ∧ Same H2'' H ∧ RatAt K H mo m ∧ Bd 41 m, ?_, ?_⟩
      · refine ⟨_, rfl, _, _, rfl, rfl, ⟨by decide, by decide⟩, _, _, rfl, rfl, (by first | decide | (show (0 : Int) < _; decide)), rfl, _, rfl, ?_⟩
        refine ite2 (fun _ => ?_) (fun _ => ?_)
        · refine ⟨_, rfl, _, rfl, cell, n, rfl, fun r q H5' s5' R k1 => ?_⟩
          exact ⟨r, q, rfl, Same.trans s24 s5', R, qok_bd k1⟩
        · exact ⟨mo0, _, rfl, s24, Rm0, bm0⟩
      rintro σ H5' ⟨mo1, m1, rfl, s25, Rm1, bm1⟩
      -- moved to a meeting
      refine ⟨fun σ H => ∃ mo m w15, σ = [some (.ref a), some (.ref L), some (.int dr), some (.ref d), some (.ref W), some (.ref pp), some (.ref ro), some (.ref ah), some (.ref rs'), some (.int (sgn (w2 - w1))), some (.ref M), some (.int k), some (.int cell), some (.int n), some (.ref mo), w15, v16, none, none, none, none, none, none] ∧ Same H2'' H ∧ RatAt K H mo m ∧ Bd 700 m, ?_, ?_⟩
      · refine ⟨_, rfl, rfl, _, rfl, ?_⟩
        refine ite2 (fun hg => ?_) (fun _ => ?_)
        · have gn : w2 - w1 ≠ 0 := fun z => by
            have hg : (!decide (V.int (sgn (w2 - w1)) = V.int 0)) = true := hg
            rw [sgn_zero.mpr z] at hg
            simp at hg
          refine ⟨_, rfl, _, _, rfl, rfl, ⟨by decide, by decide⟩, _, _, rfl, rfl, (by first | decide | (show (0 : Int) < _; decide)), rfl, _, rfl, ?_⟩
          refine ite2 (fun _ => ?_) (fun _ => ?_)
          · have sb5 : Same Hb H5' := Same.trans sH s25
            have bm1' : Bd 700 m1 := bm1.mono (by decide)
            obtain ⟨st, eah⟩ := pk.ah m1 bm1' bw1 bw2
            refine ⟨_, rfl, _, rfl, _, rfl, pp, _, 0, .str one, rfl, rfl, SqL.of (sb5 _ _ hppb), at_of (j := 0) rfl rfl, _, rfl, pp, _, 1, .str other, rfl, rfl, SqL.of (sb5 _ _ hppb), at_of (j := 1) rfl rfl, _, rfl, d, L, mo1, one, other, kn, rs, m1, rfl, kn_same DDb sb5, hRb.mono sb5, Rm1, st, told_h, fun ra H6' s6' Ra => ?_⟩
            rw [eah] at Ra
            obtain ⟨dra, hra⟩ := id Ra
            have bAh := bdL m1 bm1'
            have Ro6 := (Rob.mono sb5).mono s6'
            refine ⟨ra, dra, _, rfl, hra, ratF_no _ (by decide +kernel) (by decide +kernel), _, rfl, ra, ro, _, off, rfl, Ra, Ro6, ⟨bAh.mono (by decide), bo.mono (by decide)⟩, fun rl H7' s7' Rl => ?_⟩
            have Rl : RatAt K H7' rl (w2 * m1 + c2.getD 0 - (w1 * m1 + c1.getD 0) - off) := Rl
            rw [leadEq] at Rl
            have bl : Bd 200 ((c2.getD 0 - c1.getD 0 - off) + (w2 - w1) * m1) → True := fun _ => trivial
            have bgs : Bd 163 (w2 - w1) := ((frs _ _ pk.g2).sub (frs _ _ pk.g1)).bd D0 (Nat.lt_of_le_of_lt D1 (pow2_lt (by decide))) (by rw [← Nat.two_mul, ← Nat.pow_succ']; exact pow2_lt (by decide))
            have bA60 : Bd 60 (c2.getD 0 - c1.getD 0 - off) := (bd_sub (bd_sub pk.b2 pk.b1) bo).mono (by decide)
            have bld : Bd 425 ((c2.getD 0 - c1.getD 0 - off) + (w2 - w1) * m1) := (bd_add bA60 (bd_mul bgs bm1)).mono (by decide)
            obtain ⟨dl7, hl7⟩ := id Rl
            have s57 : Same H5' H7' := Same.trans s6' s7'
            have Rm7 := Rm1.mono s57
            obtain ⟨dm7, hm7⟩ := id Rm7
            refine ⟨_, rfl, mo1, dm7, _, rfl, hm7, ratF_no _ (by decide +kernel) (by decide +kernel), _, rfl, rl, dl7, _, rfl, hl7, ratF_no _ (by decide +kernel) (by decide +kernel), rl, _, rfl, Rl, bld.mono (by decide), fun r8 H8' s8' R8 => ?_⟩
            obtain ⟨d8, h8⟩ := id R8
            have s28 : Same Hb H8' := Same.trans sb5 (Same.trans s57 s8')
            have br := bd_rest bld
            refine ⟨r8, d8, _, rfl, h8, ratF_no _ (by decide +kernel) (by decide +kernel), _, rfl, r8, rs', _, _, rfl, R8, Rsb.mono s28, ⟨gn, br.mono (by decide), bg.mono (by decide)⟩, fun r9 H9' s9' R9 => ?_⟩
            have s79 : Same H7' H9' := Same.trans s8' s9'
            have bq := bd_div gn br bgs
            refine ⟨mo1, r9, m1, _, rfl, Rm7.mono s79, R9, ⟨bm1.mono (by decide), bq.mono (by decide)⟩, fun rX HX sX RX => ?_⟩
            exact ⟨rX, _, _, rfl, Same.trans s25 (Same.trans s57 (Same.trans s79 sX)), RX, (bd_sub bm1 bq).mono (by decide)⟩
          · exact ⟨mo1, m1, v15, rfl, s25, Rm1, bm1.mono (by decide)⟩
        · refine ite2 (fun h => by cases h) (fun _ => ?_)
          exact ⟨mo1, m1, v15, rfl, s25, Rm1, bm1.mono (by decide)⟩
      rintro σ H6' ⟨mo, m, w15, rfl, s26, Rm, bm⟩
      -- its place
      have hM6 := s26 _ _ hM
      have pm6 := Paired.mapP pm' fun _ _ z => z.mono s26
      refine ⟨_, rfl, M, rfl, ⟨_, SqL.of hM6⟩, fun DL nDL => ?_⟩
      refine lc_list (K := K) (a := M) (xs := mp.map V.ref) (fun i H' => Same H6' H' ∧ ∃ ys, H' DL = some (.lst ys) ∧ ys.length = below m (ms.take i)) ?_ ?_ ?_ ?_
      · exact ⟨same_upd nDL, [], upd_same, by simp [below]⟩
      · rintro i H' _ ⟨sx, _⟩
        exact SqL.of (sx _ _ hM6)
      · rintro j x H' hj ⟨sx, ys, hD, hy⟩
        obtain ⟨p, hp, rfl⟩ := ref_nth hj
        obtain ⟨q, hq, Rq0⟩ := paired_nth pm6 hp
        have Rq := Rq0.mono sx
        have Rmx := Rm.mono sx
        obtain ⟨dmx, hmx⟩ := id Rmx
        have bq := bms q (List.mem_of_getElem? hq)
        refine ⟨rfl, ?_⟩
        refine ⟨_, rfl, mo, dmx, _, rfl, hmx, ratF_no _ (by decide +kernel) (by decide +kernel), _, rfl, mo, p, m, q, rfl, Rmx, Rq, ⟨bm.mono (by decide), bq.mono (by decide)⟩, fun rd Hd sd Rd => ?_⟩
        have Rd : RatAt K Hd rd (m - q) := Rd
        obtain ⟨drd, hrd⟩ := id Rd
        refine ⟨rd, drd, _, rfl, hrd, ratF_no _ (by decide +kernel) (by decide +kernel), rd, _, rfl, Rd, (bd_sub bm bq).mono (by decide), _, _, rfl, rfl, _, rfl, ?_⟩
        have et := take_snoc hq
        have hlt : (0 < sgn (m - q)) ↔ q < m := by
          rw [sgn_pos]
          constructor
          · intro z
            grind
          · intro z
            grind
        refine ite2 (fun h => ?_) (fun h => ?_)
        · have h : q < m := hlt.mp (of_decide_eq_true h)
          refine ⟨_, rfl, ys, sd _ _ hD, ?_, Same.upd (Same.trans sx sd) nDL, _, upd_same, ?_⟩
          · rw [hy]
            have := below_le (m := m) (ms := ms.take j)
            have h2 : (ms.take j).length ≤ ms.length := List.length_take_le' _ _
            exact Nat.lt_of_le_of_lt (show _ ≤ 30 by omega) (by decide)
          · rw [List.length_append, hy, et, below_snoc, if_pos h] <;> rfl
        · have h : ¬ q < m := fun z => h (decide_eq_true (hlt.mpr z))
          refine ⟨Same.trans sx sd, ys, sd _ _ hD, ?_⟩
          rw [hy, et, below_snoc, if_neg h] <;> rfl
      rintro H7' ⟨s67, ys, hD, hy⟩
      have hlM : (mp.map V.ref).length = ms.length := by rw [List.length_map, Paired.length pm']
      rw [hlM, List.take_length] at hy
      refine ⟨_, ys.length, rfl, .inl ⟨ys, SqL.of hD, rfl⟩, ?_⟩
      rw [hy]
      have hb := below_le (m := m) (ms := ms)
      have hbl : below m ms ≤ (mp.map V.ref).length := by rw [hlM]; exact hb
      have hM7 := s67 _ _ hM6
      have lms' : ms.length ≤ 21 := by omega
      refine ⟨_, rfl, _, rfl, _, rfl, M, _, rfl, SqL.of hM7, fun p1 np1 => ?_⟩
      rw [cut_take hbl]
      have s78 : Same H7' (upd H7' p1 (.lst ((mp.map V.ref).take (below m ms)))) := same_upd np1
      have hp1 : upd H7' p1 (.lst ((mp.map V.ref).take (below m ms))) p1 = some (.lst ((mp.map V.ref).take (below m ms))) := upd_same
      generalize upd H7' p1 (.lst ((mp.map V.ref).take (below m ms))) = H8' at s78 hp1
      refine ⟨_, rfl, (by show 1 ≤ sizeLine; decide), fun p2 np2 => ?_⟩
      have s89 : Same H8' (upd H8' p2 (.lst [.ref mo])) := same_upd np2
      have hp2 : upd H8' p2 (.lst [.ref mo]) p2 = some (.lst [.ref mo]) := upd_same
      generalize upd H8' p2 (.lst [.ref mo]) = H9' at s89 hp2
      have ltk : ((mp.map V.ref).take (below m ms)).length ≤ 21 := Nat.le_trans (List.length_take_le' _ _) (by rw [hlM]; exact lms')
      refine ⟨p1, p2, _, _, rfl, rfl, s89 _ _ hp1, hp2, Nat.le_trans (Nat.add_le_add ltk (Nat.le_refl 1)) (by decide), fun p3 np3 => ?_⟩
      have s9a : Same H9' (upd H9' p3 (.lst ((mp.map V.ref).take (below m ms) ++ [.ref mo]))) := same_upd np3
      have hp3 : upd H9' p3 (.lst ((mp.map V.ref).take (below m ms) ++ [.ref mo])) p3 = some (.lst ((mp.map V.ref).take (below m ms) ++ [.ref mo])) := upd_same
      generalize upd H9' p3 (.lst ((mp.map V.ref).take (below m ms) ++ [.ref mo])) = Ha' at s9a hp3
      have s7a : Same H7' Ha' := Same.trans s78 (Same.trans s89 s9a)
      refine ⟨_, rfl, _, rfl, _, rfl, M, _, rfl, SqL.of (s7a _ _ hM7), fun p4 np4 => ?_⟩
      rw [cut_drop hbl]
      have sab : Same Ha' (upd Ha' p4 (.lst ((mp.map V.ref).drop (below m ms)))) := same_upd np4
      have hp4 : upd Ha' p4 (.lst ((mp.map V.ref).drop (below m ms))) p4 = some (.lst ((mp.map V.ref).drop (below m ms))) := upd_same
      generalize upd Ha' p4 (.lst ((mp.map V.ref).drop (below m ms))) = Hc' at sab hp4
      refine ⟨p3, p4, _, _, rfl, rfl, sab _ _ hp3, hp4, ?_, fun p5 np5 => ?_⟩
      · rw [List.length_append, List.length_drop, hlM]
        exact Nat.le_trans (show _ ≤ 60 by simp only [List.length_singleton]; omega) (by decide)
      · have scd : Same Hc' (upd Hc' p5 (.lst ((mp.map V.ref).take (below m ms) ++ [.ref mo] ++ (mp.map V.ref).drop (below m ms)))) := same_upd np5
        have s6d : Same H6' (upd Hc' p5 (.lst ((mp.map V.ref).take (below m ms) ++ [.ref mo] ++ (mp.map V.ref).drop (below m ms)))) := Same.trans s67 (Same.trans s7a (Same.trans sab scd))
        refine ⟨p5, mp.take (below m ms) ++ [mo] ++ mp.drop (below m ms), ms.take (below m ms) ++ [m] ++ ms.drop (below m ms), _, _, _, _, _, _, rfl, Same.trans sH (Same.trans s26 s6d), ?_, ?_, asc_put asc, ?_, ?_⟩
        · rw [upd_same]
          congr 2
          simp [List.map_take, List.map_drop]
        · have P6 := Paired.mapP pm6 fun _ _ z => z.mono s6d
          exact paired_app (paired_app (paired_take P6) (.cons (Rm.mono s6d) .nil)) (paired_drop P6)
        · intro y hy
          rcases List.mem_append.mp hy with z | z
          · rcases List.mem_append.mp z with z | z
            · exact bms y (List.mem_of_mem_take z)
            · rw [List.mem_singleton.mp z]
              exact bm
          · exact bms y (List.mem_of_mem_drop z)
        · rw [List.length_append, List.length_append, List.length_take, List.length_drop]
          simp
          omega
    rintro σ Hm ⟨M, mp, ms, v11, v12, v13, v14, v15, v16, rfl, sH, hM, pm', asc, bms, lms⟩
    have lmp : mp.length = ms.length := Paired.length pm'
    have hlM : (mp.map V.ref).length = ms.length := by rw [List.length_map, lmp]
    have l4 : 4 ≤ ms.length := by omega
    have l20 : ms.length ≤ 20 := by omega
    generalize hA : c2.getD 0 - c1.getD 0 - off = A0 at leadEq bA
    generalize hg : w2 - w1 = g0 at leadEq bg Rsb
    -- the leads
    refine ⟨_, rfl, M, rfl, ⟨_, SqL.of hM⟩, fun DL nDL => ?_⟩
    refine lc_list (K := K) (a := M) (xs := mp.map V.ref) (fun i H' => Same Hm H' ∧ ∃ lp : List Addr, H' DL = some (.lst (lp.map V.ref)) ∧ Paired (RatAt K H') lp ((ms.take i).map fun x => A0 + g0 * x)) ?_ ?_ ?_ ?_
    · exact ⟨same_upd nDL, [], upd_same, .nil⟩
    · rintro i H' _ ⟨sx, _⟩
      exact SqL.of (sx _ _ hM)
    · rintro j x H' hj ⟨sx, lp, hD, pl⟩
      obtain ⟨p, hp, rfl⟩ := ref_nth hj
      obtain ⟨q, hq, Rq0⟩ := paired_nth pm' hp
      have Rq := Rq0.mono sx
      have bq := bms q (List.mem_of_getElem? hq)
      have sbx : Same Hb H' := Same.trans sH sx
      obtain ⟨st, eah⟩ := pk.ah q bq bw1 bw2
      refine ⟨rfl, ?_⟩
      refine ⟨_, rfl, _, rfl, _, rfl, pp, _, 0, .str one, rfl, rfl, SqL.of (sbx _ _ hppb), at_of (j := 0) rfl rfl, _, rfl, pp, _, 1, .str other, rfl, rfl, SqL.of (sbx _ _ hppb), at_of (j := 1) rfl rfl, _, rfl, d, L, p, one, other, kn, rs, q, rfl, kn_same DDb sbx, hRb.mono sbx, Rq, st, told_h, fun ra H6' s6' Ra => ?_⟩
      rw [eah] at Ra
      obtain ⟨dra, hra⟩ := id Ra
      have Ro6 := (Rob.mono sbx).mono s6'
      refine ⟨ra, dra, _, rfl, hra, ratF_no _ (by decide +kernel) (by decide +kernel), _, rfl, ra, ro, _, off, rfl, Ra, Ro6, ⟨(bdL q bq).mono (by decide), bo.mono (by decide)⟩, fun rl H7' s7' Rl => ?_⟩
      have Rl : RatAt K H7' rl (w2 * q + c2.getD 0 - (w1 * q + c1.getD 0) - off) := Rl
      rw [leadEq] at Rl
      have s67 : Same H' H7' := Same.trans s6' s7'
      have et := take_snoc hq
      have h7 := s67 _ _ hD
      have n7 : NL H7' (upd H7' DL (.lst (lp.map V.ref ++ [.ref rl]))) := nl_upd h7
      refine ⟨_, h7, ?_, Same.upd (Same.trans sx s67) nDL, lp ++ [rl], by rw [upd_same, List.map_append] <;> rfl, ?_⟩
      · rw [List.length_map, Paired.length pl, List.length_map]
        have h2 : (ms.take j).length ≤ ms.length := List.length_take_le' _ _
        exact Nat.lt_of_le_of_lt (show _ ≤ 30 by omega) (by decide)
      · rw [et, List.map_append]
        exact Paired.snoc (Paired.mapP pl fun _ _ z => (z.mono s67).nl n7) (Rl.nl n7)
    rintro Hl ⟨sml, lp, hDL, pl⟩
    rw [hlM, List.take_length] at pl
    have sbl : Same Hb Hl := Same.trans sH sml
    have hMl := sml _ _ hM
    have pml := Paired.mapP pm' fun _ _ z => z.mono sml
    have hppl := sbl _ _ hppb
    have hWl := hWb.mono sbl
    have Rol := Rob.mono sbl
    have hLD : LeadD K Hl W one other (c1.getD 0) (c2.getD 0) w1 w2 := ⟨rs, kn, A1, A2, c1, c2, hWl, pk.h1, pk.h2, pk.g1, pk.g2, rfl, rfl⟩
    -- the moment and the lead at a place
    have atm : ∀ i : Nat, i < ms.length → ∃ p x, (mp.map V.ref)[i]? = some (.ref p) ∧ ms[i]? = some x ∧ RatAt K Hl p x ∧ Bd 700 x := fun i hi => by
      have h1 : ms[i]? = some ms[i] := List.getElem?_eq_getElem hi
      obtain ⟨p, hp, R⟩ := paired_rget pml h1
      exact ⟨p, _, by rw [List.getElem?_map, hp] <;> rfl, h1, R, bms _ (List.mem_of_getElem? h1)⟩
    have atl : ∀ (i : Nat) x, ms[i]? = some x → ∃ p, (lp.map V.ref)[i]? = some (.ref p) ∧ RatAt K Hl p (A0 + g0 * x) := fun i x hx => by
      have h1 : (ms.map fun x => A0 + g0 * x)[i]? = some (A0 + g0 * x) := by rw [List.getElem?_map, hx] <;> rfl
      obtain ⟨p, hp, R⟩ := paired_rget pl h1
      exact ⟨p, by rw [List.getElem?_map, hp] <;> rfl, R⟩
    have mono : ∀ (i j : Nat) x y, ms[i]? = some x → ms[j]? = some y → i ≤ j → x ≤ y := fun i j x y hx hy hij => by
      obtain ⟨bi, rfl⟩ := List.getElem?_eq_some_iff.mp hx
      obtain ⟨bj, rfl⟩ := List.getElem?_eq_some_iff.mp hy
      rcases Nat.lt_or_eq_of_le hij with z | z
      · exact List.pairwise_iff_getElem.mp asc i j bi bj z
      · subst z
        exact Rat.le_refl
    obtain ⟨pm0, x0', hp0, hx0, Rm0, bx0⟩ := atm 0 (by omega)
    obtain ⟨pmz, xz, hpz, hxz, Rmz, bxz⟩ := atm (ms.length - 1) (by omega)
    have lastM : atI (mp.map V.ref) (-1) = some (.ref pmz) := by
      obtain ⟨ini, lst', e⟩ : ∃ ini x, mp.map V.ref = ini ++ [x] := ⟨(mp.map V.ref).dropLast, (mp.map V.ref).getLast (by intro z; rw [z] at hlM; simp at hlM; omega), (List.dropLast_concat_getLast _).symm⟩
      rw [e] at hpz ⊢
      have hl : ini.length = ms.length - 1 := by
        have : (ini ++ [lst']).length = ms.length := by rw [← e]; exact hlM
        simp at this
        omega
      rw [List.getElem?_append_right (by omega), hl, Nat.sub_self] at hpz
      have hpz : some lst' = some (V.ref pmz) := hpz
      rw [atI_last, hpz]
    refine ⟨_, rfl, rfl, _, rfl, ?_⟩
    refine ite2 (fun hz => ?_) (fun hz => ?_)
    · -- no gain
      have g00 : g0 = 0 := sgn_zero.mp (V.int.inj (of_decide_eq_true hz))
      have gz : w2 - w1 = 0 := by rw [hg]; exact g00
      obtain ⟨l0, hl0, Rl0⟩ := atl 0 _ hx0
      rw [g00, Rat.zero_mul, Rat.add_zero] at Rl0
      have tabs : LamX.Tabs [(Pt, qlam)] Hl := fun p hp => by
        rw [List.mem_singleton.mp hp]
        exact LamX.TabS.nil (sbl _ _ hPtb)
      refine ⟨tabs, fun Hx eN T1 => ?_⟩
      have fin : ∀ (bb : Bool) (H2 : Hp), LamX.ExtN Hl H2 → (bb = decide (rest A0 = 0)) → tRet (tOp rEq (tVar 18) (tOp rEq (tFld K (tOp (rIxL K) (tVar 17) (tC (.int 0))) "bottom") (tC (.int 1)))) { nx := fun _ H' => Q .non H', rt := Q } ([some (.ref a), some (.ref L), some (.int dr), some (.ref d), some (.ref W), some (.ref pp), some (.ref ro), some (.ref ah), some (.ref rs'), some (.int (sgn g0)), some (.ref M), v11, v12, v13, v14, v15, v16, some (.ref DL), some (.bl bb), none, none, none, none] : L2.St) H2 := by
        intro bb H2 eN hbb
        obtain ⟨d0', h0'⟩ := rat_ext Rl0 eN
        refine ⟨_, rfl, _, rfl, DL, _, 0, .ref l0, rfl, rfl, SqL.of (eN _ _ hDL (fun _ z => by cases z)), at_of (j := 0) rfl hl0, l0, _, _, _, _, rfl, h0', T.cl_Ratio, T.na_Ratio_bottom, ratF_bottom A0, rfl, rfl, ?_⟩
        have e1 : decide (V.int ((A0.den : Nat) : Int) = V.int 1) = decide (rest A0 = 0) := by
          refine decide_eq_decide.mpr ?_
          rw [rest_zero]
          constructor
          · intro z
            have := V.int.inj z
            omega
          · intro z
            rw [z] <;> rfl
        have e2 : decide (V.bl bb = V.bl (decide (V.int ((A0.den : Nat) : Int) = V.int 1))) = true := by
          rw [e1, hbb]
          exact decide_eq_true rfl
        show Q (.bl (decide (V.bl bb = V.bl (decide (V.int ((A0.den : Nat) : Int) = V.int 1))))) H2
        rw [e2]
        exact kk H2
      have hLx : LeadIn K Hx W ro one other A0 0 := by
        have h := LeadD.lead (off := off) (o := ro) (H := Hx) (p := W) (one := one) (other := other) (b1 := c1.getD 0) (b2 := c2.getD 0) (v1 := w1) (v2 := w2) ⟨rs, kn, A1, A2, c1, c2, work_ext hWl eN, pk.h1, pk.h2, pk.g1, pk.g2, rfl, rfl⟩ (rat_ext Rol eN) pk.b1 pk.b2 (bo.mono (by decide)) bw1 bw2
        rw [hA, gz] at h
        exact h
      have pair0 := eN _ _ hppl (fun _ z => by cases z)
      have Mx := eN _ _ hMl (fun _ z => by cases z)
      refine ⟨_, rfl, _, rfl, pp, _, 0, .str one, rfl, rfl, SqL.of pair0, at_of (j := 0) rfl rfl, _, rfl, pp, _, 1, .str other, rfl, rfl, SqL.of pair0, at_of (j := 1) rfl rfl, _, rfl, _, rfl, M, _, 0, .ref pm0, rfl, rfl, SqL.of Mx, at_of (j := 0) rfl hp0, _, rfl, _, rfl, M, _, -1, .ref pmz, rfl, rfl, SqL.of Mx, lastM, ?_⟩
      refine ⟨W, ro, pm0, pmz, one, other, A0, rfl, hLx, bA.mono (by decide), fun hr0 Hy sy => ⟨rfl, rfl, fun H2 s2 => ?_⟩, fun hr0 Hy sy => fun H2 s2 => ?_⟩
      · exact fin true H2 (LamX.ExtN.trans eN (LamX.ExtN.of (Same.trans sy s2))) (decide_eq_true hr0).symm
      · exact fin false H2 (LamX.ExtN.trans eN (LamX.ExtN.of (Same.trans sy s2))) (decide_eq_false hr0).symm
    · -- a gain
      have gn : g0 ≠ 0 := fun z => hz (decide_eq_true (by rw [sgn_zero.mpr z]))
      have gn' : w2 - w1 ≠ 0 := by rw [hg]; exact gn
      have bl : ∀ x, Bd 700 x → Bd 1200 (A0 + g0 * x) := fun x hx => (bd_add bA (bd_mul bg hx)).mono (by decide)
      refine ⟨_, rfl, _, ms.length, rfl, .inl ⟨_, SqL.of hMl, hlM.symm⟩, _, _, rfl, rfl, ?_⟩
      refine ⟨((ms.length : Nat) : Int) - 1, rfl, by omega, by omega, for_it (walk_range (lo := 0) (n := (((ms.length : Nat) : Int) - 1).toNat)) (fun i σ H' => ∃ x v11 v20 tot, σ = [some (.ref a), some (.ref L), some (.int dr), some (.ref d), some (.ref W), some (.ref pp), some (.ref ro), some (.ref ah), some (.ref rs'), some (.int (sgn g0)), some (.ref M), v11, v12, v13, v14, v15, v16, some (.ref DL), none, some (.int tot), v20, none, none] ∧
        Same Hl H' ∧ ms[i]? = some x ∧ tot = CM A0 g0 x - CM A0 g0 x0') ⟨x0', _, _, 0, rfl, fun _ _ z => z, hx0, by omega⟩ (fun _ _ _ _ _ => trivial) ?_ ?_⟩
      · rintro i y σ H2' H2'' hi ⟨x, w11, w20, tot, rfl, sl, hxi, htot⟩ ⟨rfl, hy⟩
        have hy : y = V.int (0 + (i : Int)) := hy
        have hk0 : (0 : Int) + (i : Int) = (i : Nat) := Int.zero_add _
        have hk1 : (0 : Int) + (i : Int) + 1 = ((i + 1 : Nat) : Int) := by push_cast; omega
        generalize (0 : Int) + (i : Int) = k at hy hk0 hk1
        subst hy
        obtain ⟨pa, xa, hpa, hxa, Ra, bxa⟩ := atm i (by omega)
        rw [hxi] at hxa
        cases hxa
        obtain ⟨pb, xb, hpb, hxb, Rb, bxb⟩ := atm (i + 1) (by omega)
        obtain ⟨la, hla, Rla⟩ := atl i x hxi
        obtain ⟨lb, hlb, Rlb⟩ := atl (i + 1) xb hxb
        have hDL2 := sl _ _ hDL
        have hM2 := sl _ _ hMl
        refine ⟨_, rfl, _, rfl, DL, _, k, .ref la, rfl, rfl, SqL.of hDL2, at_of hk0 hla, _, rfl, _, rfl, _, _, rfl, rfl, DL, _, k + 1, .ref lb, rfl, rfl, SqL.of hDL2, at_of hk1 hlb, _, rfl, la, lb, _, _, _, rfl, Rla.mono sl, Rlb.mono sl, (bl x bxa).mono (by decide), (bl xb bxb).mono (by decide), fun H3' s3' => ?_⟩
        have hdue : dueM (A0 + g0 * x) (A0 + g0 * xb) (sgn g0) = CM A0 g0 xb - CM A0 g0 x := by
          exact due_eq gn
        rw [hdue]
        have s3 : Same Hl H3' := Same.trans sl s3'
        have hM3 := s3 _ _ hMl
        refine ⟨_, rfl, _, rfl, _, rfl, _, rfl, _, rfl, M, _, k, .ref pa, rfl, rfl, SqL.of hM3, at_of hk0 hpa, _, rfl, _, rfl, _, _, rfl, rfl, M, _, k + 1, .ref pb, rfl, rfl, SqL.of hM3, at_of hk1 hpb, _, rfl, ?_⟩
        refine ⟨W, pp, ro, pa, pb, one, other, c1.getD 0, c2.getD 0, w1, w2, off, x, xb, _, rfl, s3 _ _ hppl, hLD.mono s3, Rol.mono s3, Ra.mono s3, Rb.mono s3, pk.b1, pk.b2, bo, bw1, bw2, gn', by rw [hg]; exact bg, bxa.mono (by decide), bxb.mono (by decide), mono i (i + 1) x xb hxi hxb (by omega), by rw [hA, hg], fun H4' s4' => ?_⟩
        refine ⟨_, rfl, ?_⟩
        refine ite2 (fun h => by cases h) (fun _ => ?_)
        refine ⟨_, rfl, _, rfl, _, _, rfl, rfl, ?_⟩
        exact ⟨xb, _, _, _, rfl, Same.trans s3 s4', hxb, by omega⟩
      · rintro σ H2' ⟨x, w11, w20, tot, rfl, sl, hxi, htot⟩
        have hlen : (((ms.length : Nat) : Int) - 1).toNat = ms.length - 1 := by omega
        rw [hlen, hxz] at hxi
        cases hxi
        have hM2 := sl _ _ hMl
        have hle : x0' ≤ xz := mono 0 (ms.length - 1) x0' xz hx0 hxz (by omega)
        have t1 := ct_ok bA bg gn (bx0.mono (by decide : 700 ≤ 1500))
        have t2 := ct_ok bA bg gn (bxz.mono (by decide : 700 ≤ 1500))
        have hL2 : LeadIn K H2' W ro one other A0 g0 := by
          have h := (hLD.mono sl).lead (Rol.mono sl) pk.b1 pk.b2 (bo.mono (by decide)) bw1 bw2
          rw [hA, hg] at h
          exact h
        refine ⟨_, rfl, _, rfl, pp, _, 0, .str one, rfl, rfl, SqL.of (sl _ _ hppl), at_of (j := 0) rfl rfl, _, rfl, pp, _, 1, .str other, rfl, rfl, SqL.of (sl _ _ hppl), at_of (j := 1) rfl rfl, _, rfl, _, rfl, M, _, 0, .ref pm0, rfl, rfl, SqL.of hM2, at_of (j := 0) rfl hp0, _, rfl, _, rfl, M, _, -1, .ref pmz, rfl, rfl, SqL.of hM2, lastM, ?_⟩
        refine ⟨W, ro, pm0, pmz, one, other, A0, g0, x0', xz, rfl, hL2, gn, t1.m, Rm0.mono sl, Rmz.mono sl, t1.f, t1.n, t2.n, fun H3' s3' => ?_⟩
        refine ⟨_, rfl, rfl, ?_⟩
        have hcnt' : (numsM (firstM A0 g0) (perM g0) x0' xz).2 - (numsM (firstM A0 g0) (perM g0) x0' xz).1 = tot := by
          have := cnt_eq (A := A0) gn hle
          unfold cntM at this
          rw [this, htot]
        rw [hcnt']
        have e : decide (V.int tot = V.int tot) = true := decide_eq_true rfl
        show Q (.bl (decide (V.int tot = V.int tot))) H3'
        rw [e]
        exact kk H3'
end
end Ty
set_option Elab.async false
set_option linter.all false
set_option maxRecDepth 100000
set_option maxHeartbeats 8000000
namespace Ty
open PySem PySem.Spec PyProof.Rows L2 C8
theorem law_at {w : World} {K : PySem.W.Frag} {mg : Str → Option Value} {h : Heap} {fa : Addr} (KX : K.In h) (G : h.Ns mainGlobals mg) (hmg : mg ("law" : Str) = some (.ref fa)) (c : He.SaysX faL fnL [] tfL exB w h K) :
    LamX.LawAtS PySem.Challenge.rw_toothyard_k44_whole_meetings_counted w K C8.CX0 18 63 "_law_script" mg fa h := by
  have T : Tx K mg := ⟨c.t.d, c.more, ⟨h, KX, G⟩⟩
  obtain ⟨fd, F⟩ := T.f_Dlaw
  have e := hmg.symm.trans T.g_law
  cases e
  have hb := FunD.bindsA (ps := ["_law_script"]) F fun _ _ _ _ _ _ us hl => match us, hl with | [_], _ => rfl
  have mem : (("law", none) : He.Defn) ∈ tfL := List.mem_singleton.mpr rfl
  refine ⟨fd, [He.cT K ("law", none)], spLaw K (He.cT K ("law", none)).2, fun p hp => ?_, fun p hp => ?_, fun p hp => ?_, fun s v => hb s [v] rfl, fun H a ns hl _ hT hS => ?_, fun base KB GB TB => ?_⟩
  · rw [List.mem_singleton.mp hp]
    exact c.empty _ mem
  · rw [List.mem_singleton.mp hp]
    exact c.out _ mem
  · rw [List.mem_singleton.mp hp]
    exact PySem.W.codeHd_of_K KX (c.hd _ mem)
  · exact ⟨a, ns, rfl, hS, Nat.le_trans hl (by decide), hT _ (List.mem_singleton.mpr rfl), fun _ => rfl⟩
  · exact ok_law F T (TB _ (List.mem_singleton.mpr rfl))
end Ty
open PySem PySem.W PySem.Calls PyProof.Rows
theorem PySem.Challenge.cw_toothyard_k44_whole_meetings_counted_holds : PySem.Challenge.rw_toothyard_k44_whole_meetings_counted.Holds := by
  w_on; o_law
  refine HandSHeadRun.head_any (r := OpenLaw.row PySem.Challenge.rw_toothyard_k44_whole_meetings_counted) (q := view (OpenLaw.row PySem.Challenge.rw_toothyard_k44_whole_meetings_counted).prog [65]) (H := Ty.hk) (ob := Ty.ob) (M := 30000) (loose := Ty.loose) (d := HandSHeadRun.topDef (OpenLaw.row PySem.Challenge.rw_toothyard_k44_whole_meetings_counted).prog 65) (kwd := []) Ty.ob_eq
    (by kernel_rfl) (fun s => by kernel_rfl) Ty.run (by kernel_rfl) (by kernel_rfl) (by kernel_rfl) (by rfl) (by first | assumption | decide +kernel) (by decide +kernel) ⟨rfl, rfl, rfl, rfl, rfl, by decide +kernel⟩ ?hw ?hc
  case hw => w_witness2
  case hc =>
    refine LamX.walk_ofTsE (l := PySem.Challenge.rw_toothyard_k44_whole_meetings_counted) (n := 63) (k := 18) (x := "_law_script") (CX := fun _ => C8.CX0) rfl (by decide) (by kernel_rfl) ⟨rfl, by decide, by decide⟩ ?F (fun _ _ _ _ _ z => z)
    intro w mg fa h Y G hmg0
    obtain ⟨K, KX, c⟩ := Y
    have hmg : mg ("law" : PySem.Str) = some (.ref fa) := by
      have e : (HandSHeadRun.topDef (OpenLaw.row PySem.Challenge.rw_toothyard_k44_whole_meetings_counted).prog 65).name = ("law" : PySem.Str) := by kernel_rfl
      rw [← e]
      exact hmg0
    exact ⟨K, KX, Ty.law_at KX G hmg c⟩

import PyProof.Rows.All
import Wide.All
import OpenK.AllK
import Wide.FinOn
import KE.KStateDown
import Lean
import HandS.Base
import HandS.Call
import HandS.Ends
import HandS.More
import HandS.Words
import HandS.WordsExc
import HandS.Defaults
import HandS.Property
import HandS.IsInst
import HandS.Star
import HandS.Exc
import KE.KExcInit
import KE.KExcSuper
import HandS.HeadHook1
import HandS.HeadHook2
import HandS.HeadHook3
import HandS.HeadHook4
import HandS.Head0
import HandS.Head1
import HandS.Head2
import HandS.ForMost
import HandS.ExcOwn
import HandS.MakeKw
import HandS.MakeKwOnly
import HandS.Lambda
import HandS.CallRecv
import HandS.Codes
import PyProof.ReprRoads
import HandS.List
import PyProof.InstNe
import HandS.OwnEq
import KE.KOpsOwn
import HandS.TupMul
import HandS.Dict
import HandS.ExcInit
import KE.KSuper
import HandS.SetFor
import HandS.SortInts
import HandS.Strs
import HandS.TupSets
import PyProof.ReprLen
import HandS.Evl
import HandS.TupAny
import HandS.Style
import HandS.Small
import HandS.TryMany
import HandS.ExcField
import HandS.EndTab
import HandS.NestedK
import HandS.EndBits
import PySem.Challenge.RW_allloads_k74_whole_sessions_and_new_scal
/-! A0 -/
set_option Elab.async false
set_option linter.all false
set_option maxRecDepth 100000
set_option maxHeartbeats 4000000
/-! The text by its places, the facts that the head tells, each fact by a lemma. Printed by genhead.py. -/
namespace K74
open PySem PySem.Spec PyProof.Rows L2
abbrev pw : Program := PySem.Challenge.pw_allloads_k74_whole_sessions_and_new_scal
abbrev rwl : PySem.W.OpenLaw := PySem.Challenge.rw_allloads_k74_whole_sessions_and_new_scal
def top (i : Nat) : Stmt := pw.main.body.getD i (.Pass ⟨0, 0, 0, 0⟩)
abbrev s_is_integer : Stmt := top 11
abbrev s_divisor : Stmt := top 12
abbrev s_is_load : Stmt := top 13
abbrev s_need_load : Stmt := top 14
abbrev s_is_between : Stmt := top 21
abbrev s_is_part : Stmt := top 22
abbrev s_are_parts : Stmt := top 23
abbrev s_is_limit : Stmt := top 24
abbrev s_need_limits : Stmt := top 25
abbrev s_raised : Stmt := top 26
abbrev s_is_below_times : Stmt := top 28
abbrev s_is_above_times : Stmt := top 29
abbrev s_wish_of : Stmt := top 30
abbrev s_first_wish : Stmt := top 31
abbrev s_first_state : Stmt := top 33
abbrev s_is_state : Stmt := top 34
abbrev s_settled : Stmt := top 35
abbrev s_ticked : Stmt := top 36
abbrev s_tick : Stmt := top 37
abbrev s_need_curve : Stmt := top 39
abbrev s_is_deed : Stmt := top 45
abbrev s_failed : Stmt := top 46
abbrev s_later_moment : Stmt := top 47
abbrev s_deeds_to : Stmt := top 48
abbrev s_law_begin : Stmt := top 51
abbrev s_law_take : Stmt := top 52
abbrev s_law_pick : Stmt := top 53
abbrev s_law_is_int : Stmt := top 54
abbrev s_law_fraction : Stmt := top 55
abbrev s_law_part : Stmt := top 56
abbrev s_law_case : Stmt := top 57
abbrev s_law_rule : Stmt := top 58
abbrev s_law_wish : Stmt := top 59
abbrev s_law_tick : Stmt := top 60
abbrev s_law_first : Stmt := top 61
abbrev s_law_servers : Stmt := top 62
abbrev s_law_ends : Stmt := top 63
abbrev s_law_load : Stmt := top 64
abbrev s_law_curve : Stmt := top 65
abbrev s_law_is_load : Stmt := top 66
abbrev s_law_sheet : Stmt := top 67
abbrev s_law_raised : Stmt := top 68
abbrev s_law_act : Stmt := top 69
abbrev s_law_is_part : Stmt := top 70
abbrev s_law_done : Stmt := top 71
abbrev s_law_stands : Stmt := top 72
abbrev s_law_caught : Stmt := top 73
abbrev s_law_moved : Stmt := top 74
abbrev s_law_goes_on : Stmt := top 75
abbrev s_law_equal_right : Stmt := top 76
abbrev s_law : Stmt := top 77
abbrev s_Rule_init : Stmt := inClass (top 27) 0
abbrev s_Rule_with_parts : Stmt := inClass (top 27) 8
abbrev s_Rule_eq : Stmt := inClass (top 27) 9
abbrev s_Rule_or : Stmt := inClass (top 27) 13
abbrev s_Rule_lshift : Stmt := inClass (top 27) 14
abbrev s_Scaler_init : Stmt := inClass (top 40) 0
abbrev s_Scaler_eq : Stmt := inClass (top 40) 3
abbrev s_Scaler_call : Stmt := inClass (top 40) 4
abbrev s_Moment_init : Stmt := inClass (top 43) 0
abbrev s_Session_init : Stmt := inClass (top 49) 0
abbrev s_Session_do : Stmt := inClass (top 49) 6
abbrev s_Session_do_all : Stmt := inClass (top 49) 7
abbrev s_Session_deeds : Stmt := inClass (top 49) 8
abbrev s_Session_twin : Stmt := inClass (top 49) 9
abbrev s_Session_eq : Stmt := inClass (top 49) 13
abbrev s_Rule_parts : Stmt := inClass (top 27) 1
abbrev s_Rule_least : Stmt := inClass (top 27) 2
abbrev s_Rule_most : Stmt := inClass (top 27) 3
abbrev s_Rule_rise : Stmt := inClass (top 27) 4
abbrev s_Rule_fall : Stmt := inClass (top 27) 5
abbrev s_Rule_up : Stmt := inClass (top 27) 6
abbrev s_Rule_down : Stmt := inClass (top 27) 7
abbrev s_Scaler_rule : Stmt := inClass (top 40) 1
abbrev s_Scaler_servers : Stmt := inClass (top 40) 2
abbrev s_Session_rule : Stmt := inClass (top 49) 1
abbrev s_Session_origin : Stmt := inClass (top 49) 2
abbrev s_Session_state : Stmt := inClass (top 49) 3
abbrev s_Session_servers : Stmt := inClass (top 49) 4
abbrev s_Session_curve : Stmt := inClass (top 49) 5
def dd_is_integer : He.DefD := ⟨("is_integer", none), "is_integer", "is_integer", defArgs s_is_integer, defBody s_is_integer, defScope s_is_integer, [], []⟩
def dd_divisor : He.DefD := ⟨("divisor", none), "divisor", "divisor", defArgs s_divisor, defBody s_divisor, defScope s_divisor, [], []⟩
def dd_is_load : He.DefD := ⟨("is_load", none), "is_load", "is_load", defArgs s_is_load, defBody s_is_load, defScope s_is_load, [], []⟩
def dd_need_load : He.DefD := ⟨("need_load", none), "need_load", "need_load", defArgs s_need_load, defBody s_need_load, defScope s_need_load, [], []⟩
def dd_is_between : He.DefD := ⟨("is_between", none), "is_between", "is_between", defArgs s_is_between, defBody s_is_between, defScope s_is_between, [], []⟩
def dd_is_part : He.DefD := ⟨("is_part", none), "is_part", "is_part", defArgs s_is_part, defBody s_is_part, defScope s_is_part, [], []⟩
def dd_are_parts : He.DefD := ⟨("are_parts", none), "are_parts", "are_parts", defArgs s_are_parts, defBody s_are_parts, defScope s_are_parts, [], []⟩
def dd_is_limit : He.DefD := ⟨("is_limit", none), "is_limit", "is_limit", defArgs s_is_limit, defBody s_is_limit, defScope s_is_limit, [], []⟩
def dd_need_limits : He.DefD := ⟨("need_limits", none), "need_limits", "need_limits", defArgs s_need_limits, defBody s_need_limits, defScope s_need_limits, [], []⟩
def dd_raised : He.DefD := ⟨("raised", none), "raised", "raised", defArgs s_raised, defBody s_raised, defScope s_raised, [], []⟩
def dd_is_below_times : He.DefD := ⟨("is_below_times", none), "is_below_times", "is_below_times", defArgs s_is_below_times, defBody s_is_below_times, defScope s_is_below_times, [], []⟩
def dd_is_above_times : He.DefD := ⟨("is_above_times", none), "is_above_times", "is_above_times", defArgs s_is_above_times, defBody s_is_above_times, defScope s_is_above_times, [], []⟩
def dd_wish_of : He.DefD := ⟨("wish_of", none), "wish_of", "wish_of", defArgs s_wish_of, defBody s_wish_of, defScope s_wish_of, [], []⟩
def dd_first_wish : He.DefD := ⟨("first_wish", none), "first_wish", "first_wish", defArgs s_first_wish, defBody s_first_wish, defScope s_first_wish, [], []⟩
def dd_first_state : He.DefD := ⟨("first_state", none), "first_state", "first_state", defArgs s_first_state, defBody s_first_state, defScope s_first_state, [], []⟩
def dd_is_state : He.DefD := ⟨("is_state", none), "is_state", "is_state", defArgs s_is_state, defBody s_is_state, defScope s_is_state, [], []⟩
def dd_settled : He.DefD := ⟨("settled", none), "settled", "settled", defArgs s_settled, defBody s_settled, defScope s_settled, [], []⟩
def dd_ticked : He.DefD := ⟨("ticked", none), "ticked", "ticked", defArgs s_ticked, defBody s_ticked, defScope s_ticked, [], []⟩
def dd_tick : He.DefD := ⟨("tick", none), "tick", "tick", defArgs s_tick, defBody s_tick, defScope s_tick, [], []⟩
def dd_need_curve : He.DefD := ⟨("need_curve", none), "need_curve", "need_curve", defArgs s_need_curve, defBody s_need_curve, defScope s_need_curve, [], []⟩
def dd_is_deed : He.DefD := ⟨("is_deed", none), "is_deed", "is_deed", defArgs s_is_deed, defBody s_is_deed, defScope s_is_deed, [], []⟩
def dd_failed : He.DefD := ⟨("failed", none), "failed", "failed", defArgs s_failed, defBody s_failed, defScope s_failed, [], []⟩
def dd_later_moment : He.DefD := ⟨("later_moment", none), "later_moment", "later_moment", defArgs s_later_moment, defBody s_later_moment, defScope s_later_moment, [], []⟩
def dd_deeds_to : He.DefD := ⟨("deeds_to", none), "deeds_to", "deeds_to", defArgs s_deeds_to, defBody s_deeds_to, defScope s_deeds_to, [], []⟩
def dd_law_begin : He.DefD := ⟨("_law_begin", none), "_law_begin", "_law_begin", defArgs s_law_begin, defBody s_law_begin, defScope s_law_begin, [], []⟩
def dd_law_take : He.DefD := ⟨("_law_take", none), "_law_take", "_law_take", defArgs s_law_take, defBody s_law_take, defScope s_law_take, [], []⟩
def dd_law_pick : He.DefD := ⟨("_law_pick", none), "_law_pick", "_law_pick", defArgs s_law_pick, defBody s_law_pick, defScope s_law_pick, [], []⟩
def dd_law_is_int : He.DefD := ⟨("_law_is_int", none), "_law_is_int", "_law_is_int", defArgs s_law_is_int, defBody s_law_is_int, defScope s_law_is_int, [], []⟩
def dd_law_fraction : He.DefD := ⟨("_law_fraction", none), "_law_fraction", "_law_fraction", defArgs s_law_fraction, defBody s_law_fraction, defScope s_law_fraction, [], []⟩
def dd_law_part : He.DefD := ⟨("_law_part", none), "_law_part", "_law_part", defArgs s_law_part, defBody s_law_part, defScope s_law_part, [], []⟩
def dd_law_case : He.DefD := ⟨("_law_case", none), "_law_case", "_law_case", defArgs s_law_case, defBody s_law_case, defScope s_law_case, [], []⟩
def dd_law_rule : He.DefD := ⟨("_law_rule", none), "_law_rule", "_law_rule", defArgs s_law_rule, defBody s_law_rule, defScope s_law_rule, [], []⟩
def dd_law_wish : He.DefD := ⟨("_law_wish", none), "_law_wish", "_law_wish", defArgs s_law_wish, defBody s_law_wish, defScope s_law_wish, [], []⟩
def dd_law_tick : He.DefD := ⟨("_law_tick", none), "_law_tick", "_law_tick", defArgs s_law_tick, defBody s_law_tick, defScope s_law_tick, [], []⟩
def dd_law_first : He.DefD := ⟨("_law_first", none), "_law_first", "_law_first", defArgs s_law_first, defBody s_law_first, defScope s_law_first, [], []⟩
def dd_law_servers : He.DefD := ⟨("_law_servers", none), "_law_servers", "_law_servers", defArgs s_law_servers, defBody s_law_servers, defScope s_law_servers, [], []⟩
def dd_law_ends : He.DefD := ⟨("_law_ends", none), "_law_ends", "_law_ends", defArgs s_law_ends, defBody s_law_ends, defScope s_law_ends, [], []⟩
def dd_law_load : He.DefD := ⟨("_law_load", none), "_law_load", "_law_load", defArgs s_law_load, defBody s_law_load, defScope s_law_load, [], []⟩
def dd_law_curve : He.DefD := ⟨("_law_curve", none), "_law_curve", "_law_curve", defArgs s_law_curve, defBody s_law_curve, defScope s_law_curve, [], []⟩
def dd_law_is_load : He.DefD := ⟨("_law_is_load", none), "_law_is_load", "_law_is_load", defArgs s_law_is_load, defBody s_law_is_load, defScope s_law_is_load, [], []⟩
def dd_law_sheet : He.DefD := ⟨("_law_sheet", none), "_law_sheet", "_law_sheet", defArgs s_law_sheet, defBody s_law_sheet, defScope s_law_sheet, [], []⟩
def dd_law_raised : He.DefD := ⟨("_law_raised", none), "_law_raised", "_law_raised", defArgs s_law_raised, defBody s_law_raised, defScope s_law_raised, [], []⟩
def dd_law_act : He.DefD := ⟨("_law_act", none), "_law_act", "_law_act", defArgs s_law_act, defBody s_law_act, defScope s_law_act, [], []⟩
def dd_law_is_part : He.DefD := ⟨("_law_is_part", none), "_law_is_part", "_law_is_part", defArgs s_law_is_part, defBody s_law_is_part, defScope s_law_is_part, [], []⟩
def dd_law_done : He.DefD := ⟨("_law_done", none), "_law_done", "_law_done", defArgs s_law_done, defBody s_law_done, defScope s_law_done, [], []⟩
def dd_law_stands : He.DefD := ⟨("_law_stands", none), "_law_stands", "_law_stands", defArgs s_law_stands, defBody s_law_stands, defScope s_law_stands, [], []⟩
def dd_law_caught : He.DefD := ⟨("_law_caught", none), "_law_caught", "_law_caught", defArgs s_law_caught, defBody s_law_caught, defScope s_law_caught, [], []⟩
def dd_law_moved : He.DefD := ⟨("_law_moved", none), "_law_moved", "_law_moved", defArgs s_law_moved, defBody s_law_moved, defScope s_law_moved, [], []⟩
def dd_law_goes_on : He.DefD := ⟨("_law_goes_on", none), "_law_goes_on", "_law_goes_on", defArgs s_law_goes_on, defBody s_law_goes_on, defScope s_law_goes_on, [], []⟩
def dd_law_equal_right : He.DefD := ⟨("_law_equal_right", none), "_law_equal_right", "_law_equal_right", defArgs s_law_equal_right, defBody s_law_equal_right, defScope s_law_equal_right, [], []⟩
def dd_law : He.DefD := ⟨("law", none), "law", "law", defArgs s_law, defBody s_law, defScope s_law, [], []⟩
def dd_Rule_init : He.DefD := ⟨("Rule", some "__init__"), "__init__", "Rule.__init__", defArgs s_Rule_init, defBody s_Rule_init, defScope s_Rule_init, [], [("least", .int 1), ("most", .int 8), ("rise", .non), ("fall", .non), ("up", .int 1), ("down", .int 1)]⟩
def dd_Rule_with_parts : He.DefD := ⟨("Rule", some "with_parts"), "with_parts", "Rule.with_parts", defArgs s_Rule_with_parts, defBody s_Rule_with_parts, defScope s_Rule_with_parts, [], []⟩
def dd_Rule_eq : He.DefD := ⟨("Rule", some "__eq__"), "__eq__", "Rule.__eq__", defArgs s_Rule_eq, defBody s_Rule_eq, defScope s_Rule_eq, [], []⟩
def dd_Rule_or : He.DefD := ⟨("Rule", some "__or__"), "__or__", "Rule.__or__", defArgs s_Rule_or, defBody s_Rule_or, defScope s_Rule_or, [], []⟩
def dd_Rule_lshift : He.DefD := ⟨("Rule", some "__lshift__"), "__lshift__", "Rule.__lshift__", defArgs s_Rule_lshift, defBody s_Rule_lshift, defScope s_Rule_lshift, [], []⟩
def dd_Scaler_init : He.DefD := ⟨("Scaler", some "__init__"), "__init__", "Scaler.__init__", defArgs s_Scaler_init, defBody s_Scaler_init, defScope s_Scaler_init, [], []⟩
def dd_Scaler_eq : He.DefD := ⟨("Scaler", some "__eq__"), "__eq__", "Scaler.__eq__", defArgs s_Scaler_eq, defBody s_Scaler_eq, defScope s_Scaler_eq, [], []⟩
def dd_Scaler_call : He.DefD := ⟨("Scaler", some "__call__"), "__call__", "Scaler.__call__", defArgs s_Scaler_call, defBody s_Scaler_call, defScope s_Scaler_call, [], []⟩
def dd_Moment_init : He.DefD := ⟨("Moment", some "__init__"), "__init__", "Moment.__init__", defArgs s_Moment_init, defBody s_Moment_init, defScope s_Moment_init, [], []⟩
def dd_Session_init : He.DefD := ⟨("Session", some "__init__"), "__init__", "Session.__init__", defArgs s_Session_init, defBody s_Session_init, defScope s_Session_init, [], []⟩
def dd_Session_do : He.DefD := ⟨("Session", some "do"), "do", "Session.do", defArgs s_Session_do, defBody s_Session_do, defScope s_Session_do, [], []⟩
def dd_Session_do_all : He.DefD := ⟨("Session", some "do_all"), "do_all", "Session.do_all", defArgs s_Session_do_all, defBody s_Session_do_all, defScope s_Session_do_all, [], []⟩
def dd_Session_deeds : He.DefD := ⟨("Session", some "deeds"), "deeds", "Session.deeds", defArgs s_Session_deeds, defBody s_Session_deeds, defScope s_Session_deeds, [], []⟩
def dd_Session_twin : He.DefD := ⟨("Session", some "twin"), "twin", "Session.twin", defArgs s_Session_twin, defBody s_Session_twin, defScope s_Session_twin, [], []⟩
def dd_Session_eq : He.DefD := ⟨("Session", some "__eq__"), "__eq__", "Session.__eq__", defArgs s_Session_eq, defBody s_Session_eq, defScope s_Session_eq, [], []⟩
def fa0 : List He.Fa := [.glo "is_integer", .glo "divisor", .glo "is_load", .glo "need_load", .glo "is_between", .glo "is_part", .glo "are_parts", .glo "is_limit", .glo "need_limits", .glo "raised", .glo "is_below_times", .glo "is_above_times", .glo "wish_of", .glo "first_wish", .glo "first_state", .glo "is_state", .glo "settled", .glo "ticked", .glo "tick", .glo "need_curve", .glo "is_deed", .glo "failed", .glo "later_moment", .glo "deeds_to", .glo "_law_begin", .glo "_law_take", .glo "_law_pick", .glo "_law_is_int", .glo "_law_fraction", .glo "_law_part"]
def fa1 : List He.Fa := [.glo "_law_case", .glo "_law_rule", .glo "_law_wish", .glo "_law_tick", .glo "_law_first", .glo "_law_servers", .glo "_law_ends", .glo "_law_load", .glo "_law_curve", .glo "_law_is_load", .glo "_law_sheet", .glo "_law_raised", .glo "_law_act", .glo "_law_is_part", .glo "_law_done", .glo "_law_stands", .glo "_law_caught", .glo "_law_moved", .glo "_law_goes_on", .glo "_law_equal_right", .glo "law", .glo "BadLoad", .glo "BadRule", .glo "NoPlace", .glo "BadServers", .glo "BadState", .glo "BadCurve", .glo "BadNumber", .glo "BadDeed", .glo "LoadError"]
def fa2 : List He.Fa := [.glo "Rule", .glo "Scaler", .glo "Moment", .glo "Session", .glo "SIZES", .glo "PARTS", .free "isinstance", .free "int", .free "bool", .free "tuple", .free "len", .free "all", .free "str", .free "list", .free "dict", .free "min", .free "max", .free "sorted", .free "set", .free "range", .free "enumerate", .free "repr", .free "abs", .free "divmod", .free "super", .int "HIGHEST_MARK" 60, .int "MOST_SERVERS" 8, .int "MOST_PARTS" 4, .int "LONGEST_WINDOW" 3, .cls "Rule"]
def fa3 : List He.Fa := [.mkr "Rule", .noat "Rule" "r_parts", .noat "Rule" "r_bounds", .noat "Rule" "r_limits", .meth "Rule" "__init__", .meth "Rule" "with_parts", .meth "Rule" "__eq__", .meth "Rule" "__or__", .meth "Rule" "__lshift__", .cls "Scaler", .mkr "Scaler", .noat "Scaler" "s_first", .noat "Scaler" "s_rule", .meth "Scaler" "__init__", .meth "Scaler" "__eq__", .meth "Scaler" "__call__", .cls "Moment", .mkr "Moment", .noat "Moment" "q_rule", .noat "Moment" "q_state", .noat "Moment" "q_curve", .noat "Moment" "q_deed", .noat "Moment" "q_before", .meth "Moment" "__init__", .cls "Session", .mkr "Session", .noat "Session" "v_origin", .noat "Session" "v_now", .noat "Session" "v_mark", .meth "Session" "__init__"]
def fa4 : List He.Fa := [.meth "Session" "do", .meth "Session" "do_all", .meth "Session" "deeds", .meth "Session" "twin", .meth "Session" "__eq__", .exc "BadNumber", .exm "BadNumber" "BadDeed" false, .exm "BadNumber" "BadRule" false, .exm "BadNumber" "NoPlace" false, .exm "BadNumber" "BadLoad" false, .exm "BadNumber" "BadNumber" true, .exm "BadRule" "BadDeed" false, .exm "BadRule" "BadRule" true]
def fa : List He.Fa := fa0 ++ fa1 ++ fa2 ++ fa3 ++ fa4
def fn0 : List He.DefD := [dd_is_integer, dd_divisor, dd_is_load, dd_need_load, dd_is_between, dd_is_part, dd_are_parts, dd_is_limit, dd_need_limits, dd_raised, dd_is_below_times, dd_is_above_times, dd_wish_of, dd_first_wish, dd_first_state, dd_is_state, dd_settled, dd_ticked, dd_tick, dd_need_curve, dd_is_deed, dd_failed, dd_later_moment, dd_deeds_to, dd_law_begin, dd_law_take, dd_law_pick, dd_law_is_int, dd_law_fraction, dd_law_part]
def fn1 : List He.DefD := [dd_law_case, dd_law_rule, dd_law_wish, dd_law_tick, dd_law_first, dd_law_servers, dd_law_ends, dd_law_load, dd_law_curve, dd_law_is_load, dd_law_sheet, dd_law_raised, dd_law_act, dd_law_is_part, dd_law_done, dd_law_stands, dd_law_caught, dd_law_moved, dd_law_goes_on, dd_law_equal_right, dd_law, dd_Rule_init, dd_Rule_with_parts, dd_Rule_eq, dd_Rule_or, dd_Rule_lshift, dd_Scaler_init, dd_Scaler_eq, dd_Scaler_call, dd_Moment_init]
def fn2 : List He.DefD := [dd_Session_init, dd_Session_do, dd_Session_do_all, dd_Session_deeds, dd_Session_twin, dd_Session_eq]
def fn : List He.DefD := fn0 ++ fn1 ++ fn2
/-- the getter of a property -/
def gtAd (K : PySem.W.Frag) (C f : Str) : Addr := match PySem.W.recIn K (He.ma K (He.ga K C) f) "property" with
  | some (.ref g :: _) => g
  | _ => 0
structure GtD where
  C : Str
  f : Str
  qual : Str
  params : Arguments
  body : List Stmt
  scope : Scope
def fnAt (K : PySem.W.Frag) (a : Addr) : He.FnW := match K.lookup a with
  | some ⟨_, _, .func fd, _⟩ => some (fd.name, fd.qualname, fd.params, fd.body, fd.scope, fd.globals, fd.closure, fd.builtins)
  | _ => none
def GtD.val (d : GtD) : He.FnW := some (d.f, d.qual, d.params, .stmts d.body, d.scope, mainGlobals, [], builtinsNs)
def GtD.ok (K : PySem.W.Frag) (d : GtD) : Bool := PySem.W.keepIn K (.ref (gtAd K d.C d.f)) && (match K.lookup (gtAd K d.C d.f) with
  | some ⟨_, _, .func fd, _⟩ => PySem.W.codeIn K fd.code d.qual && He.dflB K fd.defaults []
  | _ => false) && He.eqO (PySem.W.findIn K (.ref (He.ga K d.C)) d.f) (some (some (.ref (He.ma K (He.ga K d.C) d.f)))) &&
  He.eqO (PySem.W.specialIn K (.ref (He.ma K (He.ga K d.C) d.f)) "__get__") (some (some (.builtin "property.__get__"))) &&
  decide (PySem.W.takesIn K (.ref (He.ma K (He.ga K d.C) d.f)) = some true) && (match PySem.W.recIn K (He.ma K (He.ga K d.C) d.f) "property" with
  | some (.ref _ :: _) => true
  | _ => false)
theorem GtD.funD {K : PySem.W.Frag} {d : GtD} (e : fnAt K (gtAd K d.C d.f) = d.val) (c : d.ok K = true) : (∃ fd, FunD K d.f d.qual d.params d.body d.scope [] [] (gtAd K d.C d.f) fd) ∧ PropOf K (He.ga K d.C) d.f (He.ma K (He.ga K d.C) d.f) (gtAd K d.C d.f) := by
  obtain ⟨c, c6⟩ := He.ba c
  obtain ⟨c, c5⟩ := He.ba c
  obtain ⟨c, c4⟩ := He.ba c
  obtain ⟨c, c3⟩ := He.ba c
  obtain ⟨c1, c2⟩ := He.ba c
  refine ⟨?_, He.eqO_ok c3, He.eqO_ok c4, of_decide_eq_true c5, ?_⟩
  · unfold fnAt at e
    cases q : K.lookup (gtAd K d.C d.f) with
    | none => rw [q] at c2; cases c2
    | some o =>
      obtain ⟨oc, od, dt, osl⟩ := o
      rw [q] at c2 e
      cases dt with
      | func fd =>
        obtain ⟨n1, n2, n3, n4, n5, n6, n7, n8, n9, n10, n11, n12, n13, n14, n15⟩ := fd
        have e2 : (some (n1, n2, n3, n4, n5, n6, n7, n15) : He.FnW) = some (d.f, d.qual, d.params, .stmts d.body, d.scope, mainGlobals, [], builtinsNs) := e
        simp only [Option.some.injEq, Prod.mk.injEq] at e2
        obtain ⟨h1, h2, h3, h4, h5, h6, h7, h8⟩ := e2
        subst h1 h2 h3 h4 h5 h6 h7 h8
        obtain ⟨k1, k3⟩ := He.ba (show (PySem.W.codeIn K n13 d.qual && He.dflB K n8 []) = true from c2)
        exact ⟨_, ⟨oc, od, n8, n9, n10, n11, n12, n13, n14, osl, rfl, q, k1, He.dflB_ok k3, .inl rfl⟩, c1⟩
      | _ => cases c2
  · unfold gtAd
    cases q : PySem.W.recIn K (He.ma K (He.ga K d.C) d.f) "property" with
    | none => rw [q] at c6; cases c6
    | some l =>
      rw [q] at c6
      match l, c6 with
      | .ref g :: r, _ => exact ⟨r, rfl⟩
def gg_Rule_parts : GtD := ⟨"Rule", "parts", "Rule.parts", defArgs s_Rule_parts, defBody s_Rule_parts, defScope s_Rule_parts⟩
def gg_Rule_least : GtD := ⟨"Rule", "least", "Rule.least", defArgs s_Rule_least, defBody s_Rule_least, defScope s_Rule_least⟩
def gg_Rule_most : GtD := ⟨"Rule", "most", "Rule.most", defArgs s_Rule_most, defBody s_Rule_most, defScope s_Rule_most⟩
def gg_Rule_rise : GtD := ⟨"Rule", "rise", "Rule.rise", defArgs s_Rule_rise, defBody s_Rule_rise, defScope s_Rule_rise⟩
def gg_Rule_fall : GtD := ⟨"Rule", "fall", "Rule.fall", defArgs s_Rule_fall, defBody s_Rule_fall, defScope s_Rule_fall⟩
def gg_Rule_up : GtD := ⟨"Rule", "up", "Rule.up", defArgs s_Rule_up, defBody s_Rule_up, defScope s_Rule_up⟩
def gg_Rule_down : GtD := ⟨"Rule", "down", "Rule.down", defArgs s_Rule_down, defBody s_Rule_down, defScope s_Rule_down⟩
def gg_Scaler_rule : GtD := ⟨"Scaler", "rule", "Scaler.rule", defArgs s_Scaler_rule, defBody s_Scaler_rule, defScope s_Scaler_rule⟩
def gg_Scaler_servers : GtD := ⟨"Scaler", "servers", "Scaler.servers", defArgs s_Scaler_servers, defBody s_Scaler_servers, defScope s_Scaler_servers⟩
def gg_Session_rule : GtD := ⟨"Session", "rule", "Session.rule", defArgs s_Session_rule, defBody s_Session_rule, defScope s_Session_rule⟩
def gg_Session_origin : GtD := ⟨"Session", "origin", "Session.origin", defArgs s_Session_origin, defBody s_Session_origin, defScope s_Session_origin⟩
def gg_Session_state : GtD := ⟨"Session", "state", "Session.state", defArgs s_Session_state, defBody s_Session_state, defScope s_Session_state⟩
def gg_Session_servers : GtD := ⟨"Session", "servers", "Session.servers", defArgs s_Session_servers, defBody s_Session_servers, defScope s_Session_servers⟩
def gg_Session_curve : GtD := ⟨"Session", "curve", "Session.curve", defArgs s_Session_curve, defBody s_Session_curve, defScope s_Session_curve⟩
def gs : List GtD := [gg_Rule_parts, gg_Rule_least, gg_Rule_most, gg_Rule_rise, gg_Rule_fall, gg_Rule_up, gg_Rule_down, gg_Scaler_rule, gg_Scaler_servers, gg_Session_rule, gg_Session_origin, gg_Session_state, gg_Session_servers, gg_Session_curve]
set_option synthInstance.maxHeartbeats 400000
def moreB (K : PySem.W.Frag) : Bool := [decide (PySem.W.findIn K (.ref (He.ga K "Rule")) "__class__" = some (some (.builtin "object.__class__"))),
  decide (PySem.W.mroIn K (He.ga K "Rule") (.type "object") = some true),
  decide (PySem.W.kitOne K (.ref (He.ga K "Rule")) (.ref (He.ga K "Rule")) = some true),
  decide (PySem.W.selfFirst K (He.ga K "Rule") = true),
  decide (PySem.W.findIn K (.ref (He.ga K "Rule")) "__ne__" = some (some (.builtin "object.__ne__"))),
  decide (PySem.W.findIn K (.ref (He.ga K "Scaler")) "__class__" = some (some (.builtin "object.__class__"))),
  decide (PySem.W.mroIn K (He.ga K "Scaler") (.type "object") = some true),
  decide (PySem.W.kitOne K (.ref (He.ga K "Scaler")) (.ref (He.ga K "Scaler")) = some true),
  decide (PySem.W.selfFirst K (He.ga K "Scaler") = true),
  decide (PySem.W.findIn K (.ref (He.ga K "Scaler")) "__ne__" = some (some (.builtin "object.__ne__"))),
  decide (PySem.W.findIn K (.ref (He.ga K "Session")) "__class__" = some (some (.builtin "object.__class__"))),
  decide (PySem.W.mroIn K (He.ga K "Session") (.type "object") = some true),
  decide (PySem.W.kitOne K (.ref (He.ga K "Session")) (.ref (He.ga K "Session")) = some true),
  decide (PySem.W.selfFirst K (He.ga K "Session") = true),
  decide (PySem.W.findIn K (.ref (He.ga K "Session")) "__ne__" = some (some (.builtin "object.__ne__"))),
  decide (PySem.W.kitOne K (.type "NoneType") (.ref (He.ga K "Session")) = some false),
  decide (PySem.W.kitOne K (.ref (He.ga K "Rule")) (.ref (He.ga K "Session")) = some false),
  decide (PySem.W.specialIn K (.builtin "object.__class__") "__get__" = some (some (.builtin "getset_descriptor.__get__"))),
  decide (PySem.W.takesIn K (.builtin "object.__class__") = some true),
  decide (PySem.W.subIn K (.type "tuple") (.ref (He.ga K "Rule")) = some false),
  decide (PySem.W.subIn K (.type "int") (.ref (He.ga K "Rule")) = some false),
  decide (PySem.W.subIn K (.type "NoneType") (.ref (He.ga K "Session")) = some false),
  decide (PySem.W.subIn K (.ref (He.ga K "Rule")) (.ref (He.ga K "Session")) = some false),
  decide (PySem.W.findIn K (.ref (He.ga K "Rule")) "__ror__" = some none),
  decide (PySem.W.findIn K (.ref (He.ga K "Rule")) "__rlshift__" = some none),
  decide (PySem.W.findIn K (.ref (He.ga K "BadRule")) "__getattribute__" = some (some (.builtin "BaseException.__getattribute__"))),
  decide (PySem.W.findIn K (.ref (He.ga K "BadRule")) "__getattr__" = some none),
  decide (PySem.W.hasDictIn K (He.ga K "BadRule") = true),
  decide (PySem.W.fnIn K (He.ma K (He.ga K "Scaler") "__call__") = true)].all id
/-- the addresses that the facts need: the module's names, the classes' names, the methods, the getters, their code objects -/
def eVals (es : Array DictEntry) : List Addr := es.toList.flatMap fun e => He.refV e.val
def nx1 (o : Obj) : List Addr := match o.data with
  | .func fd => He.refV fd.code ++ He.refV fd.kwdefaults ++ fd.closure.map (·.2)
  | .cls cd => [cd.ns]
  | .fields vs => (match o.cls with
    | .type n => (match decide (n = "property") with
      | true => (match vs.toList with
        | v :: _ => He.refV v
        | [] => [])
      | false => [])
    | _ => [])
  | _ => []
def nxD (o : Obj) : List Addr := match o.data with
  | .dict es _ => eVals es
  | _ => []
def viaG (g : Addr → Option Obj) (f : Obj → List Addr) (as : List Addr) : List Addr := as.flatMap fun a => match g a with
  | some o => f o
  | none => []
def myAs (g : Addr → Option Obj) : List Addr :=
  match viaG g nxD [mainGlobals] with
  | l1 => (match viaG g nx1 l1 with
    | l2 => (match viaG g nxD (l2.filter fun a => !l1.contains a) with
      | l3 => (match viaG g nx1 l3 with
        | l4 => (match viaG g nx1 l4 with
          | l5 => mainGlobals :: cStatics :: (l1 ++ l2 ++ l3 ++ l4 ++ l5)))))
def tabs : List He.Tab := [(fun K => He.ga K "SIZES", ["over", "under", "aim"]), (fun K => He.ga K "PARTS", ["load", "fail", "part", "raise", "undo"])]
def tf : List He.Defn := [("_law_moved", none)]
abbrev s_BadRule_init : Stmt := inClass (top 3) 0
def brC (K : PySem.W.Frag) : Addr := He.ga K "BadRule"
def brF (K : PySem.W.Frag) : Addr := He.ma K (brC K) "__init__"
def fnBr (K : PySem.W.Frag) : He.FnW := match K.lookup (brF K) with
  | some ⟨_, _, .func fd, _⟩ => some (fd.name, fd.qualname, fd.params, fd.body, fd.scope, fd.globals, [], fd.builtins)
  | _ => none
def brVal : He.FnW := some ("__init__", "BadRule.__init__", defArgs s_BadRule_init, .stmts (defBody s_BadRule_init), defScope s_BadRule_init, mainGlobals, [], builtinsNs)
def brB1 (K : PySem.W.Frag) : Bool := match K.lookup (brF K) with
  | some ⟨_, _, .func fd, _⟩ => (match fd.closure, fd.code, fd.defaults with
    | [(n, cc)], .ref cda, .none => decide (n = ("__class__" : Str)) && ((match K.lookup cc with
        | some ⟨_, _, .cell (some (.ref D)), _⟩ => decide (D = brC K)
        | _ => false) && (PySem.W.codeIn K (.ref cda) "BadRule.__init__" && (match K.lookup cda with
        | some ⟨_, _, .fields vs, _⟩ => (match vs[2]? with
          | some (Value.str file _) => decide (pw.main.file = file)
          | _ => false)
        | _ => false)))
    | _, _, _ => false)
  | _ => false
def brB2 (K : PySem.W.Frag) : Bool := match PySem.W.clsIn K (brC K) with
  | some cd => (match cd.mro with
     | .ref D :: bm => decide (D = brC K) && (PySem.HandSPX.refsVE bm && cd.hasDict)
     | _ => false)
  | none => false
def brB (K : PySem.W.Frag) : Bool := brB1 K && (brB2 K && (PySem.W.excInitIn K (brC K) He.veBase "ValueError.__new__" && ([decide (PySem.W.findIn K (.ref (brC K)) "__init__" = some (some (.ref (brF K)))),
  decide (PySem.W.typeIn K (.ref (brF K)) = some (.type "function")),
  decide (PySem.W.findIn K (.ref (brC K)) "part" = some none),
  decide (PySem.W.findIn K (.ref (brC K)) "__setattr__" = some (some (.builtin "object.__setattr__"))),
  decide (PySem.W.subIn K (.ref (brC K)) (.type "BaseException") = some true),
  decide (PySem.W.typeIn K (.ref (brC K)) = some (.type "type")),
  decide (PySem.W.keepIn K (.ref (brC K)) = true),
  decide (PySem.W.subIn K (.ref (brC K)) (.type "ValueError") = some true),
  decide (PySem.W.nsIn K cStatics "thirdparty.any" = some none),
  decide (PySem.W.ks_superIn K (brC K) (brC K) "__init__" = some (some (.builtin "ValueError.__init__"))),
  decide (PySem.W.mroIn K (brC K) (.ref (brC K)) = some true)].all id)))
def exB (K : PySem.W.Frag) : Bool := moreB K && (He.valsB K (He.ga K "SIZES") [("over", .int 3), ("under", .int 3), ("aim", .int 4)] && He.valsB K (He.ga K "PARTS") [("load", .int 2), ("fail", .int 2), ("part", .int 2), ("raise", .int 2), ("undo", .int 1)]) && gs.all fun d => d.ok K
abbrev AlY : Type := (Bool × List He.FnW × List He.FnW) × List (Option (List (Option (Str × Int)))) × Bool
def obsK (g : Addr → Option Obj) (K : PySem.W.Frag) : AlY :=
  ((((fa.all fun f => f.ok K) && fn.all fun d => d.ok K), fn.map (fun d => He.fnW K d.at_), fnBr K :: gs.map fun d => fnAt K (gtAd K d.C d.f)),
    tabs.map (fun t => He.dicW K (t.1 K)), (exB K && brB K) && He.tabsB g tf K)
def frY (g : Addr → Option Obj) : PySem.W.Frag := He.frT g (myAs g)
def obsY (g : Addr → Option Obj) : AlY := obsK g (frY g)
def valY (w : World) : AlY := ((true, fn.map He.DefD.val, brVal :: gs.map GtD.val), tabs.map (fun t => some (He.keysIn w.params t.2)), true)
structure SaysY (w : World) (h : Heap) (K : PySem.W.Frag) : Prop where
  d : He.SaysD fa fn K
  g : (gs.map fun d => fnAt K (gtAd K d.C d.f)) = gs.map GtD.val
  t : tabs.map (fun t => He.dicW K (t.1 K)) = tabs.map (fun t => some (He.keysIn w.params t.2))
  more : exB K = true
  bb : brB K = true
  br : fnBr K = brVal
  hd : ∀ p ∈ tf, PySem.W.codeHdIn K (He.cT K p).1 (He.cT K p).2 = true
  out : ∀ p ∈ tf, K.lookup (He.cT K p).2 = none
  empty : ∀ p ∈ tf, h.get? (He.cT K p).2 = some { cls := .none, data := .fields #[] }
theorem says_of {w : World} {h : Heap} (e : obsY h.get? = valY w) : SaysY w h (frY h.get?) := by
  have e' : obsK h.get? (frY h.get?) = valY w := e
  generalize hK : frY h.get? = K at e'
  have e1 : (((fa.all fun f => f.ok K) && fn.all fun d => d.ok K), fn.map (fun d => He.fnW K d.at_), fnBr K :: gs.map fun d => fnAt K (gtAd K d.C d.f)) = (true, fn.map He.DefD.val, brVal :: gs.map GtD.val) := congrArg (fun z : AlY => z.1) e'
  have e2 : tabs.map (fun t => He.dicW K (t.1 K)) = tabs.map (fun t => some (He.keysIn w.params t.2)) := congrArg (fun z : AlY => z.2.1) e'
  have e3 : ((exB K && brB K) && He.tabsB h.get? tf K) = true := congrArg (fun z : AlY => z.2.2) e'
  obtain ⟨h1, h2⟩ := He.ba e3
  obtain ⟨h1, h1b⟩ := He.ba h1
  simp only [Prod.mk.injEq, List.cons.injEq] at e1
  obtain ⟨a1, a2, a4, a3⟩ := e1
  have key : ∀ p ∈ tf, PySem.W.codeHdIn K (He.cT K p).1 (He.cT K p).2 = true ∧ ∃ o, h.get? (He.cT K p).2 = some o ∧ He.emptyTab o = true := fun p hp => by
    obtain ⟨q1, q2⟩ := He.ba (List.all_eq_true.mp h2 p hp)
    refine ⟨q1, ?_⟩
    cases q : h.get? (He.cT K p).2 with
    | none => rw [q] at q2; cases q2
    | some o => rw [q] at q2; exact ⟨o, rfl, q2⟩
  refine ⟨Prod.ext a1 a2, a3, e2, h1, h1b, a4, fun p hp => (key p hp).1, fun p hp => ?_, fun p hp => ?_⟩
  · obtain ⟨_, o, q, z⟩ := key p hp
    rw [← hK] at q ⊢
    exact He.frT_none q z
  · obtain ⟨_, o, q, z⟩ := key p hp
    rw [q, He.emptyTab_eq z]
def hookY : PySem.W.Hook where
  α := AlY
  obs := fun s => obsY s.heap.get?
  val := fun w => valY w
  says := fun w h => ∃ K : PySem.W.Frag, K.In h ∧ SaysY w h K
  of := fun _ _ e => ⟨_, He.frT_in, says_of e⟩
  keeps := fun _ _ _ ⟨K, hK, c⟩ k => ⟨K, PySem.W.Frag.In.keeps hK k, ⟨c.d, c.g, c.t, c.more, c.bb, c.br, c.hd, c.out, fun p hp => k _ _ (c.empty p hp)⟩⟩
theorem SaysY.tab {w : World} {h : Heap} {K : PySem.W.Frag} (c : SaysY w h K) (i : Nat) {t : He.Tab} (q : tabs[i]? = some t) : ∃ es n, KDict K w (t.1 K) es n := by
  have e2 : (tabs.map fun t => He.dicW K (t.1 K))[i]? = (tabs.map fun t => some (He.keysIn w.params t.2))[i]? := by rw [c.t]
  rw [List.getElem?_map, List.getElem?_map, q] at e2
  exact He.dicW_ok (Option.some.inj e2)
/-- what every def's proof leans on -/
structure Txt (w : World) (K : PySem.W.Frag) (mg : Str → Option Value) : Prop where
  h : ∃ b : Heap, K.In b ∧ b.Ns mainGlobals mg
  sz : ∃ es n, KDict K w (He.ga K "SIZES") es n
  pt : ∃ es n, KDict K w (He.ga K "PARTS") es n
  d : He.SaysD fa fn K
  m : exB K = true
  bb : brB K = true
  br : fnBr K = brVal
  g : (gs.map fun d => fnAt K (gtAd K d.C d.f)) = gs.map GtD.val
section
variable {w : World} {K : PySem.W.Frag} {mg : Str → Option Value}
theorem Txt.g_is_integer (T : Txt w K mg) : mg "is_integer" = some (.ref (He.ga K "is_integer")) := by
  obtain ⟨b, X, G⟩ := T.h
  exact He.glo_ok X G (T.d.fact 0 (f := .glo "is_integer") rfl)
theorem Txt.g_divisor (T : Txt w K mg) : mg "divisor" = some (.ref (He.ga K "divisor")) := by
  obtain ⟨b, X, G⟩ := T.h
  exact He.glo_ok X G (T.d.fact 1 (f := .glo "divisor") rfl)
theorem Txt.g_is_load (T : Txt w K mg) : mg "is_load" = some (.ref (He.ga K "is_load")) := by
  obtain ⟨b, X, G⟩ := T.h
  exact He.glo_ok X G (T.d.fact 2 (f := .glo "is_load") rfl)
theorem Txt.g_need_load (T : Txt w K mg) : mg "need_load" = some (.ref (He.ga K "need_load")) := by
  obtain ⟨b, X, G⟩ := T.h
  exact He.glo_ok X G (T.d.fact 3 (f := .glo "need_load") rfl)
theorem Txt.g_is_between (T : Txt w K mg) : mg "is_between" = some (.ref (He.ga K "is_between")) := by
  obtain ⟨b, X, G⟩ := T.h
  exact He.glo_ok X G (T.d.fact 4 (f := .glo "is_between") rfl)
theorem Txt.g_is_part (T : Txt w K mg) : mg "is_part" = some (.ref (He.ga K "is_part")) := by
  obtain ⟨b, X, G⟩ := T.h
  exact He.glo_ok X G (T.d.fact 5 (f := .glo "is_part") rfl)
theorem Txt.g_are_parts (T : Txt w K mg) : mg "are_parts" = some (.ref (He.ga K "are_parts")) := by
  obtain ⟨b, X, G⟩ := T.h
  exact He.glo_ok X G (T.d.fact 6 (f := .glo "are_parts") rfl)
theorem Txt.g_is_limit (T : Txt w K mg) : mg "is_limit" = some (.ref (He.ga K "is_limit")) := by
  obtain ⟨b, X, G⟩ := T.h
  exact He.glo_ok X G (T.d.fact 7 (f := .glo "is_limit") rfl)
theorem Txt.g_need_limits (T : Txt w K mg) : mg "need_limits" = some (.ref (He.ga K "need_limits")) := by
  obtain ⟨b, X, G⟩ := T.h
  exact He.glo_ok X G (T.d.fact 8 (f := .glo "need_limits") rfl)
theorem Txt.g_raised (T : Txt w K mg) : mg "raised" = some (.ref (He.ga K "raised")) := by
  obtain ⟨b, X, G⟩ := T.h
  exact He.glo_ok X G (T.d.fact 9 (f := .glo "raised") rfl)
theorem Txt.g_is_below_times (T : Txt w K mg) : mg "is_below_times" = some (.ref (He.ga K "is_below_times")) := by
  obtain ⟨b, X, G⟩ := T.h
  exact He.glo_ok X G (T.d.fact 10 (f := .glo "is_below_times") rfl)
theorem Txt.g_is_above_times (T : Txt w K mg) : mg "is_above_times" = some (.ref (He.ga K "is_above_times")) := by
  obtain ⟨b, X, G⟩ := T.h
  exact He.glo_ok X G (T.d.fact 11 (f := .glo "is_above_times") rfl)
theorem Txt.g_wish_of (T : Txt w K mg) : mg "wish_of" = some (.ref (He.ga K "wish_of")) := by
  obtain ⟨b, X, G⟩ := T.h
  exact He.glo_ok X G (T.d.fact 12 (f := .glo "wish_of") rfl)
theorem Txt.g_first_wish (T : Txt w K mg) : mg "first_wish" = some (.ref (He.ga K "first_wish")) := by
  obtain ⟨b, X, G⟩ := T.h
  exact He.glo_ok X G (T.d.fact 13 (f := .glo "first_wish") rfl)
theorem Txt.g_first_state (T : Txt w K mg) : mg "first_state" = some (.ref (He.ga K "first_state")) := by
  obtain ⟨b, X, G⟩ := T.h
  exact He.glo_ok X G (T.d.fact 14 (f := .glo "first_state") rfl)
theorem Txt.g_is_state (T : Txt w K mg) : mg "is_state" = some (.ref (He.ga K "is_state")) := by
  obtain ⟨b, X, G⟩ := T.h
  exact He.glo_ok X G (T.d.fact 15 (f := .glo "is_state") rfl)
theorem Txt.g_settled (T : Txt w K mg) : mg "settled" = some (.ref (He.ga K "settled")) := by
  obtain ⟨b, X, G⟩ := T.h
  exact He.glo_ok X G (T.d.fact 16 (f := .glo "settled") rfl)
theorem Txt.g_ticked (T : Txt w K mg) : mg "ticked" = some (.ref (He.ga K "ticked")) := by
  obtain ⟨b, X, G⟩ := T.h
  exact He.glo_ok X G (T.d.fact 17 (f := .glo "ticked") rfl)
theorem Txt.g_tick (T : Txt w K mg) : mg "tick" = some (.ref (He.ga K "tick")) := by
  obtain ⟨b, X, G⟩ := T.h
  exact He.glo_ok X G (T.d.fact 18 (f := .glo "tick") rfl)
theorem Txt.g_need_curve (T : Txt w K mg) : mg "need_curve" = some (.ref (He.ga K "need_curve")) := by
  obtain ⟨b, X, G⟩ := T.h
  exact He.glo_ok X G (T.d.fact 19 (f := .glo "need_curve") rfl)
theorem Txt.g_is_deed (T : Txt w K mg) : mg "is_deed" = some (.ref (He.ga K "is_deed")) := by
  obtain ⟨b, X, G⟩ := T.h
  exact He.glo_ok X G (T.d.fact 20 (f := .glo "is_deed") rfl)
theorem Txt.g_failed (T : Txt w K mg) : mg "failed" = some (.ref (He.ga K "failed")) := by
  obtain ⟨b, X, G⟩ := T.h
  exact He.glo_ok X G (T.d.fact 21 (f := .glo "failed") rfl)
theorem Txt.g_later_moment (T : Txt w K mg) : mg "later_moment" = some (.ref (He.ga K "later_moment")) := by
  obtain ⟨b, X, G⟩ := T.h
  exact He.glo_ok X G (T.d.fact 22 (f := .glo "later_moment") rfl)
theorem Txt.g_deeds_to (T : Txt w K mg) : mg "deeds_to" = some (.ref (He.ga K "deeds_to")) := by
  obtain ⟨b, X, G⟩ := T.h
  exact He.glo_ok X G (T.d.fact 23 (f := .glo "deeds_to") rfl)
theorem Txt.g_law_begin (T : Txt w K mg) : mg "_law_begin" = some (.ref (He.ga K "_law_begin")) := by
  obtain ⟨b, X, G⟩ := T.h
  exact He.glo_ok X G (T.d.fact 24 (f := .glo "_law_begin") rfl)
theorem Txt.g_law_take (T : Txt w K mg) : mg "_law_take" = some (.ref (He.ga K "_law_take")) := by
  obtain ⟨b, X, G⟩ := T.h
  exact He.glo_ok X G (T.d.fact 25 (f := .glo "_law_take") rfl)
theorem Txt.g_law_pick (T : Txt w K mg) : mg "_law_pick" = some (.ref (He.ga K "_law_pick")) := by
  obtain ⟨b, X, G⟩ := T.h
  exact He.glo_ok X G (T.d.fact 26 (f := .glo "_law_pick") rfl)
theorem Txt.g_law_is_int (T : Txt w K mg) : mg "_law_is_int" = some (.ref (He.ga K "_law_is_int")) := by
  obtain ⟨b, X, G⟩ := T.h
  exact He.glo_ok X G (T.d.fact 27 (f := .glo "_law_is_int") rfl)
theorem Txt.g_law_fraction (T : Txt w K mg) : mg "_law_fraction" = some (.ref (He.ga K "_law_fraction")) := by
  obtain ⟨b, X, G⟩ := T.h
  exact He.glo_ok X G (T.d.fact 28 (f := .glo "_law_fraction") rfl)
theorem Txt.g_law_part (T : Txt w K mg) : mg "_law_part" = some (.ref (He.ga K "_law_part")) := by
  obtain ⟨b, X, G⟩ := T.h
  exact He.glo_ok X G (T.d.fact 29 (f := .glo "_law_part") rfl)
theorem Txt.g_law_case (T : Txt w K mg) : mg "_law_case" = some (.ref (He.ga K "_law_case")) := by
  obtain ⟨b, X, G⟩ := T.h
  exact He.glo_ok X G (T.d.fact 30 (f := .glo "_law_case") rfl)
theorem Txt.g_law_rule (T : Txt w K mg) : mg "_law_rule" = some (.ref (He.ga K "_law_rule")) := by
  obtain ⟨b, X, G⟩ := T.h
  exact He.glo_ok X G (T.d.fact 31 (f := .glo "_law_rule") rfl)
theorem Txt.g_law_wish (T : Txt w K mg) : mg "_law_wish" = some (.ref (He.ga K "_law_wish")) := by
  obtain ⟨b, X, G⟩ := T.h
  exact He.glo_ok X G (T.d.fact 32 (f := .glo "_law_wish") rfl)
theorem Txt.g_law_tick (T : Txt w K mg) : mg "_law_tick" = some (.ref (He.ga K "_law_tick")) := by
  obtain ⟨b, X, G⟩ := T.h
  exact He.glo_ok X G (T.d.fact 33 (f := .glo "_law_tick") rfl)
theorem Txt.g_law_first (T : Txt w K mg) : mg "_law_first" = some (.ref (He.ga K "_law_first")) := by
  obtain ⟨b, X, G⟩ := T.h
  exact He.glo_ok X G (T.d.fact 34 (f := .glo "_law_first") rfl)
theorem Txt.g_law_servers (T : Txt w K mg) : mg "_law_servers" = some (.ref (He.ga K "_law_servers")) := by
  obtain ⟨b, X, G⟩ := T.h
  exact He.glo_ok X G (T.d.fact 35 (f := .glo "_law_servers") rfl)
theorem Txt.g_law_ends (T : Txt w K mg) : mg "_law_ends" = some (.ref (He.ga K "_law_ends")) := by
  obtain ⟨b, X, G⟩ := T.h
  exact He.glo_ok X G (T.d.fact 36 (f := .glo "_law_ends") rfl)
theorem Txt.g_law_load (T : Txt w K mg) : mg "_law_load" = some (.ref (He.ga K "_law_load")) := by
  obtain ⟨b, X, G⟩ := T.h
  exact He.glo_ok X G (T.d.fact 37 (f := .glo "_law_load") rfl)
theorem Txt.g_law_curve (T : Txt w K mg) : mg "_law_curve" = some (.ref (He.ga K "_law_curve")) := by
  obtain ⟨b, X, G⟩ := T.h
  exact He.glo_ok X G (T.d.fact 38 (f := .glo "_law_curve") rfl)
theorem Txt.g_law_is_load (T : Txt w K mg) : mg "_law_is_load" = some (.ref (He.ga K "_law_is_load")) := by
  obtain ⟨b, X, G⟩ := T.h
  exact He.glo_ok X G (T.d.fact 39 (f := .glo "_law_is_load") rfl)
theorem Txt.g_law_sheet (T : Txt w K mg) : mg "_law_sheet" = some (.ref (He.ga K "_law_sheet")) := by
  obtain ⟨b, X, G⟩ := T.h
  exact He.glo_ok X G (T.d.fact 40 (f := .glo "_law_sheet") rfl)
theorem Txt.g_law_raised (T : Txt w K mg) : mg "_law_raised" = some (.ref (He.ga K "_law_raised")) := by
  obtain ⟨b, X, G⟩ := T.h
  exact He.glo_ok X G (T.d.fact 41 (f := .glo "_law_raised") rfl)
theorem Txt.g_law_act (T : Txt w K mg) : mg "_law_act" = some (.ref (He.ga K "_law_act")) := by
  obtain ⟨b, X, G⟩ := T.h
  exact He.glo_ok X G (T.d.fact 42 (f := .glo "_law_act") rfl)
theorem Txt.g_law_is_part (T : Txt w K mg) : mg "_law_is_part" = some (.ref (He.ga K "_law_is_part")) := by
  obtain ⟨b, X, G⟩ := T.h
  exact He.glo_ok X G (T.d.fact 43 (f := .glo "_law_is_part") rfl)
theorem Txt.g_law_done (T : Txt w K mg) : mg "_law_done" = some (.ref (He.ga K "_law_done")) := by
  obtain ⟨b, X, G⟩ := T.h
  exact He.glo_ok X G (T.d.fact 44 (f := .glo "_law_done") rfl)
theorem Txt.g_law_stands (T : Txt w K mg) : mg "_law_stands" = some (.ref (He.ga K "_law_stands")) := by
  obtain ⟨b, X, G⟩ := T.h
  exact He.glo_ok X G (T.d.fact 45 (f := .glo "_law_stands") rfl)
theorem Txt.g_law_caught (T : Txt w K mg) : mg "_law_caught" = some (.ref (He.ga K "_law_caught")) := by
  obtain ⟨b, X, G⟩ := T.h
  exact He.glo_ok X G (T.d.fact 46 (f := .glo "_law_caught") rfl)
theorem Txt.g_law_moved (T : Txt w K mg) : mg "_law_moved" = some (.ref (He.ga K "_law_moved")) := by
  obtain ⟨b, X, G⟩ := T.h
  exact He.glo_ok X G (T.d.fact 47 (f := .glo "_law_moved") rfl)
theorem Txt.g_law_goes_on (T : Txt w K mg) : mg "_law_goes_on" = some (.ref (He.ga K "_law_goes_on")) := by
  obtain ⟨b, X, G⟩ := T.h
  exact He.glo_ok X G (T.d.fact 48 (f := .glo "_law_goes_on") rfl)
theorem Txt.g_law_equal_right (T : Txt w K mg) : mg "_law_equal_right" = some (.ref (He.ga K "_law_equal_right")) := by
  obtain ⟨b, X, G⟩ := T.h
  exact He.glo_ok X G (T.d.fact 49 (f := .glo "_law_equal_right") rfl)
theorem Txt.g_law (T : Txt w K mg) : mg "law" = some (.ref (He.ga K "law")) := by
  obtain ⟨b, X, G⟩ := T.h
  exact He.glo_ok X G (T.d.fact 50 (f := .glo "law") rfl)
theorem Txt.g_BadLoad (T : Txt w K mg) : mg "BadLoad" = some (.ref (He.ga K "BadLoad")) := by
  obtain ⟨b, X, G⟩ := T.h
  exact He.glo_ok X G (T.d.fact 51 (f := .glo "BadLoad") rfl)
theorem Txt.g_BadRule (T : Txt w K mg) : mg "BadRule" = some (.ref (He.ga K "BadRule")) := by
  obtain ⟨b, X, G⟩ := T.h
  exact He.glo_ok X G (T.d.fact 52 (f := .glo "BadRule") rfl)
theorem Txt.g_NoPlace (T : Txt w K mg) : mg "NoPlace" = some (.ref (He.ga K "NoPlace")) := by
  obtain ⟨b, X, G⟩ := T.h
  exact He.glo_ok X G (T.d.fact 53 (f := .glo "NoPlace") rfl)
theorem Txt.g_BadServers (T : Txt w K mg) : mg "BadServers" = some (.ref (He.ga K "BadServers")) := by
  obtain ⟨b, X, G⟩ := T.h
  exact He.glo_ok X G (T.d.fact 54 (f := .glo "BadServers") rfl)
theorem Txt.g_BadState (T : Txt w K mg) : mg "BadState" = some (.ref (He.ga K "BadState")) := by
  obtain ⟨b, X, G⟩ := T.h
  exact He.glo_ok X G (T.d.fact 55 (f := .glo "BadState") rfl)
theorem Txt.g_BadCurve (T : Txt w K mg) : mg "BadCurve" = some (.ref (He.ga K "BadCurve")) := by
  obtain ⟨b, X, G⟩ := T.h
  exact He.glo_ok X G (T.d.fact 56 (f := .glo "BadCurve") rfl)
theorem Txt.g_BadNumber (T : Txt w K mg) : mg "BadNumber" = some (.ref (He.ga K "BadNumber")) := by
  obtain ⟨b, X, G⟩ := T.h
  exact He.glo_ok X G (T.d.fact 57 (f := .glo "BadNumber") rfl)
theorem Txt.g_BadDeed (T : Txt w K mg) : mg "BadDeed" = some (.ref (He.ga K "BadDeed")) := by
  obtain ⟨b, X, G⟩ := T.h
  exact He.glo_ok X G (T.d.fact 58 (f := .glo "BadDeed") rfl)
theorem Txt.g_LoadError (T : Txt w K mg) : mg "LoadError" = some (.ref (He.ga K "LoadError")) := by
  obtain ⟨b, X, G⟩ := T.h
  exact He.glo_ok X G (T.d.fact 59 (f := .glo "LoadError") rfl)
theorem Txt.g_Rule (T : Txt w K mg) : mg "Rule" = some (.ref (He.ga K "Rule")) := by
  obtain ⟨b, X, G⟩ := T.h
  exact He.glo_ok X G (T.d.fact 60 (f := .glo "Rule") rfl)
theorem Txt.g_Scaler (T : Txt w K mg) : mg "Scaler" = some (.ref (He.ga K "Scaler")) := by
  obtain ⟨b, X, G⟩ := T.h
  exact He.glo_ok X G (T.d.fact 61 (f := .glo "Scaler") rfl)
theorem Txt.g_Moment (T : Txt w K mg) : mg "Moment" = some (.ref (He.ga K "Moment")) := by
  obtain ⟨b, X, G⟩ := T.h
  exact He.glo_ok X G (T.d.fact 62 (f := .glo "Moment") rfl)
theorem Txt.g_Session (T : Txt w K mg) : mg "Session" = some (.ref (He.ga K "Session")) := by
  obtain ⟨b, X, G⟩ := T.h
  exact He.glo_ok X G (T.d.fact 63 (f := .glo "Session") rfl)
theorem Txt.g_SIZES (T : Txt w K mg) : mg "SIZES" = some (.ref (He.ga K "SIZES")) := by
  obtain ⟨b, X, G⟩ := T.h
  exact He.glo_ok X G (T.d.fact 64 (f := .glo "SIZES") rfl)
theorem Txt.g_PARTS (T : Txt w K mg) : mg "PARTS" = some (.ref (He.ga K "PARTS")) := by
  obtain ⟨b, X, G⟩ := T.h
  exact He.glo_ok X G (T.d.fact 65 (f := .glo "PARTS") rfl)
theorem Txt.f_isinstance (T : Txt w K mg) : mg "isinstance" = none := by
  obtain ⟨b, X, G⟩ := T.h
  exact He.free_ok X G (T.d.fact 66 (f := .free "isinstance") rfl)
theorem Txt.f_int (T : Txt w K mg) : mg "int" = none := by
  obtain ⟨b, X, G⟩ := T.h
  exact He.free_ok X G (T.d.fact 67 (f := .free "int") rfl)
theorem Txt.f_bool (T : Txt w K mg) : mg "bool" = none := by
  obtain ⟨b, X, G⟩ := T.h
  exact He.free_ok X G (T.d.fact 68 (f := .free "bool") rfl)
theorem Txt.f_tuple (T : Txt w K mg) : mg "tuple" = none := by
  obtain ⟨b, X, G⟩ := T.h
  exact He.free_ok X G (T.d.fact 69 (f := .free "tuple") rfl)
theorem Txt.f_len (T : Txt w K mg) : mg "len" = none := by
  obtain ⟨b, X, G⟩ := T.h
  exact He.free_ok X G (T.d.fact 70 (f := .free "len") rfl)
theorem Txt.f_all (T : Txt w K mg) : mg "all" = none := by
  obtain ⟨b, X, G⟩ := T.h
  exact He.free_ok X G (T.d.fact 71 (f := .free "all") rfl)
theorem Txt.f_str (T : Txt w K mg) : mg "str" = none := by
  obtain ⟨b, X, G⟩ := T.h
  exact He.free_ok X G (T.d.fact 72 (f := .free "str") rfl)
theorem Txt.f_list (T : Txt w K mg) : mg "list" = none := by
  obtain ⟨b, X, G⟩ := T.h
  exact He.free_ok X G (T.d.fact 73 (f := .free "list") rfl)
theorem Txt.f_dict (T : Txt w K mg) : mg "dict" = none := by
  obtain ⟨b, X, G⟩ := T.h
  exact He.free_ok X G (T.d.fact 74 (f := .free "dict") rfl)
theorem Txt.f_min (T : Txt w K mg) : mg "min" = none := by
  obtain ⟨b, X, G⟩ := T.h
  exact He.free_ok X G (T.d.fact 75 (f := .free "min") rfl)
theorem Txt.f_max (T : Txt w K mg) : mg "max" = none := by
  obtain ⟨b, X, G⟩ := T.h
  exact He.free_ok X G (T.d.fact 76 (f := .free "max") rfl)
theorem Txt.f_sorted (T : Txt w K mg) : mg "sorted" = none := by
  obtain ⟨b, X, G⟩ := T.h
  exact He.free_ok X G (T.d.fact 77 (f := .free "sorted") rfl)
theorem Txt.f_set (T : Txt w K mg) : mg "set" = none := by
  obtain ⟨b, X, G⟩ := T.h
  exact He.free_ok X G (T.d.fact 78 (f := .free "set") rfl)
theorem Txt.f_range (T : Txt w K mg) : mg "range" = none := by
  obtain ⟨b, X, G⟩ := T.h
  exact He.free_ok X G (T.d.fact 79 (f := .free "range") rfl)
theorem Txt.f_enumerate (T : Txt w K mg) : mg "enumerate" = none := by
  obtain ⟨b, X, G⟩ := T.h
  exact He.free_ok X G (T.d.fact 80 (f := .free "enumerate") rfl)
theorem Txt.f_repr (T : Txt w K mg) : mg "repr" = none := by
  obtain ⟨b, X, G⟩ := T.h
  exact He.free_ok X G (T.d.fact 81 (f := .free "repr") rfl)
theorem Txt.f_abs (T : Txt w K mg) : mg "abs" = none := by
  obtain ⟨b, X, G⟩ := T.h
  exact He.free_ok X G (T.d.fact 82 (f := .free "abs") rfl)
theorem Txt.f_divmod (T : Txt w K mg) : mg "divmod" = none := by
  obtain ⟨b, X, G⟩ := T.h
  exact He.free_ok X G (T.d.fact 83 (f := .free "divmod") rfl)
theorem Txt.f_super (T : Txt w K mg) : mg "super" = none := by
  obtain ⟨b, X, G⟩ := T.h
  exact He.free_ok X G (T.d.fact 84 (f := .free "super") rfl)
theorem Txt.i_HIGHEST_MARK (T : Txt w K mg) : ∃ t, mg "HIGHEST_MARK" = some (.int 60 t) := by
  obtain ⟨b, X, G⟩ := T.h
  exact He.int_ok X G (T.d.fact 85 (f := .int "HIGHEST_MARK" 60) rfl)
theorem Txt.i_MOST_SERVERS (T : Txt w K mg) : ∃ t, mg "MOST_SERVERS" = some (.int 8 t) := by
  obtain ⟨b, X, G⟩ := T.h
  exact He.int_ok X G (T.d.fact 86 (f := .int "MOST_SERVERS" 8) rfl)
theorem Txt.i_MOST_PARTS (T : Txt w K mg) : ∃ t, mg "MOST_PARTS" = some (.int 4 t) := by
  obtain ⟨b, X, G⟩ := T.h
  exact He.int_ok X G (T.d.fact 87 (f := .int "MOST_PARTS" 4) rfl)
theorem Txt.i_LONGEST_WINDOW (T : Txt w K mg) : ∃ t, mg "LONGEST_WINDOW" = some (.int 3 t) := by
  obtain ⟨b, X, G⟩ := T.h
  exact He.int_ok X G (T.d.fact 88 (f := .int "LONGEST_WINDOW" 3) rfl)
theorem Txt.c_Rule (T : Txt w K mg) : Cls K (He.ga K "Rule") := He.cls_ok (T.d.fact 89 (f := .cls "Rule") rfl)
theorem Txt.mk_Rule (T : Txt w K mg) : Mk K (He.ga K "Rule") (He.ma K (He.ga K "Rule") "__init__") := He.mkr_ok (T.d.fact 90 (f := .mkr "Rule") rfl)
theorem Txt.n_r_parts (T : Txt w K mg) : NoAttr K (He.ga K "Rule") "r_parts" := He.noat_ok (T.d.fact 91 (f := .noat "Rule" "r_parts") rfl)
theorem Txt.n_r_bounds (T : Txt w K mg) : NoAttr K (He.ga K "Rule") "r_bounds" := He.noat_ok (T.d.fact 92 (f := .noat "Rule" "r_bounds") rfl)
theorem Txt.n_r_limits (T : Txt w K mg) : NoAttr K (He.ga K "Rule") "r_limits" := He.noat_ok (T.d.fact 93 (f := .noat "Rule" "r_limits") rfl)
theorem Txt.m_Rule_init (T : Txt w K mg) : Meth K (He.ga K "Rule") "__init__" (He.ma K (He.ga K "Rule") "__init__") := He.meth_ok (T.d.fact 94 (f := .meth "Rule" "__init__") rfl)
theorem Txt.m_Rule_with_parts (T : Txt w K mg) : Meth K (He.ga K "Rule") "with_parts" (He.ma K (He.ga K "Rule") "with_parts") := He.meth_ok (T.d.fact 95 (f := .meth "Rule" "with_parts") rfl)
theorem Txt.m_Rule_eq (T : Txt w K mg) : Meth K (He.ga K "Rule") "__eq__" (He.ma K (He.ga K "Rule") "__eq__") := He.meth_ok (T.d.fact 96 (f := .meth "Rule" "__eq__") rfl)
theorem Txt.m_Rule_or (T : Txt w K mg) : Meth K (He.ga K "Rule") "__or__" (He.ma K (He.ga K "Rule") "__or__") := He.meth_ok (T.d.fact 97 (f := .meth "Rule" "__or__") rfl)
theorem Txt.m_Rule_lshift (T : Txt w K mg) : Meth K (He.ga K "Rule") "__lshift__" (He.ma K (He.ga K "Rule") "__lshift__") := He.meth_ok (T.d.fact 98 (f := .meth "Rule" "__lshift__") rfl)
theorem Txt.c_Scaler (T : Txt w K mg) : Cls K (He.ga K "Scaler") := He.cls_ok (T.d.fact 99 (f := .cls "Scaler") rfl)
theorem Txt.mk_Scaler (T : Txt w K mg) : Mk K (He.ga K "Scaler") (He.ma K (He.ga K "Scaler") "__init__") := He.mkr_ok (T.d.fact 100 (f := .mkr "Scaler") rfl)
theorem Txt.n_s_first (T : Txt w K mg) : NoAttr K (He.ga K "Scaler") "s_first" := He.noat_ok (T.d.fact 101 (f := .noat "Scaler" "s_first") rfl)
theorem Txt.n_s_rule (T : Txt w K mg) : NoAttr K (He.ga K "Scaler") "s_rule" := He.noat_ok (T.d.fact 102 (f := .noat "Scaler" "s_rule") rfl)
theorem Txt.m_Scaler_init (T : Txt w K mg) : Meth K (He.ga K "Scaler") "__init__" (He.ma K (He.ga K "Scaler") "__init__") := He.meth_ok (T.d.fact 103 (f := .meth "Scaler" "__init__") rfl)
theorem Txt.m_Scaler_eq (T : Txt w K mg) : Meth K (He.ga K "Scaler") "__eq__" (He.ma K (He.ga K "Scaler") "__eq__") := He.meth_ok (T.d.fact 104 (f := .meth "Scaler" "__eq__") rfl)
theorem Txt.m_Scaler_call (T : Txt w K mg) : Meth K (He.ga K "Scaler") "__call__" (He.ma K (He.ga K "Scaler") "__call__") := He.meth_ok (T.d.fact 105 (f := .meth "Scaler" "__call__") rfl)
theorem Txt.c_Moment (T : Txt w K mg) : Cls K (He.ga K "Moment") := He.cls_ok (T.d.fact 106 (f := .cls "Moment") rfl)
theorem Txt.mk_Moment (T : Txt w K mg) : Mk K (He.ga K "Moment") (He.ma K (He.ga K "Moment") "__init__") := He.mkr_ok (T.d.fact 107 (f := .mkr "Moment") rfl)
theorem Txt.n_q_rule (T : Txt w K mg) : NoAttr K (He.ga K "Moment") "q_rule" := He.noat_ok (T.d.fact 108 (f := .noat "Moment" "q_rule") rfl)
theorem Txt.n_q_state (T : Txt w K mg) : NoAttr K (He.ga K "Moment") "q_state" := He.noat_ok (T.d.fact 109 (f := .noat "Moment" "q_state") rfl)
theorem Txt.n_q_curve (T : Txt w K mg) : NoAttr K (He.ga K "Moment") "q_curve" := He.noat_ok (T.d.fact 110 (f := .noat "Moment" "q_curve") rfl)
theorem Txt.n_q_deed (T : Txt w K mg) : NoAttr K (He.ga K "Moment") "q_deed" := He.noat_ok (T.d.fact 111 (f := .noat "Moment" "q_deed") rfl)
theorem Txt.n_q_before (T : Txt w K mg) : NoAttr K (He.ga K "Moment") "q_before" := He.noat_ok (T.d.fact 112 (f := .noat "Moment" "q_before") rfl)
theorem Txt.m_Moment_init (T : Txt w K mg) : Meth K (He.ga K "Moment") "__init__" (He.ma K (He.ga K "Moment") "__init__") := He.meth_ok (T.d.fact 113 (f := .meth "Moment" "__init__") rfl)
theorem Txt.c_Session (T : Txt w K mg) : Cls K (He.ga K "Session") := He.cls_ok (T.d.fact 114 (f := .cls "Session") rfl)
theorem Txt.mk_Session (T : Txt w K mg) : Mk K (He.ga K "Session") (He.ma K (He.ga K "Session") "__init__") := He.mkr_ok (T.d.fact 115 (f := .mkr "Session") rfl)
theorem Txt.n_v_origin (T : Txt w K mg) : NoAttr K (He.ga K "Session") "v_origin" := He.noat_ok (T.d.fact 116 (f := .noat "Session" "v_origin") rfl)
theorem Txt.n_v_now (T : Txt w K mg) : NoAttr K (He.ga K "Session") "v_now" := He.noat_ok (T.d.fact 117 (f := .noat "Session" "v_now") rfl)
theorem Txt.n_v_mark (T : Txt w K mg) : NoAttr K (He.ga K "Session") "v_mark" := He.noat_ok (T.d.fact 118 (f := .noat "Session" "v_mark") rfl)
theorem Txt.m_Session_init (T : Txt w K mg) : Meth K (He.ga K "Session") "__init__" (He.ma K (He.ga K "Session") "__init__") := He.meth_ok (T.d.fact 119 (f := .meth "Session" "__init__") rfl)
theorem Txt.m_Session_do (T : Txt w K mg) : Meth K (He.ga K "Session") "do" (He.ma K (He.ga K "Session") "do") := He.meth_ok (T.d.fact 120 (f := .meth "Session" "do") rfl)
theorem Txt.m_Session_do_all (T : Txt w K mg) : Meth K (He.ga K "Session") "do_all" (He.ma K (He.ga K "Session") "do_all") := He.meth_ok (T.d.fact 121 (f := .meth "Session" "do_all") rfl)
theorem Txt.m_Session_deeds (T : Txt w K mg) : Meth K (He.ga K "Session") "deeds" (He.ma K (He.ga K "Session") "deeds") := He.meth_ok (T.d.fact 122 (f := .meth "Session" "deeds") rfl)
theorem Txt.m_Session_twin (T : Txt w K mg) : Meth K (He.ga K "Session") "twin" (He.ma K (He.ga K "Session") "twin") := He.meth_ok (T.d.fact 123 (f := .meth "Session" "twin") rfl)
theorem Txt.m_Session_eq (T : Txt w K mg) : Meth K (He.ga K "Session") "__eq__" (He.ma K (He.ga K "Session") "__eq__") := He.meth_ok (T.d.fact 124 (f := .meth "Session" "__eq__") rfl)
theorem Txt.x_BadNumber (T : Txt w K mg) : PySem.W.excIn K (He.ga K "BadNumber") He.veBase "ValueError.__new__" = true ∧ PySem.W.keepIn K (.ref (He.ga K "BadNumber")) = true ∧ PySem.W.subIn K (.ref (He.ga K "BadNumber")) (.type "BaseException") = some true ∧
    PySem.W.typeIn K (.ref (He.ga K "BadNumber")) = some (.type "type") := He.exc_ok (T.d.fact 125 (f := .exc "BadNumber") rfl)
theorem Txt.e_BadNumber_BadDeed (T : Txt w K mg) : PySem.W.exmOne K (.ref (He.ga K "BadNumber")) (.ref (He.ga K "BadDeed")) = some false := He.exm_ok (T.d.fact 126 (f := .exm "BadNumber" "BadDeed" false) rfl)
theorem Txt.e_BadNumber_BadRule (T : Txt w K mg) : PySem.W.exmOne K (.ref (He.ga K "BadNumber")) (.ref (He.ga K "BadRule")) = some false := He.exm_ok (T.d.fact 127 (f := .exm "BadNumber" "BadRule" false) rfl)
theorem Txt.e_BadNumber_NoPlace (T : Txt w K mg) : PySem.W.exmOne K (.ref (He.ga K "BadNumber")) (.ref (He.ga K "NoPlace")) = some false := He.exm_ok (T.d.fact 128 (f := .exm "BadNumber" "NoPlace" false) rfl)
theorem Txt.e_BadNumber_BadLoad (T : Txt w K mg) : PySem.W.exmOne K (.ref (He.ga K "BadNumber")) (.ref (He.ga K "BadLoad")) = some false := He.exm_ok (T.d.fact 129 (f := .exm "BadNumber" "BadLoad" false) rfl)
theorem Txt.e_BadNumber_BadNumber (T : Txt w K mg) : PySem.W.exmOne K (.ref (He.ga K "BadNumber")) (.ref (He.ga K "BadNumber")) = some true := He.exm_ok (T.d.fact 130 (f := .exm "BadNumber" "BadNumber" true) rfl)
theorem Txt.e_BadRule_BadDeed (T : Txt w K mg) : PySem.W.exmOne K (.ref (He.ga K "BadRule")) (.ref (He.ga K "BadDeed")) = some false := He.exm_ok (T.d.fact 131 (f := .exm "BadRule" "BadDeed" false) rfl)
theorem Txt.e_BadRule_BadRule (T : Txt w K mg) : PySem.W.exmOne K (.ref (He.ga K "BadRule")) (.ref (He.ga K "BadRule")) = some true := He.exm_ok (T.d.fact 132 (f := .exm "BadRule" "BadRule" true) rfl)
theorem Txt.F_is_integer (T : Txt w K mg) : ∃ fd, FunD K "is_integer" "is_integer" (defArgs s_is_integer) (defBody s_is_integer) (defScope s_is_integer) [] (dd_is_integer.kws K) (He.ga K "is_integer") fd := T.d.def_ 0 (d := dd_is_integer) rfl
theorem Txt.F_divisor (T : Txt w K mg) : ∃ fd, FunD K "divisor" "divisor" (defArgs s_divisor) (defBody s_divisor) (defScope s_divisor) [] (dd_divisor.kws K) (He.ga K "divisor") fd := T.d.def_ 1 (d := dd_divisor) rfl
theorem Txt.F_is_load (T : Txt w K mg) : ∃ fd, FunD K "is_load" "is_load" (defArgs s_is_load) (defBody s_is_load) (defScope s_is_load) [] (dd_is_load.kws K) (He.ga K "is_load") fd := T.d.def_ 2 (d := dd_is_load) rfl
theorem Txt.F_need_load (T : Txt w K mg) : ∃ fd, FunD K "need_load" "need_load" (defArgs s_need_load) (defBody s_need_load) (defScope s_need_load) [] (dd_need_load.kws K) (He.ga K "need_load") fd := T.d.def_ 3 (d := dd_need_load) rfl
theorem Txt.F_is_between (T : Txt w K mg) : ∃ fd, FunD K "is_between" "is_between" (defArgs s_is_between) (defBody s_is_between) (defScope s_is_between) [] (dd_is_between.kws K) (He.ga K "is_between") fd := T.d.def_ 4 (d := dd_is_between) rfl
theorem Txt.F_is_part (T : Txt w K mg) : ∃ fd, FunD K "is_part" "is_part" (defArgs s_is_part) (defBody s_is_part) (defScope s_is_part) [] (dd_is_part.kws K) (He.ga K "is_part") fd := T.d.def_ 5 (d := dd_is_part) rfl
theorem Txt.F_are_parts (T : Txt w K mg) : ∃ fd, FunD K "are_parts" "are_parts" (defArgs s_are_parts) (defBody s_are_parts) (defScope s_are_parts) [] (dd_are_parts.kws K) (He.ga K "are_parts") fd := T.d.def_ 6 (d := dd_are_parts) rfl
theorem Txt.F_is_limit (T : Txt w K mg) : ∃ fd, FunD K "is_limit" "is_limit" (defArgs s_is_limit) (defBody s_is_limit) (defScope s_is_limit) [] (dd_is_limit.kws K) (He.ga K "is_limit") fd := T.d.def_ 7 (d := dd_is_limit) rfl
theorem Txt.F_need_limits (T : Txt w K mg) : ∃ fd, FunD K "need_limits" "need_limits" (defArgs s_need_limits) (defBody s_need_limits) (defScope s_need_limits) [] (dd_need_limits.kws K) (He.ga K "need_limits") fd := T.d.def_ 8 (d := dd_need_limits) rfl
theorem Txt.F_raised (T : Txt w K mg) : ∃ fd, FunD K "raised" "raised" (defArgs s_raised) (defBody s_raised) (defScope s_raised) [] (dd_raised.kws K) (He.ga K "raised") fd := T.d.def_ 9 (d := dd_raised) rfl
theorem Txt.F_is_below_times (T : Txt w K mg) : ∃ fd, FunD K "is_below_times" "is_below_times" (defArgs s_is_below_times) (defBody s_is_below_times) (defScope s_is_below_times) [] (dd_is_below_times.kws K) (He.ga K "is_below_times") fd := T.d.def_ 10 (d := dd_is_below_times) rfl
theorem Txt.F_is_above_times (T : Txt w K mg) : ∃ fd, FunD K "is_above_times" "is_above_times" (defArgs s_is_above_times) (defBody s_is_above_times) (defScope s_is_above_times) [] (dd_is_above_times.kws K) (He.ga K "is_above_times") fd := T.d.def_ 11 (d := dd_is_above_times) rfl
theorem Txt.F_wish_of (T : Txt w K mg) : ∃ fd, FunD K "wish_of" "wish_of" (defArgs s_wish_of) (defBody s_wish_of) (defScope s_wish_of) [] (dd_wish_of.kws K) (He.ga K "wish_of") fd := T.d.def_ 12 (d := dd_wish_of) rfl
theorem Txt.F_first_wish (T : Txt w K mg) : ∃ fd, FunD K "first_wish" "first_wish" (defArgs s_first_wish) (defBody s_first_wish) (defScope s_first_wish) [] (dd_first_wish.kws K) (He.ga K "first_wish") fd := T.d.def_ 13 (d := dd_first_wish) rfl
theorem Txt.F_first_state (T : Txt w K mg) : ∃ fd, FunD K "first_state" "first_state" (defArgs s_first_state) (defBody s_first_state) (defScope s_first_state) [] (dd_first_state.kws K) (He.ga K "first_state") fd := T.d.def_ 14 (d := dd_first_state) rfl
theorem Txt.F_is_state (T : Txt w K mg) : ∃ fd, FunD K "is_state" "is_state" (defArgs s_is_state) (defBody s_is_state) (defScope s_is_state) [] (dd_is_state.kws K) (He.ga K "is_state") fd := T.d.def_ 15 (d := dd_is_state) rfl
theorem Txt.F_settled (T : Txt w K mg) : ∃ fd, FunD K "settled" "settled" (defArgs s_settled) (defBody s_settled) (defScope s_settled) [] (dd_settled.kws K) (He.ga K "settled") fd := T.d.def_ 16 (d := dd_settled) rfl
theorem Txt.F_ticked (T : Txt w K mg) : ∃ fd, FunD K "ticked" "ticked" (defArgs s_ticked) (defBody s_ticked) (defScope s_ticked) [] (dd_ticked.kws K) (He.ga K "ticked") fd := T.d.def_ 17 (d := dd_ticked) rfl
theorem Txt.F_tick (T : Txt w K mg) : ∃ fd, FunD K "tick" "tick" (defArgs s_tick) (defBody s_tick) (defScope s_tick) [] (dd_tick.kws K) (He.ga K "tick") fd := T.d.def_ 18 (d := dd_tick) rfl
theorem Txt.F_need_curve (T : Txt w K mg) : ∃ fd, FunD K "need_curve" "need_curve" (defArgs s_need_curve) (defBody s_need_curve) (defScope s_need_curve) [] (dd_need_curve.kws K) (He.ga K "need_curve") fd := T.d.def_ 19 (d := dd_need_curve) rfl
theorem Txt.F_is_deed (T : Txt w K mg) : ∃ fd, FunD K "is_deed" "is_deed" (defArgs s_is_deed) (defBody s_is_deed) (defScope s_is_deed) [] (dd_is_deed.kws K) (He.ga K "is_deed") fd := T.d.def_ 20 (d := dd_is_deed) rfl
theorem Txt.F_failed (T : Txt w K mg) : ∃ fd, FunD K "failed" "failed" (defArgs s_failed) (defBody s_failed) (defScope s_failed) [] (dd_failed.kws K) (He.ga K "failed") fd := T.d.def_ 21 (d := dd_failed) rfl
theorem Txt.F_later_moment (T : Txt w K mg) : ∃ fd, FunD K "later_moment" "later_moment" (defArgs s_later_moment) (defBody s_later_moment) (defScope s_later_moment) [] (dd_later_moment.kws K) (He.ga K "later_moment") fd := T.d.def_ 22 (d := dd_later_moment) rfl
theorem Txt.F_deeds_to (T : Txt w K mg) : ∃ fd, FunD K "deeds_to" "deeds_to" (defArgs s_deeds_to) (defBody s_deeds_to) (defScope s_deeds_to) [] (dd_deeds_to.kws K) (He.ga K "deeds_to") fd := T.d.def_ 23 (d := dd_deeds_to) rfl
theorem Txt.F_law_begin (T : Txt w K mg) : ∃ fd, FunD K "_law_begin" "_law_begin" (defArgs s_law_begin) (defBody s_law_begin) (defScope s_law_begin) [] (dd_law_begin.kws K) (He.ga K "_law_begin") fd := T.d.def_ 24 (d := dd_law_begin) rfl
theorem Txt.F_law_take (T : Txt w K mg) : ∃ fd, FunD K "_law_take" "_law_take" (defArgs s_law_take) (defBody s_law_take) (defScope s_law_take) [] (dd_law_take.kws K) (He.ga K "_law_take") fd := T.d.def_ 25 (d := dd_law_take) rfl
theorem Txt.F_law_pick (T : Txt w K mg) : ∃ fd, FunD K "_law_pick" "_law_pick" (defArgs s_law_pick) (defBody s_law_pick) (defScope s_law_pick) [] (dd_law_pick.kws K) (He.ga K "_law_pick") fd := T.d.def_ 26 (d := dd_law_pick) rfl
theorem Txt.F_law_is_int (T : Txt w K mg) : ∃ fd, FunD K "_law_is_int" "_law_is_int" (defArgs s_law_is_int) (defBody s_law_is_int) (defScope s_law_is_int) [] (dd_law_is_int.kws K) (He.ga K "_law_is_int") fd := T.d.def_ 27 (d := dd_law_is_int) rfl
theorem Txt.F_law_fraction (T : Txt w K mg) : ∃ fd, FunD K "_law_fraction" "_law_fraction" (defArgs s_law_fraction) (defBody s_law_fraction) (defScope s_law_fraction) [] (dd_law_fraction.kws K) (He.ga K "_law_fraction") fd := T.d.def_ 28 (d := dd_law_fraction) rfl
theorem Txt.F_law_part (T : Txt w K mg) : ∃ fd, FunD K "_law_part" "_law_part" (defArgs s_law_part) (defBody s_law_part) (defScope s_law_part) [] (dd_law_part.kws K) (He.ga K "_law_part") fd := T.d.def_ 29 (d := dd_law_part) rfl
theorem Txt.F_law_case (T : Txt w K mg) : ∃ fd, FunD K "_law_case" "_law_case" (defArgs s_law_case) (defBody s_law_case) (defScope s_law_case) [] (dd_law_case.kws K) (He.ga K "_law_case") fd := T.d.def_ 30 (d := dd_law_case) rfl
theorem Txt.F_law_rule (T : Txt w K mg) : ∃ fd, FunD K "_law_rule" "_law_rule" (defArgs s_law_rule) (defBody s_law_rule) (defScope s_law_rule) [] (dd_law_rule.kws K) (He.ga K "_law_rule") fd := T.d.def_ 31 (d := dd_law_rule) rfl
theorem Txt.F_law_wish (T : Txt w K mg) : ∃ fd, FunD K "_law_wish" "_law_wish" (defArgs s_law_wish) (defBody s_law_wish) (defScope s_law_wish) [] (dd_law_wish.kws K) (He.ga K "_law_wish") fd := T.d.def_ 32 (d := dd_law_wish) rfl
theorem Txt.F_law_tick (T : Txt w K mg) : ∃ fd, FunD K "_law_tick" "_law_tick" (defArgs s_law_tick) (defBody s_law_tick) (defScope s_law_tick) [] (dd_law_tick.kws K) (He.ga K "_law_tick") fd := T.d.def_ 33 (d := dd_law_tick) rfl
theorem Txt.F_law_first (T : Txt w K mg) : ∃ fd, FunD K "_law_first" "_law_first" (defArgs s_law_first) (defBody s_law_first) (defScope s_law_first) [] (dd_law_first.kws K) (He.ga K "_law_first") fd := T.d.def_ 34 (d := dd_law_first) rfl
theorem Txt.F_law_servers (T : Txt w K mg) : ∃ fd, FunD K "_law_servers" "_law_servers" (defArgs s_law_servers) (defBody s_law_servers) (defScope s_law_servers) [] (dd_law_servers.kws K) (He.ga K "_law_servers") fd := T.d.def_ 35 (d := dd_law_servers) rfl
theorem Txt.F_law_ends (T : Txt w K mg) : ∃ fd, FunD K "_law_ends" "_law_ends" (defArgs s_law_ends) (defBody s_law_ends) (defScope s_law_ends) [] (dd_law_ends.kws K) (He.ga K "_law_ends") fd := T.d.def_ 36 (d := dd_law_ends) rfl
theorem Txt.F_law_load (T : Txt w K mg) : ∃ fd, FunD K "_law_load" "_law_load" (defArgs s_law_load) (defBody s_law_load) (defScope s_law_load) [] (dd_law_load.kws K) (He.ga K "_law_load") fd := T.d.def_ 37 (d := dd_law_load) rfl
theorem Txt.F_law_curve (T : Txt w K mg) : ∃ fd, FunD K "_law_curve" "_law_curve" (defArgs s_law_curve) (defBody s_law_curve) (defScope s_law_curve) [] (dd_law_curve.kws K) (He.ga K "_law_curve") fd := T.d.def_ 38 (d := dd_law_curve) rfl
theorem Txt.F_law_is_load (T : Txt w K mg) : ∃ fd, FunD K "_law_is_load" "_law_is_load" (defArgs s_law_is_load) (defBody s_law_is_load) (defScope s_law_is_load) [] (dd_law_is_load.kws K) (He.ga K "_law_is_load") fd := T.d.def_ 39 (d := dd_law_is_load) rfl
theorem Txt.F_law_sheet (T : Txt w K mg) : ∃ fd, FunD K "_law_sheet" "_law_sheet" (defArgs s_law_sheet) (defBody s_law_sheet) (defScope s_law_sheet) [] (dd_law_sheet.kws K) (He.ga K "_law_sheet") fd := T.d.def_ 40 (d := dd_law_sheet) rfl
theorem Txt.F_law_raised (T : Txt w K mg) : ∃ fd, FunD K "_law_raised" "_law_raised" (defArgs s_law_raised) (defBody s_law_raised) (defScope s_law_raised) [] (dd_law_raised.kws K) (He.ga K "_law_raised") fd := T.d.def_ 41 (d := dd_law_raised) rfl
theorem Txt.F_law_act (T : Txt w K mg) : ∃ fd, FunD K "_law_act" "_law_act" (defArgs s_law_act) (defBody s_law_act) (defScope s_law_act) [] (dd_law_act.kws K) (He.ga K "_law_act") fd := T.d.def_ 42 (d := dd_law_act) rfl
theorem Txt.F_law_is_part (T : Txt w K mg) : ∃ fd, FunD K "_law_is_part" "_law_is_part" (defArgs s_law_is_part) (defBody s_law_is_part) (defScope s_law_is_part) [] (dd_law_is_part.kws K) (He.ga K "_law_is_part") fd := T.d.def_ 43 (d := dd_law_is_part) rfl
theorem Txt.F_law_done (T : Txt w K mg) : ∃ fd, FunD K "_law_done" "_law_done" (defArgs s_law_done) (defBody s_law_done) (defScope s_law_done) [] (dd_law_done.kws K) (He.ga K "_law_done") fd := T.d.def_ 44 (d := dd_law_done) rfl
theorem Txt.F_law_stands (T : Txt w K mg) : ∃ fd, FunD K "_law_stands" "_law_stands" (defArgs s_law_stands) (defBody s_law_stands) (defScope s_law_stands) [] (dd_law_stands.kws K) (He.ga K "_law_stands") fd := T.d.def_ 45 (d := dd_law_stands) rfl
theorem Txt.F_law_caught (T : Txt w K mg) : ∃ fd, FunD K "_law_caught" "_law_caught" (defArgs s_law_caught) (defBody s_law_caught) (defScope s_law_caught) [] (dd_law_caught.kws K) (He.ga K "_law_caught") fd := T.d.def_ 46 (d := dd_law_caught) rfl
theorem Txt.F_law_moved (T : Txt w K mg) : ∃ fd, FunD K "_law_moved" "_law_moved" (defArgs s_law_moved) (defBody s_law_moved) (defScope s_law_moved) [] (dd_law_moved.kws K) (He.ga K "_law_moved") fd := T.d.def_ 47 (d := dd_law_moved) rfl
theorem Txt.F_law_goes_on (T : Txt w K mg) : ∃ fd, FunD K "_law_goes_on" "_law_goes_on" (defArgs s_law_goes_on) (defBody s_law_goes_on) (defScope s_law_goes_on) [] (dd_law_goes_on.kws K) (He.ga K "_law_goes_on") fd := T.d.def_ 48 (d := dd_law_goes_on) rfl
theorem Txt.F_law_equal_right (T : Txt w K mg) : ∃ fd, FunD K "_law_equal_right" "_law_equal_right" (defArgs s_law_equal_right) (defBody s_law_equal_right) (defScope s_law_equal_right) [] (dd_law_equal_right.kws K) (He.ga K "_law_equal_right") fd := T.d.def_ 49 (d := dd_law_equal_right) rfl
theorem Txt.F_law (T : Txt w K mg) : ∃ fd, FunD K "law" "law" (defArgs s_law) (defBody s_law) (defScope s_law) [] (dd_law.kws K) (He.ga K "law") fd := T.d.def_ 50 (d := dd_law) rfl
theorem Txt.F_Rule_init (T : Txt w K mg) : ∃ fd, FunD K "__init__" "Rule.__init__" (defArgs s_Rule_init) (defBody s_Rule_init) (defScope s_Rule_init) [] (dd_Rule_init.kws K) (He.ma K (He.ga K "Rule") "__init__") fd := T.d.def_ 51 (d := dd_Rule_init) rfl
theorem Txt.F_Rule_with_parts (T : Txt w K mg) : ∃ fd, FunD K "with_parts" "Rule.with_parts" (defArgs s_Rule_with_parts) (defBody s_Rule_with_parts) (defScope s_Rule_with_parts) [] (dd_Rule_with_parts.kws K) (He.ma K (He.ga K "Rule") "with_parts") fd := T.d.def_ 52 (d := dd_Rule_with_parts) rfl
theorem Txt.F_Rule_eq (T : Txt w K mg) : ∃ fd, FunD K "__eq__" "Rule.__eq__" (defArgs s_Rule_eq) (defBody s_Rule_eq) (defScope s_Rule_eq) [] (dd_Rule_eq.kws K) (He.ma K (He.ga K "Rule") "__eq__") fd := T.d.def_ 53 (d := dd_Rule_eq) rfl
theorem Txt.F_Rule_or (T : Txt w K mg) : ∃ fd, FunD K "__or__" "Rule.__or__" (defArgs s_Rule_or) (defBody s_Rule_or) (defScope s_Rule_or) [] (dd_Rule_or.kws K) (He.ma K (He.ga K "Rule") "__or__") fd := T.d.def_ 54 (d := dd_Rule_or) rfl
theorem Txt.F_Rule_lshift (T : Txt w K mg) : ∃ fd, FunD K "__lshift__" "Rule.__lshift__" (defArgs s_Rule_lshift) (defBody s_Rule_lshift) (defScope s_Rule_lshift) [] (dd_Rule_lshift.kws K) (He.ma K (He.ga K "Rule") "__lshift__") fd := T.d.def_ 55 (d := dd_Rule_lshift) rfl
theorem Txt.F_Scaler_init (T : Txt w K mg) : ∃ fd, FunD K "__init__" "Scaler.__init__" (defArgs s_Scaler_init) (defBody s_Scaler_init) (defScope s_Scaler_init) [] (dd_Scaler_init.kws K) (He.ma K (He.ga K "Scaler") "__init__") fd := T.d.def_ 56 (d := dd_Scaler_init) rfl
theorem Txt.F_Scaler_eq (T : Txt w K mg) : ∃ fd, FunD K "__eq__" "Scaler.__eq__" (defArgs s_Scaler_eq) (defBody s_Scaler_eq) (defScope s_Scaler_eq) [] (dd_Scaler_eq.kws K) (He.ma K (He.ga K "Scaler") "__eq__") fd := T.d.def_ 57 (d := dd_Scaler_eq) rfl
theorem Txt.F_Scaler_call (T : Txt w K mg) : ∃ fd, FunD K "__call__" "Scaler.__call__" (defArgs s_Scaler_call) (defBody s_Scaler_call) (defScope s_Scaler_call) [] (dd_Scaler_call.kws K) (He.ma K (He.ga K "Scaler") "__call__") fd := T.d.def_ 58 (d := dd_Scaler_call) rfl
theorem Txt.F_Moment_init (T : Txt w K mg) : ∃ fd, FunD K "__init__" "Moment.__init__" (defArgs s_Moment_init) (defBody s_Moment_init) (defScope s_Moment_init) [] (dd_Moment_init.kws K) (He.ma K (He.ga K "Moment") "__init__") fd := T.d.def_ 59 (d := dd_Moment_init) rfl
theorem Txt.F_Session_init (T : Txt w K mg) : ∃ fd, FunD K "__init__" "Session.__init__" (defArgs s_Session_init) (defBody s_Session_init) (defScope s_Session_init) [] (dd_Session_init.kws K) (He.ma K (He.ga K "Session") "__init__") fd := T.d.def_ 60 (d := dd_Session_init) rfl
theorem Txt.F_Session_do (T : Txt w K mg) : ∃ fd, FunD K "do" "Session.do" (defArgs s_Session_do) (defBody s_Session_do) (defScope s_Session_do) [] (dd_Session_do.kws K) (He.ma K (He.ga K "Session") "do") fd := T.d.def_ 61 (d := dd_Session_do) rfl
theorem Txt.F_Session_do_all (T : Txt w K mg) : ∃ fd, FunD K "do_all" "Session.do_all" (defArgs s_Session_do_all) (defBody s_Session_do_all) (defScope s_Session_do_all) [] (dd_Session_do_all.kws K) (He.ma K (He.ga K "Session") "do_all") fd := T.d.def_ 62 (d := dd_Session_do_all) rfl
theorem Txt.F_Session_deeds (T : Txt w K mg) : ∃ fd, FunD K "deeds" "Session.deeds" (defArgs s_Session_deeds) (defBody s_Session_deeds) (defScope s_Session_deeds) [] (dd_Session_deeds.kws K) (He.ma K (He.ga K "Session") "deeds") fd := T.d.def_ 63 (d := dd_Session_deeds) rfl
theorem Txt.F_Session_twin (T : Txt w K mg) : ∃ fd, FunD K "twin" "Session.twin" (defArgs s_Session_twin) (defBody s_Session_twin) (defScope s_Session_twin) [] (dd_Session_twin.kws K) (He.ma K (He.ga K "Session") "twin") fd := T.d.def_ 64 (d := dd_Session_twin) rfl
theorem Txt.F_Session_eq (T : Txt w K mg) : ∃ fd, FunD K "__eq__" "Session.__eq__" (defArgs s_Session_eq) (defBody s_Session_eq) (defScope s_Session_eq) [] (dd_Session_eq.kws K) (He.ma K (He.ga K "Session") "__eq__") fd := T.d.def_ 65 (d := dd_Session_eq) rfl
theorem Txt.mo (T : Txt w K mg) : moreB K = true := (He.ba (He.ba T.m).1).1
theorem Txt.moI (T : Txt w K mg) {b : Bool} (i : Nat) (h : ([decide (PySem.W.findIn K (.ref (He.ga K "Rule")) "__class__" = some (some (.builtin "object.__class__"))),
  decide (PySem.W.mroIn K (He.ga K "Rule") (.type "object") = some true),
  decide (PySem.W.kitOne K (.ref (He.ga K "Rule")) (.ref (He.ga K "Rule")) = some true),
  decide (PySem.W.selfFirst K (He.ga K "Rule") = true),
  decide (PySem.W.findIn K (.ref (He.ga K "Rule")) "__ne__" = some (some (.builtin "object.__ne__"))),
  decide (PySem.W.findIn K (.ref (He.ga K "Scaler")) "__class__" = some (some (.builtin "object.__class__"))),
  decide (PySem.W.mroIn K (He.ga K "Scaler") (.type "object") = some true),
  decide (PySem.W.kitOne K (.ref (He.ga K "Scaler")) (.ref (He.ga K "Scaler")) = some true),
  decide (PySem.W.selfFirst K (He.ga K "Scaler") = true),
  decide (PySem.W.findIn K (.ref (He.ga K "Scaler")) "__ne__" = some (some (.builtin "object.__ne__"))),
  decide (PySem.W.findIn K (.ref (He.ga K "Session")) "__class__" = some (some (.builtin "object.__class__"))),
  decide (PySem.W.mroIn K (He.ga K "Session") (.type "object") = some true),
  decide (PySem.W.kitOne K (.ref (He.ga K "Session")) (.ref (He.ga K "Session")) = some true),
  decide (PySem.W.selfFirst K (He.ga K "Session") = true),
  decide (PySem.W.findIn K (.ref (He.ga K "Session")) "__ne__" = some (some (.builtin "object.__ne__"))),
  decide (PySem.W.kitOne K (.type "NoneType") (.ref (He.ga K "Session")) = some false),
  decide (PySem.W.kitOne K (.ref (He.ga K "Rule")) (.ref (He.ga K "Session")) = some false),
  decide (PySem.W.specialIn K (.builtin "object.__class__") "__get__" = some (some (.builtin "getset_descriptor.__get__"))),
  decide (PySem.W.takesIn K (.builtin "object.__class__") = some true),
  decide (PySem.W.subIn K (.type "tuple") (.ref (He.ga K "Rule")) = some false),
  decide (PySem.W.subIn K (.type "int") (.ref (He.ga K "Rule")) = some false),
  decide (PySem.W.subIn K (.type "NoneType") (.ref (He.ga K "Session")) = some false),
  decide (PySem.W.subIn K (.ref (He.ga K "Rule")) (.ref (He.ga K "Session")) = some false),
  decide (PySem.W.findIn K (.ref (He.ga K "Rule")) "__ror__" = some none),
  decide (PySem.W.findIn K (.ref (He.ga K "Rule")) "__rlshift__" = some none),
  decide (PySem.W.findIn K (.ref (He.ga K "BadRule")) "__getattribute__" = some (some (.builtin "BaseException.__getattribute__"))),
  decide (PySem.W.findIn K (.ref (He.ga K "BadRule")) "__getattr__" = some none),
  decide (PySem.W.hasDictIn K (He.ga K "BadRule") = true),
  decide (PySem.W.fnIn K (He.ma K (He.ga K "Scaler") "__call__") = true)] : List Bool)[i]? = some b) : b = true := by
  have q := List.all_eq_true.mp (show List.all _ id = true from T.mo) b (List.mem_of_getElem? h)
  exact q
theorem Txt.o_cc_Rule (T : Txt w K mg) : PySem.W.findIn K (.ref (He.ga K "Rule")) "__class__" = some (some (.builtin "object.__class__")) := of_decide_eq_true (T.moI 0 rfl)
theorem Txt.o_co_Rule (T : Txt w K mg) : PySem.W.mroIn K (He.ga K "Rule") (.type "object") = some true := of_decide_eq_true (T.moI 1 rfl)
theorem Txt.o_is_Rule (T : Txt w K mg) : PySem.W.kitOne K (.ref (He.ga K "Rule")) (.ref (He.ga K "Rule")) = some true := of_decide_eq_true (T.moI 2 rfl)
theorem Txt.o_sf_Rule (T : Txt w K mg) : PySem.W.selfFirst K (He.ga K "Rule") = true := of_decide_eq_true (T.moI 3 rfl)
theorem Txt.o_ne_Rule (T : Txt w K mg) : PySem.W.findIn K (.ref (He.ga K "Rule")) "__ne__" = some (some (.builtin "object.__ne__")) := of_decide_eq_true (T.moI 4 rfl)
theorem Txt.o_cc_Scaler (T : Txt w K mg) : PySem.W.findIn K (.ref (He.ga K "Scaler")) "__class__" = some (some (.builtin "object.__class__")) := of_decide_eq_true (T.moI 5 rfl)
theorem Txt.o_co_Scaler (T : Txt w K mg) : PySem.W.mroIn K (He.ga K "Scaler") (.type "object") = some true := of_decide_eq_true (T.moI 6 rfl)
theorem Txt.o_is_Scaler (T : Txt w K mg) : PySem.W.kitOne K (.ref (He.ga K "Scaler")) (.ref (He.ga K "Scaler")) = some true := of_decide_eq_true (T.moI 7 rfl)
theorem Txt.o_sf_Scaler (T : Txt w K mg) : PySem.W.selfFirst K (He.ga K "Scaler") = true := of_decide_eq_true (T.moI 8 rfl)
theorem Txt.o_ne_Scaler (T : Txt w K mg) : PySem.W.findIn K (.ref (He.ga K "Scaler")) "__ne__" = some (some (.builtin "object.__ne__")) := of_decide_eq_true (T.moI 9 rfl)
theorem Txt.o_cc_Session (T : Txt w K mg) : PySem.W.findIn K (.ref (He.ga K "Session")) "__class__" = some (some (.builtin "object.__class__")) := of_decide_eq_true (T.moI 10 rfl)
theorem Txt.o_co_Session (T : Txt w K mg) : PySem.W.mroIn K (He.ga K "Session") (.type "object") = some true := of_decide_eq_true (T.moI 11 rfl)
theorem Txt.o_is_Session (T : Txt w K mg) : PySem.W.kitOne K (.ref (He.ga K "Session")) (.ref (He.ga K "Session")) = some true := of_decide_eq_true (T.moI 12 rfl)
theorem Txt.o_sf_Session (T : Txt w K mg) : PySem.W.selfFirst K (He.ga K "Session") = true := of_decide_eq_true (T.moI 13 rfl)
theorem Txt.o_ne_Session (T : Txt w K mg) : PySem.W.findIn K (.ref (He.ga K "Session")) "__ne__" = some (some (.builtin "object.__ne__")) := of_decide_eq_true (T.moI 14 rfl)
theorem Txt.o_isn (T : Txt w K mg) : PySem.W.kitOne K (.type "NoneType") (.ref (He.ga K "Session")) = some false := of_decide_eq_true (T.moI 15 rfl)
theorem Txt.o_isr (T : Txt w K mg) : PySem.W.kitOne K (.ref (He.ga K "Rule")) (.ref (He.ga K "Session")) = some false := of_decide_eq_true (T.moI 16 rfl)
theorem Txt.o_cget (T : Txt w K mg) : PySem.W.specialIn K (.builtin "object.__class__") "__get__" = some (some (.builtin "getset_descriptor.__get__")) := of_decide_eq_true (T.moI 17 rfl)
theorem Txt.o_ctak (T : Txt w K mg) : PySem.W.takesIn K (.builtin "object.__class__") = some true := of_decide_eq_true (T.moI 18 rfl)
theorem Txt.o_sor (T : Txt w K mg) : PySem.W.subIn K (.type "tuple") (.ref (He.ga K "Rule")) = some false := of_decide_eq_true (T.moI 19 rfl)
theorem Txt.o_sin (T : Txt w K mg) : PySem.W.subIn K (.type "int") (.ref (He.ga K "Rule")) = some false := of_decide_eq_true (T.moI 20 rfl)
theorem Txt.o_snn (T : Txt w K mg) : PySem.W.subIn K (.type "NoneType") (.ref (He.ga K "Session")) = some false := of_decide_eq_true (T.moI 21 rfl)
theorem Txt.o_srs (T : Txt w K mg) : PySem.W.subIn K (.ref (He.ga K "Rule")) (.ref (He.ga K "Session")) = some false := of_decide_eq_true (T.moI 22 rfl)
theorem Txt.o_ror (T : Txt w K mg) : PySem.W.findIn K (.ref (He.ga K "Rule")) "__ror__" = some none := of_decide_eq_true (T.moI 23 rfl)
theorem Txt.o_rls (T : Txt w K mg) : PySem.W.findIn K (.ref (He.ga K "Rule")) "__rlshift__" = some none := of_decide_eq_true (T.moI 24 rfl)
theorem Txt.o_bga (T : Txt w K mg) : PySem.W.findIn K (.ref (He.ga K "BadRule")) "__getattribute__" = some (some (.builtin "BaseException.__getattribute__")) := of_decide_eq_true (T.moI 25 rfl)
theorem Txt.o_bgg (T : Txt w K mg) : PySem.W.findIn K (.ref (He.ga K "BadRule")) "__getattr__" = some none := of_decide_eq_true (T.moI 26 rfl)
theorem Txt.o_bhd (T : Txt w K mg) : PySem.W.hasDictIn K (He.ga K "BadRule") = true := of_decide_eq_true (T.moI 27 rfl)
theorem Txt.o_fic (T : Txt w K mg) : PySem.W.fnIn K (He.ma K (He.ga K "Scaler") "__call__") = true := of_decide_eq_true (T.moI 28 rfl)
theorem Txt.gt (T : Txt w K mg) (i : Nat) {d : GtD} (h : gs[i]? = some d) : (∃ fd, FunD K d.f d.qual d.params d.body d.scope [] [] (gtAd K d.C d.f) fd) ∧ PropOf K (He.ga K d.C) d.f (He.ma K (He.ga K d.C) d.f) (gtAd K d.C d.f) := by
  have e2 : (gs.map fun d => fnAt K (gtAd K d.C d.f))[i]? = (gs.map GtD.val)[i]? := by rw [T.g]
  rw [List.getElem?_map, List.getElem?_map, h] at e2
  exact GtD.funD (Option.some.inj e2) (List.all_eq_true.mp (He.ba T.m).2 d (List.mem_of_getElem? h))
theorem Txt.sizes (T : Txt w K mg) {q : Str × He.Dv} (hq : q ∈ ([("over", .int 3), ("under", .int 3), ("aim", .int 4)] : List (Str × He.Dv))) : ∃ u, PySem.W.nsIn K (He.ga K "SIZES") q.1 = some (some u) ∧ RelV (q.2.v K) u := He.valsB_ok (He.ba (He.ba (He.ba T.m).1).2).1 hq
theorem Txt.wparts (T : Txt w K mg) {q : Str × He.Dv} (hq : q ∈ ([("load", .int 2), ("fail", .int 2), ("part", .int 2), ("raise", .int 2), ("undo", .int 1)] : List (Str × He.Dv))) : ∃ u, PySem.W.nsIn K (He.ga K "PARTS") q.1 = some (some u) ∧ RelV (q.2.v K) u := He.valsB_ok (He.ba (He.ba (He.ba T.m).1).2).2 hq
theorem Txt.p_Rule_parts (T : Txt w K mg) : (∃ fd, FunD K "parts" "Rule.parts" (defArgs s_Rule_parts) (defBody s_Rule_parts) (defScope s_Rule_parts) [] [] (gtAd K "Rule" "parts") fd) ∧ PropOf K (He.ga K "Rule") "parts" (He.ma K (He.ga K "Rule") "parts") (gtAd K "Rule" "parts") := T.gt 0 (d := gg_Rule_parts) rfl
theorem Txt.p_Rule_least (T : Txt w K mg) : (∃ fd, FunD K "least" "Rule.least" (defArgs s_Rule_least) (defBody s_Rule_least) (defScope s_Rule_least) [] [] (gtAd K "Rule" "least") fd) ∧ PropOf K (He.ga K "Rule") "least" (He.ma K (He.ga K "Rule") "least") (gtAd K "Rule" "least") := T.gt 1 (d := gg_Rule_least) rfl
theorem Txt.p_Rule_most (T : Txt w K mg) : (∃ fd, FunD K "most" "Rule.most" (defArgs s_Rule_most) (defBody s_Rule_most) (defScope s_Rule_most) [] [] (gtAd K "Rule" "most") fd) ∧ PropOf K (He.ga K "Rule") "most" (He.ma K (He.ga K "Rule") "most") (gtAd K "Rule" "most") := T.gt 2 (d := gg_Rule_most) rfl
theorem Txt.p_Rule_rise (T : Txt w K mg) : (∃ fd, FunD K "rise" "Rule.rise" (defArgs s_Rule_rise) (defBody s_Rule_rise) (defScope s_Rule_rise) [] [] (gtAd K "Rule" "rise") fd) ∧ PropOf K (He.ga K "Rule") "rise" (He.ma K (He.ga K "Rule") "rise") (gtAd K "Rule" "rise") := T.gt 3 (d := gg_Rule_rise) rfl
theorem Txt.p_Rule_fall (T : Txt w K mg) : (∃ fd, FunD K "fall" "Rule.fall" (defArgs s_Rule_fall) (defBody s_Rule_fall) (defScope s_Rule_fall) [] [] (gtAd K "Rule" "fall") fd) ∧ PropOf K (He.ga K "Rule") "fall" (He.ma K (He.ga K "Rule") "fall") (gtAd K "Rule" "fall") := T.gt 4 (d := gg_Rule_fall) rfl
theorem Txt.p_Rule_up (T : Txt w K mg) : (∃ fd, FunD K "up" "Rule.up" (defArgs s_Rule_up) (defBody s_Rule_up) (defScope s_Rule_up) [] [] (gtAd K "Rule" "up") fd) ∧ PropOf K (He.ga K "Rule") "up" (He.ma K (He.ga K "Rule") "up") (gtAd K "Rule" "up") := T.gt 5 (d := gg_Rule_up) rfl
theorem Txt.p_Rule_down (T : Txt w K mg) : (∃ fd, FunD K "down" "Rule.down" (defArgs s_Rule_down) (defBody s_Rule_down) (defScope s_Rule_down) [] [] (gtAd K "Rule" "down") fd) ∧ PropOf K (He.ga K "Rule") "down" (He.ma K (He.ga K "Rule") "down") (gtAd K "Rule" "down") := T.gt 6 (d := gg_Rule_down) rfl
theorem Txt.p_Scaler_rule (T : Txt w K mg) : (∃ fd, FunD K "rule" "Scaler.rule" (defArgs s_Scaler_rule) (defBody s_Scaler_rule) (defScope s_Scaler_rule) [] [] (gtAd K "Scaler" "rule") fd) ∧ PropOf K (He.ga K "Scaler") "rule" (He.ma K (He.ga K "Scaler") "rule") (gtAd K "Scaler" "rule") := T.gt 7 (d := gg_Scaler_rule) rfl
theorem Txt.p_Scaler_servers (T : Txt w K mg) : (∃ fd, FunD K "servers" "Scaler.servers" (defArgs s_Scaler_servers) (defBody s_Scaler_servers) (defScope s_Scaler_servers) [] [] (gtAd K "Scaler" "servers") fd) ∧ PropOf K (He.ga K "Scaler") "servers" (He.ma K (He.ga K "Scaler") "servers") (gtAd K "Scaler" "servers") := T.gt 8 (d := gg_Scaler_servers) rfl
theorem Txt.p_Session_rule (T : Txt w K mg) : (∃ fd, FunD K "rule" "Session.rule" (defArgs s_Session_rule) (defBody s_Session_rule) (defScope s_Session_rule) [] [] (gtAd K "Session" "rule") fd) ∧ PropOf K (He.ga K "Session") "rule" (He.ma K (He.ga K "Session") "rule") (gtAd K "Session" "rule") := T.gt 9 (d := gg_Session_rule) rfl
theorem Txt.p_Session_origin (T : Txt w K mg) : (∃ fd, FunD K "origin" "Session.origin" (defArgs s_Session_origin) (defBody s_Session_origin) (defScope s_Session_origin) [] [] (gtAd K "Session" "origin") fd) ∧ PropOf K (He.ga K "Session") "origin" (He.ma K (He.ga K "Session") "origin") (gtAd K "Session" "origin") := T.gt 10 (d := gg_Session_origin) rfl
theorem Txt.p_Session_state (T : Txt w K mg) : (∃ fd, FunD K "state" "Session.state" (defArgs s_Session_state) (defBody s_Session_state) (defScope s_Session_state) [] [] (gtAd K "Session" "state") fd) ∧ PropOf K (He.ga K "Session") "state" (He.ma K (He.ga K "Session") "state") (gtAd K "Session" "state") := T.gt 11 (d := gg_Session_state) rfl
theorem Txt.p_Session_servers (T : Txt w K mg) : (∃ fd, FunD K "servers" "Session.servers" (defArgs s_Session_servers) (defBody s_Session_servers) (defScope s_Session_servers) [] [] (gtAd K "Session" "servers") fd) ∧ PropOf K (He.ga K "Session") "servers" (He.ma K (He.ga K "Session") "servers") (gtAd K "Session" "servers") := T.gt 12 (d := gg_Session_servers) rfl
theorem Txt.p_Session_curve (T : Txt w K mg) : (∃ fd, FunD K "curve" "Session.curve" (defArgs s_Session_curve) (defBody s_Session_curve) (defScope s_Session_curve) [] [] (gtAd K "Session" "curve") fd) ∧ PropOf K (He.ga K "Session") "curve" (He.ma K (He.ga K "Session") "curve") (gtAd K "Session" "curve") := T.gt 13 (d := gg_Session_curve) rfl
end
end K74

/-! A1 -/
set_option Elab.async false
set_option linter.all false
set_option maxRecDepth 100000
set_option maxHeartbeats 0
namespace K74
open PySem PySem.Spec PyProof.Rows L2
abbrev R : PySem.W.OpenRow := PySem.W.OpenLaw.row rwl
abbrev qv : Program := PySem.W.view R.prog [77]
def names : List PySem.Str := (pw.main.scope.names.map (·.1)).filter fun x => !(x == "law" || x == "__name__")
def ob (s : PySem.W.SharedT) : AlY := obsY (HandSHeadRun.getT s)
theorem ob_eq (s : PySem.W.SharedT) : ob s = hookY.obs s.abs := by
  have e : HandSHeadRun.getT s = s.abs.heap.get? := funext (HandSHeadRun.getT_eq s)
  show obsY (HandSHeadRun.getT s) = obsY s.abs.heap.get?
  rw [e]
theorem runF (w : World) : HandSHeadRun.RunEq R qv hookY ob 9000 names (w.withFollow "special-get-raises" false) := by
  intro os
  kernel_rfl
theorem runT (w : World) : HandSHeadRun.RunEq R qv hookY ob 9000 names (w.withFollow "special-get-raises" true) := by
  intro os
  kernel_rfl
theorem run (w : World) : HandSHeadRun.RunEq R qv hookY ob 9000 names w :=
  PySem.W.byRow2 "special-get-raises" (P := fun w => HandSHeadRun.RunEq R qv hookY ob 9000 names w) runF runT w
end K74

/-! B0 -/
set_option Elab.async false
set_option linter.all false
set_option maxRecDepth 100000
set_option maxHeartbeats 4000000
/-! Promises of defs as one datum (its function object, its binding), the calls of such. -/
namespace K74
open PySem PySem.Spec PyProof.Rows L2
abbrev Frag := PySem.W.Frag
/-- the def at f keeps the promise sp; it may raise as sp says -/
structure FB (P : Program) (w : World) (K : Frag) (mg : Str → Option Value) (base : Heap) (k : Nat) (f : Addr) (ps : List Str) (sp : Sp) : Prop where
  ex : ∃ fd, FnOk P w K mg base (L2.CX P w) k f fd ps sp ∧ Binds K fd ps []
  kp : PySem.W.keepIn K (.ref f) = true
section
variable {P : Program} {w : World} {K : Frag} {mg : Str → Option Value} {base : Heap} {k : Nat} {f : Addr} {ps : List Str} {sp : Sp}
theorem FB.mono {j : Nat} (F : FB P w K mg base j f ps sp) (h : j ≤ k) : FB P w K mg base k f ps sp := by
  obtain ⟨⟨fd, a, b⟩, c⟩ := F
  exact ⟨⟨fd, a.mono h, b⟩, c⟩
theorem FB.imp {sp' : Sp} (F : FB P w K mg base k f ps sp) (h : ∀ vs H Q E, sp' vs H Q E → sp vs H Q E) : FB P w K mg base k f ps sp' := by
  obtain ⟨⟨fd, a, b⟩, c⟩ := F
  exact ⟨⟨fd, a.imp h, b⟩, c⟩
/-- a def by its body -/
theorem FB.of {x qual : Str} {params : Arguments} {body : List Stmt} {scope : Scope} {kws : List (Str × V)} {N : List Str} (F : ∃ fd, FunD K x qual params body scope [] kws f fd) (S : FnScope N ps scope)
    (hb : ∀ (kV doc pm : Value) (an : Option Addr) (cdv ct : Value) (us : List Value), us.length = ps.length → bindArgs (PySem.W.fnOf x qual params body scope .none kV doc pm an cdv ct) ⟨us, []⟩ = pure (ps.zip us))
    (len : ∀ vs H Q E, sp vs H Q E → vs.length = ps.length)
    (hbody : ∀ (cdv : Value) (A : Around) (outer : List Env) (s : Shared) (H : Hp) (vs : List V) (Q : VK) (E : XK), Room k (A.deeper (envOfC qual scope s.heap.objs.size f cdv)) → sp vs H Q E →
      ∃ t, PSs (cxOf (L2.CX P w) P w K mg base N qual scope f cdv A outer s H E) body t ∧ t { nx := fun _ H' => Q .non H', rt := Q } (start N vs) H) : FB P w K mg base (k + 1) f ps sp := by
  obtain ⟨fd, F⟩ := F
  exact ⟨⟨fd, F.ok S len hbody, F.bindsN hb⟩, F.kp⟩
end
section
variable {X : Cx} {k : Nat} {f C p g : Addr} {ps : List Str} {sp : Sp} {E : XK} {x m : Str} {p1 pos apos : Pos} {e o : Expr} {es : List Expr} {ta : TE} {t : TA}
theorem pe_callF (F : FB X.prog X.w X.K X.mg X.base k f ps sp) (hr : Room k X.A) (hg : Gl X x) (hm : X.mg x = some (.ref f)) (hx : Passes (L2.CX X.prog X.w) X E)
    (ha : PA X (e :: es) t) (hdb : (x == ("__debug__" : Str)) = false := by decide) (he : starEach (e :: es) X.env = (false, eval e X.env) :: starEach es X.env := by rfl) (hpl : (backTo pos (starEach es X.env)).any (·.1) = false := by rfl) :
    PE X (.Call (.Name x p1) (e :: es) [] pos) (tCall sp [] E t) := by
  obtain ⟨⟨fd, a, b⟩, c⟩ := F
  exact pe_call a hr hg hm c b .nil hx ha hdb he hpl
theorem pe_methF {pl : Sem Bool} (he : PE X o ta) (c : Cls X.K C) (hm : Meth X.K C m f) (F : FB X.prog X.w X.K X.mg X.base k f ps sp) (hr : Room k X.A) (hx : Passes (L2.CX X.prog X.w) X E) (ha : PA X (e :: es) t)
    (hst : starEach (e :: es) X.env = (false, eval e X.env) :: starEach es X.env := by rfl) (hpl : (backTo pos (starEach es X.env)).any (·.1) = false := by rfl)
    (ht : eval (.Call (.Attribute o m apos) (e :: es) [] pos) X.env = (do
      let ov ← eval o X.env
      standAt apos.atName
      let (f, first) ← holding [ov] (getMethod ov m pl)
      callWith pos f first (backTo pos (starEach (e :: es) X.env)) (backToKw pos (keywordEach [] X.env))) := by rfl) :
    PE X (.Call (.Attribute o m apos) (e :: es) [] pos) (tMeth C m sp [] E ta t) := by
  obtain ⟨⟨fd, a, b⟩, _⟩ := F
  exact pe_meth he c hm a hr b .nil hx ha hst hpl ht
theorem pe_meth0F {pl : Sem Bool} (he : PE X o ta) (c : Cls X.K C) (hm : Meth X.K C m f) (F : FB X.prog X.w X.K X.mg X.base k f ps sp) (hr : Room k X.A) (hx : Passes (L2.CX X.prog X.w) X E)
    (ht : eval (.Call (.Attribute o m apos) [] [] pos) X.env = (do
      let ov ← eval o X.env
      standAt apos.atName
      let (f, first) ← holding [ov] (getMethod ov m pl)
      callWith pos f first (backTo pos (starEach [] X.env)) (backToKw pos (keywordEach [] X.env))) := by rfl) :
    PE X (.Call (.Attribute o m apos) [] [] pos) (tMeth C m sp [] E ta tNil) := by
  obtain ⟨⟨fd, a, b⟩, _⟩ := F
  exact pe_meth0 he c hm a hr b .nil hx ht
theorem pe_propF (he : PE X e ta) (c : Cls X.K C) (hp : PropOf X.K C m p g) (F : FB X.prog X.w X.K X.mg X.base k g ps sp) (hr : Room (k + 1) X.A)
    (hab : attributeBase e m X.env (eval e X.env) = eval e X.env := by rfl) : PE X (.Attribute e m pos) (tProp C sp [] E0 ta) := by
  obtain ⟨⟨fd, a, b⟩, _⟩ := F
  exact pe_prop he c hp a hr b .nil (fun pins σ H s e s' I h => passL (X := X.nox) pins σ H s e s' I h) hab
theorem pe_makeF (M : Mk X.K C f) (F : FB X.prog X.w X.K X.mg X.base k f ps sp) (hr : Room (k + 1) X.A) (hg : Gl X x) (hm : X.mg x = some (.ref C)) (hx : Passes (L2.CX X.prog X.w) X E)
    (ha : PA X (e :: es) t) (hdb : (x == ("__debug__" : Str)) = false := by decide) (he : starEach (e :: es) X.env = (false, eval e X.env) :: starEach es X.env := by rfl) (hpl : (backTo pos (starEach es X.env)).any (·.1) = false := by rfl) :
    PE X (.Call (.Name x p1) (e :: es) [] pos) (tMake C sp [] E t) := by
  obtain ⟨⟨fd, a, b⟩, _⟩ := F
  exact pe_make M a hr hg hm b .nil hx ha hdb he hpl
end
/-! ### a def whose body asks that no display of a value is under way (repr of tuples and lists) -/
structure GB (P : Program) (w : World) (K : Frag) (mg : Str → Option Value) (base : Heap) (k : Nat) (f : Addr) (ps : List Str) (sp : Sp) : Prop where
  len : ∀ vs H Q E, sp vs H Q E → vs.length = ps.length
  run : ∃ fd, Binds K fd ps [] ∧ ∀ (A : Around) (outer : List Env) (s : Shared) (H : Hp) (args : Args) (us : List Value) (vs : List V) (Q : VK) (E : XK), A.guards = some [] → Room k A → Env0 P w K mg base A outer s H → BindsTo s fd args (ps.zip us) → Vals vs us → sp vs H Q E →
    codeAny (model P w) A (.call (.ref f) args) (CR (L2.CX P w) outer P w H s Q E) s
  kp : PySem.W.keepIn K (.ref f) = true
section
variable {P : Program} {w : World} {K : Frag} {mg : Str → Option Value} {base : Heap} {k : Nat} {f : Addr} {ps : List Str} {sp : Sp}
theorem GB.of {x qual : Str} {params : Arguments} {body : List Stmt} {scope : Scope} {N : List Str} (F : ∃ fd, FunD K x qual params body scope [] [] f fd) (S : FnScope N ps scope)
    (hb : ∀ (kV doc pm : Value) (an : Option Addr) (cdv ct : Value) (us : List Value), us.length = ps.length → bindArgs (PySem.W.fnOf x qual params body scope .none kV doc pm an cdv ct) ⟨us, []⟩ = pure (ps.zip us))
    (len : ∀ vs H Q E, sp vs H Q E → vs.length = ps.length)
    (hbody : ∀ (cdv : Value) (A : Around) (outer : List Env) (s : Shared) (H : Hp) (vs : List V) (Q : VK) (E : XK), A.guards = some [] → Room k (A.deeper (envOfC qual scope s.heap.objs.size f cdv)) → sp vs H Q E →
      ∃ t, PSs (cxOf (L2.CX P w) P w K mg base N qual scope f cdv A outer s H E) body t ∧ t { nx := fun _ H' => Q .non H', rt := Q } (start N vs) H) : GB P w K mg base (k + 1) f ps sp := by
  obtain ⟨fd, F⟩ := F
  have hb' := F.bindsN hb
  obtain ⟨oc, od, dV, kV, doc, pm, an, cdv, ct, osl, rfl, lk, hcd, _, _⟩ := F.ex
  refine ⟨len, ⟨_, hb', fun A outer s H args us vs Q E hg hr e0 hbd r hsp => ?_⟩, F.kp⟩
  exact LamX.run_ofS lk hcd S hr e0 hbd r (len _ _ _ _ hsp) fun hr' => hbody cdv A outer s H vs Q E hg hr' hsp
end
section
variable {X : Cx} {k : Nat} {f : Addr} {ps : List Str} {sp : Sp} {E : XK} {x : Str} {p1 pos : Pos} {e : Expr} {es : List Expr} {t : TA}
theorem pe_callG (F : GB X.prog X.w X.K X.mg X.base k f ps sp) (hgd : X.A.guards = some []) (hr : Room k X.A) (hg : Gl X x) (hm : X.mg x = some (.ref f)) (hx : Passes (L2.CX X.prog X.w) X E)
    (ha : PA X (e :: es) t) (hdb : (x == ("__debug__" : Str)) = false := by decide) (he : starEach (e :: es) X.env = (false, eval e X.env) :: starEach es X.env := by rfl) (hpl : (backTo pos (starEach es X.env)).any (·.1) = false := by rfl) :
    PE X (.Call (.Name x p1) (e :: es) [] pos) (tCall sp [] E t) := by
  obtain ⟨fd, hb, run⟩ := F.run
  refine ⟨fun pins s σ H Q I h => ?_⟩
  refine wpAny_Call_Name_kw (ld_glob I hg hm ?_ hdb)
  refine PySem.W.callWith_K (h₀ := X.base) I.ok.mod.kin F.kp (thn (ha.run pos pins s σ H _ I h) fun us s1 hh => ?_) he hpl
  obtain ⟨vs, H1, I1, r, q⟩ := hh
  refine ⟨I1.kIn, ?_⟩
  have q' : sp (vs ++ []) H1 Q E := q
  rw [List.append_nil] at q'
  have hl : (us ++ []).length = ps.length := by rw [List.append_nil, ← r.length]; exact F.len _ _ _ _ q'
  have b := hb s1 us I1.kIn hl
  rw [List.append_nil] at b
  refine wpAny_call (codeAny_mono (run X.A X.stack s1 H1 ⟨us, []⟩ us vs Q E hgd hr I1.env0 b r q') fun z s' hq => ?_)
  cases z with
  | error er => exact hx pins σ H1 s1 er s' I1 hq
  | ok fl =>
    cases fl with
    | ret u => exact I1.after hq
    | next => exact False.elim hq
    | brk => exact False.elim hq
    | cont => exact False.elim hq
end
end K74

/-! C0 -/
set_option Elab.async false
set_option linter.all false
set_option maxRecDepth 100000
set_option maxHeartbeats 4000000
/-! The data: frozen things (Z) under the heap (H), what is read off them; how a heap moves. -/
namespace K74
open PySem PySem.Spec PyProof.Rows L2
/-! ### how the heap moves -/
/-- from (Z, H) to (Z', H'): what Z tells stays; what H knows beyond Z stays out of Z'; but for S all of H stays -/
structure Mv (S : Addr → Prop) (Z H Z' H' : Hp) : Prop where
  z : Same Z Z'
  h : Same Z' H'
  n : ∀ a o, H a = some o → Z a = none → Z' a = none
  k : ∀ a o, H a = some o → ¬ S a → H' a = some o
  e : ∀ a o, H a = some o → ∃ o', H' a = some o'
abbrev Gr (Z H Z' H' : Hp) : Prop := Mv (fun _ => False) Z H Z' H'
section
variable {S S' : Addr → Prop} {Z H Z1 H1 Z2 H2 : Hp} {a p : Addr} {o o' : HO}
theorem Mv.refl (h : Same Z H) : Mv S Z H Z H := ⟨Same.refl Z, h, fun _ _ _ q => q, fun _ _ q _ => q, fun _ o q => ⟨o, q⟩⟩
theorem Mv.trans (x : Mv S Z H Z1 H1) (y : Mv S Z1 H1 Z2 H2) : Mv S Z H Z2 H2 :=
  ⟨x.z.trans y.z, y.h, fun a o q r => let ⟨o', q'⟩ := x.e a o q; y.n a o' q' (x.n a o q r), fun a o q r => y.k a o (x.k a o q r) r, fun a o q => let ⟨o', q'⟩ := x.e a o q; y.e a o' q'⟩
theorem Mv.mono (x : Mv S Z H Z1 H1) (h : ∀ a, S a → S' a) : Mv S' Z H Z1 H1 := ⟨x.z, x.h, x.n, fun a o q r => x.k a o q fun s => r (h a s), x.e⟩
theorem Mv.gr (x : Gr Z H Z1 H1) : Mv S Z H Z1 H1 := Mv.mono x fun _ z => z.elim
theorem Mv.same (x : Gr Z H Z1 H1) : Same H H1 := fun a o q => x.k a o q fun z => z
theorem Gr.of (h : Same Z H) (k : Same H H1) : Gr Z H Z H1 := ⟨Same.refl Z, h.trans k, fun _ _ _ q => q, fun a o q _ => k a o q, fun a o q => ⟨o, k a o q⟩⟩
theorem same_new (hp : H p = none) : Same H (upd H p o) := fun b u e => by rw [upd_ne (ne_of_none e hp)]; exact e
/-- a new thing, yet to be changed -/
theorem Gr.new (h : Same Z H) (hp : H p = none) : Gr Z H Z (upd H p o) := Gr.of h (same_new hp)
/-- a new thing, frozen -/
theorem Gr.newZ (h : Same Z H) (hp : H p = none) : Gr Z H (upd Z p o) (upd H p o) := by
  have hz : Z p = none := Same.free h hp
  refine ⟨same_new hz, fun b u e => ?_, fun b u e q => ?_, fun b u e _ => same_new hp b u e, fun b u e => ⟨u, same_new hp b u e⟩⟩
  · by_cases hb : b = p
    · subst hb; rw [upd_same] at e ⊢; exact e
    · rw [upd_ne hb] at e ⊢; exact h b u e
  · rw [upd_ne (ne_of_none e hp)]; exact q
/-- what was new at the entry is frozen now -/
theorem Mv.freeze (x : Mv S Z H Z1 H1) (h0 : H a = none) (h1 : H1 a = some o) : Mv S Z H (upd Z1 a o) H1 := by
  have hz : Same Z1 (upd Z1 a o) := fun b u e => by
    by_cases hb : b = a
    · subst hb
      rw [upd_same, ← h1]
      exact x.h b u e
    · rw [upd_ne hb]; exact e
  refine ⟨x.z.trans hz, fun b u e => ?_, fun b u e q => ?_, x.k, x.e⟩
  · by_cases hb : b = a
    · subst hb; rw [upd_same] at e; rw [h1]; exact e
    · rw [upd_ne hb] at e; exact x.h b u e
  · rw [upd_ne (ne_of_none e h0)]; exact x.n b u e q
theorem freezeZ (x : Same Z1 H1) (h1 : H1 a = some o) : Same Z1 (upd Z1 a o) := fun b u e => by
  by_cases hb : b = a
  · subst hb
    rw [upd_same, ← h1]
    exact x b u e
  · rw [upd_ne hb]; exact e
/-- a thing of the heap is written -/
theorem Mv.write (h : Same Z H) (hz : Z a = none) (h0 : H a = some o) (hs : S a) : Mv S Z H Z (upd H a o') :=
  ⟨Same.refl Z, fun b u e => by rw [upd_ne (ne_of_none e hz)]; exact h b u e, fun _ _ _ q => q,
    fun b u e r => by
      by_cases hb : b = a
      · subst hb; exact absurd hs r
      · rw [upd_ne hb]; exact e,
    fun b u e => by
      by_cases hb : b = a
      · subst hb; exact ⟨o', upd_same⟩
      · exact ⟨u, by rw [upd_ne hb]; exact e⟩⟩
/-- .. one that was new at the entry -/
theorem Mv.writeN (x : Mv S Z H Z1 H1) (h0 : H a = none) (hz : Z1 a = none) (h1 : H1 a = some o) : Mv S Z H Z1 (upd H1 a o') := by
  refine ⟨x.z, fun b u e => by rw [upd_ne (ne_of_none e hz)]; exact x.h b u e, x.n, fun b u e r => ?_, fun b u e => ?_⟩
  · rw [upd_ne (ne_of_none e h0)]; exact x.k b u e r
  · rw [upd_ne (ne_of_none e h0)]; exact x.e b u e
end
/-! ### nested tuples, lists -/
end K74
namespace L2
open PySem PySem.Spec PyProof.Rows
section
variable {K : PySem.W.Frag} {Z H : Hp}
mutual
theorem Dp.up (e : Same Z H) : ∀ (d : PyData) (v : V), Dp K Z v d → Dp K H v d
  | .none, _, h => by cases h; exact .non
  | .bool _, _, h => by cases h; exact .bl _
  | .int _, _, h => by cases h; exact .int _
  | .str _, _, h => by cases h; exact .str _
  | .list ds, _, h => by
    cases h with
    | lst s r => exact .lst (e.seq s) (DpAll.up e ds _ r)
  | .tuple ds, _, h => by
    cases h with
    | tup s r =>
      refine .tup ?_ (DpAll.up e ds _ r)
      rcases s with s | s
      · rcases s with s | ⟨o, s⟩
        · exact .inl (.inl (e _ _ s))
        · exact .inl (.inr ⟨o, e _ _ s⟩)
      · exact .inr s
  | .dict _, _, h => by cases h
theorem DpAll.up (e : Same Z H) : ∀ (ds : List PyData) (vs : List V), DpAll K Z vs ds → DpAll K H vs ds
  | [], _, h => by cases h; exact .nil
  | d :: ds, _, h => by
    cases h with
    | cons a b => exact .cons (Dp.up e d _ a) (DpAll.up e ds _ b)
end
theorem Dp.mv {v : V} {d : PyData} (h : Dp K Z v d) (e : Same Z H) : Dp K H v d := Dp.up e d v h
theorem DpAll.mv {vs : List V} {ds : List PyData} (h : DpAll K Z vs ds) (e : Same Z H) : DpAll K H vs ds := DpAll.up e ds vs h
theorem sqT_mv {a : Addr} {xs : List V} (s : SqT K Z a xs) (e : Same Z H) : SqT K H a xs := by
  rcases s with s | s
  · rcases s with s | ⟨o, s⟩
    · exact .inl (.inl (e _ _ s))
    · exact .inl (.inr ⟨o, e _ _ s⟩)
  · exact .inr s
theorem Dp.intI {v : V} {i : Int} (h : Dp K Z v (.int i)) : v = .int i := by cases h; rfl
theorem Dp.strI {v : V} {x : Str} (h : Dp K Z v (.str x)) : v = .str x := by cases h; rfl
theorem Dp.tupI {v : V} {ds : List PyData} (h : Dp K Z v (.tuple ds)) : ∃ a xs, v = .ref a ∧ SqT K Z a xs ∧ DpAll K Z xs ds := by
  cases h with
  | tup s r => exact ⟨_, _, rfl, s, r⟩
theorem DpAll.consI {vs : List V} {d : PyData} {ds : List PyData} (h : DpAll K Z vs (d :: ds)) : ∃ x r, vs = x :: r ∧ Dp K Z x d ∧ DpAll K Z r ds := by
  cases h with
  | cons a b => exact ⟨_, _, rfl, a, b⟩
theorem DpAll.nilI {vs : List V} (h : DpAll K Z vs []) : vs = [] := by cases h; rfl
theorem DpAll.len : ∀ {ds : List PyData} {vs : List V}, DpAll K Z vs ds → vs.length = ds.length
  | [], _, h => by cases h; rfl
  | _ :: ds, _, h => by
    cases h with
    | cons a b => rw [List.length_cons, List.length_cons, DpAll.len b]
theorem DpAll.ints : ∀ (ns : List Int), DpAll K Z (ns.map V.int) (ns.map PyData.int)
  | [] => .nil
  | n :: r => .cons (.int n) (DpAll.ints r)
theorem DpAll.intsI : ∀ {ns : List Int} {vs : List V}, DpAll K Z vs (ns.map PyData.int) → vs = ns.map V.int
  | [], _, h => DpAll.nilI h
  | n :: r, _, h => by
    obtain ⟨x, q, rfl, a, b⟩ := DpAll.consI (show DpAll K Z _ (PyData.int n :: r.map PyData.int) from h)
    rw [Dp.intI a, DpAll.intsI b]
    rfl
theorem DpAll.app : ∀ {ds es : List PyData} {vs us : List V}, DpAll K Z vs ds → DpAll K Z us es → DpAll K Z (vs ++ us) (ds ++ es)
  | [], _, _, _, h, g => by cases h; exact g
  | _ :: ds, _, _, _, h, g => by
    cases h with
    | cons a b => exact .cons a (DpAll.app b g)
theorem DpAll.at : ∀ {ds : List PyData} {vs : List V} {i : Nat} {v : V}, DpAll K Z vs ds → vs[i]? = some v → ∃ d, ds[i]? = some d ∧ Dp K Z v d
  | [], _, i, _, h, e => by cases h; simp at e
  | d :: ds, _, 0, _, h, e => by
    cases h with
    | cons a b =>
      simp only [List.getElem?_cons_zero, Option.some.injEq] at e
      subst e
      exact ⟨d, rfl, a⟩
  | d :: ds, _, i + 1, _, h, e => by
    cases h with
    | cons a b => exact DpAll.at (i := i) b (by simpa using e)
theorem DpAll.take : ∀ {ds : List PyData} {vs : List V} (n : Nat), DpAll K Z vs ds → DpAll K Z (vs.take n) (ds.take n)
  | _, _, 0, _ => by simp only [List.take_zero]; exact .nil
  | [], _, _ + 1, h => by cases h; exact .nil
  | _ :: _, _, n + 1, h => by
    cases h with
    | cons a b => exact .cons a (DpAll.take n b)
theorem DpAll.drop : ∀ {ds : List PyData} {vs : List V} (n : Nat), DpAll K Z vs ds → DpAll K Z (vs.drop n) (ds.drop n)
  | _, _, 0, h => h
  | [], _, _ + 1, h => by cases h; exact .nil
  | _ :: _, _, n + 1, h => by
    cases h with
    | cons a b => exact DpAll.drop n b
/-- a new tuple of data -/
theorem Dp.newT {p : Addr} {xs : List V} {ds : List PyData} (h : DpAll K Z xs ds) (hp : Z p = none) : Dp K (upd Z p (.tup xs)) (.ref p) (.tuple ds) := .tup (SqT.of upd_same) (h.mv (K74.same_new hp))
end
end L2
namespace K74
open PySem PySem.Spec PyProof.Rows L2
section
variable {K : Frag} {Z H : Hp}
/-- a list of data, at an address of its own -/
def LsD (K : Frag) (Z : Hp) (v : V) (ds : List PyData) : Prop := ∃ a xs, v = .ref a ∧ Z a = some (.lst xs) ∧ DpAll K Z xs ds
theorem LsD.mv {v : V} {ds : List PyData} (h : LsD K Z v ds) (e : Same Z H) : LsD K H v ds := by
  obtain ⟨a, xs, r, l, d⟩ := h
  exact ⟨a, xs, r, e _ _ l, d.mv e⟩
theorem LsD.dp {v : V} {ds : List PyData} (h : LsD K Z v ds) : Dp K Z v (.list ds) := by
  obtain ⟨a, xs, rfl, l, d⟩ := h
  exact .lst (SqL.of l) d
theorem LsD.newL {p : Addr} {xs : List V} {ds : List PyData} (h : DpAll K Z xs ds) (hp : Z p = none) : LsD K (upd Z p (.lst xs)) (.ref p) ds := ⟨p, xs, rfl, upd_same, h.mv (same_new hp)⟩
theorem tyx_tup {a : Addr} {xs : List V} (s : SqT K Z a xs) : TyX K Z (.ref a) (.type "tuple") := by
  rcases s with s | ⟨o, its, n, l, c, _⟩
  · rcases s with s | ⟨o, s⟩
    · exact .base (.tup s)
    · exact .fTuple s
  · exact .kTuple l c
theorem tyx_lst {a : Addr} {xs : List V} (s : Z a = some (.lst xs)) : TyX K Z (.ref a) (.type "list") := .base (.lst s)
end
/-! ### loads, parts, rules, states, deeds: plain Lean -/
abbrev Ld := Int × Int
def dLd (l : Ld) : PyData := .tuple [.int l.1, .int l.2]
structure okLd (l : Ld) : Prop where
  t0 : 0 ≤ l.1
  b1 : 1 ≤ l.2
  g : Int.gcd l.1 l.2 = 1
  tm : l.1 ≤ 1000000
  bm : l.2 ≤ 1000
inductive Part where
  | over (m k : Int)
  | under (m k : Int)
  | aim (m l h : Int)
  deriving DecidableEq
def dPart : Part → PyData
  | .over m k => .tuple [.str "over", .int m, .int k]
  | .under m k => .tuple [.str "under", .int m, .int k]
  | .aim m l h => .tuple [.str "aim", .int m, .int l, .int h]
def mk60 (i : Int) : Bool := decide (1 ≤ i) && decide (i ≤ 60)
def okP : Part → Bool
  | .over m k => mk60 m && mk60 k && decide (k ≤ 8)
  | .under m k => mk60 m && mk60 k && decide (k ≤ 8)
  | .aim m l h => mk60 m && mk60 l && mk60 h && (decide (l ≤ m) && decide (m ≤ h))
def upP (a : Int) : Part → Part
  | .over m k => .over (m + a) k
  | .under m k => .under (m + a) k
  | .aim m l h => .aim (m + a) (l + a) (h + a)
structure Rl where
  parts : List Part
  least : Int
  most : Int
  rise : Option Int
  fall : Option Int
  up : Int
  down : Int
  deriving DecidableEq
def okPs (ps : List Part) : Bool := decide (ps.length ≤ 4) && ps.all okP
def ok8 (o : Option Int) : Prop := ∀ i, o = some i → 1 ≤ i ∧ i ≤ 8
structure okR (r : Rl) : Prop where
  ps : okPs r.parts = true
  l1 : 1 ≤ r.least
  lm : r.least ≤ r.most
  m8 : r.most ≤ 8
  ri : ok8 r.rise
  fa : ok8 r.fall
  u1 : 1 ≤ r.up
  u3 : r.up ≤ 3
  d1 : 1 ≤ r.down
  d3 : r.down ≤ 3
abbrev Stt := Int × List Int
def dSt (s : Stt) : PyData := .tuple [.int s.1, .tuple (s.2.map PyData.int)]
/-- the size of the past -/
def psz (r : Rl) : Nat := ((if r.down ≤ r.up then r.up else r.down) - 1).toNat
structure okS (r : Rl) (s : Stt) : Prop where
  n1 : r.least ≤ s.1
  n2 : s.1 ≤ r.most
  len : s.2.length = psz r
  all : ∀ x ∈ s.2, r.least ≤ x ∧ x ≤ r.most
def first (r : Rl) (n : Int) : Stt := (n, List.replicate (psz r) n)
inductive Deed where
  | load (l : Ld)
  | fail (k : Int)
  | part (p : Part)
  | raise (a : Int)
  deriving DecidableEq
def dDeed : Deed → PyData
  | .load l => .tuple [.str "load", dLd l]
  | .fail k => .tuple [.str "fail", .int k]
  | .part p => .tuple [.str "part", dPart p]
  | .raise a => .tuple [.str "raise", .int a]
structure Sh where
  r : Rl
  st : Stt
  cv : List Ld
/-! ### what a tick does -/
def wishP (n : Int) (l : Ld) : Part → Option Int
  | .over m k => if l.1 > m * n * l.2 then some (n + k) else none
  | .under m k => if l.1 < m * n * l.2 then some (n - k) else none
  | .aim m lo hi => if l.1 < lo * n * l.2 ∨ l.1 > hi * n * l.2 then some ((l.1 + m * l.2 - 1) / (m * l.2)) else none
def wishL : List Part → Int → Ld → Int
  | [], n, _ => n
  | p :: r, n, l => match wishP n l p with
    | some i => i
    | none => wishL r n l
def clamp (lo hi x : Int) : Int := min (max x lo) hi
def mnL : List Int → Int
  | [] => 0
  | x :: r => r.foldl min x
def mxL : List Int → Int
  | [] => 0
  | x :: r => r.foldl max x
/-- the last n items -/
def lastN (n : Int) (xs : List Int) : List Int := xs.drop (xs.length - n.toNat)
def settleL (r : Rl) (n : Int) (rec : List Int) : Int :=
  if mnL (lastN r.up rec) > n then (match r.rise with
    | none => mnL (lastN r.up rec)
    | some i => min (mnL (lastN r.up rec)) (n + i))
  else if mxL (lastN r.down rec) < n then (match r.fall with
    | none => mxL (lastN r.down rec)
    | some i => max (mxL (lastN r.down rec)) (n - i))
  else n
def tickL (r : Rl) (s : Stt) (l : Ld) : Stt :=
  let rec_ := s.2 ++ [clamp r.least r.most (wishL r.parts s.1 l)]
  (settleL r s.1 rec_, rec_.drop 1)
/-! ### what a deed does -/
def upR (a : Int) (r : Rl) : Rl := { r with parts := r.parts.map (upP a) }
def doneL (sh : Sh) : Deed → Option Sh
  | .load l => some { sh with st := tickL sh.r sh.st l, cv := sh.cv ++ [l] }
  | .fail k => if 1 ≤ k ∧ k ≤ sh.st.1 - sh.r.least then some { sh with st := (sh.st.1 - k, sh.st.2) } else none
  | .part p => if okPs (sh.r.parts ++ [p]) then some { sh with r := { sh.r with parts := sh.r.parts ++ [p] } } else none
  | .raise a => if okPs (sh.r.parts.map (upP a)) then some { sh with r := upR a sh.r } else none
end K74

/-! R1 -/
set_option Elab.async false
set_option linter.all false
set_option maxRecDepth 100000
set_option maxHeartbeats 4000000
namespace K74
open PySem PySem.Spec PyProof.Rows L2
/-! ### repr of a tuple or a list of data, where no display is under way -/
def rReprD (K : Frag) : List V → Hp → VK → Prop := fun xs H Q => ∃ a d, xs = [.ref a] ∧ Dp K H (.ref a) d ∧ d.showable = true ∧ d.hasDict = false ∧ d.depth ≤ 20 ∧ d.shown.length ≤ sizeLine ∧ Q (.str d.shown) H
theorem call_reprD {X : Cx} (hg : X.A.guards = some []) (hu : X.A.units + 64 < cLine) : CallR X (.builtin "repr") (rReprD X.K) := by
  intro pins s σ H xs us Q I r h
  obtain ⟨a, d, rfl, hd, hs, hn, hdep, hz, q⟩ := h
  cases r with
  | cons rv rn =>
    cases rn
    cases rv
    obtain ⟨as, hr⟩ := Dp.reads I d _ _ hd rfl
    refine repr_of_reads' hr hs (fun e => by rw [hn] at e; cases e) hg (by omega) (fun _ _ e => e) (fun h' u tk k => ?_) hz
    exact ⟨.str d.shown, H, I.kept k, ⟨u, rfl⟩, q⟩
end K74

/-! R3 -/
set_option Elab.async false
set_option linter.all false
set_option maxRecDepth 100000
set_option maxHeartbeats 4000000
namespace K74
open PySem PySem.Spec PyProof.Rows L2
open PySem.W (Looks InstAt findIn isFn notFirst subIn mroIn looks_findIn looks_subIn looks_mroIn)
/-! ### == and != by an own __eq__, both answers -/
section
variable {prog : Program} {w : World} {A : Around} {E : Value → Shared → Prop} {s : Shared} {K : Frag} {x C L f : Addr} {h0 : Heap} {m : Str → Option Value} {ox : Obj} {od : Option Obj} {b tb : Value}
theorem slotB {M : Model} {name : Str} {id : String} {args : List Value} {Q : Option Value → Shared → Prop} (X : K.In s.heap) (I : InstAt s.heap x ox C od) (hs : findIn K (.ref C) name = some (some (.builtin id)))
    (hb : ∀ self, bindSpecial (.builtin id) self = pure (.builtin id, [self])) (h : wpAny M A (call (.builtin id) (.ref x :: args)) (fun v => Q (some v)) E s) : wpAny M A (callSpecialIfBound? (.ref x) name args) Q E s := by
  have one : wpAny M A (call (.builtin id) ([.ref x] ++ args) >>= fun v => pure (some v)) Q E s := wpAny_bind (wpAny_mono h (fun v s' q => wpAny_pure q) fun _ _ q => q)
  simp only [callSpecialIfBound?, bindSpecialIfBound?]
  refine wpAny_holding (wpAny_bind (wpAny_bind (wpAny_bind (I.type.here ((looks_findIn X hs).here ?_)))))
  simp only [hb]
  refine wpAny_bind (wpAny_askSetting (wpAny_ite ?_))
  split
  · exact wpAny_bind (wpAny_pure (wpAny_pure one))
  · exact wpAny_tryCatch (wpAny_bind (wpAny_pure (wpAny_pure one)))
theorem ne_own {Q : Value → Shared → Prop} (hu : A.units + 1 < cLine) (hF : Fr h0 L s.heap m) (X0 : K.In h0) (I : InstAt s.heap x ox C od) (hb : Looks (model prog w) s.heap (typeOf b) tb) (hn : notFirst K C tb = true)
    (hs : findIn K (.ref C) "__eq__" = some (some (.ref f))) (hf : isFn K (.ref f) = true) (hne : findIn K (.ref C) "__ne__" = some (some (.builtin "object.__ne__"))) (hm : mroIn K C (.type "object") = some true)
    (h : wpAny (model prog w) A.in1 (call (.ref f) [.ref x, b]) (fun v s' => ∃ c, v = .bool c ∧ Q (.bool (!c)) s') E s) : wpAny (model prog w) A (richCompare .NotEq (.ref x) b) Q E s := by
  have X := X0.keeps hF.keep
  have sub : Looks (model prog w) s.heap (isInstance (.ref x) (.type "object")) true := I.type.andThen (looks_mroIn X hm)
  have two : wpAny (model prog w) A.in1 (Builtin.«object.__ne__» ⟨[.ref x, b], []⟩) (fun fin s' => ∃ c, fin = .done (.ret (.bool c)) ∧ Q (.bool c) s') E s := by
    obtain ⟨hp, g, d, t, os⟩ := s
    unfold Builtin.«object.__ne__»
    repeat (first
      | with_reducible refine wpAny_cRoomFor hu ?_
      | (refine wpAny_bind (m := callSpecialIfBound? (.ref x) (Str.ofString "__eq__") [b])
          (PySem.W.ifBound_K X I hs hf (wpAny_mono h (fun r s' hr => by
            obtain ⟨c, rfl, hq⟩ := hr
            repeat (first | exact ⟨_, rfl, hq⟩ | exact wpAny_pure ⟨_, rfl, hq⟩ | (refine wpAny_bind (m := truthy (.bool _)) (wpAny_truthy_bool ?_)) | wp_step)) fun _ _ e => e)))
      | wp_step)
  have one : wpAny (model prog w) A (tryCompare (.ref x) "__ne__" b) (fun r s' => ∃ c, r = some (.bool c) ∧ Q (.bool c) s') E s := by
    unfold tryCompare
    refine wpAny_bind (slotB X I hne F.cmp_object.ne.bind (wpAny_call (codeAny_call_builtin F.cmp_object.ne.plain F.cmpEntry_ne (PySem.W.check_slot F.cmpKind_ne F.cmpSplit_ne sub (F.cmpArgs_ne _ _) (wpAny_mono two (fun fin s' q => ?_) fun _ _ e => e)))))
    obtain ⟨c, rfl, hq⟩ := q
    exact wpAny_pure ⟨c, rfl, hq⟩
  unfold richCompare
  simp only [oneThing_ref]
  refine wpAny_holding (wpAny_bind (wpAny_cRoomFor (by omega) ?_))
  rw [cmpInfo_NotEq]
  dsimp only
  refine wpAny_bind (I.type.here (wpAny_bind (hb.here ?_)))
  split
  · rename_i q
    have e : subIn K tb (.ref C) = some false := by
      rcases Bool.or_eq_true_iff.mp hn with e | e
      · rw [beq_iff_eq.mp e] at q; simp at q
      · exact beq_iff_eq.mp e
    refine wpAny_bind ((looks_subIn X e).here ?_)
    simp only [Bool.false_eq_true, if_false]
    refine wpAny_bind (wpAny_mono one (fun r s' z => ?_) fun _ _ e => e)
    obtain ⟨v, rfl, hq⟩ := z
    exact wpAny_pure hq
  · refine wpAny_bind (wpAny_pure ?_)
    simp only [Bool.false_eq_true, if_false]
    refine wpAny_bind (wpAny_mono one (fun r s' z => ?_) fun _ _ e => e)
    obtain ⟨v, rfl, hq⟩ := z
    exact wpAny_pure hq
end
/-- what the right side may be -/
def YTy (K : Frag) (C : Addr) (H : Hp) (y : V) : Prop := (y = .non ∧ notFirst K C (.type "NoneType") = true) ∨ ∃ b D dy gs, y = .ref b ∧ H b = some (.ins D dy gs) ∧ notFirst K C (.ref D) = true
/-- x == y (neg: x != y), x an instance of C: its own __eq__'s promise -/
def rOwn (K : Frag) (C : Addr) (sp : Sp) (neg : Bool) : R2 := fun x y H Q => ∃ a dx fs, x = .ref a ∧ H a = some (.ins C dx fs) ∧ YTy K C H y ∧ sp [x, y] H (fun v H' => ∃ b, v = .bl b ∧ Q (.bl (if neg then !b else b)) H') E0
structure EqC (K : Frag) (C f : Addr) : Prop where
  at_ : findIn K (.ref C) "__eq__" = some (some (.ref f))
  fn : isFn K (.ref f) = true
  ne : findIn K (.ref C) "__ne__" = some (some (.builtin "object.__ne__"))
  ob : mroIn K C (.type "object") = some true
section
variable {X : Cx} {C f : Addr} {k : Nat} {sp : Sp} {ps : List Str}
theorem own_y {pins : List (Addr × Obj)} {σ : L2.St} {H : Hp} {s : Shared} {y : V} {u : Value} (I : Inv X pins σ H s) (ry : RelV y u) (h : YTy X.K C H y) : ∃ tb, Looks (model X.prog X.w) s.heap (typeOf u) tb ∧ notFirst X.K C tb = true := by
  rcases h with ⟨rfl, h⟩ | ⟨b, D, dy, gs, rfl, hb, h⟩
  · cases ry
    exact ⟨_, Looks.of_pure rfl, h⟩
  · cases ry
    obtain ⟨mB, J, _⟩ := ins_get I.hok hb
    obtain ⟨od, J, _⟩ := J.look
    exact ⟨_, J.type, h⟩
theorem own_call (F : FB X.prog X.w X.K X.mg X.base k f ps sp) {A : Around} (sb : Sub X k A) {pins : List (Addr × Obj)} {σ : L2.St} {H : Hp} {s : Shared} {a : Addr} {y : V} {u : Value} {R : VK} (I : Inv X pins σ H s) (ry : RelV y u) (h : sp [.ref a, y] H R E0) :
    wpAny (model X.prog X.w) A (call (.ref f) [.ref a, u]) (fun v s' => ∃ z H', Inv X pins σ H' s' ∧ RelV z v ∧ R z H') X.xe s := by
  obtain ⟨⟨fd, F, hb⟩, _⟩ := F
  have e0 : Env0 X.prog X.w X.K X.mg X.base A X.stack s H := by
    have e := I.env0
    exact ⟨by rw [sb.fr]; exact e.frames, e.mod, e.bs, e.bsz, e.funs, e.frf, e.hok, e.bare⟩
  have hl := F.len _ _ _ _ h
  have r2 : Vals [V.ref a, y] [Value.ref a, u] := .cons rfl (.cons ry .nil)
  refine wpAny_call (codeAny_mono (F.run A X.stack s H ⟨[.ref a, u], []⟩ [.ref a, u] [.ref a, y] _ E0 sb.room e0 (by
    have := hb s [.ref a, u] I.kIn (by simpa using hl)
    simpa using this) r2 h) fun r s' hq => ?_)
  cases r with
  | error e => exact (passL (X := X)) pins σ H s e s' I hq
  | ok fl =>
    cases fl with
    | ret w => exact I.after hq
    | next => exact False.elim hq
    | brk => exact False.elim hq
    | cont => exact False.elim hq
theorem op_eqO (c : EqC X.K C f) (F : FB X.prog X.w X.K X.mg X.base k f ps sp) (hr : Room (k + 1) X.A) : OpR X (compareOp .Eq) (rOwn X.K C sp false) := by
  intro pins s σ H x y v u Q I rx ry h
  obtain ⟨a, dx, fs, rfl, ha, hy, h⟩ := h
  cases rx
  obtain ⟨mA, J, _⟩ := ins_get I.hok ha
  obtain ⟨od, J, _⟩ := J.look
  obtain ⟨m, hF⟩ := I.fr
  obtain ⟨tb, hb, hn⟩ := own_y I ry hy
  show wpAny (model X.prog X.w) X.A (richCompare .Eq (.ref a) u) (EP X pins σ Q) X.xe s
  refine PySem.W.cmp_K (op := .Eq) hr.units0 hF I.ok.mod.kin J hb hn c.at_ c.fn ?_
  refine thn (own_call F ⟨hr.mono (Nat.le_succ _), rfl⟩ I ry h) fun v s' q => ?_
  obtain ⟨z, H', I', rz, b, ez, q⟩ := q
  subst ez
  cases rz
  exact ⟨.bl b, H', I', rfl, q⟩
theorem op_neO (c : EqC X.K C f) (F : FB X.prog X.w X.K X.mg X.base k f ps sp) (hr : Room (k + 1) X.A) : OpR X (compareOp .NotEq) (rOwn X.K C sp true) := by
  intro pins s σ H x y v u Q I rx ry h
  obtain ⟨a, dx, fs, rfl, ha, hy, h⟩ := h
  cases rx
  obtain ⟨mA, J, _⟩ := ins_get I.hok ha
  obtain ⟨od, J, _⟩ := J.look
  obtain ⟨m, hF⟩ := I.fr
  obtain ⟨tb, hb, hn⟩ := own_y I ry hy
  show wpAny (model X.prog X.w) X.A (richCompare .NotEq (.ref a) u) (EP X pins σ Q) X.xe s
  have hu := hr.units
  refine ne_own (by omega) hF I.ok.mod.kin J hb hn c.at_ c.fn c.ne c.ob ?_
  refine thn (own_call F ⟨hr.in1, rfl⟩ I ry h) fun v s' q => ?_
  obtain ⟨z, H', I', rz, b, ez, q⟩ := q
  subst ez
  cases rz
  exact ⟨b, rfl, .bl (!b), H', I', rfl, q⟩
end
end K74

/-! R2 -/
set_option Elab.async false
set_option linter.all false
set_option maxRecDepth 100000
set_option maxHeartbeats 4000000
namespace K74
open PySem PySem.Spec PyProof.Rows L2
open PySem.W (Looks InstAt findIn isFn subIn looks_findIn looks_subIn)
/-! ### x op y by an own method, y a built-in thing -/
section
variable {prog : Program} {w : World} {A : Around} {E : Value → Shared → Prop} {s : Shared} {K : Frag} {x C L f : Addr} {h0 : Heap} {m : Str → Option Value} {ox : Obj} {od : Option Obj}
theorem bin_own {op : Operator} {y : Value} {T : String} {fo ro rc : Option Value} {Q : Value → Shared → Prop} (hF : Fr h0 L s.heap m) (X0 : K.In h0) (I : InstAt s.heap x ox C od) (hy : Looks (model prog w) s.heap (typeOf y) (.type T))
    (hc : PySem.W.selfFirst K C = true) (hs : findIn K (.ref C) (PySem.dunder op.info.2) = some (some (.ref f))) (hf : isFn K (.ref f) = true) (hr : findIn K (.ref C) (dunderR op.info.2) = some rc) (hp : rc = none ∨ ∃ g : Addr, rc = some (.ref g))
    (h1 : findIn K (.type T) (PySem.dunder op.info.2) = some fo) (h2 : findIn K (.type T) (dunderR op.info.2) = some ro) (hsub : subIn K (.type T) (.ref C) = some false)
    (h : wpAny (model prog w) A (call (.ref f) [.ref x, y]) (PySem.W.CmpBack Q) E s) : wpAny (model prog w) A (binaryOp op (.ref x) y) Q E s := by
  have X := X0.keeps hF.keep
  obtain ⟨cd, rest, hcd, hm⟩ := PySem.W.ksp_first hc
  rcases hi : op.info with ⟨sym, nm⟩
  rw [hi] at hs hr h1 h2
  dsimp only at hs hr h1 h2
  have one := PySem.W.ksp_try X I hs hf h
  obtain ⟨hh, g, d, tt, os⟩ := s
  have a1 : Looks (model prog w) hh (typeOf (.ref x)) (.ref C) := I.type
  have a2 : Looks (model prog w) hh (fillsNumberSlot (.ref C) nm) true := PySem.W.fills_K X hcd hm hs
  have a3 : Looks (model prog w) hh (fillsNumberSlot (.type T) nm) ((fo.isSome && !isSeqSlot fo) || (ro.isSome && !isSeqSlot ro)) := PySem.W.ksp_fillsT X h1 h2
  have a4 : Looks (model prog w) hh (isSubtype (.type T) (.ref C)) false := looks_subIn X hsub
  have a5 : Looks (model prog w) hh (numberSlotInPython (.ref C) nm) true := PySem.W.ksp_inPy X hs hr hp
  have a6 : Looks (model prog w) hh (numberSlotInPython (.type T) nm) false := Looks.of_pure rfl
  have a7 : Looks (model prog w) hh (typeLookup (.type T) (dunderR nm)) ro := looks_findIn X h2
  generalize ((fo.isSome && !isSeqSlot fo) || (ro.isSome && !isSeqSlot ro)) = right at a3
  have hne : (Value.ref C == Value.type T) = false := Bool.eq_false_iff.mpr fun q => by cases beq_iff_eq.mp q
  simp only [binaryOp, hi]
  refine wpAny_holding (wpAny_bind ?_)
  unfold binaryOp1
  refine wpAny_bind (a1.at (wpAny_bind (hy.at (wpAny_bind (a2.at ?_)))))
  simp only [hne, Bool.false_eq_true, if_false]
  cases right <;>
  · repeat ((fail_if_success (with_reducible show wpAny _ _ (tryMethod _ _ _) _ _ _)); lk)
    refine wpAny_mono one (fun r s' hr' => ?_) fun _ _ e => e
    obtain ⟨v, rfl, hq⟩ := hr'
    repeat lk
    exact hq
end
theorem back_of {X : Cx} {pins : List (Addr × Obj)} {σ : L2.St} {Q : VK} {v : Value} {s' : Shared} (h : EP X pins σ Q v s') : PySem.W.CmpBack (EP X pins σ Q) v s' := by
  obtain ⟨z, H', I, r, q⟩ := h
  cases z with
  | non => cases r; exact ⟨.non, H', I, rfl, q⟩
  | bl b => cases r; exact ⟨.bl b, H', I, rfl, q⟩
  | int i => obtain ⟨t, rfl⟩ := r; exact ⟨.int i, H', I, ⟨t, rfl⟩, q⟩
  | str x => obtain ⟨t, rfl⟩ := r; exact ⟨.str x, H', I, ⟨t, rfl⟩, q⟩
  | byt b => obtain ⟨t, rfl⟩ := r; exact ⟨.byt b, H', I, ⟨t, rfl⟩, q⟩
  | flt b => obtain ⟨t, rfl⟩ := r; exact ⟨.flt b, H', I, ⟨t, rfl⟩, q⟩
  | ref a => cases r; exact ⟨.ref a, H', I, rfl, q⟩
  | ty n => cases r; exact ⟨.ty n, H', I, rfl, q⟩
/-- the right side: an int, a tuple -/
def YBin (K : Frag) (H : Hp) (y : V) (T : String) : Prop := (T = "int" ∧ ∃ i, y = .int i) ∨ (T = "tuple" ∧ ∃ b xs, y = .ref b ∧ SqT K H b xs)
def rBinO (K : Frag) (C : Addr) (sp : Sp) (T : String) (E : XK) : R2 := fun x y H Q => ∃ a dx fs, x = .ref a ∧ H a = some (.ins C dx fs) ∧ YBin K H y T ∧ sp [x, y] H Q E
structure BinC (K : Frag) (C f : Addr) (op : Operator) (T : String) : Prop where
  sf : PySem.W.selfFirst K C = true
  at_ : findIn K (.ref C) (PySem.dunder op.info.2) = some (some (.ref f))
  fn : isFn K (.ref f) = true
  ri : findIn K (.ref C) (dunderR op.info.2) = some none
  t1 : ∃ fo, findIn K (.type T) (PySem.dunder op.info.2) = some fo
  t2 : ∃ ro, findIn K (.type T) (dunderR op.info.2) = some ro
  su : subIn K (.type T) (.ref C) = some false
section
variable {X : Cx} {C f : Addr} {k : Nat} {sp : Sp} {ps : List Str} {op : Operator} {T : String} {E : XK}
theorem op_binO (c : BinC X.K C f op T) (F : FB X.prog X.w X.K X.mg X.base k f ps sp) (hr : Room k X.A) (hx : Passes (L2.CX X.prog X.w) X E) : OpR X (binaryOp op) (rBinO X.K C sp T E) := by
  intro pins s σ H x y v u Q I rx ry h
  obtain ⟨a, dx, fs, rfl, ha, hy, h⟩ := h
  cases rx
  obtain ⟨mA, J, _⟩ := ins_get I.hok ha
  obtain ⟨od, J, _⟩ := J.look
  obtain ⟨m, hF⟩ := I.fr
  obtain ⟨fo, t1⟩ := c.t1
  obtain ⟨ro, t2⟩ := c.t2
  obtain ⟨⟨fd, F, hb⟩, _⟩ := F
  have L : Looks (model X.prog X.w) s.heap (typeOf u) (.type T) := by
    rcases hy with ⟨rfl, i, rfl⟩ | ⟨rfl, b, xs, rfl, hT⟩
    · obtain ⟨t, rfl⟩ := ry
      exact Looks.of_pure rfl
    · cases ry
      obtain ⟨its, r, ⟨ob, ho, hc, n, hd⟩, hs⟩ := I.tuple hT
      refine (Looks.ld (part := none) ho).andThen ?_
      rw [hc]
      exact .now
  refine bin_own hF I.ok.mod.kin J L c.sf c.at_ c.fn c.ri (.inl rfl) t1 t2 c.su (thn ?_ fun v s' q => back_of q)
  exact run_fn (vs := [.ref a, y]) F hr hb .nil hx I (.cons rfl (.cons ry .nil)) h
end
end K74

/-! R4 -/
set_option Elab.async false
set_option linter.all false
set_option maxRecDepth 100000
set_option maxHeartbeats 4000000
namespace K74
open PySem PySem.Spec PyProof.Rows L2
/-! ### (x, ..) * k, also for none and for one -/
theorem tmul_one (l : Addr) (items : Array Value) (n : Nat) (dd : Option Addr) (sl : Array (Option Value)) (u : Tok) (hne : items.isEmpty = false) :
    Meets (Builtin.«tuple.__mul__» ⟨[.ref l, .int 1 u], []⟩) (fun _ R s => s.heap.get? l = some { cls := .type "tuple", dict := dd, data := .seq items n, slots := sl } ∧ R (.ok (.ret (.ref l))) s) :=
  .of_wp fun prog w A R s h => by
    obtain ⟨hp, g, d, tk, os⟩ := s
    obtain ⟨hl, h⟩ := h
    have f1 := AutoSeq1.idx_int
    wp_walk using wpAny_loadPart' hl
    exact ⟨_, rfl, h⟩
theorem tmul_zero (l : Addr) (items : Array Value) (n : Nat) (dd : Option Addr) (sl : Array (Option Value)) (u : Tok) (hne : items.isEmpty = false) :
    Meets (Builtin.«tuple.__mul__» ⟨[.ref l, .int 0 u], []⟩) (fun _ R s => s.heap.get? l = some { cls := .type "tuple", dict := dd, data := .seq items n, slots := sl } ∧
      R (.ok (.ret (.ref s.heap.objs.size))) { s with heap := s.heap.push { cls := Value.type "tuple", data := Data.seq #[] } }) :=
  .of_wp fun prog w A R s h => by
    obtain ⟨hp, g, d, tk, os⟩ := s
    obtain ⟨hl, h⟩ := h
    have f1 := AutoSeq1.idx_int
    wp_walk using wpAny_loadPart' hl
    exact ⟨_, rfl, h⟩
/-- (x, ..) * k: the very tuple for k = 1 -/
def rRepA (K : Frag) : R2 := fun x y H Q => ∃ l k xs, x = .ref l ∧ y = .int k ∧ SqT K H l xs ∧ xs ≠ [] ∧ 0 ≤ k ∧ k ≤ 1000 ∧ xs.length ≤ 1000 ∧
  (k = 1 → Q (.ref l) H) ∧ (k ≠ 1 → ∀ p, H p = none → Q (.ref p) (upd H p (.tup (List.replicate k.toNat xs).flatten)))
theorem op_repA {X : Cx} : OpR X (binaryOp .Mult) (rRepA X.K) := by
  intro pins s σ H x y v u Q I rx ry h
  obtain ⟨l, k, xs, rfl, rfl, hT, hne, h1, h2, hz, q1, q2⟩ := h
  by_cases hk : 2 ≤ k
  · exact op_repT pins s σ H _ _ v u Q I rx ry ⟨l, k, xs, rfl, rfl, hT, hne, hk, h2, hz, q2 (by omega)⟩
  · cases rx
    obtain ⟨t, rfl⟩ := ry
    obtain ⟨its, r, ⟨⟨cls, dd, data, sl⟩, ho, hc, n, hd⟩, hs⟩ := I.tuple hT
    simp only at hc hd
    subst hc hd
    have hle : its.length = xs.length := r.length.symm
    have hi : its.toArray.isEmpty = false := by
      cases its with
      | nil => exact absurd (List.eq_nil_of_length_eq_zero hle.symm) hne
      | cons a b => rfl
    rcases (show k = 0 ∨ k = 1 by omega) with rfl | rfl
    · refine wpAny_binaryOp_repeat_ref (T := "tuple") (U := "int") (by decide) ⟨_, ho, rfl⟩ (fun s' => typeIs_int s' 0 t) noFill_tuple_mul F.fills_int_mul F.slot_int_rmul repeat_tuple F.slot_int_index.lookup
        (call_meets F.slot_int_rmul (typeIs_int s 0 t) F.entry_int_rmul (F.args_int_rmul_2 _ _) (int_rmul_tuple 0 t l its.toArray n dd sl)
          ⟨ho, rfl, ⟨_, ho, rfl⟩, call_meets F.slot_tuple_mul ⟨_, ho, rfl⟩ F.entry_tuple_mul (F.args_tuple_mul_2 _ _) (tmul_zero l its.toArray n dd sl t hi) ⟨ho, ?_⟩⟩)
      have q3 := q2 (by decide) s.heap.objs.size (I.hok.fresh (Nat.le_refl _))
      refine ⟨.ref s.heap.objs.size, _, I.laid (t' := s.toks) (o := .tup (List.replicate (0 : Int).toNat xs).flatten) (fun b ob q => Heap.get?_push_of_some _ q) (Nat.le_refl _) ?_, rfl, q3⟩
      exact ⟨Nat.zero_le _, [], .nil, IsTup.new _ _⟩
    · refine wpAny_binaryOp_repeat_ref (T := "tuple") (U := "int") (by decide) ⟨_, ho, rfl⟩ (fun s' => typeIs_int s' 1 t) noFill_tuple_mul F.fills_int_mul F.slot_int_rmul repeat_tuple F.slot_int_index.lookup
        (call_meets F.slot_int_rmul (typeIs_int s 1 t) F.entry_int_rmul (F.args_int_rmul_2 _ _) (int_rmul_tuple 1 t l its.toArray n dd sl)
          ⟨ho, rfl, ⟨_, ho, rfl⟩, call_meets F.slot_tuple_mul ⟨_, ho, rfl⟩ F.entry_tuple_mul (F.args_tuple_mul_2 _ _) (tmul_one l its.toArray n dd sl t hi) ⟨ho, ?_⟩⟩)
      exact ⟨.ref l, H, I, rfl, q1 rfl⟩
end K74

/-! R9 -/
set_option Elab.async false
set_option linter.all false
set_option maxRecDepth 100000
set_option maxHeartbeats 4000000
namespace K74
open PySem PySem.Spec PyProof.Rows L2
/-! ### NAME.get(k, x), NAME a written dict of the module, k one of its texts -/
def tKGet (K : Frag) (d : Addr) (te tf : TE) : TE := fun σ H Q => te σ H fun y H1 => tf σ H1 fun z H2 => ∃ (k : Str) (u : Value) (v : V), y = .str k ∧ PySem.W.nsIn K d k = some (some u) ∧ RelV v u ∧ Q v H2
theorem pe_kget {X : Cx} {n : Str} {d : Addr} {es : Array DictEntry} {m : Nat} {e f : Expr} {te tf : TE} {p apos cpos : Pos} (D : KDict X.K X.w d es m) (hd : (n == ("__debug__" : Str)) = false) (hg : Gl X n) (hm : X.mg n = some (.ref d)) (he : PE X e te) (hf : PE X f tf)
    (h2 : M2 X (.Name n p) "get" apos e f cpos) : PE X (.Call (.Attribute (.Name n p) "get" apos) [e, f] [] cpos) (tKGet X.K d te tf) := by
  refine ⟨fun pins s σ H Q I h => ?_⟩
  refine wpAny_Call_method h2.base h2.few h2.line PySem.F.plainAttrs_dict PySem.F.slot_dict_get PySem.F.type_dict_get (thn ((pe_glob (v := .ref d) hg hm rfl hd).run pins s σ H (fun x H1 => x = .ref d ∧ H1 = H) I ⟨rfl, rfl⟩) fun u s1 hh => ?_)
  obtain ⟨x, H1, I1, rx, ex, eh⟩ := hh
  subst ex
  subst eh
  obtain rfl : u = Value.ref d := rx
  refine ⟨kd_type D I1, fun b q => ?_, ?_⟩
  · cases q
    exact ⟨_, I1.kIn _ _ D.at_, rfl⟩
  rw [h2.trees]
  refine Calls.callWith_builtin rfl (Calls.evalArgs_plain (Calls.spliced_cons (thn (he.run pins s1 σ _ _ I1 h) fun iv s2 h3 => ?_)))
  obtain ⟨y, H2, I2, ry, q2⟩ := h3
  refine Calls.spliced_cons (thn (hf.run pins s2 σ H2 _ I2 q2) fun fv s3 h4 => Calls.spliced_nil ?_)
  obtain ⟨z, H3, I3, rz, k, u0, v0, ey, el, r0, q3⟩ := h4
  subst ey
  obtain ⟨t, rfl⟩ := ry
  refine call_meetsIn PySem.F.slot_dict_get (kd_type D I3) PySem.F.entry_dict_get (PySem.F.args_dict_get_3 _ _ _) (meets_dict_get_default (strKind X.prog X.w) d (k := k) (strKind_is X.prog X.w k t) D.low fv) ⟨_, PySem.W.mapOf_K (prog := X.prog) I3.kIn D.at_ D.lit, ?_⟩
  rw [PySem.W.find_K D.at_ el]
  exact ⟨v0, H3, I3.tok _, r0, q3⟩
end K74

/-! R6 -/
set_option Elab.async false
set_option linter.all false
set_option maxRecDepth 100000
set_option maxHeartbeats 4000000
namespace K74
open PySem PySem.Spec PyProof.Rows PySem.W PySem.Calls
open L2 (defArgs defBody defScope inClass)
/-! ### an own exception over ValueError whose __init__ says super().__init__(text), then self.part = part -/
section
variable {P : Program} {w : World} {A : Around} {E : Value → Shared → Prop} {R : Result → Shared → Prop} {h : Heap} {g : Array GenState} {d : Drawn} {t : Nat} {os : OsState}
/-- super().__init__(..), the bound wrapper called -/
theorem mw_call {nm q : Str} {C N : Addr} {bs bm : List Value} {hdct : Bool} {sn : List Str} {sub : List Value} {ab : Bool} {col : Option Bool} {dd : Option Addr} {k0 k1 k2 k3 k5 : Option Value} {u e t0 : Addr} {rest : List Value} {Q : Value → Shared → Prop}
    (hC : h.get? C = some (excClassObj nm q C N bs bm hdct sn sub ab col dd k0 k1 k2 k3 k5 "ValueError.__new__")) (he : h.get? e = some (HandSPX.excO C t0)) (hu : h.get? u = some (kxs_mw "ValueError.__init__" e)) (hrest : rest.length ≤ sizeLine)
    (hq : ∀ h' t1, (∀ b o, b ≠ e → h.get? b = some o → h'.get? b = some o) → h'.get? e = some (HandSPX.excO C t1) → Q .none ⟨h', g, d, t, os⟩) :
    wpAny (model P w) A (call (.ref u) rest) Q E ⟨h, g, d, t, os⟩ := by
  have ve := F.excBase_ValueError
  have k : (Value.type "method-wrapper" == Value.type "method" || Value.type "method-wrapper" == Value.type "builtin_function_or_method" || Value.type "method-wrapper" == Value.type "method-wrapper") = true := by decide
  refine wpAny_call (codeAny_of_tree ?_)
  show wpAny _ A.in1 (callAny (.ref u) ⟨rest, []⟩) _ _ _
  simp only [callAny]
  refine wpAny_bind (wpAny_load hu ?_)
  simp only [kxs_mw, k, if_true]
  refine KFB.if_so (by decide) (wpAny_bind (check_bound_init ve.toExcCallFacts hC he rfl (wpAny_bind (wpAny_pure (wpAny_pure ⟨plainId_quiet ve.init.plain _, codeAny_builtin ve.initEntry ?_⟩)))))
  exact exc_init_tree (cls := .ref C) (t0 := t0) (dv := none) (c2 := .none) (c3 := .none) (b4 := .bool false) he hrest fun h' k1 e1 _ => hq h' _ k1 e1
end
/-- the program's file and its names -/
class PT (P : Program) : Prop where
  file : P.main.file = pw.main.file
  top : (P.main.scope.names.lookup ("super" : Str)).isSome = false
structure BrF (K : Frag) (mg : Str → Option Value) : Prop where
  fn : ∃ oc od kV doc pm an cda ct osl cc, K.lookup (brF K) = some ⟨oc, od, .func (ksFn "__init__" "BadRule.__init__" (defArgs s_BadRule_init) (defBody s_BadRule_init) (defScope s_BadRule_init) .none kV doc pm an (.ref cda) ct cc), osl⟩ ∧
    (∃ cl cld csl, K.lookup cc = some ⟨cl, cld, .cell (some (.ref (brC K))), csl⟩) ∧ codeIn K (.ref cda) "BadRule.__init__" = true ∧ ∃ ccl cdd vs ccs file tf, K.lookup cda = some ⟨ccl, cdd, .fields vs, ccs⟩ ∧ vs[2]? = some (Value.str file tf) ∧ pw.main.file = file
  cls : ∃ cd, clsIn K (brC K) = some cd ∧ HandSPX.refsVE cd.mro = true ∧ cd.hasDict = true
  exi : excInitIn K (brC K) He.veBase "ValueError.__new__" = true
  ini : findIn K (.ref (brC K)) "__init__" = some (some (.ref (brF K)))
  tyf : typeIn K (.ref (brF K)) = some (.type "function")
  prt : findIn K (.ref (brC K)) "part" = some none
  sa : findIn K (.ref (brC K)) "__setattr__" = some (some (.builtin "object.__setattr__"))
  exC : subIn K (.ref (brC K)) (.type "BaseException") = some true
  tyC : typeIn K (.ref (brC K)) = some (.type "type")
  kC : keepIn K (.ref (brC K)) = true
  ve : subIn K (.ref (brC K)) (.type "ValueError") = some true
  opq : nsIn K cStatics "thirdparty.any" = some none
  sup : ks_superIn K (brC K) (brC K) "__init__" = some (some (.builtin "ValueError.__init__"))
  mro : mroIn K (brC K) (.ref (brC K)) = some true
  sp : mg "super" = none
theorem Txt.br_ {w : World} {K : Frag} {mg : Str → Option Value} (T : Txt w K mg) : BrF K mg := by
  have b := T.bb
  unfold brB at b
  obtain ⟨b1, b⟩ := He.ba b
  obtain ⟨b2, b⟩ := He.ba b
  obtain ⟨b3, b4⟩ := He.ba b
  have at_ : ∀ (i : Nat) {x : Bool}, ([decide (PySem.W.findIn K (.ref (brC K)) "__init__" = some (some (.ref (brF K)))),
      decide (PySem.W.typeIn K (.ref (brF K)) = some (.type "function")),
      decide (PySem.W.findIn K (.ref (brC K)) "part" = some none),
      decide (PySem.W.findIn K (.ref (brC K)) "__setattr__" = some (some (.builtin "object.__setattr__"))),
      decide (PySem.W.subIn K (.ref (brC K)) (.type "BaseException") = some true),
      decide (PySem.W.typeIn K (.ref (brC K)) = some (.type "type")),
      decide (PySem.W.keepIn K (.ref (brC K)) = true),
      decide (PySem.W.subIn K (.ref (brC K)) (.type "ValueError") = some true),
      decide (PySem.W.nsIn K cStatics "thirdparty.any" = some none),
      decide (PySem.W.ks_superIn K (brC K) (brC K) "__init__" = some (some (.builtin "ValueError.__init__"))),
      decide (PySem.W.mroIn K (brC K) (.ref (brC K)) = some true)] : List Bool)[i]? = some x → x = true := fun i x e => List.all_eq_true.mp b4 x (List.mem_of_getElem? e)
  refine ⟨?_, ?_, b3, of_decide_eq_true (at_ 0 rfl), of_decide_eq_true (at_ 1 rfl), of_decide_eq_true (at_ 2 rfl), of_decide_eq_true (at_ 3 rfl), of_decide_eq_true (at_ 4 rfl), of_decide_eq_true (at_ 5 rfl), of_decide_eq_true (at_ 6 rfl), of_decide_eq_true (at_ 7 rfl), of_decide_eq_true (at_ 8 rfl), of_decide_eq_true (at_ 9 rfl), of_decide_eq_true (at_ 10 rfl), T.f_super⟩
  · have e := T.br
    unfold fnBr brVal at e
    unfold brB1 at b1
    cases q : K.lookup (brF K) with
    | none => rw [q] at b1; cases b1
    | some o =>
      obtain ⟨oc, od, dt, osl⟩ := o
      rw [q] at b1 e
      cases dt with
      | func fd =>
        obtain ⟨n1, n2, n3, n4, n5, n6, n7, n8, n9, n10, n11, n12, n13, n14, n15⟩ := fd
        have e2 : (some (n1, n2, n3, n4, n5, n6, ([] : List (Str × Addr)), n15) : He.FnW) = (some ("__init__", "BadRule.__init__", defArgs s_BadRule_init, .stmts (defBody s_BadRule_init), defScope s_BadRule_init, mainGlobals, [], builtinsNs) : He.FnW) := e
        simp only [Option.some.injEq, Prod.mk.injEq] at e2
        obtain ⟨h1, h2, h3, h4, h5, h6, _, h8⟩ := e2
        subst h1 h2 h3 h4 h5 h6 h8
        dsimp only at b1
        split at b1
        · rename_i n cc cda
          obtain ⟨c1, b1⟩ := He.ba b1
          obtain ⟨c2, b1⟩ := He.ba b1
          obtain ⟨c3, c4⟩ := He.ba b1
          have c1' := of_decide_eq_true c1
          subst c1'
          refine ⟨oc, od, _, _, _, _, _, _, osl, _, rfl, ?_, c3, ?_⟩
          · split at c2
            · rename_i cl cld D csl hcc
              have := of_decide_eq_true c2
              subst this
              exact ⟨_, _, _, hcc⟩
            · cases c2
          · split at c4
            · rename_i ccl cdd vs ccs hcc
              split at c4
              · rename_i file tf hv
                exact ⟨_, _, _, _, _, _, hcc, hv, of_decide_eq_true c4⟩
              · cases c4
            · cases c4
        · cases b1
      | _ => cases b1
  · unfold brB2 at b2
    split at b2
    · rename_i cd hcd
      split at b2
      · rename_i D bm hm
        obtain ⟨_, b2⟩ := He.ba b2
        obtain ⟨c1, c2⟩ := He.ba b2
        refine ⟨cd, hcd, ?_, c2⟩
        rw [hm]
        exact c1
      · cases b2
    · cases b2
theorem br_bind (kV doc pm : Value) (an : Option Addr) (cda : Addr) (ct : Value) (cc x : Addr) (v : Value) :
    bindArgs (ksFn "__init__" "BadRule.__init__" (defArgs s_BadRule_init) (defBody s_BadRule_init) (defScope s_BadRule_init) .none kV doc pm an (.ref cda) ct cc) ⟨[.ref x, v], []⟩ = pure ([("self", .ref x), ("part", v)] : List (Str × Value)) := by rfl
theorem br_cell : ∀ y ∈ (defScope s_BadRule_init).names, y.2 ≠ NameKind.cell := by decide +kernel
theorem br_self : (defScope s_BadRule_init).names.lookup ("self" : Str) = some .local := by decide +kernel
theorem br_part : (defScope s_BadRule_init).names.lookup ("part" : Str) = some .local := by decide +kernel
theorem br_sup : (defScope s_BadRule_init).names.lookup ("super" : Str) = some .globalImplicit := by decide +kernel
theorem br_cls : (defScope s_BadRule_init).names.lookup ("__class__" : Str) = some .free := by decide +kernel
theorem br_arg : ∃ ar : Arg, ((defArgs s_BadRule_init).posonlyargs ++ (defArgs s_BadRule_init).args).head? = some ar ∧ ar.arg = "self" := ⟨_, rfl, rfl⟩
/-- the run of __init__ -/
theorem br_run {P : Program} {w : World} {A : Around} {R : Result → Shared → Prop} [hP : PT P] {K : Frag} {mg mb : Str → Option Value} (B : BrF K mg) {s : Shared} {x t0 : Addr} {v : Value} (hroom : A.depth < recursionLimit) (X : K.In s.heap) (hlim : s.heap.NoLimit) (hg : s.heap.Ns mainGlobals mg) (hb : s.heap.Ns builtinsNs mb) (hbs : mb "super" = some (.type "super"))
    (hxK : K.lookup x = none) (hx : s.heap.get? x = some (HandSPX.excO (brC K) t0))
    (hq : ∀ h2 t2 t1 dx, (∀ b o, b ≠ x → s.heap.get? b = some o → h2.get? b = some o) → s.heap.objs.size ≤ dx → dx ≠ x → h2.get? x = some ({ cls := .ref (brC K), dict := some dx, data := .fields #[.ref t1, .none, .none, .none, .bool false, .none] } : Obj) → h2.Ns1 dx (fun y => if y = "part" then some v else none) → R (.ok (.ret .none)) { s with heap := h2, toks := t2 }) :
    codeAny (model P w) A (.call (.ref (brF K)) ⟨[.ref x, v], []⟩) R s := by
  obtain ⟨oc, od, kV, doc, pm, an, cda, ct, osl, cc, lk, ⟨cl, cld, csl, hcc⟩, hcd, ccl, cdd, vs, ccs, file, tf, hcda, hvs, hfile⟩ := B.fn
  obtain ⟨cd, hcls, hve, hhd⟩ := B.cls
  have hsup := B.sup
  unfold ks_superIn at hsup
  rw [hcls] at hsup
  refine ks_codeAny_call_defAt (body := defBody s_BadRule_init) (binds := [("self", .ref x), ("part", v)]) hroom (X _ _ lk) rfl hlim (codeRec_of X hcd) rfl (BindsTo.of_eq (br_bind _ _ _ _ _ _ _ _ _)) br_cell (fun y hy => by
    rcases List.mem_cons.mp hy with e | e
    · rw [e]; exact br_self
    · rw [List.mem_singleton.mp e]; exact br_part) (fun h₁ hns hk => ?_) rfl rfl rfl
  obtain ⟨hh, g, d, tk, os⟩ := s
  have X1 : K.In h₁ := X.keeps hk
  have lx : x < hh.objs.size := Heap.lt_size hx
  obtain ⟨nm, N', qn, bs, bm, hdct, sn, sub, ab, col, dd, k0, k1, k2, k3, k5, hC, hT⟩ := excInit_of X B.exi
  have nsz : hh.objs.size ≠ x := fun e => Nat.lt_irrefl _ (e ▸ lx)
  obtain ⟨oD, hD1, hD2⟩ : ∃ oD, h₁.get? (brC K) = some oD ∧ oD.data = .cls cd := by
    unfold clsIn at hcls
    split at hcls
    · rename_i c dct cd' sl ho
      cases hcls
      exact ⟨_, X1 _ _ ho, rfl⟩
    · cases hcls
  have I1 : InstAt h₁ x (HandSPX.excO (brC K) t0) (brC K) none := ⟨hk _ _ hx, rfl, rfl, trivial⟩
  refine ks_wpAt_execs_cons (ks_wpAt_Expr_any (ks_wpAt_MethodCall ?_))
  obtain ⟨ar, har, hself⟩ := br_arg
  have ns1 : h₁.Ns hh.objs.size fun y => ([(("part" : Str), v), (("self" : Str), Value.ref x)] : List (Str × Value)).lookup y := hns
  refine ks_wpAt_super_base (ar := ar) br_sup br_cls (by decide) rfl (X1 _ _ lk) rfl har rfl (X1 _ _ hcda) rfl hvs (by rw [hP.file, hfile]; exact beq_self_eq_true _) hP.top ?_
  refine ks_loadName_global rfl br_sup (loadGlobal_builtin (hg.keeps hk) B.sp (hb.keeps hk) hbs ⟨rfl, ?_⟩)
  refine wpAny_loadName_free rfl br_cls rfl ⟨_, X1 _ _ hcc, rfl⟩ ?_
  rw [hself]
  refine wpAny_loadName_local rfl br_self ns1 rfl ?_
  refine ks_wpAny_isType_cls hD1 hD2 ⟨rfl, ?_⟩
  refine ks_wpAny_call_super hD1 hD2 I1.at_ I1.cls (fun c e => by cases e) (looks_mroIn X1 B.mro) (fun h2 e2 k2 => ?_)
  have X2 : K.In h2 := X1.keeps k2
  have I2 : InstAt h2 x (HandSPX.excO (brC K) t0) (brC K) none := ⟨k2 _ _ I1.at_, rfl, rfl, trivial⟩
  have lC : Looks (model P w) h2 (mroOf (.ref (brC K))) cd.mro := (looks_clsIn X2 hcls).andThen .now
  have lI : Looks (model P w) h2 (isInstance (.ref x) (.type "ValueError")) true := I2.type.andThen (looks_subIn X2 B.ve)
  refine kxs_getMethod kxs_ValueError e2 (looks_opaque X2 B.opq) lC rfl X2 hsup lI (ks_ne X2 I2 hcls) (by decide) ?_
  have u0 : (h2.push (kxs_mw "ValueError.__init__" x)).get? h2.objs.size = some (kxs_mw "ValueError.__init__" x) := Heap.get?_push_at rfl rfl
  have k3 : ∀ b o, h2.get? b = some o → (h2.push (kxs_mw "ValueError.__init__" x)).get? b = some o := fun b o e => Heap.get?_push_of_some _ e
  show wpAny _ _ (callWith _ (.ref h2.objs.size) [] _ []) _ _ _
  refine kxs_callWith (i := "ValueError.__init__") (x := x) rfl (evalArgs_plain (spliced_cons (Constant_str (k := 0) (pos := ⟨0, 0, 0, 0⟩) (spliced_nil ⟨u0, ?_⟩))))
  refine mw_call (t0 := t0) (k3 _ _ (k2 _ _ (hk _ _ hC))) (k3 _ _ I2.at_) u0 (by show 1 ≤ sizeLine; decide) fun h4 t1 k4 e4 => ?_
  have k04 : ∀ b o, b ≠ x → hh.get? b = some o → h4.get? b = some o := fun b o n e => k4 b o n (k3 _ _ (k2 _ _ (hk _ _ e)))
  have K0 : ∀ b o, K.lookup b = some o → b ≠ x := fun b o e z => by rw [z, hxK] at e; cases e
  have X4 : K.In h4 := fun b o e => k04 b o (K0 b o e) (X _ _ e)
  have ns4 : h4.Ns hh.objs.size fun y => ([(("part" : Str), v), (("self" : Str), Value.ref x)] : List (Str × Value)).lookup y := by
    obtain ⟨oL, es, ep, hL, r⟩ := ns1
    exact ⟨oL, es, ep, k4 _ _ nsz (k3 _ _ (k2 _ _ hL)), r⟩
  refine ks_wpAt_execs_cons (ks_wpAt_Assign_Attr ?_)
  refine wpAt_of_wpAny (wpAny_Name (wpAny_loadName_local rfl br_part ns4 rfl ?_) (by decide))
  refine wpAny_Name (wpAny_loadName_local rfl br_self ns4 rfl ?_) (by decide)
  refine set_plain X4 (ox := HandSPX.excO (brC K) t1) (od := none) ⟨e4, rfl, rfl, trivial⟩ B.sa ?_
  refine HandSPX.exc_osa X4 e4 hcls hve hhd B.prt fun h5 tk5 dx k5 l5 n5 e5 hn5 => ?_
  have l4 : hh.objs.size < h4.objs.size := by
    obtain ⟨oL, es, ep, hL, r⟩ := ns4
    exact Heap.lt_size hL
  refine wpAt_of_wpAny (wpAny_execs_nil ?_)
  exact hq h5 tk5 t1 dx (fun b o n e => k5 b o n (k04 b o n e)) (Nat.le_of_lt (Nat.lt_of_lt_of_le l4 l5)) n5 e5 hn5
end K74
namespace K74
open PySem PySem.Spec PyProof.Rows L2
section
variable {X : Cx}
/-- BadRule(e), ready to be raised -/
def tBr (K : Frag) (ta : TA) : L2.St → Hp → XK → Prop := fun σ H Q => ta σ H fun vs H1 => ∃ v, vs = [v] ∧ ∀ d, H1 d = none → Q (.ref (brC K)) (some d) (upd H1 d (.xd [("part", v)]))
theorem xd_eq {fs : List (Str × V)} {H1 : Hp} {a dx : Addr} {o o' o2 : HO} (ha : H1 a = none) : upd (del (upd (upd (upd H1 a o') dx o2) a o) a) dx (.xd fs) = upd H1 dx (.xd fs) := by
  funext b
  by_cases hb : b = dx
  · subst hb; rw [upd_same, upd_same]
  · rw [upd_ne hb, upd_ne hb]
    by_cases hc : b = a
    · subst hc; rw [del_same, ha]
    · rw [del_ne hc, upd_ne hc, upd_ne hb, upd_ne hc]
theorem pmk_br (hP : PT X.prog) {e : Expr} {ta : TA} {p pos : Pos} (B : BrF X.K X.mg) (hr : Room 2 X.A) (hg : Gl X "BadRule") (hm : X.mg "BadRule" = some (.ref (brC X.K))) (ha : PA X [e] ta)
    (he : starEach [e] X.env = (false, eval e X.env) :: starEach [] X.env := by rfl) : PMk X (.Call (.Name "BadRule" p) [e] [] pos) (tBr X.K ta) := by
  haveI := hP
  intro pins s σ H Q I h
  refine wpAny_Call_Name_kw (ld_glob I hg hm ?_ (by decide))
  refine PySem.W.callWith_K (h₀ := X.base) I.ok.mod.kin B.kC (thn (ha.run pos pins s σ H _ I h) fun us s1 ⟨vs, H1, I1, r1, v, ev, q1⟩ => ⟨I1.kIn, ?_⟩) he rfl
  subst ev
  obtain ⟨u, rfl, ru⟩ := vals1 r1
  show wpAny _ _ (call (.ref (brC X.K)) [u]) _ _ _
  obtain ⟨hp, g, dr, tk, os⟩ := s1
  obtain ⟨nm, N', qn, bs, bm, hdct, sn, sub, ab, col, dd, k0, k1, k2, k3, k5, hC, hT⟩ := PySem.W.excInit_of I1.kIn B.exi
  have kk : ∀ b o, hp.get? b = some o → ((hp.push (PySem.W.kdv_tup [u])).push (PySem.HandSPX.excO (brC X.K) hp.objs.size)).get? b = some o := fun b o e => Heap.get?_push_of_some _ (Heap.get?_push_of_some _ e)
  have hget : ((hp.push (PySem.W.kdv_tup [u])).push (PySem.HandSPX.excO (brC X.K) hp.objs.size)).get? (hp.objs.size + 1) = some (PySem.HandSPX.excO (brC X.K) hp.objs.size) := by heap_get
  have hsz : hp.objs.size ≤ hp.objs.size + 1 := Nat.le_succ _
  have hn : H1 (hp.objs.size + 1) = none := I1.hok.fresh hsz
  have I2 : Inv X pins σ (upd H1 (hp.objs.size + 1) (exo (hp.objs.size + 1) (brC X.K) none)) ⟨(hp.push (PySem.W.kdv_tup [u])).push (PySem.HandSPX.excO (brC X.K) hp.objs.size), g, dr, tk, os⟩ :=
    I1.laid (t' := tk) (a := hp.objs.size + 1) (o := exo (hp.objs.size + 1) (brC X.K) none) (h' := (hp.push (PySem.W.kdv_tup [u])).push (PySem.HandSPX.excO (brC X.K) hp.objs.size)) kk hsz (exo_ok hget)
  have nK : X.K.lookup (hp.objs.size + 1) = none := by
    cases q : X.K.lookup (hp.objs.size + 1) with
    | none => rfl
    | some o =>
      have := Heap.lt_size (I1.kIn _ _ q)
      exact absurd this (by show ¬ (hp.objs.size + 1 < hp.objs.size); omega)
  obtain ⟨mb, hb1, hb2⟩ := I2.mod.blt
  refine wpAny_call (PySem.HandSPX.call_own F.excBase_ValueError hT hC (PySem.W.looks_findIn I1.kIn B.ini) (fun self => PySem.W.bind_fn I1.kIn self B.tyf) (by show 1 ≤ sizeLine; decide)
    (br_run B (hr.make (brC X.K) [u] []).depth I2.kIn I2.nolimit (I2.mod.glob.keeps I2.bk) (hb1.keeps I2.bk) (hb2 _ (by decide)) nK hget fun h2 t2 t1 dx k l n e2 hn2 => ?_))
  have ld : hp.objs.size ≤ dx := Nat.le_trans (by show hp.objs.size ≤ ((hp.push (PySem.W.kdv_tup [u])).push (PySem.HandSPX.excO (brC X.K) hp.objs.size)).objs.size; simp [Heap.push]; omega) l
  have hnd : H1 dx = none := I1.hok.fresh ld
  have hq := q1 dx hnd
  have e := upd_same (H := H1) (a := hp.objs.size + 1) (o := exo (hp.objs.size + 1) (brC X.K) none)
  have hnd2 := I2.hok.fresh l
  have nd : ∀ {b : Addr} {o : Obj}, ((hp.push (PySem.W.kdv_tup [u])).push (PySem.HandSPX.excO (brC X.K) hp.objs.size)).get? b = some o → b ≠ dx := fun {b o} q => Nat.ne_of_lt (Nat.lt_of_lt_of_le (Heap.lt_size q) l)
  generalize hH2 : upd H1 (hp.objs.size + 1) (exo (hp.objs.size + 1) (brC X.K) none) = H2 at I2 e hnd2
  have na : ∀ {b : Addr}, H2 b = none → b ≠ hp.objs.size + 1 := fun {b} n z => by
    rw [z, e] at n
    cases n
  have un : Un (frs X.stack) [] H2 (upd (upd H2 dx (exd dx [("part", v)])) (hp.objs.size + 1) (exo (hp.objs.size + 1) (brC X.K) (some dx))) ((hp.push (PySem.W.kdv_tup [u])).push (PySem.HandSPX.excO (brC X.K) hp.objs.size)) h2 := {
    keep := fun b o q n _ _ => k b o (na n) q
    slot := fun b o q n _ _ => ⟨o.slots, k b o (na n) q⟩
    free := fun b o q n _ => by rw [upd_ne (na n), upd_ne (nd q)]; exact n
    there := fun b o q _ => by
      by_cases hb : b = hp.objs.size + 1
      · exact ⟨_, by rw [hb]; exact e2⟩
      · exact ⟨o, k b o hb q⟩
    tups := fun b xs q => by rw [upd_ne (at_ne e q exo_tup), upd_ne (ne_of_none q hnd2)]; exact q
    frzs := fun b o v q => by rw [upd_ne (at_ne e q exo_frz), upd_ne (ne_of_none q hnd2)]; exact q
    tbls := fun b ps q => ⟨#[], by rw [upd_ne (at_ne e q exo_tbl), upd_ne (ne_of_none q hnd2), q]; simp⟩ }
  have hok : HOk X.prog X.w (upd (upd H2 dx (exd dx [("part", v)])) (hp.objs.size + 1) (exo (hp.objs.size + 1) (brC X.K) (some dx))) h2 := fun b o q => by
    by_cases hb : b = hp.objs.size + 1
    · subst hb
      rw [upd_same] at q
      cases q
      exact exo_ok e2
    · rw [upd_ne hb] at q
      by_cases hd : b = dx
      · subst hd
        rw [upd_same] at q
        cases q
        exact exd_ok hn2 (relO_put (fs := []) ru fun g => True.intro)
      · rw [upd_ne hd] at q
        exact (I2.hok b o q).stay (fun c v hc z => k c v (by
            rcases hc with hc | hc
            · rw [hc]
              exact hb
            · exact at_ne e hc exo_own) z)
          (fun c hc => by rw [upd_ne (at_ne e hc exo_own), upd_ne (ne_of_none hc hnd2)]; exact hc) (fun c xs hc => by rw [upd_ne (at_ne e hc exo_tup), upd_ne (ne_of_none hc hnd2)]; exact hc)
  subst hH2
  refine ⟨rfl, ?_⟩
  exact mk_end (raises_own B.exC B.tyC) I1 hsz kk un hok rfl I1.bare upd_same (by rw [upd_ne n]; exact upd_same) hnd (by rw [xd_eq hn]; exact hq)
end
end K74
namespace K74
open PySem PySem.Spec PyProof.Rows L2
instance ptCx {CX : CXT} {P : Program} {w : World} {K : Frag} {mg : Str → Option Value} {base : Heap} {N : List Str} {qual : Str} {scope : Scope} {f : Addr} {cdv : Value} {A : Around} {outer : List Env} {s : Shared} {H : Hp} {E : XK} [h : PT P] :
    PT (cxOf CX P w K mg base N qual scope f cdv A outer s H E).prog := h
end K74

/-! R5 -/
set_option Elab.async false
set_option linter.all false
set_option maxRecDepth 100000
set_option maxHeartbeats 4000000
namespace K74
open PySem PySem.Spec PyProof.Rows L2
/-! ### set(list of ints), any number -/
section
variable {P : Program} {w : World} {A : Around} {E : Value → Shared → Prop} {s : Shared}
/-- a set just made -/
def setOb (w : World) : Obj := { cls := .type "set", dict := none, data := .set #[] 0 (.fresh 0 0 (!w.params.followText "set-order")) }
theorem set_of_list {l : Addr} {items : Array Value} (ns : List Int) {Q : Value → Shared → Prop} (hh : A.handled = none) (hl : s.heap.IsList l items) (hit : IntsAre items.toList ns) (hb : ns.length + 1 < scanBound)
    (h : ∀ (h' : Heap) (tk c : Nat), SetR w h' s.heap.objs.size (fun j => decide (j ∈ ns)) c → c ≤ ns.length → (∀ b o, s.heap.get? b = some o → h'.get? b = some o) → Q (.ref s.heap.objs.size) { s with heap := h', toks := tk }) :
    wpAny (model P w) A (call (.type "set") [.ref l]) Q E s := by
  have hisz : items.size = ns.length := by
    have q := IntsAre.length hit
    rwa [Array.length_toList] at q
  obtain ⟨c, tl, hmro⟩ := F.called_set.mro
  have hmade := F.called_set.made
  have hsub := F.called_set.sub
  refine wpAny_call (codeAny_of_tree ?_)
  show wpAny _ _ (callAny (.type "set") _) _ _ _
  refine wpAny_pure ⟨Code.quiet_builtin _ (by decide +kernel), codeAny_builtin F.entry_type_call ?_⟩
  rw [Around.under_plain (weight_type_call_type "set" [.ref l] []) rfl]
  have h1 := F.called_set.notType
  have h2 := F.called_set.canCreate
  have hct := F.typeCall_set_1 (.ref l)
  repeat (any_goals (first | assumption | wp_step))
  refine codeAny_mono (code_set_led1 (.ref l) (E := E) (Q₁ := fun obj s₁ => obj = .ref s.heap.objs.size ∧ s₁ = { s with heap := s.heap.push (setOb w) }) ⟨rfl, rfl⟩) fun r s₁ hr => ?_
  cases r with
  | error e => exact hr
  | ok fl =>
    cases fl with
    | ret obj =>
      obtain ⟨rfl, rfl⟩ := hr
      have hS : (s.heap.push (setOb w)).get? s.heap.objs.size = some (setOb w) := Heap.get?_push_size _ rfl
      have hT : Shared.TypeIs { s with heap := s.heap.push (setOb w) } (.ref s.heap.objs.size) "set" := ⟨_, hS, rfl⟩
      have hli := F.called_set.init.lookup
      have hbi := F.called_set.init.bind (.ref s.heap.objs.size)
      repeat (any_goals (first | assumption | wp_step))
      refine codeAny_mono (codeAny_call_builtin (R := wants (fun r s₂ => r = .none ∧ ∃ h' tk c, s₂ = { s with heap := h', toks := tk } ∧ SetR w h' s.heap.objs.size (fun j => decide (j ∈ ns)) c ∧ c ≤ ns.length ∧
          (∀ b o, s.heap.get? b = some o → h'.get? b = some o)) E) F.called_set.init.plain F.entry_set_init (check_set_init_1 hT ?_)) fun r₂ s₂ hr₂ => ?_
      · obtain ⟨⟨ocls, odict, odata, oslots⟩, hol, hcl, nl, hdl⟩ := hl
        simp only at hcl hdl
        subst hcl; subst hdl
        have hol' : (s.heap.push (setOb w)).get? l = some { cls := .type "list", dict := odict, data := .seq items nl, slots := oslots } := Heap.get?_push_of_some _ hol
        have hsls := F.sub_list_set
        have hslf := F.sub_list_frozenset
        have hne : (Value.type "list" == Value.type "dict") = false := by decide
        have hl1 : (s.heap.push (setOb w)).IsList l items := ⟨_, hol', rfl, nl, rfl⟩
        unfold setOb at hl1 hol' hS hT ⊢
        unfold Builtin.«set.__init__» noKeywords Builtin.Frozenset.updateFrom
        generalize hPI : pyIter = PI
        wp_walk
        subst hPI
        refine wpAny_pyIter_list hl1 (wpAny_bind (wpAny_runValue ?_))
        have hlS : l < s.heap.objs.size := Heap.lt_size hol
        have hh3 : A.in1.in1.in1.handled = none := by simp [hh]
        have hneI : l ≠ (s.heap.push { cls := .type "set", dict := none, data := .set #[] 0 (.fresh 0 0 (!w.params.followText "set-order")) }).objs.size := by
          rw [Heap.size_push]; exact Nat.ne_of_lt (Nat.lt_succ_of_lt hlS)
        have hSf : s.heap.objs.size ∉ [(s.heap.push { cls := .type "set", dict := none, data := .set #[] 0 (.fresh 0 0 (!w.params.followText "set-order")) }).objs.size, l] := by
          rw [Heap.size_push]; simp only [List.mem_cons, List.not_mem_nil, or_false, not_or]
          exact ⟨Nat.ne_of_lt (Nat.lt_succ_self _), Nat.ne_of_gt hlS⟩
        have hval : ∀ (i : Nat) (v : Value), items[i]? = some v → ∃ k t, ns[i]? = some k ∧ v = .int k t := fun i v hv => by
          have hi : i < ns.length := by rw [← hisz]; exact (Array.getElem?_eq_some_iff.mp hv).1
          obtain ⟨t, e⟩ := PyProof.Rows.IntsAre.int_at hit i v (by rw [Array.getElem?_toList]; exact hv)
          exact ⟨ns[i], t, List.getElem?_eq_getElem hi, by rw [e, List.getD_eq_getElem?_getD, List.getElem?_eq_getElem hi] <;> rfl⟩
        refine set_update_ints ((Walks.list hh3 _ l hneI items).toS) s.heap.objs.size hSf ns hisz hb hval (items.size - 0) 0 _ (by omega) (Nat.zero_le _) ⟨⟨_, Heap.get?_push_size _ rfl, rfl, rfl⟩, (hl1.push _)⟩
          ⟨0, Nat.le_refl 0, setR_new_at (Heap.get?_push_of_some _ hS)⟩ fun s' c' hm hc' hS' => ?_
        obtain ⟨h', g2, d', tk', os'⟩ := s'
        have eg : g2 = s.gens := hm.gens
        have ed : d' = s.drawn := hm.drawn
        have eo : os' = s.os := hm.os
        subst eg; subst ed; subst eo
        show wpAny _ _ _ _ _ _
        refine wpAny_pure ?_
        show wpAny _ _ (ret Value.none) _ _ _
        rw [hisz] at hc'
        refine wpAny_pure ⟨rfl, h', tk', c', rfl, hS', hc', fun b o e => ?_⟩
        have hb0 : b < s.heap.objs.size := Heap.lt_size e
        refine hm.heap b o ?_ (Heap.get?_push_of_some _ (Heap.get?_push_of_some _ e))
        rw [Heap.size_push]
        simp only [List.mem_cons, List.not_mem_nil, or_false, not_or]
        exact ⟨Nat.ne_of_lt hb0, Nat.ne_of_lt (Nat.lt_succ_of_lt hb0)⟩
      · cases r₂ with
        | error e => exact hr₂
        | ok fl₂ =>
          cases fl₂ with
          | ret r =>
            obtain ⟨rfl, h', tk, c', rfl, hS', hc', hk'⟩ := hr₂
            repeat (any_goals (first | assumption | wp_step))
            exact h _ _ _ hS' hc' hk'
          | _ => exact hr₂.elim
    | _ => exact hr.elim
/-! ### sorted(set of ints), any number -/
theorem sorted_of_set {a : Addr} {S : Int → Bool} {n : Nat} {Q : Value → Shared → Prop} (R : SetR w s.heap a S n) (hh : A.handled = none) (hz : n ≤ sizeLine)
    (hQ : ∀ s' p (out : Array Value) (c : Nat) (ns : List Int), (∀ b o, s.heap.get? b = some o → s'.heap.get? b = some o) → s'.gens = s.gens → s'.os = s.os → s.heap.objs.size ≤ p →
      s'.heap.get? p = some (seqObj "list" out c) → IntsAre out.toList ns → (∀ k, k ∈ ns ↔ S k = true) → ns.length = n → Q (.ref p) s') :
    wpAny (model P w) A (call (.builtin "sorted") [.ref a]) Q E s := by
  obtain ⟨o, es, ep, t, ho, hex, hd, g, nd, hm, hb, hf, hn, hr, hl⟩ := R
  refine Calls.call_function_entry kind_sorted plain_sorted entry_sorted (args_sorted1 _) ?_
  unfold Builtin.«sorted»
  refine wpAny_bind (m := checkCount "sorted" 1 1 _) (wpAny_pure ?_)
  refine wpAny_bind (collect_set (A := A.in1) hh ⟨o, ho, hex.1, hd⟩ hf hb hr hl fun s1 vs k1 hsz g1 o1 pm => ?_)
  have hvl : vs.length = n := by rw [pm.length_eq, List.length_map, Array.length_toList]; exact hn
  have hI : IntsAre vs (vs.map Builtin.Re.reRawOf) := ints_of vs fun v hv => by
    obtain ⟨e, he, q⟩ := List.mem_map.mp (pm.mem_iff.mp hv)
    obtain ⟨k, tk, h1, _⟩ := g e he
    exact ⟨k, tk, by rw [← q]; exact h1⟩
  have pk : (vs.map Builtin.Re.reRawOf).Perm (es.toList.map keyOf) := by
    have q := pm.map Builtin.Re.reRawOf
    rwa [List.map_map] at q
  refine wpAny_bind (wpAny_newList ?_ (by rw [hvl]; exact hz))
  have hoL : (s1.heap.push (seqObj "list" vs.toArray 0)).get? s1.heap.objs.size = some (seqObj "list" vs.toArray 0) := Heap.get?_push_size _ rfl
  refine wpAny_bind (wpAny_holding (wpAny_call_entry slot_list_sort ⟨_, hoL, rfl⟩ entry_list_sort (SrtO.list_sort_ord SrtO.swo_int hoL (by rw [hvl]; exact hz) (fun h2 => SrtO.ints_sortable hI h2) fun out a1 a2 => ⟨_, rfl, ?_⟩) (args_list_sort _)))
  obtain ⟨c, hc⟩ := sortedHeap_at (vs := vs) (out := out.toArray) hoL
  obtain ⟨b1, b2, _⟩ := SrtO.ints_out hI a1 a2
  have pn : (out.map SrtO.iv).Perm (es.toList.map keyOf) := b2.trans pk
  refine wpAny_pure ⟨_, rfl, hQ _ s1.heap.objs.size out.toArray c (out.map SrtO.iv) (fun b u e => ?_) g1 o1 hsz hc b1 (fun k => by rw [pn.mem_iff, ← hm k]) ?_⟩
  · have q := k1 b u e
    have hlt := Heap.lt_size q
    show (sortedHeap (s1.heap.push (seqObj "list" vs.toArray 0)) s1.heap.objs.size vs out.toArray).get? b = some u
    rw [sortedHeap_old (Nat.ne_of_lt hlt) (by rw [size_push']; exact Nat.lt_succ_of_lt hlt)]
    exact Heap.get?_push_of_some _ q
  · rw [pn.length_eq, List.length_map, Array.length_toList]; exact hn
end
section
variable {X : Cx}
def rSetL (K : Frag) (w : World) : List V → Hp → VK → Prop := fun xs H Q => ∃ (l : Addr) (ns : List Int), xs = [V.ref l] ∧ SqL K H l (ns.map V.int) ∧ ns.length ≤ 1000 ∧ ∀ (p : Addr) (c : Nat), H p = none → c ≤ ns.length → Q (.ref p) (upd H p (SetO w p (fun j => decide (j ∈ ns)) c))
theorem cr_setL (hc : X.calm = true) : CallR X (.type "set") (rSetL X.K X.w) := by
  intro pins s σ H xs us Q I r h
  obtain ⟨l, ns, rfl, hl, hk, q⟩ := h
  rw [Vals.ref1 r]
  obtain ⟨its, rv, pl, hz⟩ := I.list hl
  exact set_of_list (P := X.prog) (w := X.w) ns (I.ok.hd hc) pl.isList (by simpa using rv.ints) (by unfold scanBound; omega) fun h' tk c R hcn k =>
    ⟨.ref s.heap.objs.size, _, I.laid (t' := tk) k (Nat.le_refl _) (setO_new R), rfl, q _ c (I.hok.fresh (Nat.le_refl _)) hcn⟩
def rSortS (w : World) : List V → Hp → VK → Prop := fun vs H Q => ∃ (a : Addr) (S : Int → Bool) (n : Nat), vs = [V.ref a] ∧ H a = some (SetO w a S n) ∧ n ≤ 1000 ∧
  ∀ (ns : List Int) (p : Addr), (∀ k : Int, k ∈ ns ↔ S k = true) → ns.length = n → H p = none → Q (.ref p) (upd H p (.lst (ns.map V.int)))
theorem cr_sortS (hc : X.calm = true) : CallR X (.builtin "sorted") (rSortS X.w) := by
  intro pins s σ H vs us Q I r h
  obtain ⟨a, S, n, rfl, ha, hz, q⟩ := h
  rw [Vals.ref1 r]
  refine sorted_of_set (setO_get I ha) (I.ok.hd hc) (by rw [sizeLine_eq]; omega) fun s' p out c ns k g o hp hg hi hm hl => ?_
  have hlen : (ns.map V.int).length ≤ sizeLine := by rw [List.length_map, hl, sizeLine_eq]; omega
  have hn : H p = none := I.hok.fresh hp
  have J : Inv X pins σ (upd H p (.lst (ns.map V.int))) { s with heap := s'.heap, gens := s'.gens, drawn := s'.drawn, toks := s'.toks } :=
    I.call (ch := []) (Un.laid k hp hn) (I.hok.laid k hp ⟨hlen, out.toList, c, vals_of_ints hi, hg⟩) (by rw [g]; exact I.bare) (fun _ z => nomatch z)
  have e : s' = { s with heap := s'.heap, gens := s'.gens, drawn := s'.drawn, toks := s'.toks } := by
    cases s'
    cases s
    cases o
    rfl
  rw [e]
  exact ⟨.ref p, _, J, rfl, q ns p hm hl hn⟩
end
end K74

/-! X0 -/
set_option Elab.async false
set_option linter.all false
set_option maxRecDepth 100000
set_option maxHeartbeats 4000000
namespace K74
open PySem PySem.Spec PyProof.Rows L2
/-! ### data of small depth and short text -/
structure Sm (n m : Nat) (d : PyData) : Prop where
  lay : d.canLay0 = true
  sh : d.showable = true
  nd : d.hasDict = false
  dep : d.depth ≤ n
  len : d.shown.length ≤ m
theorem Sm.le {n m n' m' : Nat} {d : PyData} (h : Sm n m d) (hn : n ≤ n') (hm : m ≤ m') : Sm n' m' d := ⟨h.lay, h.sh, h.nd, Nat.le_trans h.dep hn, Nat.le_trans h.len hm⟩
theorem Sm.shp {n m : Nat} {d : PyData} (h : Sm n m d) (hn : n ≤ 64) : SeqAt.shaped d = true := by
  unfold SeqAt.shaped
  rw [h.lay, decide_eq_true (Nat.le_trans h.dep hn)]
  rfl
theorem Sm.non : Sm 0 12 .none := ⟨by simp only [PyData.canLay0], by simp only [PyData.showable], by simp only [PyData.hasDict], by simp only [PyData.depth]; exact Nat.le_refl _, by simp only [PyData.shown]; decide +kernel⟩
theorem Sm.int {i : Int} (h : i.natAbs < 10 ^ 9) : Sm 0 12 (.int i) := by
  refine ⟨by simp only [PyData.canLay0], ?_, by simp only [PyData.hasDict], by simp only [PyData.depth]; exact Nat.le_refl _, ?_⟩
  · simp only [PyData.showable]
    refine decide_eq_true ?_
    by_cases h0 : i.natAbs = 0
    · rw [h0]; decide
    · exact Nat.lt_trans ((Nat.log2_lt h0).mpr (show i.natAbs < 2 ^ 30 by omega)) (by decide)
  · simp only [PyData.shown]
    have := int_text_length_le10 (by decide : 0 < 9) h
    rw [PySem.ofString_length]
    omega
theorem Sm.str {x : Str} (h : PyData.strOk x = true) (l : (reprText x).length ≤ 12) : Sm 0 12 (.str x) :=
  ⟨by simp only [PyData.canLay0]; exact h, by simp only [PyData.showable], by simp only [PyData.hasDict], by simp only [PyData.depth]; exact Nat.le_refl _, by simp only [PyData.shown]; exact l⟩
theorem Sm.all {n m : Nat} : ∀ {ds : List PyData}, (∀ d ∈ ds, Sm n m d) → PyData.canLayAll0 ds = true ∧ PyData.showableAll ds = true ∧ PyData.hasDictAll ds = false ∧ PyData.depthAll ds ≤ n ∧ ((PyData.shownAll ds).map (·.length)).sum ≤ ds.length * m ∧ (PyData.shownAll ds).length = ds.length
  | [], _ => ⟨by simp only [PyData.canLayAll0], by simp only [PyData.showableAll], by simp only [PyData.hasDictAll], by simp only [PyData.depthAll]; exact Nat.zero_le _, by simp [PyData.shownAll], by simp [PyData.shownAll]⟩
  | d :: ds, h => by
    have h1 := h d List.mem_cons_self
    obtain ⟨a, b, c, e, f, g⟩ := Sm.all (ds := ds) fun x hx => h x (List.mem_cons_of_mem _ hx)
    refine ⟨?_, ?_, ?_, ?_, ?_, ?_⟩
    · simp only [PyData.canLayAll0, h1.lay, a, Bool.and_self]
    · simp only [PyData.showableAll, h1.sh, b, Bool.and_self]
    · simp only [PyData.hasDictAll, h1.nd, c, Bool.or_self]
    · have := h1.dep
      simp only [PyData.depthAll]
      omega
    · have := h1.len
      simp only [PyData.shownAll, List.map_cons, List.sum_cons, List.length_cons, Nat.succ_mul]
      omega
    · simp only [PyData.shownAll, List.length_cons, g]
theorem Sm.tup {n m k : Nat} {ds : List PyData} (h : ∀ d ∈ ds, Sm n m d) (hk : ds.length * (m + 2) + 3 ≤ k) : Sm (n + 1) k (.tuple ds) := by
  obtain ⟨a, b, c, e, f, g⟩ := Sm.all h
  rw [Nat.mul_add] at hk
  refine ⟨by simp only [PyData.canLay0]; exact a, by simp only [PyData.showable]; exact b, by simp only [PyData.hasDict]; exact c, by simp only [PyData.depth]; omega, ?_⟩
  simp only [PyData.shown]
  have := tupleText_len_le (PyData.shownAll ds)
  omega
theorem Sm.lst {n m k : Nat} {ds : List PyData} (h : ∀ d ∈ ds, Sm n m d) (hk : ds.length * (m + 2) + 3 ≤ k) : Sm (n + 1) k (.list ds) := by
  obtain ⟨a, b, c, e, f, g⟩ := Sm.all h
  rw [Nat.mul_add] at hk
  refine ⟨by simp only [PyData.canLay0]; exact a, by simp only [PyData.showable]; exact b, by simp only [PyData.hasDict]; exact c, by simp only [PyData.depth]; omega, ?_⟩
  simp only [PyData.shown]
  have := listText_len_le (PyData.shownAll ds)
  omega
theorem Sm.nil : ∀ d ∈ ([] : List PyData), Sm n m d := fun d h => nomatch h
theorem Sm.cons {n m : Nat} {d : PyData} {ds : List PyData} (h : Sm n m d) (r : ∀ d ∈ ds, Sm n m d) : ∀ x ∈ d :: ds, Sm n m x := fun x hx => (List.mem_cons.mp hx).elim (fun e => e ▸ h) (r x)
theorem sm_over : Sm 0 12 (.str "over") := Sm.str (by decide +kernel) (by decide +kernel)
theorem sm_under : Sm 0 12 (.str "under") := Sm.str (by decide +kernel) (by decide +kernel)
theorem sm_aim : Sm 0 12 (.str "aim") := Sm.str (by decide +kernel) (by decide +kernel)
theorem sm_load : Sm 0 12 (.str "load") := Sm.str (by decide +kernel) (by decide +kernel)
theorem sm_fail : Sm 0 12 (.str "fail") := Sm.str (by decide +kernel) (by decide +kernel)
theorem sm_part : Sm 0 12 (.str "part") := Sm.str (by decide +kernel) (by decide +kernel)
theorem sm_raise : Sm 0 12 (.str "raise") := Sm.str (by decide +kernel) (by decide +kernel)
theorem sm_undo : Sm 0 12 (.str "undo") := Sm.str (by decide +kernel) (by decide +kernel)
/-- the numbers of a part stay small -/
def smP : Part → Prop
  | .over m k => m.natAbs < 10 ^ 9 ∧ k.natAbs < 10 ^ 9
  | .under m k => m.natAbs < 10 ^ 9 ∧ k.natAbs < 10 ^ 9
  | .aim m l h => m.natAbs < 10 ^ 9 ∧ l.natAbs < 10 ^ 9 ∧ h.natAbs < 10 ^ 9
theorem sm_dPart {p : Part} (h : smP p) : Sm 1 80 (dPart p) := by
  cases p with
  | over m k => exact Sm.tup (Sm.cons sm_over (Sm.cons (Sm.int h.1) (Sm.cons (Sm.int h.2) Sm.nil))) (Nat.le_of_ble_eq_true rfl)
  | under m k => exact Sm.tup (Sm.cons sm_under (Sm.cons (Sm.int h.1) (Sm.cons (Sm.int h.2) Sm.nil))) (Nat.le_of_ble_eq_true rfl)
  | aim m l k => exact Sm.tup (Sm.cons sm_aim (Sm.cons (Sm.int h.1) (Sm.cons (Sm.int h.2.1) (Sm.cons (Sm.int h.2.2) Sm.nil)))) (Nat.le_of_ble_eq_true rfl)
theorem lay_dPart (p : Part) : SeqAt.shaped (dPart p) = true := by
  have w : ∀ x : Str, PyData.strOk x = true → ∀ ns : List Int, SeqAt.shaped (.tuple (.str x :: ns.map PyData.int)) = true := fun x hx ns => by
    have h1 : ∀ ns : List Int, PyData.canLayAll0 (ns.map PyData.int) = true ∧ PyData.depthAll (ns.map PyData.int) ≤ 0 := fun ns => by
      induction ns with
      | nil => exact ⟨by simp [PyData.canLayAll0], by simp [PyData.depthAll]⟩
      | cons n r ih => exact ⟨by simp [PyData.canLayAll0, PyData.canLay0, ih.1], by simp [PyData.depthAll, PyData.depth]; exact Nat.le_zero.mp ih.2⟩
    have h2 := (h1 ns).2
    unfold SeqAt.shaped
    rw [decide_eq_true (by simp only [PyData.depth, PyData.depthAll]; omega)]
    simp [PyData.canLay0, PyData.canLayAll0, hx, (h1 ns).1]
  cases p with
  | over m k => exact w "over" (by decide +kernel) [m, k]
  | under m k => exact w "under" (by decide +kernel) [m, k]
  | aim m l k => exact w "aim" (by decide +kernel) [m, l, k]
theorem lay_nil : SeqAt.shaped (.tuple []) = true := by simp [SeqAt.shaped, PyData.canLay0, PyData.canLayAll0, PyData.depth, PyData.depthAll]
end K74

/-! E0 -/
set_option Elab.async false
set_option linter.all false
set_option maxRecDepth 100000
set_option maxHeartbeats 4000000
namespace K74
open PySem PySem.Spec PyProof.Rows L2
open Evl hiding tCut pss_cut
/-! ### readings told by a word on their value -/
def EvP (te : TE) (σ : L2.St) (H : Hp) (Φ : V → Hp → Prop) : Prop := ∀ H1, Ex H H1 → ∀ Q : VK, (∀ v H2, Ex H1 H2 → Φ v H2 → Q v H2) → te σ H1 Q
section
variable {K : Frag} {σ : L2.St} {H H' : Hp} {ta tb te tl : TE} {x y z v : V} {r : R2}
theorem EvP.of {Φ : V → Hp → Prop} (h : Ev te σ H v) (p : ∀ H2, Ex H H2 → Φ v H2) : EvP te σ H Φ := fun H1 e Q q => h H1 e Q fun H2 e2 => q v H2 e2 (p H2 (e.trans e2))
theorem EvP.seq {a : Addr} {xs : List V} (h : Ev te σ H (.ref a)) (s : SqT K H a xs) : EvP te σ H (fun v H2 => ∃ a, v = .ref a ∧ SqT K H2 a xs) := EvP.of h fun H2 e => ⟨a, rfl, ex_t e s⟩
theorem EvP.seqL {a : Addr} {xs : List V} (h : Ev te σ H (.ref a)) (s : SqL K H a xs) : EvP te σ H (fun v H2 => ∃ a, v = .ref a ∧ SqL K H2 a xs) := EvP.of h fun H2 e => ⟨a, rfl, ex_l e s⟩
theorem EvP.newT {xs : List V} (h : EvU te σ H xs) : EvP te σ H (fun v H2 => ∃ a, v = .ref a ∧ SqT K H2 a xs) := fun H1 e Q q => h H1 e Q fun p H2 _ e2 l => q _ H2 e2 ⟨p, rfl, st_of l⟩
theorem EvP.newL {xs : List V} (h : EvL te σ H xs) : EvP te σ H (fun v H2 => ∃ a, v = .ref a ∧ SqL K H2 a xs) := fun H1 e Q q => h H1 e Q fun p H2 _ e2 l => q _ H2 e2 ⟨p, rfl, sq_of l⟩
/-- t[lo:hi] of a tuple -/
theorem cutV_whole {xs : List V} {lo hi : Option Int} (h : HT.sIx xs.length 0 lo = 0 ∧ HT.sIx xs.length xs.length hi = xs.length) : cutV xs lo hi = xs := by
  unfold cutV
  rw [h.1, h.2]
  simp
theorem ep_slA {tl th : TO} {a : Addr} {xs : List V} {lo hi : Option Int} (h : Ev te σ H (.ref a)) (h1 : EvO tl σ H lo) (h2 : EvO th σ H hi) (hs : SqT K H a xs) :
    EvP (tSl (rSlA K) te tl th) σ H (fun v H2 => ∃ a, v = .ref a ∧ SqT K H2 a (cutV xs lo hi)) := fun H0 e Q q => h H0 e _ fun H1 e1 => h1 H1 (e.trans e1) _ fun H2 e2 => h2 H2 ((e.trans e1).trans e2) _ fun H3 e3 => by
  have s := ex_t (((e.trans e1).trans e2).trans e3) hs
  refine ⟨a, xs, rfl, s, fun hw => q _ _ ((e1.trans e2).trans e3) ⟨a, rfl, ?_⟩, fun hw p hp => q _ _ (((e1.trans e2).trans e3).trans (Ex.new hp)) ⟨p, rfl, st_of upd_same⟩⟩
  rw [cutV_whole hw]
  exact s
/-- one argument, a new list -/
theorem ev_cbL {r : List V → Hp → VK → Prop} {xs : List V} (h : EvL te σ H xs) (hr : ∀ p H1, H1 p = some (.lst xs) → Ex H H1 → RC r [.ref p] H1 z) : Ev (tCB r (tCons te tNil)) σ H z :=
  fun H1 e Q q => h H1 e _ fun p H2 _ e2 l => hr p H2 l (e.trans e2) H2 (Ex.refl _) Q fun H3 e3 => q H3 (e2.trans e3)
theorem ev_all {bs : List Bool} (h : EvL te σ H (bs.map V.bl)) : Ev (tCB (rAll K) (tCons te tNil)) σ H (.bl (bs.all id)) :=
  ev_cbL h fun p H1 l _ H2 e Q q => ⟨p, bs, rfl, sq_of (e _ _ l), q _ (Ex.refl _)⟩
theorem ev_lenT {a : Addr} {xs : List V} (ha : Ev ta σ H (.ref a)) (h : SqT K H a xs) : Ev (tCB (rLenS K) (tCons ta tNil)) σ H (.int (xs.length : Int)) :=
  ev_cb (ea_cons ha ea_nil) fun H1 e Q q => ⟨a, xs, rfl, .inr (ex_t e h), q _ (Ex.refl _)⟩
theorem ev_isi {n : String} {t : Value} {b : Bool} (ha : Ev ta σ H x) (ht : ∀ H1, Ex H H1 → TyX K H1 x t) (hk : PySem.W.kitOne K t (.type n) = some b) : Ev (tCB (rIsi K) (tCons ta (tCons (tC (.ty n)) tNil))) σ H (.bl b) :=
  ev_cb (ea_cons ha (ea_cons ev_c ea_nil)) fun H1 e Q q => ⟨x, _, t, _, b, rfl, .ty n, ht H1 e, hk, q _ (Ex.refl _)⟩
theorem tyx_seq {a : Addr} {xs : List V} (s : SqT K H a xs) : ∀ H1, Ex H H1 → TyX K H1 (.ref a) (.type "tuple") := fun H1 e => tyx_tup (ex_t e s)
theorem tyx_i {i : Int} : ∀ H1, Ex H H1 → TyX K H1 (.int i) (.type "int") := fun _ _ => .base (.int i)
theorem tyx_s {i : Str} : ∀ H1, Ex H H1 → TyX K H1 (.str i) (.type "str") := fun _ _ => .base (.str i)
theorem ev_ixT {a : Addr} {xs : List V} {i : Int} (ha : Ev ta σ H (.ref a)) (h : SqT K H a xs) (hi : atI xs i = some v) : Ev (tOp (rIxT K) ta (tC (.int i))) σ H v := ev_op ha ev_c (rv_ixT h hi)
theorem ev_ixL {a : Addr} {xs : List V} {i : Int} (ha : Ev ta σ H (.ref a)) (h : SqL K H a xs) (hi : atI xs i = some v) : Ev (tOp (rIxL K) ta (tC (.int i))) σ H v := ev_op ha ev_c (rv_ixL h hi)
theorem ev_I {g : Int → Int → V} {i j : Int} (ha : Ev ta σ H (.int i)) (hb : Ev tb σ H (.int j)) : Ev (tOp (rI0 g) ta tb) σ H (g i j) := ev_op ha hb rv_I0
theorem ev_IC {C : Int → Int → Prop} {g : Int → Int → V} {i j : Int} (ha : Ev ta σ H (.int i)) (hb : Ev tb σ H (.int j)) (c : C i j) : Ev (tOp (rI C g) ta tb) σ H (g i j) := ev_op ha hb (rv_I c)
theorem ev_eq (ha : Ev ta σ H x) (hb : Ev tb σ H y) (h : scal x y = true) : Ev (tOp rEq ta tb) σ H (.bl (decide (x = y))) := ev_op ha hb (rv_eq h)
theorem ev_ne (ha : Ev ta σ H x) (hb : Ev tb σ H y) (h : scal x y = true) : Ev (tOp rNe ta tb) σ H (.bl (!decide (x = y))) := ev_op ha hb (rv_ne h)
theorem ev_eqD {d e : PyData} (ha : Ev ta σ H x) (hb : Ev tb σ H y) (h : Dp K H x d) (h' : Dp K H y e) (s1 : SeqAt.shaped d = true) (s2 : SeqAt.shaped e = true) : Ev (tOp (rEqD K) ta tb) σ H (.bl (PyData.eqv d e)) :=
  ev_op ha hb fun H1 e1 Q q => ⟨d, e, h.mv e1, h'.mv e1, s1, s2, q _ (Ex.refl _)⟩
theorem ev_neD {d e : PyData} (ha : Ev ta σ H x) (hb : Ev tb σ H y) (h : Dp K H x d) (h' : Dp K H y e) (s1 : SeqAt.shaped d = true) (s2 : SeqAt.shaped e = true) : Ev (tOp (rNeD K) ta tb) σ H (.bl (!PyData.eqv d e)) :=
  ev_op ha hb fun H1 e1 Q q => ⟨d, e, h.mv e1, h'.mv e1, s1, s2, q _ (Ex.refl _)⟩
/-- .. with what a tuple just made tells -/
theorem ev_eqDU {d : PyData} {ds : List PyData} {us : List V} (ha : Ev ta σ H x) (hb : EvU tb σ H us) (h : Dp K H x d) (h' : DpAll K H us ds) (s1 : SeqAt.shaped d = true) (s2 : SeqAt.shaped (.tuple ds) = true) : Ev (tOp (rEqD K) ta tb) σ H (.bl (PyData.eqv d (.tuple ds))) :=
  ev_opU ha hb fun p H1 l e1 H2 e2 Q q => ⟨d, _, h.mv (e1.trans e2), .tup (st_of (e2 _ _ l)) (h'.mv (e1.trans e2)), s1, s2, q _ (Ex.refl _)⟩
theorem ev_isN (ha : Ev ta σ H x) : Ev (tOp (fun x y H Q => y = V.non ∧ Q (.bl (decide (x = V.non))) H) ta (tC .non)) σ H (.bl (decide (x = .non))) := ev_op ha ev_c fun H1 e Q q => ⟨rfl, q _ (Ex.refl _)⟩
theorem ev_notN (ha : Ev ta σ H x) : Ev (tOp (fun x y H Q => y = V.non ∧ Q (.bl (!decide (x = V.non))) H) ta (tC .non)) σ H (.bl (!decide (x = .non))) := ev_op ha ev_c fun H1 e Q q => ⟨rfl, q _ (Ex.refl _)⟩
theorem ev_chain {r r' : R2} {tc : TE} {b b' : Bool} (ha : Ev ta σ H x) (hb : Ev tb σ H y) (hc : Ev tc σ H z) (h1 : RV r x y H (.bl b)) (h2 : RV r' y z H (.bl b')) : Ev (tChain r r' ta tb tc) σ H (.bl (b && b')) := fun H0 e Q q =>
  ha H0 e _ fun H1 e1 => hb H1 (e.trans e1) _ fun H2 e2 => h1 H2 ((e.trans e1).trans e2) _ fun H3 e3 => ⟨b, rfl, by
    have e4 := ((e.trans e1).trans e2).trans e3
    cases b with
    | true => exact iteT (hc H3 e4 _ fun H4 e5 => h2 H4 (e4.trans e5) Q fun H5 e6 => q H5 ((((e1.trans e2).trans e3).trans e5).trans e6))
    | false => exact iteF (q H3 ((e1.trans e2).trans e3))⟩
theorem ev_fld {a C dx : Addr} {fs : List (Str × V)} {f : Str} (ha : Ev ta σ H (.ref a)) (h : H a = some (.ins C dx fs)) (c : Cls K C) (n : NoAttr K C f) (l : fs.lookup f = some v) : Ev (tFld K ta f) σ H v := fun H0 e Q q =>
  ha H0 e _ fun H1 e1 => ⟨a, C, dx, fs, v, rfl, e1 _ _ (e _ _ h), c, n, l, q _ e1⟩
theorem ev_prop {a C dx : Addr} {fs : List (Str × V)} {sp : Sp} {E : XK} (ha : Ev ta σ H (.ref a)) (h : H a = some (.ins C dx fs)) (s : SpV sp [.ref a] H v) : Ev (tProp C sp [] E ta) σ H v := fun H0 e Q q =>
  ha H0 e _ fun H1 e1 => ⟨a, dx, fs, rfl, e1 _ _ (e _ _ h), s H1 (e.trans e1) Q (fun H2 e2 => q H2 (e1.trans e2)) E⟩
theorem ev_callS {sp : Sp} {vs : List V} {E : XK} {ta : TA} (h : EvA ta σ H vs) (hs : SpV sp vs H z) : Ev (tCall sp [] E ta) σ H z := ev_call h (by rw [List.append_nil]; exact hs)
/-! a list made of the items of a sequence -/
theorem yes_of {Q : Bool → Hp → Prop} (h : Q true H) : tYes σ H Q := h
theorem cw_map {te : TE} {ys : List V} {H1 H' : Hp} {Dl : Addr} {i : Nat} {σ2 : L2.St} {y : V} (p : H1 Dl = none ∧ Ex H1 H' ∧ H' Dl = some (.lst (ys.take i))) (hz : ys.length ≤ 40000) (hy : ys[i]? = some y) (he : Ev te σ2 H1 y) :
    te σ2 H' fun v H4 => ∃ acc, H4 Dl = some (.lst acc) ∧ acc.length < sizeLine ∧ (H1 Dl = none ∧ Ex H1 (upd H4 Dl (.lst (acc ++ [v]))) ∧ (upd H4 Dl (.lst (acc ++ [v]))) Dl = some (.lst (ys.take (i + 1)))) := by
  obtain ⟨p1, p2, p3⟩ := p
  refine he H' p2 _ fun H4 e4 => ⟨ys.take i, e4 Dl _ p3, sz_lt ?_, p1, Ex.mut (p2.trans e4) p1, ?_⟩
  · rw [List.length_take]
    omega
  · rw [upd_same, List.take_add_one, hy]
    rfl
theorem el_mapT {xs ys : List V} {j : Nat} {vs : List Nat} (h : EvP tl σ H (fun v H2 => ∃ a, v = .ref a ∧ SqT K H2 a xs)) (hz : xs.length ≤ 40000) (hl : ys.length = xs.length) (hw : ∀ x, wipe ((wipe σ vs).set j (some x)) vs = wipe σ vs)
    (he : ∀ (i : Nat) (x y : V) H1, Ex H H1 → xs[i]? = some x → ys[i]? = some y → Ev te ((wipe σ vs).set j (some x)) H1 y) : EvL (tLc (iTup K tl) (gName j) tYes te vs) σ H ys := fun H0 e Q q => h H0 e _ fun v H1 e1 ⟨a, ev, hx⟩ => ⟨a, ev, ⟨xs, hx⟩, fun Dl hD =>
  lc_tup (xs := xs) (fun i H' => H1 Dl = none ∧ Ex H1 H' ∧ H' Dl = some (.lst (ys.take i))) ⟨hD, Ex.new hD, upd_same⟩ (fun i H' _ p => ex_t p.2.1 hx) (fun i x H' hi p => ⟨hw x, by
      have hlt := (List.getElem?_eq_some_iff.mp hi).1
      have hy : ys[i]? = some ys[i] := List.getElem?_eq_getElem (by omega)
      refine yes_of ?_
      rw [if_pos rfl]
      exact cw_map p (by omega) hy (he i x _ H1 (e.trans e1) hi hy)⟩)
    (fun H' p => q Dl H' (fresh_back e1 p.1) (e1.trans p.2.1) (by rw [p.2.2, List.take_of_length_le (by omega)]))⟩
theorem el_mapL {xs ys : List V} {j : Nat} {vs : List Nat} (h : EvP tl σ H (fun v H2 => ∃ a, v = .ref a ∧ SqL K H2 a xs)) (hz : xs.length ≤ 40000) (hl : ys.length = xs.length) (hw : ∀ x, wipe ((wipe σ vs).set j (some x)) vs = wipe σ vs)
    (he : ∀ (i : Nat) (x y : V) H1, Ex H H1 → xs[i]? = some x → ys[i]? = some y → Ev te ((wipe σ vs).set j (some x)) H1 y) : EvL (tLc (iList K tl) (gName j) tYes te vs) σ H ys := fun H0 e Q q => h H0 e _ fun v H1 e1 ⟨a, ev, hx⟩ => ⟨a, ev, ⟨xs, hx⟩, fun Dl hD =>
  lc_list (xs := xs) (fun i H' => H1 Dl = none ∧ Ex H1 H' ∧ H' Dl = some (.lst (ys.take i))) ⟨hD, Ex.new hD, upd_same⟩ (fun i H' _ p => ex_l p.2.1 hx) (fun i x H' hi p => ⟨hw x, by
      have hlt := (List.getElem?_eq_some_iff.mp hi).1
      have hy : ys[i]? = some ys[i] := List.getElem?_eq_getElem (by omega)
      refine yes_of ?_
      rw [if_pos rfl]
      exact cw_map p (by omega) hy (he i x _ H1 (e.trans e1) hi hy)⟩)
    (fun H' p => q Dl H' (fresh_back e1 p.1) (e1.trans p.2.1) (by rw [p.2.2, List.take_of_length_le (by omega)]))⟩
end
end K74

/-! E1 -/
set_option Elab.async false
set_option linter.all false
set_option maxRecDepth 100000
set_option maxHeartbeats 4000000
namespace K74
open PySem PySem.Spec PyProof.Rows L2
open Evl hiding tCut pss_cut
section
variable {P : Program} {w : World} {K : Frag} {mg : Str → Option Value} {base : Heap}
/-! is_integer -/
def sp_is_integer : Sp := fun vs H Q _ => ∃ i : Int, vs = [.int i] ∧ Q (.bl true) H
theorem sc_is_integer : FnScope ["thing"] ["thing"] (defScope s_is_integer) := ⟨rfl, rfl, rfl, by decide +kernel, rfl, by decide +kernel, by decide +kernel⟩
theorem ok_is_integer (T : Txt w K mg) : FB P w K mg base 1 (He.ga K "is_integer") ["thing"] sp_is_integer := by
  refine FB.of T.F_is_integer sc_is_integer (fun _ _ _ _ _ _ us hl => match us, hl with | [_], _ => rfl) (by rintro vs H Q E ⟨_, rfl, _⟩; rfl) (fun cdv A outer s H vs Q E hr h => ?_)
  obtain ⟨i, rfl, k⟩ := h
  refine ⟨_, pss_one (ps_ret (pe_and (pe_callB call_isi (by rfl) T.f_isinstance (by decide +kernel) (pa_cons (pv 0) (pa_cons (pe_bltn (by rfl) T.f_int (by decide +kernel) (v := .ty "int") rfl) pa_nil)))
    (pe_one (pe_not (pe_callB call_isi (by rfl) T.f_isinstance (by decide +kernel) (pa_cons (pv 0) (pa_cons (pe_bltn (by rfl) T.f_bool (by decide +kernel) (v := .ty "bool") rfl) pa_nil))))))), ?_⟩
  refine ⟨_, rfl, _, _, _, _, true, rfl, .ty _, .base (.int _), kit_ty (by decide +kernel), _, rfl, ?_⟩
  refine iteT ⟨_, rfl, _, _, _, _, false, rfl, .ty _, .base (.int _), kit_ty (by decide +kernel), _, rfl, k⟩
theorem v_is_integer {H : Hp} {i : Int} : SpV sp_is_integer [.int i] H (.bl true) := fun H1 e Q q E => ⟨i, rfl, q H1 (Ex.refl _)⟩
/-! divisor -/
def sp_divisor : Sp := fun vs H Q _ => ∃ a b : Int, vs = [.int a, .int b] ∧ 0 ≤ a ∧ 0 ≤ b ∧ Q (.int (Int.gcd a b)) H
theorem sc_divisor : FnScope ["one", "other"] ["one", "other"] (defScope s_divisor) := ⟨rfl, rfl, rfl, by decide +kernel, rfl, by decide +kernel, by decide +kernel⟩
theorem gcd_step {a b : Int} (ha : 0 ≤ a) (hb : 0 < b) : Int.gcd b (a % b) = Int.gcd a b := by
  obtain ⟨m, rfl⟩ := Int.eq_ofNat_of_zero_le ha
  obtain ⟨n, rfl⟩ := Int.eq_ofNat_of_zero_le (by omega : 0 ≤ b)
  show Nat.gcd n (m % n) = Nat.gcd m n
  rw [Nat.gcd_comm n (m % n), Nat.gcd_comm m n, Nat.gcd_rec n m]
theorem kit_tt : PySem.W.kitOne K (.type "tuple") (.type "tuple") = some true := kit_ty (by decide +kernel)
theorem kit_ss : PySem.W.kitOne K (.type "str") (.type "str") = some true := kit_ty (by decide +kernel)
theorem ok_divisor (T : Txt w K mg) : FB P w K mg base 1 (He.ga K "divisor") ["one", "other"] sp_divisor := by
  refine FB.of T.F_divisor sc_divisor (fun _ _ _ _ _ _ us hl => match us, hl with | [_, _], _ => rfl) (by rintro vs H Q E ⟨_, _, rfl, _⟩; rfl) (fun cdv A outer s H vs Q E hr h => ?_)
  refine ⟨_, (pss_cons (ps_while (passes_of rfl) (pt_cmpR op_gt (pv 1) pe_int (nomark _)) (pss_one (ps_par rfl sc_divisor.nd (i := 0) (j := 1) rfl rfl (by decide) rfl rfl (pa_cons (pv 1) (pa_cons (pe_op op_mod (pv 0) (pv 1)) pa_nil)) (by rfl))))
    (pss_one (ps_ret (pv 0)))), ?_⟩
  obtain ⟨a, b, rfl, ha, hb, k⟩ := h
  refine while_by (fun σ H' => ∃ a' b' : Int, σ = start ["one", "other"] [.int a', .int b'] ∧ H' = H ∧ 0 ≤ a' ∧ 0 ≤ b' ∧ Int.gcd a' b' = Int.gcd a b) (fun σ _ => match σ[1]? with | some (some (V.int i)) => i.toNat | _ => 0) ⟨a, b, rfl, rfl, ha, hb, rfl⟩ (fun σ H' h => ?_) (fun σ H Q Q' hq h => ?_)
  · obtain ⟨a', b', rfl, rfl, ha', hb', g⟩ := h
    refine ⟨_, rfl, _, _, rfl, rfl, _, rfl, ite2 (fun h => ?_) (fun h => ?_)⟩
    · have hlt : 0 < b' := of_decide_eq_true h
      refine ⟨_, rfl, _, rfl, _, rfl, _, _, rfl, rfl, hlt, _, _, rfl, ⟨b', a' % b', rfl, rfl, hb', Int.emod_nonneg _ (by omega), ?_⟩, ?_⟩
      · rw [gcd_step ha' hlt, g]
      · show (a' % b').toNat < b'.toNat
        have := Int.emod_lt_of_pos a' hlt
        omega
    · have hn : ¬ 0 < b' := fun z => h (decide_eq_true z)
      have h0 : b' = 0 := by omega
      subst h0
      refine ⟨_, rfl, ?_⟩
      rw [Int.gcd_zero_right] at g
      have e : a' = (Int.gcd a b : Int) := by rw [← g]; omega
      rw [e]
      exact k
  · obtain ⟨v, e, x, y, e1, e2, k, e3, q⟩ := h
    exact ⟨v, e, x, y, e1, e2, k, e3, hq _ _ q⟩
theorem v_divisor {H : Hp} {a b : Int} (ha : 0 ≤ a) (hb : 0 ≤ b) : SpV sp_divisor [.int a, .int b] H (.int (Int.gcd a b)) := fun H1 e Q q E => ⟨a, b, rfl, ha, hb, q H1 (Ex.refl _)⟩
/-! is_load -/
structure LdT (K : Frag) (H : Hp) (v : V) (t b : Int) : Prop where
  at_ : ∃ a, v = .ref a ∧ SqT K H a [.int t, .int b]
  t0 : 0 ≤ t
  b1 : 1 ≤ b
  g : Int.gcd t b = 1
def sp_is_load (K : Frag) : Sp := fun vs H Q _ => ∃ v t b, vs = [v] ∧ LdT K H v t b ∧ ∀ H', Same H H' → Q (.bl true) H'
theorem sc_is_load : FnScope ["thing", "part"] ["thing"] (defScope s_is_load) := ⟨rfl, rfl, rfl, by decide +kernel, rfl, by decide +kernel, by decide +kernel⟩
theorem ok_is_load (T : Txt w K mg) : FB P w K mg base 3 (He.ga K "is_load") ["thing"] (sp_is_load K) := by
  refine FB.of T.F_is_load sc_is_load (fun _ _ _ _ _ _ us hl => match us, hl with | [_], _ => rfl) (by rintro vs H Q E ⟨_, _, _, rfl, _⟩; rfl) (fun cdv A outer s H vs Q E hr h => ?_)
  refine ⟨_, (pss_cons (ps_if (PW.pt (pw_or (pt_not (pt_val (pe_callB call_isi (by rfl) T.f_isinstance (by decide +kernel) (pa_cons (pv 0) (pa_cons (pe_bltn (by rfl) T.f_tuple (by decide +kernel) (v := .ty "tuple") rfl) pa_nil))))) (pw_or (pt_cmpR op_ne (pe_callB call_len_seq (by rfl) T.f_len (by decide +kernel) (pa_cons (pv 0) pa_nil)) pe_int (nomark _)) (pw_or1 (pt_not (pt_val (pe_callB (cr_all rfl) (by rfl) T.f_all (by decide +kernel) (pa_cons (pe_lc (own := [("part", 1)]) (g := gName 1) (tt := tYes) rfl sc_is_load.nd (pi_tup (pv 0)) (blkOk_by (own := [("part", 1)]) (N := ["thing", "part"]) (sc := defScope s_is_load) (by decide +kernel)) (fun _ _ _ _ _ => pg_name (i := 1) sc_is_load.nd rfl (Or.inl rfl)) (fun _ _ _ _ _ => pts_nil) (fun _ _ _ _ _ => (pe_callF (ok_is_integer T) (hr.mono (by decide)) (by rfl) T.g_is_integer passL (pa_cons (pv 1) pa_nil)))) pa_nil))))))))
    (pss_one (ps_ret pe_bl))
    pss_nil)
    (pss_one (ps_ret (pe_and (pe_cmpR op_ge (pe_ix ix_tup (pv 0) pe_int (fun _ _ => rfl)) pe_int (nomark _)) (pe_and (pe_cmpR op_ge (pe_ix ix_tup (pv 0) pe_int (fun _ _ => rfl)) pe_int (nomark _)) (pe_one (pe_cmpR op_eq (pe_callF (ok_divisor T) (hr.mono (by decide)) (by rfl) T.g_divisor passL (pa_cons (pe_ix ix_tup (pv 0) pe_int (fun _ _ => rfl)) (pa_cons (pe_ix ix_tup (pv 0) pe_int (fun _ _ => rfl)) pa_nil))) pe_int (nomark _)))))))), ?_⟩
  obtain ⟨_, t, b, rfl, ⟨⟨a, rfl, sq⟩, ht, hb, hg⟩, k⟩ := h
  refine q_when (b := false) (et_is (et_or (et_not (et_B (ev_isi (ev_var rfl) (tyx_seq sq) kit_tt))) fun _ => et_or (et_test (ev_ne (ev_lenT (ev_var rfl) sq) ev_c rfl)) fun _ => et_not (et_B (ev_all (bs := [true, true]) (el_mapT (xs := [.int t, .int b]) (ys := [.bl true, .bl true]) (EvP.seq (ev_var rfl) sq) (Nat.le_of_ble_eq_true rfl) rfl (fun _ => rfl) ?_)))) rfl) (fun h => nomatch h) (fun _ H1 e1 => ?_)
  · intro i x y H1 e hx hy
    match i, hx, hy with
    | 0, hx, hy => cases hx; cases hy; exact ev_callS (ea_cons (ev_var rfl) ea_nil) v_is_integer
    | 1, hx, hy => cases hx; cases hy; exact ev_callS (ea_cons (ev_var rfl) ea_nil) v_is_integer
  · have sq1 := ex_t e1 sq
    refine s_ret (ev_is (ev_andV (ev_I (ev_ixT (ev_var rfl) sq1 rfl) ev_c) fun _ => ev_andV (ev_I (ev_ixT (ev_var rfl) sq1 rfl) ev_c) fun _ => ev_eq (ev_callS (ea_cons (ev_ixT (ev_var rfl) sq1 rfl) (ea_cons (ev_ixT (ev_var rfl) sq1 rfl) ea_nil)) (v_divisor ht (by omega))) ev_c rfl) ?_) (fun H2 e2 => k H2 (e1.trans e2))
    rw [hg, decide_eq_true ht, decide_eq_true hb]
    rfl
theorem v_is_load {H : Hp} {v : V} {t b : Int} (h : ∀ H1, Ex H H1 → LdT K H1 v t b) : SpV (sp_is_load K) [v] H (.bl true) := fun H1 e Q q E => ⟨v, t, b, rfl, h H1 e, q⟩
end
end K74

/-! E2 -/
set_option Elab.async false
set_option linter.all false
set_option maxRecDepth 100000
set_option maxHeartbeats 4000000
namespace K74
open PySem PySem.Spec PyProof.Rows L2
open Evl hiding tCut pss_cut
section
variable {P : Program} {w : World} {K : Frag} {mg : Str → Option Value} {base : Heap}
theorem ev_kget {σ : L2.St} {H : Hp} {te tf : TE} {k : Str} {d : Addr} {v z : V} (ha : Ev te σ H (.str k)) (hb : Ev tf σ H z) (h : ∃ u, PySem.W.nsIn K d k = some (some u) ∧ RelV v u) : Ev (tKGet K d te tf) σ H v := fun H0 e Q q =>
  ha H0 e _ fun H1 e1 => hb H1 (e.trans e1) _ fun H2 e2 => by
    obtain ⟨u, e3, r⟩ := h
    exact ⟨k, u, v, rfl, e3, r, q _ (e1.trans e2)⟩
theorem nb : ∀ {b : Bool}, (!b) = true → b = false := by decide
theorem nbf : ∀ {b : Bool}, (!b) = false → b = true := by decide
/-! tuples of scalars -/
def sV : PyData → V
  | .int i => .int i
  | .str x => .str x
  | .bool b => .bl b
  | _ => .non
def sB : PyData → Bool
  | .int _ => true
  | .str _ => true
  | .bool _ => true
  | .none => true
  | _ => false
theorem Dp.sc {H : Hp} {v : V} {d : PyData} (h : Dp K H v d) (b : sB d = true) : v = sV d := by
  cases h with
  | non => rfl
  | bl b => rfl
  | int i => rfl
  | str x => rfl
  | lst _ _ => cases b
  | tup _ _ => cases b
theorem DpAll.sc {H : Hp} : ∀ {ds : List PyData} {vs : List V}, DpAll K H vs ds → ds.all sB = true → vs = ds.map sV
  | [], _, h, _ => by cases h; rfl
  | d :: ds, _, h, b => by
    cases h with
    | cons x y =>
      rw [List.all_cons, Bool.and_eq_true] at b
      rw [Dp.sc x b.1, DpAll.sc y b.2]
      rfl
theorem Dp.ofSc {H : Hp} : ∀ {d : PyData}, sB d = true → Dp K H (sV d) d
  | .none, _ => .non
  | .bool b, _ => .bl b
  | .int i, _ => .int i
  | .str x, _ => .str x
  | .list _, h => nomatch h
  | .tuple _, h => nomatch h
  | .dict _, h => nomatch h
theorem DpAll.ofSc {H : Hp} : ∀ {ds : List PyData}, ds.all sB = true → DpAll K H (ds.map sV) ds
  | [], _ => .nil
  | d :: ds, b => by
    rw [List.all_cons, Bool.and_eq_true] at b
    exact .cons (Dp.ofSc b.1) (DpAll.ofSc b.2)
theorem datI {H : Hp} {v : V} {ds : List PyData} (h : Dp K H v (.tuple ds)) (b : ds.all sB = true) : ∃ a, v = .ref a ∧ SqT K H a (ds.map sV) := by
  obtain ⟨a, xs, rfl, s, r⟩ := Dp.tupI h
  rw [DpAll.sc r b] at s
  exact ⟨a, rfl, s⟩
theorem datM {H : Hp} {a : Addr} {ds : List PyData} (s : SqT K H a (ds.map sV)) (b : ds.all sB = true) : Dp K H (.ref a) (.tuple ds) := .tup s (DpAll.ofSc b)
theorem LdT.mv {H H' : Hp} {v : V} {t b : Int} (h : LdT K H v t b) (e : Ex H H') : LdT K H' v t b := by
  obtain ⟨⟨a, ea, s⟩, x, y, z⟩ := h
  exact ⟨⟨a, ea, ex_t e s⟩, x, y, z⟩
theorem LdT.of {H : Hp} {v : V} {l : Ld} (h : Dp K H v (dLd l)) (o : okLd l) : LdT K H v l.1 l.2 := ⟨datI (ds := [.int l.1, .int l.2]) h rfl, o.t0, o.b1, o.g⟩
/-! need_load -/
def sp_need_load (K : Frag) : Sp := fun vs H Q _ => ∃ v t b, vs = [v] ∧ LdT K H v t b ∧ ∀ H', Same H H' → Q .non H'
theorem sc_need_load : FnScope ["thing"] ["thing"] (defScope s_need_load) := ⟨rfl, rfl, rfl, by decide +kernel, rfl, by decide +kernel, by decide +kernel⟩
theorem ok_need_load (T : Txt w K mg) : FB P w K mg base 4 (He.ga K "need_load") ["thing"] (sp_need_load K) := by
  refine FB.of T.F_need_load sc_need_load (fun _ _ _ _ _ _ us hl => match us, hl with | [_], _ => rfl) (by rintro vs H Q E ⟨_, _, _, rfl, _⟩; rfl) (fun cdv A outer s H vs Q E hr h => ?_)
  refine ⟨_, (pss_one (ps_if (pt_not (pt_val (pe_callF (ok_is_load T) (hr.mono (by decide)) (by rfl) T.g_is_load passL (pa_cons (pv 0) pa_nil))))
    (pss_one ps_never)
    pss_nil)), ?_⟩
  obtain ⟨v, t, b, rfl, hl, k⟩ := h
  exact s_when (b := false) (et_not (et_B (ev_callS (ea_cons (ev_var rfl) ea_nil) (v_is_load fun H1 e => hl.mv e)))) (fun h => nomatch h) (fun _ H1 e1 => k H1 e1)
/-! is_between -/
def sp_is_between (K : Frag) : Sp := fun vs H Q _ => ∃ x lo hi : Int, vs = [.int x, .int lo, .int hi] ∧ Q (.bl (decide (lo ≤ x) && decide (x ≤ hi))) H
theorem sc_is_between : FnScope ["thing", "low", "high"] ["thing", "low", "high"] (defScope s_is_between) := ⟨rfl, rfl, rfl, by decide +kernel, rfl, by decide +kernel, by decide +kernel⟩
theorem ok_is_between (T : Txt w K mg) : FB P w K mg base 2 (He.ga K "is_between") ["thing", "low", "high"] (sp_is_between K) := by
  refine FB.of T.F_is_between sc_is_between (fun _ _ _ _ _ _ us hl => match us, hl with | [_, _, _], _ => rfl) (by rintro vs H Q E ⟨_, _, _, rfl, _⟩; rfl) (fun cdv A outer s H vs Q E hr h => ?_)
  refine ⟨_, (pss_one (ps_ret (pe_and (pe_callF (ok_is_integer T) (hr.mono (by decide)) (by rfl) T.g_is_integer passL (pa_cons (pv 0) pa_nil)) (pe_one (pe_chain op_le op_le (pv 1) (pv 0) (pv 2)))))), ?_⟩
  obtain ⟨x, lo, hi, rfl, k⟩ := h
  refine ⟨_, rfl, ⟨x, rfl, true, rfl, iteT ⟨_, rfl, _, rfl, _, _, rfl, rfl, _, rfl, ite2 (fun h => ⟨_, rfl, _, _, rfl, rfl, ?_⟩) (fun h => ?_)⟩⟩⟩
  · rw [h] at k
    exact k
  · rw [Bool.eq_false_iff.mpr h] at k
    exact k
theorem v_is_between {H : Hp} {x lo hi : Int} : SpV (sp_is_between K) [.int x, .int lo, .int hi] H (.bl (decide (lo ≤ x) && decide (x ≤ hi))) := fun H1 e Q q E => ⟨x, lo, hi, rfl, q H1 (Ex.refl _)⟩
/-! is_part -/
def sp_is_part (K : Frag) : Sp := fun vs H Q _ => ∃ v p, vs = [v] ∧ Dp K H v (dPart p) ∧ ∀ H', Same H H' → Q (.bl (okP p)) H'
def pV : Part → List V
  | .over m k => [.str "over", .int m, .int k]
  | .under m k => [.str "under", .int m, .int k]
  | .aim m l h => [.str "aim", .int m, .int l, .int h]
theorem part_at {H : Hp} {v : V} {p : Part} (h : Dp K H v (dPart p)) : ∃ a, v = .ref a ∧ SqT K H a (pV p) := by
  cases p with
  | over m k => exact datI (ds := [.str "over", .int m, .int k]) h rfl
  | under m k => exact datI (ds := [.str "under", .int m, .int k]) h rfl
  | aim m l hh => exact datI (ds := [.str "aim", .int m, .int l, .int hh]) h rfl
/-- the marks: all but the first -/
theorem v_marks {te : TE} {σ : L2.St} {H : Hp} {a : Addr} {xs : List V} {ns : List Int} (h : Ev te σ H (.ref a)) (sq : SqT K H a xs) (e : cutV xs (some 1) none = ns.map V.int) : EvP (tSl (rSlA K) te (tPart (tC (.int 1))) tNoPart) σ H (fun v H2 => ∃ a, v = .ref a ∧ SqT K H2 a (ns.map V.int)) := by
  rw [← e]
  exact ep_slA h (eo_some ev_c) eo_none sq
theorem sc_is_part : FnScope ["thing", "one"] ["thing"] (defScope s_is_part) := ⟨rfl, rfl, rfl, by decide +kernel, rfl, by decide +kernel, by decide +kernel⟩
theorem ok_is_part (T : Txt w K mg) : FB P w K mg base 4 (He.ga K "is_part") ["thing"] (sp_is_part K) := by
  obtain ⟨tHIGHEST_MARK, hHIGHEST_MARK⟩ := T.i_HIGHEST_MARK
  obtain ⟨tMOST_SERVERS, hMOST_SERVERS⟩ := T.i_MOST_SERVERS
  obtain ⟨esSIZES, nSIZES, hKSIZES⟩ := T.sz
  refine FB.of T.F_is_part sc_is_part (fun _ _ _ _ _ _ us hl => match us, hl with | [_], _ => rfl) (by rintro vs H Q E ⟨_, _, rfl, _⟩; rfl) (fun cdv A outer s H vs Q E hr h => ?_)
  refine ⟨_, (pss_cons (ps_if (PW.pt (pw_or (pt_not (pt_val (pe_callB call_isi (by rfl) T.f_isinstance (by decide +kernel) (pa_cons (pv 0) (pa_cons (pe_bltn (by rfl) T.f_tuple (by decide +kernel) (v := .ty "tuple") rfl) pa_nil))))) (pw_or (pt_cmpR (op_eqD hr.units) (pv 0) (pe_tup pa_nil) (nomark _)) (pw_or1 (pt_not (pt_val (pe_callB call_isi (by rfl) T.f_isinstance (by decide +kernel) (pa_cons (pe_ix ix_tup (pv 0) pe_int (fun _ _ => rfl)) (pa_cons (pe_bltn (by rfl) T.f_str (by decide +kernel) (v := .ty "str") rfl) pa_nil)))))))))
    (pss_one (ps_ret pe_bl))
    pss_nil)
    (pss_cons (ps_if (PW.pt (pw_or (pt_cmpR op_ne (pe_kget hKSIZES (by decide) (by rfl) T.g_SIZES (pe_ix ix_tup (pv 0) pe_int (fun _ _ => rfl)) pe_int ⟨by rfl, by rfl, by rfl, by rfl⟩) (pe_callB call_len_seq (by rfl) T.f_len (by decide +kernel) (pa_cons (pv 0) pa_nil)) (nomark _)) (pw_or1 (pt_not (pt_val (pe_callB (cr_all rfl) (by rfl) T.f_all (by decide +kernel) (pa_cons (pe_lc (own := [("one", 1)]) (g := gName 1) (tt := tYes) rfl sc_is_part.nd (pi_tup (pe_slice sl_tupA (pv 0) (po_some pe_int) po_none)) (blkOk_by (own := [("one", 1)]) (N := ["thing", "one"]) (sc := defScope s_is_part) (by decide +kernel)) (fun _ _ _ _ _ => pg_name (i := 1) sc_is_part.nd rfl (Or.inl rfl)) (fun _ _ _ _ _ => pts_nil) (fun _ _ _ _ _ => (pe_callF (ok_is_between T) (hr.mono (by decide)) (by rfl) T.g_is_between passL (pa_cons (pv 1) (pa_cons pe_int (pa_cons (pe_glob (v := .int 60) (by rfl) hHIGHEST_MARK ⟨_, rfl⟩) pa_nil)))))) pa_nil)))))))
    (pss_one (ps_ret pe_bl))
    pss_nil)
    (pss_cons (ps_if (pt_cmpR op_eq (pe_ix ix_tup (pv 0) pe_int (fun _ _ => rfl)) pe_str (nomark _))
    (pss_one (ps_ret (pe_chain op_le op_le (pe_ix ix_tup (pv 0) pe_int (fun _ _ => rfl)) (pe_ix ix_tup (pv 0) pe_int (fun _ _ => rfl)) (pe_ix ix_tup (pv 0) pe_int (fun _ _ => rfl)))))
    pss_nil)
    (pss_one (ps_ret (pe_cmpR op_le (pe_ix ix_tup (pv 0) pe_int (fun _ _ => rfl)) (pe_glob (v := .int 8) (by rfl) hMOST_SERVERS ⟨_, rfl⟩) (nomark _))))))), ?_⟩
  obtain ⟨v, p, rfl, hd, k⟩ := h
  obtain ⟨a, rfl, sq⟩ := part_at hd
  have mk : ∀ (i : Int) (H1 : Hp) (σ : L2.St), σ[1]? = some (some (.int i)) → Ev (tCall (sp_is_between K) [] E0 (tCons (tVar 1) (tCons (tC (.int 1)) (tCons (tC (.int 60)) tNil)))) σ H1 (.bl (mk60 i)) := fun i H1 σ e => ev_callS (ea_cons (ev_var e) (ea_cons ev_c (ea_cons ev_c ea_nil))) v_is_between
  cases p with
  | over m n =>
    obtain ⟨u, eu⟩ := T.sizes (q := ("over", .int 3)) (by simp)
    refine q_when (b := false) (et_is (et_or (et_not (et_B (ev_isi (ev_var rfl) (tyx_seq sq) kit_tt))) fun _ => et_or (et_test (ev_eqDU (ev_var rfl) (eu_tup ea_nil (Nat.le_of_ble_eq_true rfl)) hd .nil (lay_dPart _) lay_nil)) fun _ => et_not (et_B (ev_isi (ev_ixT (ev_var rfl) sq rfl) tyx_s kit_ss))) rfl) (fun h => nomatch h) (fun _ H1 e1 => ?_)
    have sq1 := ex_t e1 sq
    refine q_when (b := !(mk60 m && mk60 n)) (et_is (et_or (et_test (ev_ne (ev_kget (ev_ixT (ev_var rfl) sq1 rfl) ev_c ⟨u, eu⟩) (ev_lenT (ev_var rfl) sq1) rfl)) fun _ => et_not (et_B (ev_all (bs := [mk60 m, mk60 n]) (el_mapT (xs := [.int m, .int n]) (v_marks (ns := [m, n]) (ev_var rfl) sq1 rfl) (Nat.le_of_ble_eq_true rfl) rfl (fun _ => rfl) ?_)))) ?_) (fun h H2 e2 => s_ret ev_c fun H3 e3 => ?_) (fun h H2 e2 => ?_)
    · intro i x y H3 e hx hy
      match i, hx, hy with
      | 0, hx, hy => cases hx; cases hy; exact mk _ _ _ rfl
      | 1, hx, hy => cases hx; cases hy; exact mk _ _ _ rfl
    · show (_ || !(mk60 m && (mk60 n && true))) = _
      rw [Bool.and_true]
      rfl
    · have e4 : okP (.over m n) = false := by
        show (mk60 m && mk60 n && decide (n ≤ 8)) = false
        rw [nb h]
        rfl
      rw [e4] at k
      exact k H3 ((e1.trans e2).trans e3)
    · have sq2 := ex_t e2 sq1
      refine q_when (b := false) (et_is (et_test (ev_eq (ev_ixT (ev_var rfl) sq2 rfl) ev_c rfl)) (by decide)) (fun h => nomatch h) (fun _ H3 e3 => ?_)
      refine s_ret (ev_I (ev_ixT (ev_var rfl) (ex_t e3 sq2) rfl) ev_c) fun H4 e4 => ?_
      have e5 : okP (.over m n) = decide (n ≤ 8) := by
        show (mk60 m && mk60 n && decide (n ≤ 8)) = _
        rw [show (mk60 m && mk60 n) = true from nbf h]
        rfl
      rw [e5] at k
      exact k H4 (((e1.trans e2).trans e3).trans e4)
  | under m n =>
    obtain ⟨u, eu⟩ := T.sizes (q := ("under", .int 3)) (by simp)
    refine q_when (b := false) (et_is (et_or (et_not (et_B (ev_isi (ev_var rfl) (tyx_seq sq) kit_tt))) fun _ => et_or (et_test (ev_eqDU (ev_var rfl) (eu_tup ea_nil (Nat.le_of_ble_eq_true rfl)) hd .nil (lay_dPart _) lay_nil)) fun _ => et_not (et_B (ev_isi (ev_ixT (ev_var rfl) sq rfl) tyx_s kit_ss))) rfl) (fun h => nomatch h) (fun _ H1 e1 => ?_)
    have sq1 := ex_t e1 sq
    refine q_when (b := !(mk60 m && mk60 n)) (et_is (et_or (et_test (ev_ne (ev_kget (ev_ixT (ev_var rfl) sq1 rfl) ev_c ⟨u, eu⟩) (ev_lenT (ev_var rfl) sq1) rfl)) fun _ => et_not (et_B (ev_all (bs := [mk60 m, mk60 n]) (el_mapT (xs := [.int m, .int n]) (v_marks (ns := [m, n]) (ev_var rfl) sq1 rfl) (Nat.le_of_ble_eq_true rfl) rfl (fun _ => rfl) ?_)))) ?_) (fun h H2 e2 => s_ret ev_c fun H3 e3 => ?_) (fun h H2 e2 => ?_)
    · intro i x y H3 e hx hy
      match i, hx, hy with
      | 0, hx, hy => cases hx; cases hy; exact mk _ _ _ rfl
      | 1, hx, hy => cases hx; cases hy; exact mk _ _ _ rfl
    · show (_ || !(mk60 m && (mk60 n && true))) = _
      rw [Bool.and_true]
      rfl
    · have e4 : okP (.under m n) = false := by
        show (mk60 m && mk60 n && decide (n ≤ 8)) = false
        rw [nb h]
        rfl
      rw [e4] at k
      exact k H3 ((e1.trans e2).trans e3)
    · have sq2 := ex_t e2 sq1
      refine q_when (b := false) (et_is (et_test (ev_eq (ev_ixT (ev_var rfl) sq2 rfl) ev_c rfl)) (by decide)) (fun h => nomatch h) (fun _ H3 e3 => ?_)
      refine s_ret (ev_I (ev_ixT (ev_var rfl) (ex_t e3 sq2) rfl) ev_c) fun H4 e4 => ?_
      have e5 : okP (.under m n) = decide (n ≤ 8) := by
        show (mk60 m && mk60 n && decide (n ≤ 8)) = _
        rw [show (mk60 m && mk60 n) = true from nbf h]
        rfl
      rw [e5] at k
      exact k H4 (((e1.trans e2).trans e3).trans e4)
  | aim m l n =>
    obtain ⟨u, eu⟩ := T.sizes (q := ("aim", .int 4)) (by simp)
    refine q_when (b := false) (et_is (et_or (et_not (et_B (ev_isi (ev_var rfl) (tyx_seq sq) kit_tt))) fun _ => et_or (et_test (ev_eqDU (ev_var rfl) (eu_tup ea_nil (Nat.le_of_ble_eq_true rfl)) hd .nil (lay_dPart _) lay_nil)) fun _ => et_not (et_B (ev_isi (ev_ixT (ev_var rfl) sq rfl) tyx_s kit_ss))) rfl) (fun h => nomatch h) (fun _ H1 e1 => ?_)
    have sq1 := ex_t e1 sq
    refine q_when (b := !(mk60 m && mk60 l && mk60 n)) (et_is (et_or (et_test (ev_ne (ev_kget (ev_ixT (ev_var rfl) sq1 rfl) ev_c ⟨u, eu⟩) (ev_lenT (ev_var rfl) sq1) rfl)) fun _ => et_not (et_B (ev_all (bs := [mk60 m, mk60 l, mk60 n]) (el_mapT (xs := [.int m, .int l, .int n]) (v_marks (ns := [m, l, n]) (ev_var rfl) sq1 rfl) (Nat.le_of_ble_eq_true rfl) rfl (fun _ => rfl) ?_)))) ?_) (fun h H2 e2 => s_ret ev_c fun H3 e3 => ?_) (fun h H2 e2 => ?_)
    · intro i x y H3 e hx hy
      match i, hx, hy with
      | 0, hx, hy => cases hx; cases hy; exact mk _ _ _ rfl
      | 1, hx, hy => cases hx; cases hy; exact mk _ _ _ rfl
      | 2, hx, hy => cases hx; cases hy; exact mk _ _ _ rfl
    · show (_ || !(mk60 m && (mk60 l && (mk60 n && true)))) = _
      rw [Bool.and_true, ← Bool.and_assoc]
      rfl
    · have e4 : okP (.aim m l n) = false := by
        show (mk60 m && mk60 l && mk60 n && (decide (l ≤ m) && decide (m ≤ n))) = false
        rw [nb h]
        rfl
      rw [e4] at k
      exact k H3 ((e1.trans e2).trans e3)
    · have sq2 := ex_t e2 sq1
      refine q_when (b := true) (et_is (et_test (ev_eq (ev_ixT (ev_var rfl) sq2 rfl) ev_c rfl)) (by decide)) (fun _ H3 e3 => ?_) (fun h => nomatch h)
      have sq3 := ex_t e3 sq2
      refine s_ret (ev_chain (ev_ixT (ev_var rfl) sq3 rfl) (ev_ixT (ev_var rfl) sq3 rfl) (ev_ixT (ev_var rfl) sq3 rfl) rv_I0 rv_I0) fun H4 e4 => ?_
      have e5 : okP (.aim m l n) = (decide (l ≤ m) && decide (m ≤ n)) := by
        show (mk60 m && mk60 l && mk60 n && (decide (l ≤ m) && decide (m ≤ n))) = _
        rw [show (mk60 m && mk60 l && mk60 n) = true from nbf h]
        rfl
      rw [e5] at k
      exact k H4 (((e1.trans e2).trans e3).trans e4)
theorem v_is_part {H : Hp} {v : V} {p : Part} (h : Dp K H v (dPart p)) : SpV (sp_is_part K) [v] H (.bl (okP p)) := fun H1 e Q q E => ⟨v, p, rfl, h.mv e, q⟩
/-! are_parts -/
def sp_are_parts (K : Frag) : Sp := fun vs H Q _ => ∃ (a : Addr) (xs : List V) (ps : List Part), vs = [.ref a] ∧ (H a = some (.lst xs) ∨ SqT K H a xs) ∧ DpAll K H xs (ps.map dPart) ∧ ps.length ≤ 1000 ∧ ∀ H', Same H H' → Q (.bl (okPs ps)) H'
theorem ev_isiT {σ : L2.St} {H : Hp} {ta tb : TE} {x : V} {t : Value} {cs : List V} {us : List Value} {b : Bool} (ha : Ev ta σ H x) (hb : EvU tb σ H cs) (hc : Paired ClsV cs us) (ht : ∀ H1, Ex H H1 → TyX K H1 x t) (hk : PySem.W.kitAny K t us = some b) :
    Ev (tCB (rIsiT K) (tCons ta (tCons tb tNil))) σ H (.bl b) := fun H0 e Q q => ha H0 e _ fun H1 e1 => hb H1 (e.trans e1) _ fun p H2 hp e2 l => ⟨x, p, cs, t, us, b, rfl, l, hc, ht H2 ((e.trans e1).trans e2), hk, q H2 (e1.trans e2)⟩
theorem lt_clsv : Paired ClsV [V.ty "list", V.ty "tuple"] [Value.type "list", Value.type "tuple"] := .cons (.ty _) (.cons (.ty _) .nil)
theorem lt_list : PySem.W.kitAny K (.type "list") [.type "list", .type "tuple"] = some true := kitAny_cons (kit_ty (b := "list") (r := true) (by decide +kernel)) (fun h => nomatch h) (fun _ => rfl)
theorem lt_tuple : PySem.W.kitAny K (.type "tuple") [.type "list", .type "tuple"] = some true := kitAny_cons (b := false) (kit_ty (by decide +kernel)) (fun _ => kitAny_cons (b := true) (kit_ty (by decide +kernel)) (fun h => nomatch h) (fun _ => rfl)) (fun h => nomatch h)
theorem DpAll.get {H : Hp} {α : Type} {f : α → PyData} {ps : List α} {xs : List V} {i : Nat} {x : V} (h : DpAll K H xs (ps.map f)) (hx : xs[i]? = some x) : ∃ p, ps[i]? = some p ∧ Dp K H x (f p) := by
  obtain ⟨d, e, hd⟩ := DpAll.at h hx
  rw [List.getElem?_map] at e
  cases q : ps[i]? with
  | none => rw [q] at e; cases e
  | some p =>
    rw [q] at e
    cases e
    exact ⟨p, rfl, hd⟩
theorem okPs_eq {ps : List Part} {n : Nat} (h : n = ps.length) : (true && (decide ((n : Int) ≤ 4) && (ps.map okP).all id)) = okPs ps := by
  subst h
  unfold okPs
  rw [List.all_map, Bool.true_and]
  congr 1
  exact decide_eq_decide.mpr (by omega)
theorem sc_are_parts : FnScope ["thing", "one"] ["thing"] (defScope s_are_parts) := ⟨rfl, rfl, rfl, by decide +kernel, rfl, by decide +kernel, by decide +kernel⟩
theorem ok_are_parts (T : Txt w K mg) : FB P w K mg base 5 (He.ga K "are_parts") ["thing"] (sp_are_parts K) := by
  obtain ⟨tMOST_PARTS, hMOST_PARTS⟩ := T.i_MOST_PARTS
  refine FB.of T.F_are_parts sc_are_parts (fun _ _ _ _ _ _ us hl => match us, hl with | [_], _ => rfl) (by rintro vs H Q E ⟨_, _, _, rfl, _⟩; rfl) (fun cdv A outer s H vs Q E hr h => ?_)
  obtain ⟨a, xs, ps, rfl, sq, hd, hz, k⟩ := h
  have hx : xs.length = ps.length := by rw [hd.len, List.length_map]
  have item : ∀ (i : Nat) (x y : V) (H1 : Hp) (σ : L2.St), Ex H H1 → xs[i]? = some x → ((ps.map okP).map V.bl)[i]? = some y → σ[1]? = some (some x) → Ev (tCall (sp_is_part K) [] E0 (tCons (tVar 1) tNil)) σ H1 y := by
    intro i x y H1 σ e hi hy hs
    obtain ⟨p, ep, dp⟩ := DpAll.get hd hi
    rw [List.getElem?_map, List.getElem?_map, ep] at hy
    cases hy
    exact ev_callS (ea_cons (ev_var hs) ea_nil) (v_is_part (dp.mv e))
  rw [← okPs_eq hx] at k
  rcases sq with sq | sq
  · refine ⟨_, (pss_one (ps_ret (pe_and (pe_callB call_isiT (by rfl) T.f_isinstance (by decide +kernel) (pa_cons (pv 0) (pa_cons (pe_tup (pa_cons (pe_bltn (by rfl) T.f_list (by decide +kernel) (v := .ty "list") rfl) (pa_cons (pe_bltn (by rfl) T.f_tuple (by decide +kernel) (v := .ty "tuple") rfl) pa_nil))) pa_nil))) (pe_and (pe_cmpR op_le (pe_callB call_len_seq (by rfl) T.f_len (by decide +kernel) (pa_cons (pv 0) pa_nil)) (pe_glob (v := .int 4) (by rfl) hMOST_PARTS ⟨_, rfl⟩) (nomark _)) (pe_one (pe_callB (cr_all rfl) (by rfl) T.f_all (by decide +kernel) (pa_cons (pe_lc (own := [("one", 1)]) (g := gName 1) (tt := tYes) rfl sc_are_parts.nd (pi_list (pv 0)) (blkOk_by (own := [("one", 1)]) (N := ["thing", "one"]) (sc := defScope s_are_parts) (by decide +kernel)) (fun _ _ _ _ _ => pg_name (i := 1) sc_are_parts.nd rfl (Or.inl rfl)) (fun _ _ _ _ _ => pts_nil) (fun _ _ _ _ _ => (pe_callF (ok_is_part T) (hr.mono (by decide)) (by rfl) T.g_is_part passL (pa_cons (pv 1) pa_nil)))) pa_nil))))))), ?_⟩
    exact s_ret (ev_andV (ev_isiT (ev_var rfl) (eu_tup (ea_cons ev_c (ea_cons ev_c ea_nil)) (Nat.le_of_ble_eq_true rfl)) lt_clsv (fun H1 e => .base (.lst (e _ _ sq))) lt_list) fun _ => ev_andV (ev_I (ev_len (ev_var rfl) (sq_of sq)) ev_c) fun _ => ev_all (el_mapL (xs := xs) (EvP.seqL (ev_var rfl) (sq_of sq)) (by omega) (by rw [List.length_map, List.length_map, hx]) (fun _ => rfl) fun i x y H1 e hi hy => item i x y H1 _ e hi hy rfl)) k
  · refine ⟨_, (pss_one (ps_ret (pe_and (pe_callB call_isiT (by rfl) T.f_isinstance (by decide +kernel) (pa_cons (pv 0) (pa_cons (pe_tup (pa_cons (pe_bltn (by rfl) T.f_list (by decide +kernel) (v := .ty "list") rfl) (pa_cons (pe_bltn (by rfl) T.f_tuple (by decide +kernel) (v := .ty "tuple") rfl) pa_nil))) pa_nil))) (pe_and (pe_cmpR op_le (pe_callB call_len_seq (by rfl) T.f_len (by decide +kernel) (pa_cons (pv 0) pa_nil)) (pe_glob (v := .int 4) (by rfl) hMOST_PARTS ⟨_, rfl⟩) (nomark _)) (pe_one (pe_callB (cr_all rfl) (by rfl) T.f_all (by decide +kernel) (pa_cons (pe_lc (own := [("one", 1)]) (g := gName 1) (tt := tYes) rfl sc_are_parts.nd (pi_tup (pv 0)) (blkOk_by (own := [("one", 1)]) (N := ["thing", "one"]) (sc := defScope s_are_parts) (by decide +kernel)) (fun _ _ _ _ _ => pg_name (i := 1) sc_are_parts.nd rfl (Or.inl rfl)) (fun _ _ _ _ _ => pts_nil) (fun _ _ _ _ _ => (pe_callF (ok_is_part T) (hr.mono (by decide)) (by rfl) T.g_is_part passL (pa_cons (pv 1) pa_nil)))) pa_nil))))))), ?_⟩
    exact s_ret (ev_andV (ev_isiT (ev_var rfl) (eu_tup (ea_cons ev_c (ea_cons ev_c ea_nil)) (Nat.le_of_ble_eq_true rfl)) lt_clsv (tyx_seq sq) lt_tuple) fun _ => ev_andV (ev_I (ev_lenT (ev_var rfl) sq) ev_c) fun _ => ev_all (el_mapT (xs := xs) (EvP.seq (ev_var rfl) sq) (by omega) (by rw [List.length_map, List.length_map, hx]) (fun _ => rfl) fun i x y H1 e hi hy => item i x y H1 _ e hi hy rfl)) k
/-! is_limit -/
def oV : Option Int → V
  | none => .non
  | some i => .int i
def b8 (i : Int) : Bool := decide (1 ≤ i) && decide (i ≤ 8)
def lim : Option Int → Bool
  | none => true
  | some i => b8 i
def sp_is_limit (K : Frag) : Sp := fun vs H Q _ => ∃ o : Option Int, vs = [oV o] ∧ ∀ H', Same H H' → Q (.bl (lim o)) H'
theorem sc_is_limit : FnScope ["thing"] ["thing"] (defScope s_is_limit) := ⟨rfl, rfl, rfl, by decide +kernel, rfl, by decide +kernel, by decide +kernel⟩
theorem ok_is_limit (T : Txt w K mg) : FB P w K mg base 3 (He.ga K "is_limit") ["thing"] (sp_is_limit K) := by
  obtain ⟨tMOST_SERVERS, hMOST_SERVERS⟩ := T.i_MOST_SERVERS
  refine FB.of T.F_is_limit sc_is_limit (fun _ _ _ _ _ _ us hl => match us, hl with | [_], _ => rfl) (by rintro vs H Q E ⟨_, rfl, _⟩; rfl) (fun cdv A outer s H vs Q E hr h => ?_)
  refine ⟨_, (pss_one (ps_ret (pe_or (pe_cmpR op_isN (pv 0) pe_non (nomark _)) (pe_one (pe_callF (ok_is_between T) (hr.mono (by decide)) (by rfl) T.g_is_between passL (pa_cons (pv 0) (pa_cons pe_int (pa_cons (pe_glob (v := .int 8) (by rfl) hMOST_SERVERS ⟨_, rfl⟩) pa_nil)))))))), ?_⟩
  obtain ⟨o, rfl, k⟩ := h
  cases o with
  | none => exact s_ret (ev_orV (a := true) (b := true) (ev_is (ev_isN (ev_var rfl)) rfl) (fun h => nomatch h)) k
  | some i => exact s_ret (ev_orV (a := false) (ev_is (ev_isN (ev_var rfl)) rfl) fun _ => ev_callS (ea_cons (ev_var rfl) (ea_cons ev_c (ea_cons ev_c ea_nil))) v_is_between) k
theorem v_is_limit {H : Hp} {o : Option Int} : SpV (sp_is_limit K) [oV o] H (.bl (lim o)) := fun H1 e Q q E => ⟨o, rfl, q⟩
/-! need_limits: only with limits as described -/
def sp_need_limits (K : Frag) : Sp := fun vs H Q _ => ∃ (r f : Option Int) (u d : Int), vs = [oV r, oV f, .int u, .int d] ∧ lim r = true ∧ lim f = true ∧ (1 ≤ u ∧ u ≤ 3) ∧ (1 ≤ d ∧ d ≤ 3) ∧ ∀ H', Same H H' → Q .non H'
theorem sc_need_limits : FnScope ["rise", "fall", "up", "down"] ["rise", "fall", "up", "down"] (defScope s_need_limits) := ⟨rfl, rfl, rfl, by decide +kernel, rfl, by decide +kernel, by decide +kernel⟩
theorem ok_need_limits (T : Txt w K mg) : FB P w K mg base 4 (He.ga K "need_limits") ["rise", "fall", "up", "down"] (sp_need_limits K) := by
  obtain ⟨tLONGEST_WINDOW, hLONGEST_WINDOW⟩ := T.i_LONGEST_WINDOW
  refine FB.of T.F_need_limits sc_need_limits (fun _ _ _ _ _ _ us hl => match us, hl with | [_, _, _, _], _ => rfl) (by rintro vs H Q E ⟨_, _, _, _, rfl, _⟩; rfl) (fun cdv A outer s H vs Q E hr h => ?_)
  refine ⟨_, (pss_cons (ps_if (pt_not (pt_val (pe_callF (ok_is_limit T) (hr.mono (by decide)) (by rfl) T.g_is_limit passL (pa_cons (pv 0) pa_nil))))
    (pss_one ps_never)
    pss_nil)
    (pss_cons (ps_if (pt_not (pt_val (pe_callF (ok_is_limit T) (hr.mono (by decide)) (by rfl) T.g_is_limit passL (pa_cons (pv 1) pa_nil))))
    (pss_one ps_never)
    pss_nil)
    (pss_cons (ps_if (pt_not (pt_val (pe_callF (ok_is_between T) (hr.mono (by decide)) (by rfl) T.g_is_between passL (pa_cons (pv 2) (pa_cons pe_int (pa_cons (pe_glob (v := .int 3) (by rfl) hLONGEST_WINDOW ⟨_, rfl⟩) pa_nil))))))
    (pss_one ps_never)
    pss_nil)
    (pss_one (ps_if (pt_not (pt_val (pe_callF (ok_is_between T) (hr.mono (by decide)) (by rfl) T.g_is_between passL (pa_cons (pv 3) (pa_cons pe_int (pa_cons (pe_glob (v := .int 3) (by rfl) hLONGEST_WINDOW ⟨_, rfl⟩) pa_nil))))))
    (pss_one ps_never)
    pss_nil))))), ?_⟩
  obtain ⟨r, f, u, d, rfl, hr, hf, ⟨hu1, hu3⟩, ⟨hd1, hd3⟩, k⟩ := h
  have bt : ∀ (i : Nat) (x : Int) (σ : L2.St) (H1 : Hp), 1 ≤ x → x ≤ 3 → σ[i]? = some (some (.int x)) → EvT (tNot (tB (tCall (sp_is_between K) [] E0 (tCons (tVar i) (tCons (tC (.int 1)) (tCons (tC (.int 3)) tNil)))))) σ H1 false := by
    intro i x σ H1 h1 h3 e
    refine et_is (et_not (et_B (ev_callS (ea_cons (ev_var e) (ea_cons ev_c (ea_cons ev_c ea_nil))) v_is_between))) ?_
    rw [decide_eq_true h1, decide_eq_true h3]
    rfl
  have li : ∀ (i : Nat) (o : Option Int) (σ : L2.St) (H1 : Hp), lim o = true → σ[i]? = some (some (oV o)) → EvT (tNot (tB (tCall (sp_is_limit K) [] E0 (tCons (tVar i) tNil)))) σ H1 false := by
    intro i o σ H1 h1 e
    refine et_is (et_not (et_B (ev_callS (ea_cons (ev_var e) ea_nil) v_is_limit))) ?_
    rw [h1]
    rfl
  refine q_when (li _ _ _ _ hr rfl) (fun h => nomatch h) fun _ H1 e1 => q_when (li _ _ _ _ hf rfl) (fun h => nomatch h) fun _ H2 e2 => q_when (bt _ _ _ _ hu1 hu3 rfl) (fun h => nomatch h) fun _ H3 e3 => s_when (bt _ _ _ _ hd1 hd3 rfl) (fun h => nomatch h) fun _ H4 e4 => k H4 (((e1.trans e2).trans e3).trans e4)
/-! raised -/
theorem dp_part {Z : Hp} {q : Addr} {p : Part} : Dp K (upd Z q (.tup (pV p))) (.ref q) (dPart p) := by
  cases p with
  | over m k => exact datM (ds := [.str "over", .int m, .int k]) (SqT.of upd_same) rfl
  | under m k => exact datM (ds := [.str "under", .int m, .int k]) (SqT.of upd_same) rfl
  | aim m l h => exact datM (ds := [.str "aim", .int m, .int l, .int h]) (SqT.of upd_same) rfl
theorem Gr.mk1 {Z H H1 : Hp} {p : Addr} {o : HO} (h : Same Z H) (hp : H p = none) (e : Ex H H1) (l : H1 p = some o) : Gr Z H (upd Z p o) H1 := by
  have hz : Z p = none := Same.free h hp
  refine ⟨same_new hz, fun b u q => ?_, fun b u q r => ?_, fun b u q _ => e b u q, fun b u q => ⟨u, e b u q⟩⟩
  · by_cases hb : b = p
    · subst hb; rw [upd_same] at q; rw [← q]; exact l
    · rw [upd_ne hb] at q; exact e b u (h b u q)
  · rw [upd_ne (ne_of_none q hp)]; exact r
def sp_raised (K : Frag) : Sp := fun vs H Q _ => ∃ (v : V) (p : Part) (i : Int) (Z : Hp), vs = [v, .int i] ∧ Same Z H ∧ Dp K Z v (dPart p) ∧ ∀ v' Z' H', Gr Z H Z' H' → Dp K Z' v' (dPart (upP i p)) → Q v' H'
theorem sc_raised : FnScope ["part", "amount"] ["part", "amount"] (defScope s_raised) := ⟨rfl, rfl, rfl, by decide +kernel, rfl, by decide +kernel, by decide +kernel⟩
theorem ok_raised (T : Txt w K mg) : FB P w K mg base 1 (He.ga K "raised") ["part", "amount"] (sp_raised K) := by
  refine FB.of T.F_raised sc_raised (fun _ _ _ _ _ _ us hl => match us, hl with | [_, _], _ => rfl) (by rintro vs H Q E ⟨_, _, _, _, rfl, _⟩; rfl) (fun cdv A outer s H vs Q E hr h => ?_)
  refine ⟨_, (pss_cons (ps_if (pt_cmpR op_eq (pe_ix ix_tup (pv 0) pe_int (fun _ _ => rfl)) pe_str (nomark _))
    (pss_one (ps_ret (pe_tup (pa_cons (pe_ix ix_tup (pv 0) pe_int (fun _ _ => rfl)) (pa_cons (pe_op op_add (pe_ix ix_tup (pv 0) pe_int (fun _ _ => rfl)) (pv 1)) (pa_cons (pe_op op_add (pe_ix ix_tup (pv 0) pe_int (fun _ _ => rfl)) (pv 1)) (pa_cons (pe_op op_add (pe_ix ix_tup (pv 0) pe_int (fun _ _ => rfl)) (pv 1)) pa_nil)))))))
    pss_nil)
    (pss_one (ps_ret (pe_tup (pa_cons (pe_ix ix_tup (pv 0) pe_int (fun _ _ => rfl)) (pa_cons (pe_op op_add (pe_ix ix_tup (pv 0) pe_int (fun _ _ => rfl)) (pv 1)) (pa_cons (pe_ix ix_tup (pv 0) pe_int (fun _ _ => rfl)) pa_nil))))))), ?_⟩
  obtain ⟨v, p, i, Z, rfl, hZ, hd, k⟩ := h
  obtain ⟨a, rfl, sq⟩ := part_at (hd.mv hZ)
  have fin : ∀ q H1, H q = none → Ex H H1 → H1 q = some (.tup (pV (upP i p))) → Q (.ref q) H1 := fun q H1 hq e l => k _ _ _ (Gr.mk1 hZ hq e l) dp_part
  cases p with
  | over m n =>
    refine q_when (b := false) (et_is (et_test (ev_eq (ev_ixT (ev_var rfl) sq rfl) ev_c rfl)) (by decide)) (fun h => nomatch h) fun _ H1 e1 => ?_
    have sq1 := ex_t e1 sq
    exact s_retU (eu_tup (ea_cons (ev_ixT (ev_var rfl) sq1 rfl) (ea_cons (ev_I (ev_ixT (ev_var rfl) sq1 rfl) (ev_var rfl)) (ea_cons (ev_ixT (ev_var rfl) sq1 rfl) ea_nil))) (Nat.le_of_ble_eq_true rfl)) fun q H2 hq e2 l => fin q H2 (fresh_back e1 hq) (e1.trans e2) l
  | under m n =>
    refine q_when (b := false) (et_is (et_test (ev_eq (ev_ixT (ev_var rfl) sq rfl) ev_c rfl)) (by decide)) (fun h => nomatch h) fun _ H1 e1 => ?_
    have sq1 := ex_t e1 sq
    exact s_retU (eu_tup (ea_cons (ev_ixT (ev_var rfl) sq1 rfl) (ea_cons (ev_I (ev_ixT (ev_var rfl) sq1 rfl) (ev_var rfl)) (ea_cons (ev_ixT (ev_var rfl) sq1 rfl) ea_nil))) (Nat.le_of_ble_eq_true rfl)) fun q H2 hq e2 l => fin q H2 (fresh_back e1 hq) (e1.trans e2) l
  | aim m lo hi =>
    refine q_when (b := true) (et_is (et_test (ev_eq (ev_ixT (ev_var rfl) sq rfl) ev_c rfl)) (by decide)) (fun _ H1 e1 => ?_) (fun h => nomatch h)
    have sq1 := ex_t e1 sq
    exact s_retU (eu_tup (ea_cons (ev_ixT (ev_var rfl) sq1 rfl) (ea_cons (ev_I (ev_ixT (ev_var rfl) sq1 rfl) (ev_var rfl)) (ea_cons (ev_I (ev_ixT (ev_var rfl) sq1 rfl) (ev_var rfl)) (ea_cons (ev_I (ev_ixT (ev_var rfl) sq1 rfl) (ev_var rfl)) ea_nil)))) (Nat.le_of_ble_eq_true rfl)) fun q H2 hq e2 l => fin q H2 (fresh_back e1 hq) (e1.trans e2) l
end
end K74

/-! E3 -/
set_option Elab.async false
set_option linter.all false
set_option maxRecDepth 100000
set_option maxHeartbeats 4000000
namespace K74
open PySem PySem.Spec PyProof.Rows L2
open Evl hiding tCut pss_cut
/-! ### rules -/
def dParts (ps : List Part) : PyData := .tuple (ps.map dPart)
def oD : Option Int → PyData
  | none => .none
  | some i => .int i
def dBnd (r : Rl) : List PyData := [.int r.least, .int r.most]
def dLim (r : Rl) : List PyData := [oD r.rise, oD r.fall, .int r.up, .int r.down]
theorem oD_V (o : Option Int) : sV (oD o) = oV o := by cases o <;> rfl
theorem oD_B (o : Option Int) : sB (oD o) = true := by cases o <;> rfl
def RuleAt (K : Frag) (Z : Hp) (v : V) (r : Rl) : Prop := ∃ a dx p b l, v = .ref a ∧ Z a = some (.ins (He.ga K "Rule") dx [("r_parts", p), ("r_bounds", b), ("r_limits", l)]) ∧ Dp K Z p (dParts r.parts) ∧ Dp K Z b (.tuple (dBnd r)) ∧ Dp K Z l (.tuple (dLim r))
section
variable {P : Program} {w : World} {K : Frag} {mg : Str → Option Value} {base : Heap}
theorem RuleAt.mv {Z H : Hp} {v : V} {r : Rl} (h : RuleAt K Z v r) (e : Ex Z H) : RuleAt K H v r := by
  obtain ⟨a, dx, p, b, l, rfl, h1, h2, h3, h4⟩ := h
  exact ⟨a, dx, p, b, l, rfl, e _ _ h1, h2.mv e, h3.mv e, h4.mv e⟩
theorem bnd_at {Z : Hp} {v : V} {r : Rl} (h : Dp K Z v (.tuple (dBnd r))) : ∃ a, v = .ref a ∧ SqT K Z a [.int r.least, .int r.most] := datI h rfl
theorem lim_at {Z : Hp} {v : V} {r : Rl} (h : Dp K Z v (.tuple (dLim r))) : ∃ a, v = .ref a ∧ SqT K Z a [oV r.rise, oV r.fall, .int r.up, .int r.down] := by
  obtain ⟨a, e, s⟩ := datI h (by show (sB (oD r.rise) && (sB (oD r.fall) && true)) = true; rw [oD_B, oD_B]; rfl)
  refine ⟨a, e, ?_⟩
  have e2 : (dLim r).map sV = [oV r.rise, oV r.fall, .int r.up, .int r.down] := by show [sV (oD r.rise), sV (oD r.fall), _, _] = _; rw [oD_V, oD_V]; rfl
  rw [← e2]
  exact s
/-- a reading of frozen data -/
def SpD (sp : Sp) (vs : List V) (Z : Hp) (Φ : V → Prop) : Prop := ∀ H1, Ex Z H1 → ∀ Q : VK, (∀ v H2, Ex H1 H2 → Φ v → Q v H2) → ∀ E : XK, sp vs H1 Q E
theorem ep_prop {σ : L2.St} {H : Hp} {ta : TE} {a C dx : Addr} {fs : List (Str × V)} {sp : Sp} {E : XK} {Φ : V → Prop} (ha : Ev ta σ H (.ref a)) (h : H a = some (.ins C dx fs)) (s : SpD sp [.ref a] H Φ) : EvP (tProp C sp [] E ta) σ H (fun v _ => Φ v) := fun H0 e Q q =>
  ha H0 e _ fun H1 e1 => ⟨a, dx, fs, rfl, e1 _ _ (e _ _ h), s H1 (e.trans e1) Q (fun v H2 e2 => q v H2 (e1.trans e2)) E⟩
/-! properties -/
def sp_Rule_parts (K : Frag) : Sp := fun vs H Q _ => ∃ v r Z, vs = [v] ∧ Same Z H ∧ RuleAt K Z v r ∧ ∀ x H', Same H H' → Dp K Z x (dParts r.parts) → Q x H'
theorem sc_Rule_parts : FnScope ["self"] ["self"] (defScope s_Rule_parts) := ⟨rfl, rfl, rfl, by decide +kernel, rfl, by decide +kernel, by decide +kernel⟩
theorem ok_Rule_parts (T : Txt w K mg) : FB P w K mg base 1 (gtAd K "Rule" "parts") ["self"] (sp_Rule_parts K) := by
  refine FB.of (T.p_Rule_parts).1 sc_Rule_parts (fun _ _ _ _ _ _ us hl => match us, hl with | [_], _ => rfl) (by rintro vs H Q E ⟨_, _, _, rfl, _⟩; rfl) (fun cdv A outer s H vs Q E hr h => ?_)
  refine ⟨_, (pss_one (ps_ret (pe_fld (pv 0) rfl))), ?_⟩
  obtain ⟨v, r, Z, rfl, hZ, hr0, k⟩ := h
  obtain ⟨a, dx, p, b, l, rfl, h1, h2, h3, h4⟩ := hr0
  exact s_ret (ev_fld (ev_var rfl) (hZ _ _ h1) T.c_Rule T.n_r_parts rfl) fun H1 e1 => k _ _ e1 h2
theorem d_Rule_parts {Z : Hp} {v : V} {r : Rl} (h : RuleAt K Z v r) : SpD (sp_Rule_parts K) [v] Z (fun x => Dp K Z x (dParts r.parts)) := fun H1 e Q q E => ⟨v, r, Z, rfl, e, h, fun x H2 e2 d => q x H2 e2 d⟩
def sp_Rule_least (K : Frag) : Sp := fun vs H Q _ => ∃ v r, vs = [v] ∧ RuleAt K H v r ∧ ∀ H', Same H H' → Q (.int r.least) H'
theorem sc_Rule_least : FnScope ["self"] ["self"] (defScope s_Rule_least) := ⟨rfl, rfl, rfl, by decide +kernel, rfl, by decide +kernel, by decide +kernel⟩
theorem ok_Rule_least (T : Txt w K mg) : FB P w K mg base 1 (gtAd K "Rule" "least") ["self"] (sp_Rule_least K) := by
  refine FB.of (T.p_Rule_least).1 sc_Rule_least (fun _ _ _ _ _ _ us hl => match us, hl with | [_], _ => rfl) (by rintro vs H Q E ⟨_, _, rfl, _⟩; rfl) (fun cdv A outer s H vs Q E hr h => ?_)
  refine ⟨_, (pss_one (ps_ret (pe_ix ix_tup (pe_fld (pv 0) rfl) pe_int (fun _ _ => rfl)))), ?_⟩
  obtain ⟨v, r, rfl, hr0, k⟩ := h
  obtain ⟨a, dx, p, b, l, rfl, h1, h2, h3, h4⟩ := hr0
  obtain ⟨c, rfl, sq⟩ := bnd_at h3
  exact s_ret (ev_ixT (ev_fld (ev_var rfl) h1 T.c_Rule T.n_r_bounds rfl) sq rfl) k
theorem v_Rule_least {H : Hp} {v : V} {r : Rl} (h : RuleAt K H v r) : SpV (sp_Rule_least K) [v] H (.int r.least) := fun H1 e Q q E => ⟨v, r, rfl, h.mv e, q⟩
theorem ev_Rule_least {σ : L2.St} {H : Hp} {ta : TE} {v : V} {r : Rl} {E : XK} (ha : Ev ta σ H v) (h : RuleAt K H v r) : Ev (tProp (He.ga K "Rule") (sp_Rule_least K) [] E ta) σ H (.int r.least) := by
  have h' := h
  obtain ⟨a, dx, p, b, l, rfl, h1, _⟩ := h'
  exact ev_prop ha h1 (v_Rule_least h)
def sp_Rule_most (K : Frag) : Sp := fun vs H Q _ => ∃ v r, vs = [v] ∧ RuleAt K H v r ∧ ∀ H', Same H H' → Q (.int r.most) H'
theorem sc_Rule_most : FnScope ["self"] ["self"] (defScope s_Rule_most) := ⟨rfl, rfl, rfl, by decide +kernel, rfl, by decide +kernel, by decide +kernel⟩
theorem ok_Rule_most (T : Txt w K mg) : FB P w K mg base 1 (gtAd K "Rule" "most") ["self"] (sp_Rule_most K) := by
  refine FB.of (T.p_Rule_most).1 sc_Rule_most (fun _ _ _ _ _ _ us hl => match us, hl with | [_], _ => rfl) (by rintro vs H Q E ⟨_, _, rfl, _⟩; rfl) (fun cdv A outer s H vs Q E hr h => ?_)
  refine ⟨_, (pss_one (ps_ret (pe_ix ix_tup (pe_fld (pv 0) rfl) pe_int (fun _ _ => rfl)))), ?_⟩
  obtain ⟨v, r, rfl, hr0, k⟩ := h
  obtain ⟨a, dx, p, b, l, rfl, h1, h2, h3, h4⟩ := hr0
  obtain ⟨c, rfl, sq⟩ := bnd_at h3
  exact s_ret (ev_ixT (ev_fld (ev_var rfl) h1 T.c_Rule T.n_r_bounds rfl) sq rfl) k
theorem v_Rule_most {H : Hp} {v : V} {r : Rl} (h : RuleAt K H v r) : SpV (sp_Rule_most K) [v] H (.int r.most) := fun H1 e Q q E => ⟨v, r, rfl, h.mv e, q⟩
theorem ev_Rule_most {σ : L2.St} {H : Hp} {ta : TE} {v : V} {r : Rl} {E : XK} (ha : Ev ta σ H v) (h : RuleAt K H v r) : Ev (tProp (He.ga K "Rule") (sp_Rule_most K) [] E ta) σ H (.int r.most) := by
  have h' := h
  obtain ⟨a, dx, p, b, l, rfl, h1, _⟩ := h'
  exact ev_prop ha h1 (v_Rule_most h)
def sp_Rule_rise (K : Frag) : Sp := fun vs H Q _ => ∃ v r, vs = [v] ∧ RuleAt K H v r ∧ ∀ H', Same H H' → Q (oV r.rise) H'
theorem sc_Rule_rise : FnScope ["self"] ["self"] (defScope s_Rule_rise) := ⟨rfl, rfl, rfl, by decide +kernel, rfl, by decide +kernel, by decide +kernel⟩
theorem ok_Rule_rise (T : Txt w K mg) : FB P w K mg base 1 (gtAd K "Rule" "rise") ["self"] (sp_Rule_rise K) := by
  refine FB.of (T.p_Rule_rise).1 sc_Rule_rise (fun _ _ _ _ _ _ us hl => match us, hl with | [_], _ => rfl) (by rintro vs H Q E ⟨_, _, rfl, _⟩; rfl) (fun cdv A outer s H vs Q E hr h => ?_)
  refine ⟨_, (pss_one (ps_ret (pe_ix ix_tup (pe_fld (pv 0) rfl) pe_int (fun _ _ => rfl)))), ?_⟩
  obtain ⟨v, r, rfl, hr0, k⟩ := h
  obtain ⟨a, dx, p, b, l, rfl, h1, h2, h3, h4⟩ := hr0
  obtain ⟨c, rfl, sq⟩ := lim_at h4
  exact s_ret (ev_ixT (ev_fld (ev_var rfl) h1 T.c_Rule T.n_r_limits rfl) sq rfl) k
theorem v_Rule_rise {H : Hp} {v : V} {r : Rl} (h : RuleAt K H v r) : SpV (sp_Rule_rise K) [v] H (oV r.rise) := fun H1 e Q q E => ⟨v, r, rfl, h.mv e, q⟩
theorem ev_Rule_rise {σ : L2.St} {H : Hp} {ta : TE} {v : V} {r : Rl} {E : XK} (ha : Ev ta σ H v) (h : RuleAt K H v r) : Ev (tProp (He.ga K "Rule") (sp_Rule_rise K) [] E ta) σ H (oV r.rise) := by
  have h' := h
  obtain ⟨a, dx, p, b, l, rfl, h1, _⟩ := h'
  exact ev_prop ha h1 (v_Rule_rise h)
def sp_Rule_fall (K : Frag) : Sp := fun vs H Q _ => ∃ v r, vs = [v] ∧ RuleAt K H v r ∧ ∀ H', Same H H' → Q (oV r.fall) H'
theorem sc_Rule_fall : FnScope ["self"] ["self"] (defScope s_Rule_fall) := ⟨rfl, rfl, rfl, by decide +kernel, rfl, by decide +kernel, by decide +kernel⟩
theorem ok_Rule_fall (T : Txt w K mg) : FB P w K mg base 1 (gtAd K "Rule" "fall") ["self"] (sp_Rule_fall K) := by
  refine FB.of (T.p_Rule_fall).1 sc_Rule_fall (fun _ _ _ _ _ _ us hl => match us, hl with | [_], _ => rfl) (by rintro vs H Q E ⟨_, _, rfl, _⟩; rfl) (fun cdv A outer s H vs Q E hr h => ?_)
  refine ⟨_, (pss_one (ps_ret (pe_ix ix_tup (pe_fld (pv 0) rfl) pe_int (fun _ _ => rfl)))), ?_⟩
  obtain ⟨v, r, rfl, hr0, k⟩ := h
  obtain ⟨a, dx, p, b, l, rfl, h1, h2, h3, h4⟩ := hr0
  obtain ⟨c, rfl, sq⟩ := lim_at h4
  exact s_ret (ev_ixT (ev_fld (ev_var rfl) h1 T.c_Rule T.n_r_limits rfl) sq rfl) k
theorem v_Rule_fall {H : Hp} {v : V} {r : Rl} (h : RuleAt K H v r) : SpV (sp_Rule_fall K) [v] H (oV r.fall) := fun H1 e Q q E => ⟨v, r, rfl, h.mv e, q⟩
theorem ev_Rule_fall {σ : L2.St} {H : Hp} {ta : TE} {v : V} {r : Rl} {E : XK} (ha : Ev ta σ H v) (h : RuleAt K H v r) : Ev (tProp (He.ga K "Rule") (sp_Rule_fall K) [] E ta) σ H (oV r.fall) := by
  have h' := h
  obtain ⟨a, dx, p, b, l, rfl, h1, _⟩ := h'
  exact ev_prop ha h1 (v_Rule_fall h)
def sp_Rule_up (K : Frag) : Sp := fun vs H Q _ => ∃ v r, vs = [v] ∧ RuleAt K H v r ∧ ∀ H', Same H H' → Q (.int r.up) H'
theorem sc_Rule_up : FnScope ["self"] ["self"] (defScope s_Rule_up) := ⟨rfl, rfl, rfl, by decide +kernel, rfl, by decide +kernel, by decide +kernel⟩
theorem ok_Rule_up (T : Txt w K mg) : FB P w K mg base 1 (gtAd K "Rule" "up") ["self"] (sp_Rule_up K) := by
  refine FB.of (T.p_Rule_up).1 sc_Rule_up (fun _ _ _ _ _ _ us hl => match us, hl with | [_], _ => rfl) (by rintro vs H Q E ⟨_, _, rfl, _⟩; rfl) (fun cdv A outer s H vs Q E hr h => ?_)
  refine ⟨_, (pss_one (ps_ret (pe_ix ix_tup (pe_fld (pv 0) rfl) pe_int (fun _ _ => rfl)))), ?_⟩
  obtain ⟨v, r, rfl, hr0, k⟩ := h
  obtain ⟨a, dx, p, b, l, rfl, h1, h2, h3, h4⟩ := hr0
  obtain ⟨c, rfl, sq⟩ := lim_at h4
  exact s_ret (ev_ixT (ev_fld (ev_var rfl) h1 T.c_Rule T.n_r_limits rfl) sq rfl) k
theorem v_Rule_up {H : Hp} {v : V} {r : Rl} (h : RuleAt K H v r) : SpV (sp_Rule_up K) [v] H (.int r.up) := fun H1 e Q q E => ⟨v, r, rfl, h.mv e, q⟩
theorem ev_Rule_up {σ : L2.St} {H : Hp} {ta : TE} {v : V} {r : Rl} {E : XK} (ha : Ev ta σ H v) (h : RuleAt K H v r) : Ev (tProp (He.ga K "Rule") (sp_Rule_up K) [] E ta) σ H (.int r.up) := by
  have h' := h
  obtain ⟨a, dx, p, b, l, rfl, h1, _⟩ := h'
  exact ev_prop ha h1 (v_Rule_up h)
def sp_Rule_down (K : Frag) : Sp := fun vs H Q _ => ∃ v r, vs = [v] ∧ RuleAt K H v r ∧ ∀ H', Same H H' → Q (.int r.down) H'
theorem sc_Rule_down : FnScope ["self"] ["self"] (defScope s_Rule_down) := ⟨rfl, rfl, rfl, by decide +kernel, rfl, by decide +kernel, by decide +kernel⟩
theorem ok_Rule_down (T : Txt w K mg) : FB P w K mg base 1 (gtAd K "Rule" "down") ["self"] (sp_Rule_down K) := by
  refine FB.of (T.p_Rule_down).1 sc_Rule_down (fun _ _ _ _ _ _ us hl => match us, hl with | [_], _ => rfl) (by rintro vs H Q E ⟨_, _, rfl, _⟩; rfl) (fun cdv A outer s H vs Q E hr h => ?_)
  refine ⟨_, (pss_one (ps_ret (pe_ix ix_tup (pe_fld (pv 0) rfl) pe_int (fun _ _ => rfl)))), ?_⟩
  obtain ⟨v, r, rfl, hr0, k⟩ := h
  obtain ⟨a, dx, p, b, l, rfl, h1, h2, h3, h4⟩ := hr0
  obtain ⟨c, rfl, sq⟩ := lim_at h4
  exact s_ret (ev_ixT (ev_fld (ev_var rfl) h1 T.c_Rule T.n_r_limits rfl) sq rfl) k
theorem v_Rule_down {H : Hp} {v : V} {r : Rl} (h : RuleAt K H v r) : SpV (sp_Rule_down K) [v] H (.int r.down) := fun H1 e Q q E => ⟨v, r, rfl, h.mv e, q⟩
theorem ev_Rule_down {σ : L2.St} {H : Hp} {ta : TE} {v : V} {r : Rl} {E : XK} (ha : Ev ta σ H v) (h : RuleAt K H v r) : Ev (tProp (He.ga K "Rule") (sp_Rule_down K) [] E ta) σ H (.int r.down) := by
  have h' := h
  obtain ⟨a, dx, p, b, l, rfl, h1, _⟩ := h'
  exact ev_prop ha h1 (v_Rule_down h)
theorem ep_Rule_parts {σ : L2.St} {H : Hp} {ta : TE} {v : V} {r : Rl} {E : XK} (ha : Ev ta σ H v) (h : RuleAt K H v r) : EvP (tProp (He.ga K "Rule") (sp_Rule_parts K) [] E ta) σ H (fun x _ => Dp K H x (dParts r.parts)) := by
  have h' := h
  obtain ⟨a, dx, p, b, l, rfl, h1, _⟩ := h'
  exact ep_prop ha h1 (d_Rule_parts h)
/-! loads against marks -/
structure LdZ (K : Frag) (H : Hp) (v : V) (l : Ld) : Prop where
  at_ : ∃ a, v = .ref a ∧ SqT K H a [.int l.1, .int l.2]
  ok : okLd l
theorem LdZ.mv {H H' : Hp} {v : V} {l : Ld} (h : LdZ K H v l) (e : Ex H H') : LdZ K H' v l := by
  obtain ⟨⟨a, ea, s⟩, o⟩ := h
  exact ⟨⟨a, ea, ex_t e s⟩, o⟩
theorem LdZ.of {H : Hp} {v : V} {l : Ld} (h : Dp K H v (dLd l)) (o : okLd l) : LdZ K H v l := ⟨datI (ds := [.int l.1, .int l.2]) h rfl, o⟩
theorem LdZ.t {H : Hp} {v : V} {l : Ld} (h : LdZ K H v l) : LdT K H v l.1 l.2 := ⟨h.at_, h.ok.t0, h.ok.b1, h.ok.g⟩
theorem cmul {i j : Int} (h : -1000000000000 ≤ i ∧ i ≤ 1000000000000) : CMul i j := Or.inl ⟨by omega, by omega⟩
theorem cmulr {i j : Int} (h : -1000000000000 ≤ j ∧ j ≤ 1000000000000) : CMul i j := Or.inr ⟨by omega, by omega⟩
def sp_is_below_times (K : Frag) : Sp := fun vs H Q _ => ∃ v l m n, vs = [v, .int m, .int n] ∧ LdZ K H v l ∧ (0 ≤ m ∧ m ≤ 1000) ∧ (0 ≤ n ∧ n ≤ 1000) ∧ ∀ H', Same H H' → Q (.bl (decide (l.1 < m * n * l.2))) H'
theorem sc_is_below_times : FnScope ["load", "mark", "servers"] ["load", "mark", "servers"] (defScope s_is_below_times) := ⟨rfl, rfl, rfl, by decide +kernel, rfl, by decide +kernel, by decide +kernel⟩
theorem ok_is_below_times (T : Txt w K mg) : FB P w K mg base 1 (He.ga K "is_below_times") ["load", "mark", "servers"] (sp_is_below_times K) := by
  refine FB.of T.F_is_below_times sc_is_below_times (fun _ _ _ _ _ _ us hl => match us, hl with | [_, _, _], _ => rfl) (by rintro vs H Q E ⟨_, _, _, _, rfl, _⟩; rfl) (fun cdv A outer s H vs Q E hr h => ?_)
  refine ⟨_, (pss_one (ps_ret (pe_cmpR op_lt (pe_ix ix_tup (pv 0) pe_int (fun _ _ => rfl)) (pe_op op_mul (pe_op op_mul (pv 1) (pv 2)) (pe_ix ix_tup (pv 0) pe_int (fun _ _ => rfl))) (nomark _)))), ?_⟩
  obtain ⟨v, l, m, n, rfl, hl, hm, hn, k⟩ := h
  obtain ⟨⟨a, rfl, sq⟩, o⟩ := hl
  exact s_ret (ev_I (ev_ixT (ev_var rfl) sq rfl) (ev_IC (ev_IC (ev_var rfl) (ev_var rfl) (cmul ⟨by omega, by omega⟩)) (ev_ixT (ev_var rfl) sq rfl) (cmulr ⟨by have := o.b1; omega, by have := o.bm; omega⟩))) k
theorem v_is_below_times {H : Hp} {v : V} {l : Ld} {m n : Int} (h : LdZ K H v l) (hm : 0 ≤ m ∧ m ≤ 1000) (hn : 0 ≤ n ∧ n ≤ 1000) : SpV (sp_is_below_times K) [v, .int m, .int n] H (.bl (decide (l.1 < m * n * l.2))) := fun H1 e Q q E => ⟨v, l, m, n, rfl, h.mv e, hm, hn, q⟩
def sp_is_above_times (K : Frag) : Sp := fun vs H Q _ => ∃ v l m n, vs = [v, .int m, .int n] ∧ LdZ K H v l ∧ (0 ≤ m ∧ m ≤ 1000) ∧ (0 ≤ n ∧ n ≤ 1000) ∧ ∀ H', Same H H' → Q (.bl (decide (m * n * l.2 < l.1))) H'
theorem sc_is_above_times : FnScope ["load", "mark", "servers"] ["load", "mark", "servers"] (defScope s_is_above_times) := ⟨rfl, rfl, rfl, by decide +kernel, rfl, by decide +kernel, by decide +kernel⟩
theorem ok_is_above_times (T : Txt w K mg) : FB P w K mg base 1 (He.ga K "is_above_times") ["load", "mark", "servers"] (sp_is_above_times K) := by
  refine FB.of T.F_is_above_times sc_is_above_times (fun _ _ _ _ _ _ us hl => match us, hl with | [_, _, _], _ => rfl) (by rintro vs H Q E ⟨_, _, _, _, rfl, _⟩; rfl) (fun cdv A outer s H vs Q E hr h => ?_)
  refine ⟨_, (pss_one (ps_ret (pe_cmpR op_gt (pe_ix ix_tup (pv 0) pe_int (fun _ _ => rfl)) (pe_op op_mul (pe_op op_mul (pv 1) (pv 2)) (pe_ix ix_tup (pv 0) pe_int (fun _ _ => rfl))) (nomark _)))), ?_⟩
  obtain ⟨v, l, m, n, rfl, hl, hm, hn, k⟩ := h
  obtain ⟨⟨a, rfl, sq⟩, o⟩ := hl
  exact s_ret (ev_I (ev_ixT (ev_var rfl) sq rfl) (ev_IC (ev_IC (ev_var rfl) (ev_var rfl) (cmul ⟨by omega, by omega⟩)) (ev_ixT (ev_var rfl) sq rfl) (cmulr ⟨by have := o.b1; omega, by have := o.bm; omega⟩))) k
theorem v_is_above_times {H : Hp} {v : V} {l : Ld} {m n : Int} (h : LdZ K H v l) (hm : 0 ≤ m ∧ m ≤ 1000) (hn : 0 ≤ n ∧ n ≤ 1000) : SpV (sp_is_above_times K) [v, .int m, .int n] H (.bl (decide (m * n * l.2 < l.1))) := fun H1 e Q q E => ⟨v, l, m, n, rfl, h.mv e, hm, hn, q⟩
end
end K74

/-! G0 -/
set_option Elab.async false
set_option linter.all false
set_option maxRecDepth 100000
set_option maxHeartbeats 4000000
namespace K74
open PySem PySem.Spec PyProof.Rows L2
open Evl hiding tCut pss_cut
/-! ### readings that make frozen data -/
def EvG (te : TE) (σ : L2.St) (Z : Hp) (Φ : V → Hp → Prop) : Prop := ∀ H1, Ex Z H1 → ∀ Q : VK, (∀ v Z2 H2, Gr Z H1 Z2 H2 → Φ v Z2 → Q v H2) → te σ H1 Q
def EvGA (ta : TA) (σ : L2.St) (Z : Hp) (Φ : List V → Hp → Prop) : Prop := ∀ H1, Ex Z H1 → ∀ Q : List V → Hp → Prop, (∀ v Z2 H2, Gr Z H1 Z2 H2 → Φ v Z2 → Q v H2) → ta σ H1 Q
def SpG (sp : Sp) (vs : List V) (Z : Hp) (Φ : V → Hp → Prop) : Prop := ∀ H1, Ex Z H1 → ∀ Q : VK, (∀ v Z2 H2, Gr Z H1 Z2 H2 → Φ v Z2 → Q v H2) → ∀ E : XK, sp vs H1 Q E
abbrev EvD (K : Frag) (te : TE) (σ : L2.St) (Z : Hp) (d : PyData) : Prop := EvG te σ Z (fun v Z2 => Dp K Z2 v d)
abbrev EvDA (K : Frag) (ta : TA) (σ : L2.St) (Z : Hp) (ds : List PyData) : Prop := EvGA ta σ Z (fun v Z2 => DpAll K Z2 v ds)
section
variable {K : Frag} {σ : L2.St} {Z Z1 Z2 H H1 H2 : Hp} {ta tb te tl : TE} {x y z v : V} {r : R2}
theorem Gr.up (h : Gr Z H Z1 H1) (e : Ex Z Z2) (k : Ex Z2 H) : ∃ Z3, Gr Z2 H Z3 H1 ∧ Ex Z1 Z3 := by
  have s := h.same
  refine ⟨fun a => (Z2 a).or (Z1 a), ⟨fun a o q => ?_, fun a o q => ?_, fun a o q r => ?_, fun a o q _ => s a o q, h.e⟩, fun a o q => ?_⟩
  · show (Z2 a).or (Z1 a) = some o
    rw [q]; rfl
  · have q' : (Z2 a).or (Z1 a) = some o := q
    cases w : Z2 a with
    | none => rw [w] at q'; exact h.h a o q'
    | some u =>
      rw [w] at q'
      have q2 : some u = some o := q'
      rw [← q2]
      exact s a u (k a u w)
  · have z0 : Z a = none := Same.free e r
    show (Z2 a).or (Z1 a) = none
    rw [r, h.n a o q z0]
    rfl
  · show (Z2 a).or (Z1 a) = some o
    cases w : Z2 a with
    | none => exact q
    | some u =>
      have h1 := s a u (k a u w)
      have h2 := h.h a o q
      rw [h1] at h2
      cases h2
      rfl
theorem EvG.up {Φ : V → Hp → Prop} (h : EvG te σ Z Φ) (m : ∀ v Z Z', Ex Z Z' → Φ v Z → Φ v Z') (e : Ex Z Z1) : EvG te σ Z1 Φ := fun H1 e1 Q q => h H1 (e.trans e1) Q fun v Z2 H2 g p => by
  obtain ⟨Z3, g3, e3⟩ := Gr.up g e e1
  exact q v Z3 H2 g3 (m _ _ _ e3 p)
theorem EvGA.up {ta : TA} {Φ : List V → Hp → Prop} (h : EvGA ta σ Z Φ) (m : ∀ v Z Z', Ex Z Z' → Φ v Z → Φ v Z') (e : Ex Z Z1) : EvGA ta σ Z1 Φ := fun H1 e1 Q q => h H1 (e.trans e1) Q fun v Z2 H2 g p => by
  obtain ⟨Z3, g3, e3⟩ := Gr.up g e e1
  exact q v Z3 H2 g3 (m _ _ _ e3 p)
theorem eg_ev {Φ : V → Hp → Prop} (h : Ev te σ Z v) (p : Φ v Z) : EvG te σ Z Φ := fun H1 e Q q => h H1 e Q fun H2 e2 => q v Z H2 (Gr.of e e2) p
theorem eg_ep {Φ : V → Prop} (h : EvP te σ Z (fun v _ => Φ v)) : EvG te σ Z (fun v _ => Φ v) := fun H1 e Q q => h H1 e Q fun v H2 e2 p => q v Z H2 (Gr.of e e2) p
theorem eg_imp {Φ Ψ : V → Hp → Prop} (h : EvG te σ Z Φ) (m : ∀ v Z2, Ex Z Z2 → Φ v Z2 → Ψ v Z2) : EvG te σ Z Ψ := fun H1 e Q q => h H1 e Q fun v Z2 H2 g p => q v Z2 H2 g (m _ _ g.z p)
theorem ed_ev {d : PyData} (h : Ev te σ Z v) (p : Dp K Z v d) : EvD K te σ Z d := eg_ev h p
theorem ed_int {i : Int} (h : Ev te σ Z (.int i)) : EvD K te σ Z (.int i) := eg_ev h (.int i)
theorem ed_prop {d : PyData} (h : EvP te σ Z (fun v _ => Dp K Z v d)) : EvD K te σ Z d := fun H1 e Q q => h H1 e Q fun v H2 e2 p => q v Z H2 (Gr.of e e2) p
theorem eda_nil : EvDA K tNil σ Z [] := fun H1 e Q q => q [] Z H1 (Mv.refl e) .nil
theorem eda_cons {tr : TA} {d : PyData} {ds : List PyData} (h : EvD K te σ Z d) (hr : EvDA K tr σ Z ds) : EvDA K (tCons te tr) σ Z (d :: ds) := fun H1 e Q q => h H1 e _ fun v Z2 H2 g p =>
  EvGA.up hr (fun _ _ _ e q => DpAll.mv q e) g.z H2 g.h _ fun vs Z3 H3 g2 p2 => q _ Z3 H3 (g.trans g2) (.cons (p.mv g2.z) p2)
theorem ed_tup {t : TA} {ds : List PyData} (h : EvDA K t σ Z ds) (hz : ds.length ≤ 100000) : EvD K (tTup t) σ Z (.tuple ds) := fun H1 e Q q => h H1 e _ fun vs Z2 H2 g p => ⟨by rw [p.len]; exact sz_of hz, fun a ha =>
  q _ _ _ (g.trans (Gr.newZ g.h ha)) (Dp.newT p (Same.free g.h ha))⟩
/-- t + u of frozen tuples -/
theorem ed_catA {ds es : List PyData} (ha : EvD K ta σ Z (.tuple ds)) (hb : EvD K tb σ Z (.tuple es)) (hz : ds.length + es.length ≤ 100000) : EvD K (tOp (rCatA K) ta tb) σ Z (.tuple (ds ++ es)) := fun H0 e Q q => ha H0 e _ fun v1 Z1 H1 g1 p1 =>
  EvG.up hb (fun _ _ _ e q => Dp.mv q e) g1.z H1 g1.h _ fun v2 Z2 H2 g2 p2 => by
    obtain ⟨a, xs, rfl, s1, d1⟩ := Dp.tupI (p1.mv g2.z)
    obtain ⟨b, ys, rfl, s2, d2⟩ := Dp.tupI p2
    refine ⟨a, b, xs, ys, rfl, rfl, sqT_mv s1 g2.h, sqT_mv s2 g2.h, by rw [d1.len, d2.len]; exact sz_of hz, fun hx => ?_, fun hx hy => ?_, fun hx hy p hp => ?_⟩
    · subst hx
      have e0 : ds = [] := by
        have := d1.len
        exact List.length_eq_zero_iff.mp this.symm
      subst e0
      exact q _ _ _ (g1.trans g2) p2
    · subst hy
      have e0 : es = [] := List.length_eq_zero_iff.mp d2.len.symm
      subst e0
      rw [List.append_nil] at q
      exact q _ _ _ (g1.trans g2) (p1.mv g2.z)
    · exact q _ _ _ ((g1.trans g2).trans (Gr.newZ g2.h hp)) (Dp.newT (d1.app d2) (Same.free g2.h hp))
theorem cut_lo {xs : List V} (lo : Nat) : cutV xs (some (lo : Int)) none = xs.drop lo := by
  unfold cutV
  rw [HT.sIx_nat, HT.sIx_none]
  by_cases h : lo ≤ xs.length
  · rw [Nat.min_eq_left h, List.take_of_length_le (by rw [List.length_drop]; exact Nat.le_refl _)]
  · rw [Nat.min_eq_right (by omega), List.drop_eq_nil_of_le (Nat.le_refl _), List.drop_eq_nil_of_le (by omega), List.take_nil]
theorem cut_neg {xs : List V} {u : Int} (h : 1 ≤ u) (hl : u ≤ xs.length) : cutV xs (some (-u)) none = xs.drop (xs.length - u.toNat) := by
  unfold cutV
  rw [HT.sIx_none]
  have e : HT.sIx xs.length 0 (some (-u)) = xs.length - u.toNat := by
    show (if -u < 0 then (-u + (xs.length : Int)).toNat else _) = _
    rw [if_pos (by omega)]
    omega
  rw [e, List.take_of_length_le (by rw [List.length_drop]; exact Nat.le_refl _)]
theorem six_m1 (n : Nat) : HT.sIx n n (some (-1)) = n - 1 := by
  show ((-1 : Int) + (n : Int)).toNat = n - 1
  omega
theorem cut_but {xs : List V} : cutV xs none (some (-1)) = xs.dropLast := by
  unfold cutV
  rw [HT.sIx_none, six_m1, List.drop_zero, Nat.sub_zero, List.dropLast_eq_take]
theorem eg_call {ta : TA} {vs : List V} {sp : Sp} {E : XK} {Φ : V → Hp → Prop} (h : EvA ta σ Z vs) (s : SpG sp vs Z Φ) (m : ∀ v Z Z', Ex Z Z' → Φ v Z → Φ v Z') : EvG (tCall sp [] E ta) σ Z Φ := fun H1 e Q q => h H1 e _ fun H2 e2 => by
  rw [List.append_nil]
  exact s H2 (e.trans e2) Q (fun v Z3 H3 g p => by
    have g0 : Gr Z H1 Z H2 := Gr.of e e2
    exact q v Z3 H3 (g0.trans g) p) E
theorem eg_callG {ta : TA} {sp : Sp} {E : XK} {Φ : V → Hp → Prop} {Ψ : List V → Hp → Prop} (h : EvGA ta σ Z Ψ) (s : ∀ vs Z2, Ex Z Z2 → Ψ vs Z2 → SpG sp vs Z2 Φ) : EvG (tCall sp [] E ta) σ Z Φ := fun H1 e Q q => h H1 e _ fun vs Z2 H2 g p => by
  rw [List.append_nil]
  exact s vs Z2 g.z p H2 g.h Q (fun v Z3 H3 g3 p3 => q v Z3 H3 (g.trans g3) p3) E
variable {D : Ends} {tu tw tz : TS} {Φ : V → Hp → Prop}
theorem s_retG (h : EvG te σ Z Φ) (e : Ex Z H) (k : ∀ v Z2 H2, Gr Z H Z2 H2 → Φ v Z2 → D.rt v H2) : tRet te D σ H := h H e _ k
theorem q_asgG {i : Nat} (h : EvG te σ Z Φ) (e : Ex Z H) (k : ∀ v Z2 H2, Gr Z H Z2 H2 → Φ v Z2 → tz D (σ.set i (some v)) H2) : tSeq (tAsg te (gName i)) tz D σ H := h H e _ k
theorem s_asgG {i : Nat} (h : EvG te σ Z Φ) (e : Ex Z H) (k : ∀ v Z2 H2, Gr Z H Z2 H2 → Φ v Z2 → D.nx (σ.set i (some v)) H2) : tAsg te (gName i) D σ H := h H e _ k
end
end K74

/-! E4 -/
set_option Elab.async false
set_option linter.all false
set_option maxRecDepth 100000
set_option maxHeartbeats 4000000
namespace K74
open PySem PySem.Spec PyProof.Rows L2
open Evl hiding tCut pss_cut
section
variable {P : Program} {w : World} {K : Frag} {mg : Str → Option Value} {base : Heap}
/-! wish_of -/
theorem mk_of {m : Int} (h : mk60 m = true) : 1 ≤ m ∧ m ≤ 60 := by
  unfold mk60 at h
  rw [Bool.and_eq_true] at h
  exact ⟨of_decide_eq_true h.1, of_decide_eq_true h.2⟩
theorem okP_over {m k : Int} (h : okP (.over m k) = true) : (1 ≤ m ∧ m ≤ 60) ∧ 1 ≤ k ∧ k ≤ 8 := by
  unfold okP at h
  rw [Bool.and_eq_true, Bool.and_eq_true] at h
  exact ⟨mk_of h.1.1, (mk_of h.1.2).1, of_decide_eq_true h.2⟩
theorem okP_under {m k : Int} (h : okP (.under m k) = true) : (1 ≤ m ∧ m ≤ 60) ∧ 1 ≤ k ∧ k ≤ 8 := by
  unfold okP at h
  rw [Bool.and_eq_true, Bool.and_eq_true] at h
  exact ⟨mk_of h.1.1, (mk_of h.1.2).1, of_decide_eq_true h.2⟩
theorem okP_aim {m l k : Int} (h : okP (.aim m l k) = true) : (1 ≤ m ∧ m ≤ 60) ∧ (1 ≤ l ∧ l ≤ 60) ∧ (1 ≤ k ∧ k ≤ 60) ∧ l ≤ m ∧ m ≤ k := by
  unfold okP at h
  rw [Bool.and_eq_true, Bool.and_eq_true, Bool.and_eq_true, Bool.and_eq_true] at h
  exact ⟨mk_of h.1.1.1, mk_of h.1.1.2, mk_of h.1.2, of_decide_eq_true h.2.1, of_decide_eq_true h.2.2⟩
def sp_wish_of (K : Frag) : Sp := fun vs H Q _ => ∃ v p n lv l, vs = [v, .int n, lv] ∧ Dp K H v (dPart p) ∧ okP p = true ∧ (1 ≤ n ∧ n ≤ 8) ∧ LdZ K H lv l ∧ ∀ H', Same H H' → Q (oV (wishP n l p)) H'
theorem sc_wish_of : FnScope ["part", "servers", "load"] ["part", "servers", "load"] (defScope s_wish_of) := ⟨rfl, rfl, rfl, by decide +kernel, rfl, by decide +kernel, by decide +kernel⟩
theorem ok_wish_of (T : Txt w K mg) : FB P w K mg base 2 (He.ga K "wish_of") ["part", "servers", "load"] (sp_wish_of K) := by
  refine FB.of T.F_wish_of sc_wish_of (fun _ _ _ _ _ _ us hl => match us, hl with | [_, _, _], _ => rfl) (by rintro vs H Q E ⟨_, _, _, _, _, rfl, _⟩; rfl) (fun cdv A outer s H vs Q E hr h => ?_)
  refine ⟨_, (pss_cons (ps_if (pt_cmpR op_eq (pe_ix ix_tup (pv 0) pe_int (fun _ _ => rfl)) pe_str (nomark _))
    (pss_one (ps_ret (pe_ifExp (pt_val (pe_callF (ok_is_above_times T) (hr.mono (by decide)) (by rfl) T.g_is_above_times passL (pa_cons (pv 2) (pa_cons (pe_ix ix_tup (pv 0) pe_int (fun _ _ => rfl)) (pa_cons (pv 1) pa_nil))))) (pe_op op_add (pv 1) (pe_ix ix_tup (pv 0) pe_int (fun _ _ => rfl))) pe_non)))
    pss_nil)
    (pss_cons (ps_if (pt_cmpR op_eq (pe_ix ix_tup (pv 0) pe_int (fun _ _ => rfl)) pe_str (nomark _))
    (pss_one (ps_ret (pe_ifExp (pt_val (pe_callF (ok_is_below_times T) (hr.mono (by decide)) (by rfl) T.g_is_below_times passL (pa_cons (pv 2) (pa_cons (pe_ix ix_tup (pv 0) pe_int (fun _ _ => rfl)) (pa_cons (pv 1) pa_nil))))) (pe_op op_sub (pv 1) (pe_ix ix_tup (pv 0) pe_int (fun _ _ => rfl))) pe_non)))
    pss_nil)
    (pss_cons (ps_if (PW.pt (pw_or (pt_val (pe_callF (ok_is_below_times T) (hr.mono (by decide)) (by rfl) T.g_is_below_times passL (pa_cons (pv 2) (pa_cons (pe_ix ix_tup (pv 0) pe_int (fun _ _ => rfl)) (pa_cons (pv 1) pa_nil))))) (pw_or1 (pt_val (pe_callF (ok_is_above_times T) (hr.mono (by decide)) (by rfl) T.g_is_above_times passL (pa_cons (pv 2) (pa_cons (pe_ix ix_tup (pv 0) pe_int (fun _ _ => rfl)) (pa_cons (pv 1) pa_nil))))))))
    (pss_one (ps_ret (pe_op op_fdiv (pe_op op_sub (pe_op op_add (pe_ix ix_tup (pv 2) pe_int (fun _ _ => rfl)) (pe_op op_mul (pe_ix ix_tup (pv 0) pe_int (fun _ _ => rfl)) (pe_ix ix_tup (pv 2) pe_int (fun _ _ => rfl)))) pe_int) (pe_op op_mul (pe_ix ix_tup (pv 0) pe_int (fun _ _ => rfl)) (pe_ix ix_tup (pv 2) pe_int (fun _ _ => rfl))))))
    pss_nil)
    (pss_one (ps_ret pe_non))))), ?_⟩
  obtain ⟨v, p, n, lv, l, rfl, hd, hp, hn, hl, k⟩ := h
  obtain ⟨a, rfl, sq⟩ := part_at hd
  obtain ⟨⟨b, rfl, sl⟩, o⟩ := id hl
  have ho := o
  obtain ⟨t0, b1, gg, tm, bm⟩ := ho
  cases p with
  | over m c =>
    obtain ⟨hm, hc⟩ := okP_over hp
    refine q_when (b := true) (et_is (et_test (ev_eq (ev_ixT (ev_var rfl) sq rfl) ev_c rfl)) (by decide)) (fun _ H1 e1 => ?_) (fun h => nomatch h)
    have sq1 := ex_t e1 sq
    refine s_ret (v := oV (wishP n l (.over m c))) (ev_if (et_B (ev_callS (ea_cons (ev_var rfl) (ea_cons (ev_ixT (ev_var rfl) sq1 rfl) (ea_cons (ev_var rfl) ea_nil))) (v_is_above_times (hl.mv e1) (by omega) (by omega)))) (fun h => ?_) (fun h => ?_)) fun H2 e2 => k H2 (e1.trans e2)
    · show Ev _ _ _ (oV (if _ then _ else _))
      rw [if_pos (of_decide_eq_true h)]
      exact ev_I (ev_var rfl) (ev_ixT (ev_var rfl) sq1 rfl)
    · show Ev _ _ _ (oV (if _ then _ else _))
      rw [if_neg (of_decide_eq_false h)]
      exact ev_c
  | under m c =>
    obtain ⟨hm, hc⟩ := okP_under hp
    refine q_when (b := false) (et_is (et_test (ev_eq (ev_ixT (ev_var rfl) sq rfl) ev_c rfl)) (by decide)) (fun h => nomatch h) fun _ H1 e1 => ?_
    have sq1 := ex_t e1 sq
    refine q_when (b := true) (et_is (et_test (ev_eq (ev_ixT (ev_var rfl) sq1 rfl) ev_c rfl)) (by decide)) (fun _ H2 e2 => ?_) (fun h => nomatch h)
    have sq2 := ex_t e2 sq1
    refine s_ret (v := oV (wishP n l (.under m c))) (ev_if (et_B (ev_callS (ea_cons (ev_var rfl) (ea_cons (ev_ixT (ev_var rfl) sq2 rfl) (ea_cons (ev_var rfl) ea_nil))) (v_is_below_times (hl.mv (e1.trans e2)) (by omega) (by omega)))) (fun h => ?_) (fun h => ?_)) fun H3 e3 => k H3 ((e1.trans e2).trans e3)
    · show Ev _ _ _ (oV (if _ then _ else _))
      rw [if_pos (of_decide_eq_true h)]
      exact ev_I (ev_var rfl) (ev_ixT (ev_var rfl) sq2 rfl)
    · show Ev _ _ _ (oV (if _ then _ else _))
      rw [if_neg (of_decide_eq_false h)]
      exact ev_c
  | aim m lo hi =>
    obtain ⟨hm, hlo, hhi, _, _⟩ := okP_aim hp
    refine q_when (b := false) (et_is (et_test (ev_eq (ev_ixT (ev_var rfl) sq rfl) ev_c rfl)) (by decide)) (fun h => nomatch h) fun _ H1 e1 => ?_
    have sq1 := ex_t e1 sq
    refine q_when (b := false) (et_is (et_test (ev_eq (ev_ixT (ev_var rfl) sq1 rfl) ev_c rfl)) (by decide)) (fun h => nomatch h) fun _ H2 e2 => ?_
    have sq2 := ex_t e2 sq1
    have hl2 := hl.mv (e1.trans e2)
    refine q_when (et_or (et_B (ev_callS (ea_cons (ev_var rfl) (ea_cons (ev_ixT (ev_var rfl) sq2 rfl) (ea_cons (ev_var rfl) ea_nil))) (v_is_below_times hl2 (by omega) (by omega)))) fun _ => et_B (ev_callS (ea_cons (ev_var rfl) (ea_cons (ev_ixT (ev_var rfl) sq2 rfl) (ea_cons (ev_var rfl) ea_nil))) (v_is_above_times hl2 (by omega) (by omega)))) (fun h H3 e3 => ?_) (fun h H3 e3 => ?_)
    · have e4 : wishP n l (.aim m lo hi) = some ((l.1 + m * l.2 - 1) / (m * l.2)) := by
        rw [Bool.or_eq_true] at h
        exact if_pos (h.imp (fun q => of_decide_eq_true q) (fun q => of_decide_eq_true q))
      rw [e4] at k
      have sq3 := ex_t e3 sq2
      have sl3 := ex_t ((e1.trans e2).trans e3) sl
      have mb : 0 < m * l.2 ∧ m * l.2 < 1073741824 := by
        have h1 : 0 < m * l.2 := Int.mul_pos (by omega) (by omega)
        have h2 : m * l.2 ≤ 60 * 1000 := Int.mul_le_mul hm.2 bm (by omega) (by omega)
        exact ⟨h1, by omega⟩
      exact s_ret (ev_IC (ev_I (ev_I (ev_ixT (ev_var rfl) sl3 rfl) (ev_IC (ev_ixT (ev_var rfl) sq3 rfl) (ev_ixT (ev_var rfl) sl3 rfl) (cmul ⟨by omega, by omega⟩))) ev_c) (ev_IC (ev_ixT (ev_var rfl) sq3 rfl) (ev_ixT (ev_var rfl) sl3 rfl) (cmul ⟨by omega, by omega⟩)) mb) fun H4 e4 => k H4 (((e1.trans e2).trans e3).trans e4)
    · have e4 : wishP n l (.aim m lo hi) = none := by
        rw [Bool.or_eq_false_iff] at h
        exact if_neg fun q => q.elim (of_decide_eq_false h.1) (of_decide_eq_false h.2)
      rw [e4] at k
      exact s_ret ev_c fun H4 e4 => k H4 (((e1.trans e2).trans e3).trans e4)
theorem v_wish_of {H : Hp} {v lv : V} {p : Part} {n : Int} {l : Ld} (h : Dp K H v (dPart p)) (hp : okP p = true) (hn : 1 ≤ n ∧ n ≤ 8) (hl : LdZ K H lv l) : SpV (sp_wish_of K) [v, .int n, lv] H (oV (wishP n l p)) := fun H1 e Q q E => ⟨v, p, n, lv, l, rfl, h.mv e, hp, hn, hl.mv e, q⟩
/-! first_wish -/
def sp_first_wish (K : Frag) : Sp := fun vs H Q _ => ∃ v ps n lv l, vs = [v, .int n, lv] ∧ Dp K H v (dParts ps) ∧ ps.all okP = true ∧ (1 ≤ n ∧ n ≤ 8) ∧ LdZ K H lv l ∧ ∀ H', Same H H' → Q (.int (wishL ps n l)) H'
theorem wishL_at {ps : List Part} {i : Nat} {p : Part} {n : Int} {l : Ld} (h : ps[i]? = some p) : wishL (ps.drop i) n l = match wishP n l p with
    | some x => x
    | none => wishL (ps.drop (i + 1)) n l := by
  rw [List.drop_eq_getElem_cons (List.getElem?_eq_some_iff.mp h).1, (List.getElem?_eq_some_iff.mp h).2]
  rfl
theorem sc_first_wish : FnScope ["parts", "servers", "load", "part", "found"] ["parts", "servers", "load"] (defScope s_first_wish) := ⟨rfl, rfl, rfl, by decide +kernel, rfl, by decide +kernel, by decide +kernel⟩
theorem ok_first_wish (T : Txt w K mg) : FB P w K mg base 3 (He.ga K "first_wish") ["parts", "servers", "load"] (sp_first_wish K) := by
  refine FB.of T.F_first_wish sc_first_wish (fun _ _ _ _ _ _ us hl => match us, hl with | [_, _, _], _ => rfl) (by rintro vs H Q E ⟨_, _, _, _, _, rfl, _⟩; rfl) (fun cdv A outer s H vs Q E hr h => ?_)
  refine ⟨_, (pss_cons (ps_for (passes_of rfl) rfl (pi_tup (pv 0)) (pg_name (i := 3) sc_first_wish.nd rfl (Or.inl rfl))
    (pss_cons (ps_set (i := 4) sc_first_wish.nd rfl (Or.inl rfl) (pe_callF (ok_wish_of T) (hr.mono (by decide)) (by rfl) T.g_wish_of passL (pa_cons (pv 3) (pa_cons (pv 1) (pa_cons (pv 2) pa_nil)))))
    (pss_one (ps_if (pt_cmpR op_notN (pv 4) pe_non (nomark _))
    (pss_one (ps_ret (pv 4)))
    pss_nil))))
    (pss_one (ps_ret (pv 1)))), ?_⟩
  obtain ⟨v, ps, n, lv, l, rfl, hd, hp, hn, hl, k⟩ := h
  obtain ⟨a, xs, rfl, sq, dx⟩ := Dp.tupI hd
  refine q_forT (ev_var rfl) sq (fun i σ' H' => ∃ o1 o2, σ' = [some (.ref a), some (.int n), some lv, o1, o2] ∧ Ex H H' ∧ wishL (ps.drop i) n l = wishL ps n l) (fun H1 e => ⟨_, _, rfl, e, rfl⟩) (fun i σ' H' _ ⟨_, _, _, e, _⟩ => ex_t e sq) (fun i x σ' H' hx ⟨o1, o2, es, e, ew⟩ => ?_) (fun σ' H' ⟨o1, o2, es, e, ew⟩ => ?_)
  · subst es
    obtain ⟨p, ep, dp⟩ := DpAll.get dx hx
    have okp : okP p = true := List.all_eq_true.mp hp p (List.mem_of_getElem? ep)
    rw [wishL_at ep] at ew
    refine q_asg (ev_callS (ea_cons (ev_var rfl) (ea_cons (ev_var rfl) (ea_cons (ev_var rfl) ea_nil))) (v_wish_of (dp.mv e) okp hn (hl.mv e))) fun H1 e1 => ?_
    cases hw : wishP n l p with
    | none =>
      rw [hw] at ew
      exact s_when (b := false) (et_is (et_test (ev_notN (ev_var rfl))) rfl) (fun h => nomatch h) fun _ H2 e2 => ⟨_, _, rfl, (e.trans e1).trans e2, ew⟩
    | some y =>
      rw [hw] at ew
      refine s_when (b := true) (et_is (et_test (ev_notN (ev_var rfl))) rfl) (fun _ H2 e2 => s_ret (ev_var rfl) fun H3 e3 => ?_) (fun h => nomatch h)
      have ew' : y = wishL ps n l := ew
      show Q (.int y) H3
      rw [ew']
      exact k H3 (((e.trans e1).trans e2).trans e3)
  · subst es
    have hx : xs.length = ps.length := by rw [dx.len, List.length_map]
    rw [hx, List.drop_length] at ew
    have ew' : n = wishL ps n l := ew
    refine s_ret (ev_var rfl) fun H3 e3 => ?_
    rw [← ew'] at k
    exact k H3 (e.trans e3)
theorem v_first_wish {H : Hp} {v lv : V} {ps : List Part} {n : Int} {l : Ld} (h : Dp K H v (dParts ps)) (hp : ps.all okP = true) (hn : 1 ≤ n ∧ n ≤ 8) (hl : LdZ K H lv l) : SpV (sp_first_wish K) [v, .int n, lv] H (.int (wishL ps n l)) := fun H1 e Q q E => ⟨v, ps, n, lv, l, rfl, h.mv e, hp, hn, hl.mv e, q⟩
end
end K74

/-! G1 -/
set_option Elab.async false
set_option linter.all false
set_option maxRecDepth 100000
set_option maxHeartbeats 4000000
namespace K74
open PySem PySem.Spec PyProof.Rows L2
open Evl hiding tCut pss_cut
section
variable {K : Frag} {σ : L2.St} {Z Z1 Z2 H H1 H2 : Hp} {ta tb te tl : TE} {x y z v : V} {r : R2}
def EvPA (ta : TA) (σ : L2.St) (H : Hp) (Φ : List V → Prop) : Prop := ∀ H1, Ex H H1 → ∀ Q : List V → Hp → Prop, (∀ v H2, Ex H1 H2 → Φ v → Q v H2) → ta σ H1 Q
theorem ep_ev (h : Ev te σ H v) : EvP te σ H (fun x _ => x = v) := EvP.of h fun _ _ => rfl
theorem epa_nil : EvPA tNil σ H (fun vs => vs = []) := fun H1 e Q q => q [] H1 (Ex.refl _) rfl
theorem epa_cons {tr : TA} {Φ : V → Prop} {Ψ : List V → Prop} (h : EvP te σ H (fun v _ => Φ v)) (hr : EvPA tr σ H Ψ) : EvPA (tCons te tr) σ H (fun vs => ∃ x r, vs = x :: r ∧ Φ x ∧ Ψ r) := fun H1 e Q q =>
  h H1 e _ fun v H2 e2 p => hr H2 (e.trans e2) _ fun vs H3 e3 p3 => q _ H3 (e2.trans e3) ⟨v, vs, rfl, p, p3⟩
theorem ev_callP {ta : TA} {sp : Sp} {E : XK} {Φ : List V → Prop} (h : EvPA ta σ H Φ) (s : ∀ vs, Φ vs → SpV sp vs H z) : Ev (tCall sp [] E ta) σ H z := fun H1 e Q q => h H1 e _ fun vs H2 e2 p => by
  rw [List.append_nil]
  exact s vs p H2 (e.trans e2) Q (fun H3 e3 => q H3 (e2.trans e3)) E
/-- greatest, least of a list -/
theorem mx_eq : ∀ (ns : List Int) (m x : Int), (m ∈ x :: ns) → (∀ y ∈ x :: ns, y ≤ m) → m = ns.foldl max x
  | [], m, x, h, _ => by
    rcases List.mem_cons.mp h with q | q
    · exact q
    · cases q
  | n :: r, m, x, h, hb => by
    show m = r.foldl max (max x n)
    refine mx_eq r m (max x n) ?_ ?_
    · have hx := hb x List.mem_cons_self
      have hn := hb n (List.mem_cons_of_mem _ List.mem_cons_self)
      rcases List.mem_cons.mp h with q | q
      · rw [show max x n = m by omega]; exact List.mem_cons_self
      · rcases List.mem_cons.mp q with q | q
        · rw [show max x n = m by omega]; exact List.mem_cons_self
        · exact List.mem_cons_of_mem _ q
    · intro y hy
      rcases List.mem_cons.mp hy with q | q
      · have hx := hb x List.mem_cons_self
        have hn := hb n (List.mem_cons_of_mem _ List.mem_cons_self)
        omega
      · exact hb y (List.mem_cons_of_mem _ (List.mem_cons_of_mem _ q))
theorem mn_eq : ∀ (ns : List Int) (m x : Int), (m ∈ x :: ns) → (∀ y ∈ x :: ns, m ≤ y) → m = ns.foldl min x
  | [], m, x, h, _ => by
    rcases List.mem_cons.mp h with q | q
    · exact q
    · cases q
  | n :: r, m, x, h, hb => by
    show m = r.foldl min (min x n)
    refine mn_eq r m (min x n) ?_ ?_
    · have hx := hb x List.mem_cons_self
      have hn := hb n (List.mem_cons_of_mem _ List.mem_cons_self)
      rcases List.mem_cons.mp h with q | q
      · rw [show min x n = m by omega]; exact List.mem_cons_self
      · rcases List.mem_cons.mp q with q | q
        · rw [show min x n = m by omega]; exact List.mem_cons_self
        · exact List.mem_cons_of_mem _ q
    · intro y hy
      rcases List.mem_cons.mp hy with q | q
      · have hx := hb x List.mem_cons_self
        have hn := hb n (List.mem_cons_of_mem _ List.mem_cons_self)
        omega
      · exact hb y (List.mem_cons_of_mem _ (List.mem_cons_of_mem _ q))
theorem mxL_eq {ns : List Int} {m : Int} (h : m ∈ ns) (hb : ∀ y ∈ ns, y ≤ m) : m = mxL ns := by
  cases ns with
  | nil => cases h
  | cons x r => exact mx_eq r m x h hb
theorem mnL_eq {ns : List Int} {m : Int} (h : m ∈ ns) (hb : ∀ y ∈ ns, m ≤ y) : m = mnL ns := by
  cases ns with
  | nil => cases h
  | cons x r => exact mn_eq r m x h hb
theorem ev_mxL {ns : List Int} (h : EvL te σ H (ns.map V.int)) (hn : 0 < ns.length) : Ev (tCB (rMax K) (tCons te tNil)) σ H (.int (mxL ns)) :=
  ev_cbL h fun p H1 l _ H2 e Q q => ⟨p, ns, rfl, sq_of (e _ _ l), hn, fun m hm hb => by rw [mxL_eq hm hb]; exact q _ (Ex.refl _)⟩
theorem ev_mnL {ns : List Int} (h : EvL te σ H (ns.map V.int)) (hn : 0 < ns.length) : Ev (tCB (rMin K) (tCons te tNil)) σ H (.int (mnL ns)) :=
  ev_cbL h fun p H1 l _ H2 e Q q => ⟨p, ns, rfl, sq_of (e _ _ l), hn, fun m hm hb => by rw [mnL_eq hm hb]; exact q _ (Ex.refl _)⟩
theorem ev_mx2 {i j : Int} (ha : Ev ta σ H (.int i)) (hb : Ev tb σ H (.int j)) : Ev (tCB (rMax K) (tCons (tLst (tCons ta (tCons tb tNil))) tNil)) σ H (.int (max i j)) := ev_mxL (ns := [i, j]) (el_lst (ea_cons ha (ea_cons hb ea_nil)) (Nat.le_of_ble_eq_true rfl)) (Nat.le_of_ble_eq_true rfl)
theorem ev_mn2 {i j : Int} (ha : Ev ta σ H (.int i)) (hb : Ev tb σ H (.int j)) : Ev (tCB (rMin K) (tCons (tLst (tCons ta (tCons tb tNil))) tNil)) σ H (.int (min i j)) := ev_mnL (ns := [i, j]) (el_lst (ea_cons ha (ea_cons hb ea_nil)) (Nat.le_of_ble_eq_true rfl)) (Nat.le_of_ble_eq_true rfl)
/-- list(t), t + u, t[lo:] of sequences of known items -/
theorem el_listT {xs : List V} (h : EvP te σ H (fun v H2 => ∃ a, v = .ref a ∧ SqT K H2 a xs)) : EvL (tCB (rListS K) (tCons te tNil)) σ H xs := fun H1 e Q q => h H1 e _ fun v H2 e2 ⟨a, ev, s⟩ => by
  subst ev
  exact ⟨a, xs, rfl, .inr s, fun l hl => q l _ (fresh_back e2 hl) (e2.trans (Ex.new hl)) upd_same⟩
theorem ep_catA {xs ys : List V} (ha : EvP ta σ H (fun v H2 => ∃ a, v = .ref a ∧ SqT K H2 a xs)) (hb : EvP tb σ H (fun v H2 => ∃ a, v = .ref a ∧ SqT K H2 a ys)) (hz : xs.length + ys.length ≤ 100000) :
    EvP (tOp (rCatA K) ta tb) σ H (fun v H2 => ∃ a, v = .ref a ∧ SqT K H2 a (xs ++ ys)) := fun H0 e Q q => ha H0 e _ fun v H1 e1 ⟨a, ev, s⟩ => hb H1 (e.trans e1) _ fun u H2 e2 ⟨b, eu, s2⟩ => by
  subst ev eu
  refine ⟨a, b, xs, ys, rfl, rfl, ex_t e2 s, s2, sz_of hz, fun hx => ?_, fun hx hy => ?_, fun hx hy p hp => ?_⟩
  · subst hx; exact q _ _ (e1.trans e2) ⟨b, rfl, s2⟩
  · subst hy; rw [List.append_nil] at q; exact q _ _ (e1.trans e2) ⟨a, rfl, ex_t e2 s⟩
  · exact q _ _ ((e1.trans e2).trans (Ex.new hp)) ⟨p, rfl, st_of upd_same⟩
/-- frozen: t[lo:], (x,) * k -/
theorem ed_slA {ds : List PyData} {tl th : TO} {lo : Nat} (h : EvD K te σ Z (.tuple ds)) (h1 : ∀ Z, EvO tl σ Z (some (lo : Int))) (h2 : ∀ Z, EvO th σ Z none) : EvD K (tSl (rSlA K) te tl th) σ Z (.tuple (ds.drop lo)) := fun H0 e Q q => h H0 e _ fun v Z1 H1 g p =>
  h1 Z H1 (e.trans g.same) _ fun H2 e2 => h2 Z H2 ((e.trans g.same).trans e2) _ fun H3 e3 => by
    obtain ⟨a, xs, rfl, s, d⟩ := Dp.tupI p
    have g3 : Gr Z H0 Z1 H3 := g.trans (Gr.of g.h (e2.trans e3))
    refine ⟨a, xs, rfl, sqT_mv s g3.h, fun hw => ?_, fun hw p hp => ?_⟩
    · have e4 : xs.drop lo = xs := by rw [← cut_lo lo, cutV_whole hw]
      have e5 : ds.drop lo = ds := by
        have l1 := congrArg List.length e4
        rw [List.length_drop] at l1
        have l2 := d.len
        by_cases h0 : lo = 0
        · rw [h0]; rfl
        · rw [List.length_eq_zero_iff.mp (show ds.length = 0 by omega), List.drop_nil]
      rw [e5] at q
      exact q _ _ _ g3 p
    · rw [cut_lo]
      exact q _ _ _ (g3.trans (Gr.newZ g3.h hp)) (Dp.newT (d.drop lo) (Same.free g3.h hp))
theorem ed_repA {i k : Int} (h : EvD K ta σ Z (.tuple [.int i])) (hk : Ev tb σ Z (.int k)) (h0 : 0 ≤ k ∧ k ≤ 1000) : EvD K (tOp (rRepA K) ta tb) σ Z (.tuple ((List.replicate k.toNat i).map PyData.int)) := fun H0 e Q q => h H0 e _ fun v Z1 H1 g p =>
  hk H1 (e.trans g.same) _ fun H2 e2 => by
    obtain ⟨a, xs, rfl, s, d⟩ := Dp.tupI p
    have ex := DpAll.intsI (ns := [i]) d
    subst ex
    have g3 : Gr Z H0 Z1 H2 := g.trans (Gr.of g.h e2)
    refine ⟨a, k, [.int i], rfl, rfl, sqT_mv s g3.h, by simp, h0.1, h0.2, Nat.le_of_ble_eq_true rfl, fun h1 => ?_, fun h1 p hp => ?_⟩
    · subst h1
      exact q _ _ _ g3 p
    · have e4 : (List.replicate k.toNat [V.int i]).flatten = (List.replicate k.toNat i).map V.int := by
        generalize k.toNat = n
        induction n with
        | zero => rfl
        | succ n ih => rw [List.replicate_succ, List.replicate_succ, List.flatten_cons, ih]; rfl
      rw [show (List.replicate k.toNat ((fun i => [V.int i]) i)) = _ from rfl]
      rw [e4]
      exact q _ _ _ (g3.trans (Gr.newZ g3.h hp)) (Dp.newT (DpAll.ints _) (Same.free g3.h hp))
end
end K74

/-! E5 -/
set_option Elab.async false
set_option linter.all false
set_option maxRecDepth 100000
set_option maxHeartbeats 4000000
namespace K74
open PySem PySem.Spec PyProof.Rows L2
open Evl hiding tCut pss_cut
section
variable {P : Program} {w : World} {K : Frag} {mg : Str → Option Value} {base : Heap}
theorem psz_max {r : Rl} (o : okR r) : max r.up r.down - 1 = (psz r : Int) := by
  have := o.u1
  have := o.d1
  unfold psz
  split <;> omega
/-! first_state -/
theorem dSt_first {r : Rl} {n : Int} : dSt (first r n) = .tuple [.int n, .tuple ((List.replicate (psz r) n).map PyData.int)] := rfl
def sp_first_state (K : Frag) : Sp := fun vs H Q _ => ∃ v r n Z, vs = [v, .int n] ∧ Ex Z H ∧ RuleAt K Z v r ∧ okR r ∧ (r.least ≤ n ∧ n ≤ r.most) ∧ ∀ x Z' H', Gr Z H Z' H' → Dp K Z' x (dSt (first r n)) → Q x H'
theorem bt_true {a b c : Int} (h1 : b ≤ a) (h2 : a ≤ c) : (decide (b ≤ a) && decide (a ≤ c)) = true := by
  rw [decide_eq_true h1, decide_eq_true h2]
  rfl
theorem ev_psz {σ : L2.St} {H : Hp} {v : V} {r : Rl} {E E' : XK} {ta : TE} (ha : Ev ta σ H v) (h : RuleAt K H v r) (o : okR r) : Ev (tOp (rI0 fun i j => .int (i - j)) (tCB (rMax K) (tCons (tLst (tCons (tProp (He.ga K "Rule") (sp_Rule_up K) [] E ta) (tCons (tProp (He.ga K "Rule") (sp_Rule_down K) [] E' ta) tNil))) tNil)) (tC (.int 1))) σ H (.int (psz r)) := by
  rw [← psz_max o]
  exact ev_I (ev_mx2 (ev_Rule_up ha h) (ev_Rule_down ha h)) ev_c
theorem psz_le {r : Rl} (o : okR r) : psz r ≤ 2 := by
  have := psz_max o
  have := o.u3
  have := o.d3
  omega
theorem sc_first_state : FnScope ["rule", "servers"] ["rule", "servers"] (defScope s_first_state) := ⟨rfl, rfl, rfl, by decide +kernel, rfl, by decide +kernel, by decide +kernel⟩
theorem ok_first_state (T : Txt w K mg) : FB P w K mg base 3 (He.ga K "first_state") ["rule", "servers"] (sp_first_state K) := by
  refine FB.of T.F_first_state sc_first_state (fun _ _ _ _ _ _ us hl => match us, hl with | [_, _], _ => rfl) (by rintro vs H Q E ⟨_, _, _, _, rfl, _⟩; rfl) (fun cdv A outer s H vs Q E hr h => ?_)
  refine ⟨_, (pss_cons (ps_if (pt_not (pt_val (pe_callF (ok_is_between T) (hr.mono (by decide)) (by rfl) T.g_is_between passL (pa_cons (pv 1) (pa_cons (pe_propF (pv 0) T.c_Rule (T.p_Rule_least).2 (ok_Rule_least T) (hr.mono (by decide))) (pa_cons (pe_propF (pv 0) T.c_Rule (T.p_Rule_most).2 (ok_Rule_most T) (hr.mono (by decide))) pa_nil))))))
    (pss_one ps_never)
    pss_nil)
    (pss_one (ps_ret (pe_tup (pa_cons (pv 1) (pa_cons (pe_op op_repA (pe_tup (pa_cons (pv 1) pa_nil)) (pe_op op_sub (pe_callB (cr_max rfl) (by rfl) T.f_max (by decide +kernel) (pa_cons (pe_lst (pa_cons (pe_propF (pv 0) T.c_Rule (T.p_Rule_up).2 (ok_Rule_up T) (hr.mono (by decide))) (pa_cons (pe_propF (pv 0) T.c_Rule (T.p_Rule_down).2 (ok_Rule_down T) (hr.mono (by decide))) pa_nil))) pa_nil)) pe_int)) pa_nil)))))), ?_⟩
  obtain ⟨v, r, n, Z, rfl, hZ, hr0, o, hn, k⟩ := h
  have hrH := hr0.mv hZ
  refine q_when (b := false) (et_is (et_not (et_B (ev_callS (ea_cons (ev_var rfl) (ea_cons (ev_Rule_least (ev_var rfl) hrH) (ea_cons (ev_Rule_most (ev_var rfl) hrH) ea_nil))) v_is_between))) (by rw [bt_true hn.1 hn.2]; rfl)) (fun h => nomatch h) fun _ H1 e1 => ?_
  have pz := psz_le o
  refine s_retG (ed_tup (eda_cons (ed_int (ev_var rfl)) (eda_cons (ed_repA (ed_tup (eda_cons (ed_int (ev_var rfl)) eda_nil) (Nat.le_of_ble_eq_true rfl)) (ev_psz (ev_var rfl) hr0 o) ⟨by omega, by omega⟩) eda_nil)) (Nat.le_of_ble_eq_true rfl)) (hZ.trans e1) fun v Z2 H2 g p => ?_
  have g0 : Gr Z H Z H1 := Gr.of hZ e1
  refine k v Z2 H2 (g0.trans g) ?_
  rw [dSt_first]
  exact p
theorem g_first_state {Z : Hp} {v : V} {r : Rl} {n : Int} (h : RuleAt K Z v r) (o : okR r) (hn : r.least ≤ n ∧ n ≤ r.most) : SpG (sp_first_state K) [v, .int n] Z (fun x Z2 => Dp K Z2 x (dSt (first r n))) := fun H1 e Q q E => ⟨v, r, n, Z, rfl, e, h, o, hn, q⟩
/-! states -/
theorem st_at {H : Hp} {v : V} {s : Stt} (h : Dp K H v (dSt s)) : ∃ a b, v = .ref a ∧ SqT K H a [.int s.1, .ref b] ∧ SqT K H b (s.2.map V.int) ∧ Dp K H (.ref b) (.tuple (s.2.map PyData.int)) := by
  obtain ⟨a, xs, rfl, sq, d⟩ := Dp.tupI h
  obtain ⟨x, r, rfl, dx, dr⟩ := DpAll.consI d
  obtain ⟨y, r2, rfl, dy, dr2⟩ := DpAll.consI dr
  cases DpAll.nilI dr2
  cases Dp.intI dx
  have dy' := dy
  obtain ⟨b, ys, rfl, sb, db⟩ := Dp.tupI dy'
  rw [DpAll.intsI db] at sb
  exact ⟨a, b, rfl, sq, sb, dy⟩
/-! is_state -/
def sp_is_state (K : Frag) : Sp := fun vs H Q _ => ∃ v u r s, vs = [v, u] ∧ RuleAt K H v r ∧ okR r ∧ Dp K H u (dSt s) ∧ okS r s ∧ ∀ H', Ex H H' → Q (.bl true) H'
theorem sc_is_state : FnScope ["rule", "thing", "one"] ["rule", "thing"] (defScope s_is_state) := ⟨rfl, rfl, rfl, by decide +kernel, rfl, by decide +kernel, by decide +kernel⟩
theorem ok_is_state (T : Txt w K mg) : FB P w K mg base 3 (He.ga K "is_state") ["rule", "thing"] (sp_is_state K) := by
  refine FB.of T.F_is_state sc_is_state (fun _ _ _ _ _ _ us hl => match us, hl with | [_, _], _ => rfl) (by rintro vs H Q E ⟨_, _, _, _, rfl, _⟩; rfl) (fun cdv A outer s H vs Q E hr h => ?_)
  refine ⟨_, (pss_cons (ps_if (PW.pt (pw_or (pt_not (pt_val (pe_callB call_isi (by rfl) T.f_isinstance (by decide +kernel) (pa_cons (pv 1) (pa_cons (pe_bltn (by rfl) T.f_tuple (by decide +kernel) (v := .ty "tuple") rfl) pa_nil))))) (pw_or (pt_cmpR op_ne (pe_callB call_len_seq (by rfl) T.f_len (by decide +kernel) (pa_cons (pv 1) pa_nil)) pe_int (nomark _)) (pw_or1 (pt_not (pt_val (pe_callB call_isi (by rfl) T.f_isinstance (by decide +kernel) (pa_cons (pe_ix ix_tup (pv 1) pe_int (fun _ _ => rfl)) (pa_cons (pe_bltn (by rfl) T.f_tuple (by decide +kernel) (v := .ty "tuple") rfl) pa_nil)))))))))
    (pss_one (ps_ret pe_bl))
    pss_nil)
    (pss_cons (ps_if (pt_cmpR op_ne (pe_callB call_len_seq (by rfl) T.f_len (by decide +kernel) (pa_cons (pe_ix ix_tup (pv 1) pe_int (fun _ _ => rfl)) pa_nil)) (pe_op op_sub (pe_callB (cr_max rfl) (by rfl) T.f_max (by decide +kernel) (pa_cons (pe_lst (pa_cons (pe_propF (pv 0) T.c_Rule (T.p_Rule_up).2 (ok_Rule_up T) (hr.mono (by decide))) (pa_cons (pe_propF (pv 0) T.c_Rule (T.p_Rule_down).2 (ok_Rule_down T) (hr.mono (by decide))) pa_nil))) pa_nil)) pe_int) (nomark _))
    (pss_one (ps_ret pe_bl))
    pss_nil)
    (pss_one (ps_ret (pe_callB (cr_all rfl) (by rfl) T.f_all (by decide +kernel) (pa_cons (pe_lc (own := [("one", 2)]) (g := gName 2) (tt := tYes) rfl sc_is_state.nd (pi_tup (pe_op op_catA (pe_tup (pa_cons (pe_ix ix_tup (pv 1) pe_int (fun _ _ => rfl)) pa_nil)) (pe_ix ix_tup (pv 1) pe_int (fun _ _ => rfl)))) (blkOk_by (own := [("one", 2)]) (N := ["rule", "thing", "one"]) (sc := defScope s_is_state) (by decide +kernel)) (fun _ _ _ _ _ => pg_name (i := 2) sc_is_state.nd rfl (Or.inl rfl)) (fun _ _ _ _ _ => pts_nil) (fun _ _ _ _ _ => (pe_callF (ok_is_between T) (hr.mono (by decide)) (by rfl) T.g_is_between passL (pa_cons (pv 2) (pa_cons (pe_propF (pv 0) T.c_Rule (T.p_Rule_least).2 (ok_Rule_least T) (hr.mono (by decide))) (pa_cons (pe_propF (pv 0) T.c_Rule (T.p_Rule_most).2 (ok_Rule_most T) (hr.mono (by decide))) pa_nil)))))) pa_nil)))))), ?_⟩
  obtain ⟨v, u, r, ⟨n, ms⟩, rfl, hr0, o, hd, ⟨n1, n2, hl, hall⟩, k⟩ := h
  obtain ⟨a, b, rfl, sq, sb, _⟩ := st_at hd
  have hz := psz_le o
  have hms : ms.length ≤ 2 := by rw [show ms.length = psz r from hl]; exact hz
  refine q_when (b := false) (et_is (et_or (et_not (et_B (ev_isi (ev_var rfl) (tyx_seq sq) kit_tt))) fun _ => et_or (et_test (ev_ne (ev_lenT (ev_var rfl) sq) ev_c rfl)) fun _ => et_not (et_B (ev_isi (ev_ixT (ev_var rfl) sq rfl) (tyx_seq sb) kit_tt))) rfl) (fun h => nomatch h) (fun _ H1 e1 => ?_)
  have sq1 := ex_t e1 sq
  have sb1 := ex_t e1 sb
  refine q_when (b := false) (et_is (et_test (ev_ne (ev_lenT (ev_ixT (ev_var rfl) sq1 rfl) sb1) (ev_psz (ev_var rfl) (hr0.mv e1) o) rfl)) ?_) (fun h => nomatch h) (fun _ H2 e2 => ?_)
  · rw [List.length_map]
    rw [show ms.length = psz r from hl]
    simp
  · have sq2 := ex_t e2 sq1
    have sb2 := ex_t e2 sb1
    have hr2 := hr0.mv (e1.trans e2)
    refine s_ret (ev_is (ev_all (bs := List.replicate (1 + ms.length) true) (el_mapT (xs := V.int n :: ms.map V.int) (ep_catA (EvP.newT (eu_tup (ea_cons (ev_ixT (ev_var rfl) sq2 rfl) ea_nil) (Nat.le_of_ble_eq_true rfl))) (EvP.seq (ev_ixT (ev_var rfl) sq2 rfl) sb2) (by rw [List.length_map]; show 1 + ms.length ≤ 100000; omega)) (by rw [List.length_cons, List.length_map]; omega) (by rw [List.length_map, List.length_replicate, List.length_cons, List.length_map]; omega) (fun _ => rfl) ?_)) ?_) fun H3 e3 => k H3 ((e1.trans e2).trans e3)
    · intro i x y H3 e3 hx hy
      have ey : y = .bl true := by
        rw [List.getElem?_map, List.getElem?_replicate] at hy
        split at hy
        · cases hy; rfl
        · cases hy
      subst ey
      have hm : ∃ m : Int, x = .int m ∧ r.least ≤ m ∧ m ≤ r.most := by
        have hm := List.mem_of_getElem? hx
        rcases List.mem_cons.mp hm with q | q
        · exact ⟨n, q, n1, n2⟩
        · obtain ⟨m, mm, e⟩ := List.mem_map.mp q
          exact ⟨m, e.symm, hall m mm⟩
      obtain ⟨m, rfl, h1, h2⟩ := hm
      refine ev_is (ev_callS (ea_cons (ev_var rfl) (ea_cons (ev_Rule_least (ev_var rfl) (hr2.mv e3)) (ea_cons (ev_Rule_most (ev_var rfl) (hr2.mv e3)) ea_nil))) (v_is_between (K := K))) ?_
      rw [bt_true h1 h2]
    · congr 1
      generalize 1 + ms.length = j
      induction j with
      | zero => rfl
      | succ j ih => rw [List.replicate_succ, List.all_cons, ih]; rfl
theorem v_is_state {H : Hp} {v u : V} {r : Rl} {s : Stt} (h : RuleAt K H v r) (o : okR r) (hd : Dp K H u (dSt s)) (hs : okS r s) : SpV (sp_is_state K) [v, u] H (.bl true) := fun H1 e Q q E => ⟨v, u, r, s, rfl, h.mv e, o, hd.mv e, hs, q⟩
/-! settled -/
def sp_settled (K : Frag) : Sp := fun vs H Q _ => ∃ v r n a rec_, vs = [v, .int n, .ref a] ∧ RuleAt K H v r ∧ okR r ∧ SqT K H a (rec_.map V.int) ∧ rec_.length = psz r + 1 ∧ ∀ H', Ex H H' → Q (.int (settleL r n rec_)) H'
theorem lastN_len {n : Int} {xs : List Int} (h : 1 ≤ n) (hx : xs ≠ []) : 0 < (lastN n xs).length := by
  have : 0 < xs.length := List.length_pos_iff.mpr hx
  unfold lastN
  rw [List.length_drop]
  omega
theorem ev_last {σ : L2.St} {H : Hp} {tr tp : TE} {a : Addr} {rec_ : List Int} {u : Int} (ha : Ev tr σ H (.ref a)) (sq : SqT K H a (rec_.map V.int)) (hu : Ev tp σ H (.int u)) (h1 : 1 ≤ u) (h2 : u ≤ rec_.length) :
    EvL (tCB (rListS K) (tCons (tSl (rSlA K) tr (tPart (tOp (rI0 fun i j => .int (i - j)) (tCB (rLenS K) (tCons tr tNil)) tp)) tNoPart) tNil)) σ H ((lastN u rec_).map V.int) := by
  have e : cutV (rec_.map V.int) (some ((rec_.map V.int).length - u)) none = (lastN u rec_).map V.int := by
    rw [List.length_map, show ((rec_.length : Int) - u) = ((rec_.length - u.toNat : Nat) : Int) by omega, cut_lo]
    unfold lastN
    rw [List.map_drop]
  rw [← e]
  exact el_listT (ep_slA ha (eo_some (ev_I (ev_lenT ha sq) hu)) eo_none sq)
theorem q_par {σ : L2.St} {H : Hp} {i j : Nat} {ta : TA} {v u : V} {D : Ends} {tz : TS} (h : EvA ta σ H [v, u]) (k : ∀ H1, Ex H H1 → tz D ((σ.set i (some v)).set j (some u)) H1) : tSeq (tPar i j ta) tz D σ H := h H (Ex.refl _) _ fun H1 e => ⟨v, u, rfl, k H1 e⟩
theorem sc_settled : FnScope ["rule", "servers", "recent", "lowest", "highest"] ["rule", "servers", "recent"] (defScope s_settled) := ⟨rfl, rfl, rfl, by decide +kernel, rfl, by decide +kernel, by decide +kernel⟩
theorem ok_settled (T : Txt w K mg) : FB P w K mg base 3 (He.ga K "settled") ["rule", "servers", "recent"] (sp_settled K) := by
  refine FB.of T.F_settled sc_settled (fun _ _ _ _ _ _ us hl => match us, hl with | [_, _, _], _ => rfl) (by rintro vs H Q E ⟨_, _, _, _, _, rfl, _⟩; rfl) (fun cdv A outer s H vs Q E hr h => ?_)
  refine ⟨_, (pss_cons (ps_par rfl sc_settled.nd (i := 3) (j := 4) rfl rfl (by decide) rfl rfl (pa_cons (pe_callB (cr_min rfl) (by rfl) T.f_min (by decide +kernel) (pa_cons (pe_callTy call_list_of (by rfl) T.f_list (by decide +kernel) (pa_cons (pe_slice sl_tupA (pv 2) (po_some (pe_op op_sub (pe_callB call_len_seq (by rfl) T.f_len (by decide +kernel) (pa_cons (pv 2) pa_nil)) (pe_propF (pv 0) T.c_Rule (T.p_Rule_up).2 (ok_Rule_up T) (hr.mono (by decide))))) po_none) pa_nil)) pa_nil)) (pa_cons (pe_callB (cr_max rfl) (by rfl) T.f_max (by decide +kernel) (pa_cons (pe_callTy call_list_of (by rfl) T.f_list (by decide +kernel) (pa_cons (pe_slice sl_tupA (pv 2) (po_some (pe_op op_sub (pe_callB call_len_seq (by rfl) T.f_len (by decide +kernel) (pa_cons (pv 2) pa_nil)) (pe_propF (pv 0) T.c_Rule (T.p_Rule_down).2 (ok_Rule_down T) (hr.mono (by decide))))) po_none) pa_nil)) pa_nil)) pa_nil)) (by rfl))
    (pss_cons (ps_if (pt_cmpR op_gt (pv 3) (pv 1) (nomark _))
    (pss_one (ps_ret (pe_ifExp (pt_cmpR op_isN (pe_propF (pv 0) T.c_Rule (T.p_Rule_rise).2 (ok_Rule_rise T) (hr.mono (by decide))) pe_non (nomark _)) (pv 3) (pe_callB (cr_min rfl) (by rfl) T.f_min (by decide +kernel) (pa_cons (pe_lst (pa_cons (pv 3) (pa_cons (pe_op op_add (pv 1) (pe_propF (pv 0) T.c_Rule (T.p_Rule_rise).2 (ok_Rule_rise T) (hr.mono (by decide)))) pa_nil))) pa_nil)))))
    pss_nil)
    (pss_cons (ps_if (pt_cmpR op_lt (pv 4) (pv 1) (nomark _))
    (pss_one (ps_ret (pe_ifExp (pt_cmpR op_isN (pe_propF (pv 0) T.c_Rule (T.p_Rule_fall).2 (ok_Rule_fall T) (hr.mono (by decide))) pe_non (nomark _)) (pv 4) (pe_callB (cr_max rfl) (by rfl) T.f_max (by decide +kernel) (pa_cons (pe_lst (pa_cons (pv 4) (pa_cons (pe_op op_sub (pv 1) (pe_propF (pv 0) T.c_Rule (T.p_Rule_fall).2 (ok_Rule_fall T) (hr.mono (by decide)))) pa_nil))) pa_nil)))))
    pss_nil)
    (pss_one (ps_ret (pv 1)))))), ?_⟩
  obtain ⟨v, r, n, a, rec_, rfl, hr0, o, sq, hl, k⟩ := h
  have hne : rec_ ≠ [] := fun e => by rw [e] at hl; cases hl
  have hu : r.up ≤ rec_.length := by have := psz_max o; have := o.u1; omega
  have hd : r.down ≤ rec_.length := by have := psz_max o; have := o.d1; omega
  refine q_par (ea_cons (ev_mnL (ev_last (ev_var rfl) sq (ev_Rule_up (ev_var rfl) hr0) o.u1 hu) (lastN_len o.u1 hne)) (ea_cons (ev_mxL (ev_last (ev_var rfl) sq (ev_Rule_down (ev_var rfl) hr0) o.d1 hd) (lastN_len o.d1 hne)) ea_nil)) fun H1 e1 => ?_
  refine q_when (et_test (ev_I (ev_var rfl) (ev_var rfl))) (fun h H2 e2 => ?_) (fun h H2 e2 => ?_)
  · have eS : settleL r n rec_ = (match r.rise with | none => mnL (lastN r.up rec_) | some i => min (mnL (lastN r.up rec_)) (n + i)) := if_pos (of_decide_eq_true h)
    rw [eS] at k
    have hr2 := hr0.mv (e1.trans e2)
    cases hri : r.rise with
    | none =>
      rw [hri] at k
      exact s_ret (ev_if (b := true) (et_is (et_test (ev_isN (ev_Rule_rise (ev_var rfl) hr2))) (by rw [hri]; rfl)) (fun _ => ev_var rfl) (fun h => nomatch h)) fun H3 e3 => k _ ((e1.trans e2).trans e3)
    | some i =>
      rw [hri] at k
      exact s_ret (ev_if (b := false) (et_is (et_test (ev_isN (ev_Rule_rise (ev_var rfl) hr2))) (by rw [hri]; rfl)) (fun h => nomatch h) (fun _ => ev_mn2 (ev_var rfl) (ev_I (ev_var rfl) (ev_is (ev_Rule_rise (ev_var rfl) hr2) (by rw [hri]; rfl))))) fun H3 e3 => k _ ((e1.trans e2).trans e3)
  · have eS0 : settleL r n rec_ = (if mxL (lastN r.down rec_) < n then (match r.fall with | none => mxL (lastN r.down rec_) | some i => max (mxL (lastN r.down rec_)) (n - i)) else n) := if_neg (of_decide_eq_false h)
    refine q_when (et_test (ev_I (ev_var rfl) (ev_var rfl))) (fun h3 H3 e3 => ?_) (fun h3 H3 e3 => ?_)
    · have eS : settleL r n rec_ = (match r.fall with | none => mxL (lastN r.down rec_) | some i => max (mxL (lastN r.down rec_)) (n - i)) := eS0.trans (if_pos (of_decide_eq_true h3))
      rw [eS] at k
      have hr2 := hr0.mv ((e1.trans e2).trans e3)
      cases hri : r.fall with
      | none =>
        rw [hri] at k
        exact s_ret (ev_if (b := true) (et_is (et_test (ev_isN (ev_Rule_fall (ev_var rfl) hr2))) (by rw [hri]; rfl)) (fun _ => ev_var rfl) (fun h => nomatch h)) fun H4 e4 => k _ (((e1.trans e2).trans e3).trans e4)
      | some i =>
        rw [hri] at k
        exact s_ret (ev_if (b := false) (et_is (et_test (ev_isN (ev_Rule_fall (ev_var rfl) hr2))) (by rw [hri]; rfl)) (fun h => nomatch h) (fun _ => ev_mx2 (ev_var rfl) (ev_I (ev_var rfl) (ev_is (ev_Rule_fall (ev_var rfl) hr2) (by rw [hri]; rfl))))) fun H4 e4 => k _ (((e1.trans e2).trans e3).trans e4)
    · have eS : settleL r n rec_ = n := eS0.trans (if_neg (of_decide_eq_false h3))
      rw [eS] at k
      exact s_ret (ev_var rfl) fun H4 e4 => k _ (((e1.trans e2).trans e3).trans e4)
theorem v_settled {H : Hp} {v : V} {r : Rl} {n : Int} {a : Addr} {rec_ : List Int} (h : RuleAt K H v r) (o : okR r) (sq : SqT K H a (rec_.map V.int)) (hl : rec_.length = psz r + 1) : SpV (sp_settled K) [v, .int n, .ref a] H (.int (settleL r n rec_)) := fun H1 e Q q E => ⟨v, r, n, a, rec_, rfl, h.mv e, o, ex_t e sq, hl, q⟩
/-! ticked -/
theorem q_unp2 {σ : L2.St} {H : Hp} {i j : Nat} {te : TE} {a : Addr} {v u : V} {D : Ends} {tz : TS} (h : Ev te σ H (.ref a)) (s : SqT K H a [v, u]) (k : ∀ H1, Ex H H1 → tz D ((σ.set i (some v)).set j (some u)) H1) :
    tSeq (tAsg te (gTup K 2 (gCons (gName i) (gCons (gName j) gNil)))) tz D σ H := h H (Ex.refl _) _ fun H1 e => ⟨a, _, rfl, ex_t e s, rfl, _, _, rfl, _, _, rfl, rfl, k H1 e⟩
theorem tickL_eq {r : Rl} {s : Stt} {l : Ld} : tickL r s l = (settleL r s.1 (s.2 ++ [min (max (wishL r.parts s.1 l) r.least) r.most]), (s.2 ++ [min (max (wishL r.parts s.1 l) r.least) r.most]).drop 1) := rfl
theorem okR.allP {r : Rl} (o : okR r) : r.parts.all okP = true := by
  have h := o.ps
  unfold okPs at h
  rw [Bool.and_eq_true] at h
  exact h.2
def sp_ticked (K : Frag) : Sp := fun vs H Q _ => ∃ v u lv r s l Z, vs = [v, u, lv] ∧ Ex Z H ∧ RuleAt K Z v r ∧ okR r ∧ Dp K Z u (dSt s) ∧ okS r s ∧ LdZ K Z lv l ∧ ∀ x Z' H', Gr Z H Z' H' → Dp K Z' x (dSt (tickL r s l)) → Q x H'
theorem sc_ticked : FnScope ["rule", "state", "load", "wished", "recent", "servers", "past"] ["rule", "state", "load"] (defScope s_ticked) := ⟨rfl, rfl, rfl, by decide +kernel, rfl, by decide +kernel, by decide +kernel⟩
theorem ok_ticked (T : Txt w K mg) : FB P w K mg base 5 (He.ga K "ticked") ["rule", "state", "load"] (sp_ticked K) := by
  refine FB.of T.F_ticked sc_ticked (fun _ _ _ _ _ _ us hl => match us, hl with | [_, _, _], _ => rfl) (by rintro vs H Q E ⟨_, _, _, _, _, _, _, rfl, _⟩; rfl) (fun cdv A outer s H vs Q E hr h => ?_)
  refine ⟨_, (pss_cons (ps_asg (pv 1) (pg_tup rfl (pgs_cons (pg_name (i := 5) sc_ticked.nd rfl (Or.inl rfl)) (pgs_cons (pg_name (i := 6) sc_ticked.nd rfl (Or.inl rfl)) pgs_nil))))
    (pss_cons (ps_set (i := 3) sc_ticked.nd rfl (Or.inl rfl) (pe_callB (cr_min rfl) (by rfl) T.f_min (by decide +kernel) (pa_cons (pe_lst (pa_cons (pe_callB (cr_max rfl) (by rfl) T.f_max (by decide +kernel) (pa_cons (pe_lst (pa_cons (pe_callF (ok_first_wish T) (hr.mono (by decide)) (by rfl) T.g_first_wish passL (pa_cons (pe_propF (pv 0) T.c_Rule (T.p_Rule_parts).2 (ok_Rule_parts T) (hr.mono (by decide))) (pa_cons (pv 5) (pa_cons (pv 2) pa_nil)))) (pa_cons (pe_propF (pv 0) T.c_Rule (T.p_Rule_least).2 (ok_Rule_least T) (hr.mono (by decide))) pa_nil))) pa_nil)) (pa_cons (pe_propF (pv 0) T.c_Rule (T.p_Rule_most).2 (ok_Rule_most T) (hr.mono (by decide))) pa_nil))) pa_nil)))
    (pss_cons (ps_set (i := 4) sc_ticked.nd rfl (Or.inl rfl) (pe_op op_catA (pv 6) (pe_tup (pa_cons (pv 3) pa_nil))))
    (pss_one (ps_ret (pe_tup (pa_cons (pe_callF (ok_settled T) (hr.mono (by decide)) (by rfl) T.g_settled passL (pa_cons (pv 0) (pa_cons (pv 5) (pa_cons (pv 4) pa_nil)))) (pa_cons (pe_slice sl_tupA (pv 4) (po_some pe_int) po_none) pa_nil)))))))), ?_⟩
  obtain ⟨v, u, lv, r, ⟨n, ms⟩, l, Z, rfl, hZ, hr0, o, hd, hs, hl, k⟩ := h
  obtain ⟨a, b, rfl, sq, sb, db⟩ := st_at hd
  have hlen : ms.length = psz r := hs.len
  have pz := psz_le o
  have hn : 1 ≤ n ∧ n ≤ 8 := ⟨Int.le_trans o.l1 hs.n1, Int.le_trans hs.n2 o.m8⟩
  refine q_unp2 (ev_var rfl) (ex_t hZ sq) fun H0 e0 => ?_
  have hZ0 := hZ.trans e0
  refine q_asg (Ev.mono hZ0 (ev_mn2 (ev_mx2 (i := wishL r.parts n l) (ev_callP (epa_cons (ep_Rule_parts (ev_var rfl) hr0) (epa_cons (ep_ev (ev_var rfl)) (epa_cons (ep_ev (ev_var rfl)) epa_nil))) ?_) (ev_Rule_least (ev_var rfl) hr0)) (ev_Rule_most (ev_var rfl) hr0))) fun H1 e1 => ?_
  · rintro vs ⟨x, r1, rfl, dx, y, r2, rfl, rfl, z, r3, rfl, rfl, rfl⟩
    exact v_first_wish dx o.allP hn hl
  · have hZ1 := hZ0.trans e1
    refine q_asgG (ed_catA (ds := ms.map PyData.int) (es := [.int (min (max (wishL r.parts n l) r.least) r.most)]) (ed_ev (ev_var rfl) db) (ed_tup (eda_cons (ed_int (ev_var rfl)) eda_nil) (Nat.le_of_ble_eq_true rfl)) (by rw [List.length_map]; show ms.length + 1 ≤ 100000; omega)) hZ1 fun x Z2 H2 g p => ?_
    have p' : Dp K Z2 x (.tuple ((ms ++ [min (max (wishL r.parts n l) r.least) r.most]).map PyData.int)) := by rw [List.map_append]; exact p
    obtain ⟨c, xs, rfl, sc, dc⟩ := Dp.tupI p'
    have exs := DpAll.intsI dc
    subst exs
    refine s_retG (ed_tup (eda_cons (ed_int (ev_callS (ea_cons (ev_var rfl) (ea_cons (ev_var rfl) (ea_cons (ev_var rfl) ea_nil))) (v_settled (hr0.mv g.z) o sc (by rw [List.length_append, hlen]; rfl)))) (eda_cons (ed_slA (lo := 1) (ed_ev (ev_var rfl) p') (fun Z => eo_some ev_c) (fun Z => eo_none)) eda_nil)) (Nat.le_of_ble_eq_true rfl)) g.h fun y Z3 H3 g3 p3 => ?_
    have g0 : Gr Z H Z H1 := Gr.of hZ (e0.trans e1)
    refine k y Z3 H3 ((g0.trans g).trans g3) ?_
    rw [tickL_eq]
    rw [← List.map_drop] at p3
    exact p3
theorem g_ticked {Z : Hp} {v u lv : V} {r : Rl} {s : Stt} {l : Ld} (h : RuleAt K Z v r) (o : okR r) (hd : Dp K Z u (dSt s)) (hs : okS r s) (hl : LdZ K Z lv l) : SpG (sp_ticked K) [v, u, lv] Z (fun x Z2 => Dp K Z2 x (dSt (tickL r s l))) := fun H1 e Q q E => ⟨v, u, lv, r, s, l, Z, rfl, e, h, o, hd, hs, hl, q⟩
/-! tick -/
def sp_tick (K : Frag) : Sp := sp_ticked K
theorem sc_tick : FnScope ["rule", "state", "load"] ["rule", "state", "load"] (defScope s_tick) := ⟨rfl, rfl, rfl, by decide +kernel, rfl, by decide +kernel, by decide +kernel⟩
theorem ok_tick (T : Txt w K mg) : FB P w K mg base 6 (He.ga K "tick") ["rule", "state", "load"] (sp_tick K) := by
  refine FB.of T.F_tick sc_tick (fun _ _ _ _ _ _ us hl => match us, hl with | [_, _, _], _ => rfl) (by rintro vs H Q E ⟨_, _, _, _, _, _, _, rfl, _⟩; rfl) (fun cdv A outer s H vs Q E hr h => ?_)
  refine ⟨_, (pss_cons (ps_if (pt_not (pt_val (pe_callF (ok_is_state T) (hr.mono (by decide)) (by rfl) T.g_is_state passL (pa_cons (pv 0) (pa_cons (pv 1) pa_nil)))))
    (pss_one ps_never)
    pss_nil)
    (pss_cons (ps_expr (pe_callF (ok_need_load T) (hr.mono (by decide)) (by rfl) T.g_need_load passL (pa_cons (pv 2) pa_nil)))
    (pss_one (ps_ret (pe_callF (ok_ticked T) (hr.mono (by decide)) (by rfl) T.g_ticked passL (pa_cons (pv 0) (pa_cons (pv 1) (pa_cons (pv 2) pa_nil)))))))), ?_⟩
  obtain ⟨v, u, lv, r, s, l, Z, rfl, hZ, hr0, o, hd, hs, hl, k⟩ := h
  refine q_when (b := false) (EvT.mono hZ (et_is (et_not (et_B (ev_callS (ea_cons (ev_var rfl) (ea_cons (ev_var rfl) ea_nil)) (v_is_state hr0 o hd hs)))) rfl)) (fun h => nomatch h) fun _ H1 e1 => ?_
  refine q_drop (v := .non) (ev_callS (ea_cons (ev_var rfl) ea_nil) fun H2 e2 Q q E => ⟨lv, l.1, l.2, rfl, (hl.mv ((hZ.trans e1).trans e2)).t, q⟩) fun H2 e2 => ?_
  have g0 : Gr Z H Z H2 := Gr.of hZ (e1.trans e2)
  exact s_retG (eg_call (ea_cons (ev_var rfl) (ea_cons (ev_var rfl) (ea_cons (ev_var rfl) ea_nil))) (g_ticked hr0 o hd hs hl) (fun _ _ _ e q => q.mv e)) g0.h fun y Z3 H3 g3 p3 => k y Z3 H3 (g0.trans g3) p3
end
end K74

/-! X1 -/
set_option Elab.async false
set_option linter.all false
set_option maxRecDepth 100000
set_option maxHeartbeats 4000000
namespace K74
open PySem PySem.Spec PyProof.Rows L2
/-! ### equality of data -/
theorem beq_dec {α : Type} [BEq α] [LawfulBEq α] [DecidableEq α] (a b : α) : (a == b) = decide (a = b) := by
  by_cases h : a = b
  · subst h; simp
  · rw [decide_eq_false h]; exact beq_eq_false_iff_ne.mpr h
theorem eqv_map {α : Type} [DecidableEq α] {f : α → PyData} (h : ∀ a b, PyData.eqv (f a) (f b) = decide (a = b)) : ∀ (as bs : List α), PyData.eqvAll (as.map f) (bs.map f) = decide (as = bs)
  | [], [] => by simp [PyData.eqvAll]
  | [], b :: bs => by simp [PyData.eqvAll]
  | a :: as, [] => by simp [PyData.eqvAll]
  | a :: as, b :: bs => by
    rw [List.map_cons, List.map_cons, PyData.eqvAll, h, eqv_map h as bs]
    by_cases h1 : a = b
    · by_cases h2 : as = bs
      · simp [h1, h2]
      · simp [h1, h2]
    · simp [h1]
theorem eqv_int (a b : Int) : PyData.eqv (.int a) (.int b) = decide (a = b) := by
  rw [PyData.eqv]
  exact beq_dec a b
theorem eqv_ints (as bs : List Int) : PyData.eqvAll (as.map PyData.int) (bs.map PyData.int) = decide (as = bs) := eqv_map (f := PyData.int) eqv_int as bs
theorem eqv_strT (x : Str) : PyData.eqv (.str x) (.str x) = true := by
  rw [PyData.eqv]
  exact beq_self_eq_true x
theorem eqv_strF {x y : Str} (h : (x == y) = false) : PyData.eqv (.str x) (.str y) = false := by
  rw [PyData.eqv]
  exact h
theorem eqv_tup (as bs : List PyData) : PyData.eqv (.tuple as) (.tuple bs) = PyData.eqvAll as bs := by rw [PyData.eqv]
theorem eqv_lst (as bs : List PyData) : PyData.eqv (.list as) (.list bs) = PyData.eqvAll as bs := by rw [PyData.eqv]
theorem eqv_tag {x y : Str} {as bs : List PyData} : PyData.eqv (.tuple (.str x :: as)) (.tuple (.str y :: bs)) = ((x == y) && PyData.eqvAll as bs) := by
  rw [eqv_tup, PyData.eqvAll, PyData.eqv]
theorem eqv_dPart (p q : Part) : PyData.eqv (dPart p) (dPart q) = decide (p = q) := by
  cases p <;> cases q <;> simp only [dPart]
  · rename_i m k m' k'
    rw [eqv_tag, show [PyData.int m, .int k] = [m, k].map PyData.int from rfl, show [PyData.int m', .int k'] = [m', k'].map PyData.int from rfl, eqv_ints]
    simp
  · rw [eqv_tag]; rw [show (("over" : Str) == ("under" : Str)) = false by decide +kernel]; simp
  · rw [eqv_tag]; rw [show (("over" : Str) == ("aim" : Str)) = false by decide +kernel]; simp
  · rw [eqv_tag]; rw [show (("under" : Str) == ("over" : Str)) = false by decide +kernel]; simp
  · rename_i m k m' k'
    rw [eqv_tag, show [PyData.int m, .int k] = [m, k].map PyData.int from rfl, show [PyData.int m', .int k'] = [m', k'].map PyData.int from rfl, eqv_ints]
    simp
  · rw [eqv_tag]; rw [show (("under" : Str) == ("aim" : Str)) = false by decide +kernel]; simp
  · rw [eqv_tag]; rw [show (("aim" : Str) == ("over" : Str)) = false by decide +kernel]; simp
  · rw [eqv_tag]; rw [show (("aim" : Str) == ("under" : Str)) = false by decide +kernel]; simp
  · rename_i m l k m' l' k'
    rw [eqv_tag, show [PyData.int m, .int l, .int k] = [m, l, k].map PyData.int from rfl, show [PyData.int m', .int l', .int k'] = [m', l', k'].map PyData.int from rfl, eqv_ints]
    simp
theorem eqv_dParts (ps qs : List Part) : PyData.eqv (dParts ps) (dParts qs) = decide (ps = qs) := by
  unfold dParts
  rw [eqv_tup, eqv_map eqv_dPart]
theorem eqv_dLd (a b : Ld) : PyData.eqv (dLd a) (dLd b) = decide (a = b) := by
  unfold dLd
  rw [eqv_tup, show [PyData.int a.1, .int a.2] = [a.1, a.2].map PyData.int from rfl, show [PyData.int b.1, .int b.2] = [b.1, b.2].map PyData.int from rfl, eqv_ints]
  obtain ⟨a1, a2⟩ := a
  obtain ⟨b1, b2⟩ := b
  simp
theorem eqv_dSt (a b : Stt) : PyData.eqv (dSt a) (dSt b) = decide (a = b) := by
  obtain ⟨n, ms⟩ := a
  obtain ⟨n', ms'⟩ := b
  unfold dSt
  rw [eqv_tup, PyData.eqvAll, PyData.eqvAll, PyData.eqvAll, eqv_int, eqv_tup, eqv_ints, Bool.and_true]
  simp
theorem eqv_oD (a b : Option Int) : PyData.eqv (oD a) (oD b) = decide (a = b) := by
  cases a <;> cases b <;> first | (simp [oD, PyData.eqv]; done) | (simp only [oD]; rw [eqv_int]; simp; done)
theorem eqv_dBnd (r s : Rl) : PyData.eqv (.tuple (dBnd r)) (.tuple (dBnd s)) = (decide (r.least = s.least) && decide (r.most = s.most)) := by
  unfold dBnd
  rw [eqv_tup, PyData.eqvAll, PyData.eqvAll, PyData.eqvAll, eqv_int, eqv_int, Bool.and_true]
theorem eqv_dLim (r s : Rl) : PyData.eqv (.tuple (dLim r)) (.tuple (dLim s)) = (decide (r.rise = s.rise) && (decide (r.fall = s.fall) && (decide (r.up = s.up) && decide (r.down = s.down)))) := by
  unfold dLim
  rw [eqv_tup, PyData.eqvAll, PyData.eqvAll, PyData.eqvAll, PyData.eqvAll, PyData.eqvAll, eqv_oD, eqv_oD, eqv_int, eqv_int, Bool.and_true]
theorem eq_rl (r s : Rl) : (decide (r.parts = s.parts) && ((decide (r.least = s.least) && decide (r.most = s.most)) && (decide (r.rise = s.rise) && (decide (r.fall = s.fall) && (decide (r.up = s.up) && decide (r.down = s.down)))))) = decide (r = s) := by
  cases r; cases s
  simp [Bool.and_assoc]
theorem eqv_dDeed (a b : Deed) : PyData.eqv (dDeed a) (dDeed b) = decide (a = b) := by
  cases a <;> cases b <;> simp only [dDeed]
  all_goals rw [eqv_tag]
  all_goals first
    | (rw [show (("load" : Str) == ("fail" : Str)) = false by decide +kernel]; simp; done)
    | (rw [show (("load" : Str) == ("part" : Str)) = false by decide +kernel]; simp; done)
    | (rw [show (("load" : Str) == ("raise" : Str)) = false by decide +kernel]; simp; done)
    | (rw [show (("fail" : Str) == ("load" : Str)) = false by decide +kernel]; simp; done)
    | (rw [show (("fail" : Str) == ("part" : Str)) = false by decide +kernel]; simp; done)
    | (rw [show (("fail" : Str) == ("raise" : Str)) = false by decide +kernel]; simp; done)
    | (rw [show (("part" : Str) == ("load" : Str)) = false by decide +kernel]; simp; done)
    | (rw [show (("part" : Str) == ("fail" : Str)) = false by decide +kernel]; simp; done)
    | (rw [show (("part" : Str) == ("raise" : Str)) = false by decide +kernel]; simp; done)
    | (rw [show (("raise" : Str) == ("load" : Str)) = false by decide +kernel]; simp; done)
    | (rw [show (("raise" : Str) == ("fail" : Str)) = false by decide +kernel]; simp; done)
    | (rw [show (("raise" : Str) == ("part" : Str)) = false by decide +kernel]; simp; done)
    | (rw [PyData.eqvAll, PyData.eqvAll, eqv_dLd]; simp; done)
    | (rw [PyData.eqvAll, PyData.eqvAll, eqv_dPart]; simp; done)
    | (rw [PyData.eqvAll, PyData.eqvAll, eqv_int]; simp; done)
/-! their depth -/
theorem shp_ints (ns : List Int) : PyData.canLayAll0 (ns.map PyData.int) = true ∧ PyData.depthAll (ns.map PyData.int) = 0 := by
  induction ns with
  | nil => exact ⟨by simp [PyData.canLayAll0], by simp [PyData.depthAll]⟩
  | cons n r ih => exact ⟨by simp [PyData.canLayAll0, PyData.canLay0, ih.1], by simp [PyData.depthAll, PyData.depth, ih.2]⟩
theorem shp_all {n : Nat} : ∀ {ds : List PyData}, (∀ d ∈ ds, d.canLay0 = true ∧ d.depth ≤ n) → PyData.canLayAll0 ds = true ∧ PyData.depthAll ds ≤ n
  | [], _ => ⟨by simp [PyData.canLayAll0], by simp [PyData.depthAll]⟩
  | d :: ds, h => by
    have h1 := h d List.mem_cons_self
    have h2 := shp_all (ds := ds) fun x hx => h x (List.mem_cons_of_mem _ hx)
    refine ⟨by simp [PyData.canLayAll0, h1.1, h2.1], ?_⟩
    simp only [PyData.depthAll]
    have := h1.2
    have := h2.2
    omega
theorem shp_of {d : PyData} {n : Nat} (h : d.canLay0 = true ∧ d.depth ≤ n) (hn : n ≤ 64) : SeqAt.shaped d = true := by
  unfold SeqAt.shaped
  rw [h.1, decide_eq_true (Nat.le_trans h.2 hn)]
  rfl
theorem lay_tup {ds : List PyData} {n : Nat} (h : PyData.canLayAll0 ds = true ∧ PyData.depthAll ds ≤ n) : (PyData.tuple ds).canLay0 = true ∧ (PyData.tuple ds).depth ≤ n + 1 := ⟨by simp only [PyData.canLay0]; exact h.1, by simp only [PyData.depth]; omega⟩
theorem lay_lst {ds : List PyData} {n : Nat} (h : PyData.canLayAll0 ds = true ∧ PyData.depthAll ds ≤ n) : (PyData.list ds).canLay0 = true ∧ (PyData.list ds).depth ≤ n + 1 := ⟨by simp only [PyData.canLay0]; exact h.1, by simp only [PyData.depth]; omega⟩
theorem of_shp {d : PyData} (h : SeqAt.shaped d = true) : d.canLay0 = true ∧ d.depth ≤ 64 := ⟨SeqAt.canLay_of_shaped h, SeqAt.depth_of_shaped h⟩
theorem lay_int (i : Int) : (PyData.int i).canLay0 = true ∧ (PyData.int i).depth ≤ 0 := ⟨by simp only [PyData.canLay0], by simp only [PyData.depth]; exact Nat.le_refl _⟩
theorem lay_str {x : Str} (h : PyData.strOk x = true) : (PyData.str x).canLay0 = true ∧ (PyData.str x).depth ≤ 0 := ⟨by simp only [PyData.canLay0]; exact h, by simp only [PyData.depth]; exact Nat.le_refl _⟩
theorem lay_up {d : PyData} {n m : Nat} (h : d.canLay0 = true ∧ d.depth ≤ n) (hm : n ≤ m) : d.canLay0 = true ∧ d.depth ≤ m := ⟨h.1, Nat.le_trans h.2 hm⟩
theorem lay_scal {d : PyData} (h : sB d = true) (hs : ∀ x, d = .str x → PyData.strOk x = true) : d.canLay0 = true ∧ d.depth ≤ 0 := by
  cases d with
  | none => exact ⟨by simp only [PyData.canLay0], by simp only [PyData.depth]; exact Nat.le_refl _⟩
  | bool b => exact ⟨by simp only [PyData.canLay0], by simp only [PyData.depth]; exact Nat.le_refl _⟩
  | int i => exact lay_int i
  | str x => exact lay_str (hs x rfl)
  | list _ => cases h
  | tuple _ => cases h
  | dict _ => cases h
theorem lay_part (p : Part) : (dPart p).canLay0 = true ∧ (dPart p).depth ≤ 1 := by
  have w : ∀ x : Str, PyData.strOk x = true → ∀ ns : List Int, (PyData.tuple (.str x :: ns.map PyData.int)).canLay0 = true ∧ (PyData.tuple (.str x :: ns.map PyData.int)).depth ≤ 1 := fun x hx ns => lay_tup (n := 0) (shp_all fun d hd => by
    rcases List.mem_cons.mp hd with q | q
    · subst q; exact lay_str hx
    · obtain ⟨i, _, e⟩ := List.mem_map.mp q
      subst e; exact lay_int i)
  cases p with
  | over m k => exact w "over" (by decide +kernel) [m, k]
  | under m k => exact w "under" (by decide +kernel) [m, k]
  | aim m l k => exact w "aim" (by decide +kernel) [m, l, k]
theorem lay_ldd (l : Ld) : (dLd l).canLay0 = true ∧ (dLd l).depth ≤ 1 := lay_tup (n := 0) (shp_all fun d hd => by
  rcases List.mem_cons.mp hd with q | q
  · subst q; exact lay_int _
  · cases List.mem_singleton.mp q; exact lay_int _)
theorem lay_deed (a : Deed) : (dDeed a).canLay0 = true ∧ (dDeed a).depth ≤ 2 := by
  have w : ∀ x : Str, PyData.strOk x = true → ∀ e : PyData, (e.canLay0 = true ∧ e.depth ≤ 1) → (PyData.tuple [.str x, e]).canLay0 = true ∧ (PyData.tuple [.str x, e]).depth ≤ 2 := fun x hx e he => lay_tup (n := 1) (shp_all fun d hd => by
    rcases List.mem_cons.mp hd with q | q
    · subst q; exact lay_up (lay_str hx) (by decide)
    · cases List.mem_singleton.mp q; exact he)
  cases a with
  | load l => exact w "load" (by decide +kernel) _ (lay_ldd l)
  | fail k => exact w "fail" (by decide +kernel) _ (lay_up (lay_int k) (by decide))
  | part p => exact w "part" (by decide +kernel) _ (lay_part p)
  | raise a => exact w "raise" (by decide +kernel) _ (lay_up (lay_int a) (by decide))
theorem lay_map {α : Type} {f : α → PyData} {n : Nat} (h : ∀ a, (f a).canLay0 = true ∧ (f a).depth ≤ n) (as : List α) : PyData.canLayAll0 (as.map f) = true ∧ PyData.depthAll (as.map f) ≤ n := shp_all fun d hd => by
  obtain ⟨a, _, e⟩ := List.mem_map.mp hd
  subst e
  exact h a
theorem shp_dParts (ps : List Part) : SeqAt.shaped (dParts ps) = true := shp_of (lay_tup (lay_map lay_part ps)) (by decide)
theorem shp_deeds (ds : List Deed) : SeqAt.shaped (.list (ds.map dDeed)) = true := shp_of (lay_lst (lay_map lay_deed ds)) (by decide)
theorem shp_curve (cv : List Ld) : SeqAt.shaped (.list (cv.map dLd)) = true := shp_of (lay_lst (lay_map lay_ldd cv)) (by decide)
theorem shp_st (s : Stt) : SeqAt.shaped (dSt s) = true := shp_of (n := 2) (lay_tup (n := 1) (shp_all fun d hd => by
  rcases List.mem_cons.mp hd with q | q
  · subst q; exact lay_up (lay_int _) (by decide)
  · cases List.mem_singleton.mp q
    exact lay_tup (n := 0) (lay_map lay_int s.2))) (by decide)
theorem lay_oD (o : Option Int) : (oD o).canLay0 = true ∧ (oD o).depth ≤ 0 := lay_scal (oD_B o) fun x e => by cases o <;> cases e
theorem shp_bnd (r : Rl) : SeqAt.shaped (.tuple (dBnd r)) = true := shp_of (n := 1) (lay_tup (n := 0) (shp_all fun d hd => by
  rcases List.mem_cons.mp hd with q | q
  · subst q; exact lay_int _
  · cases List.mem_singleton.mp q; exact lay_int _)) (by decide)
theorem shp_lim (r : Rl) : SeqAt.shaped (.tuple (dLim r)) = true := shp_of (n := 1) (lay_tup (n := 0) (shp_all fun d hd => by
  rcases List.mem_cons.mp hd with q | q
  · subst q; exact lay_oD _
  · rcases List.mem_cons.mp q with q | q
    · subst q; exact lay_oD _
    · rcases List.mem_cons.mp q with q | q
      · subst q; exact lay_int _
      · cases List.mem_singleton.mp q; exact lay_int _)) (by decide)
end K74

/-! E6 -/
set_option Elab.async false
set_option linter.all false
set_option maxRecDepth 100000
set_option maxHeartbeats 4000000
namespace K74
open PySem PySem.Spec PyProof.Rows L2
open Evl hiding tCut pss_cut
section
variable {P : Program} {w : World} {K : Frag} {mg : Str → Option Value} {base : Heap}
/-! isinstance by an own class -/
theorem ev_isiC {σ : L2.St} {H : Hp} {ta : TE} {x : V} {C : Addr} {t : Value} {b : Bool} (ha : Ev ta σ H x) (ht : ∀ H1, Ex H H1 → TyX K H1 x t) (hk : PySem.W.kitOne K t (.ref C) = some b) : Ev (tCB (rIsi K) (tCons ta (tCons (tC (.ref C)) tNil))) σ H (.bl b) :=
  ev_cb (ea_cons ha (ea_cons ev_c ea_nil)) fun H1 e Q q => ⟨x, _, t, _, b, rfl, .own C, ht H1 e, hk, q _ (Ex.refl _)⟩
theorem tyx_rule (T : Txt w K mg) {H : Hp} {v : V} {r : Rl} (h : RuleAt K H v r) : ∀ H1, Ex H H1 → TyX K H1 v (.ref (He.ga K "Rule")) := fun H1 e => by
  obtain ⟨a, dx, p, b, l, rfl, h1, _⟩ := h
  exact .base (.ins (e _ _ h1) T.c_Rule T.o_cc_Rule T.o_cget T.o_ctak T.o_co_Rule)
/-! == of an own class -/
theorem nf_self {C : Addr} : PySem.W.notFirst K C (.ref C) = true := by
  unfold PySem.W.notFirst
  simp
theorem nf_none {C : Addr} {t : Value} (h : PySem.W.subIn K t (.ref C) = some false) : PySem.W.notFirst K C t = true := by
  unfold PySem.W.notFirst
  rw [h]
  simp
theorem ev_eqO {σ : L2.St} {H : Hp} {ta tb : TE} {a C dx : Addr} {fs : List (Str × V)} {y : V} {sp : Sp} {b : Bool} (ha : Ev ta σ H (.ref a)) (hb : Ev tb σ H y) (h : H a = some (.ins C dx fs)) (hy : ∀ H1, Ex H H1 → YTy K C H1 y) (s : SpV sp [.ref a, y] H (.bl b)) :
    Ev (tOp (rOwn K C sp false) ta tb) σ H (.bl b) := ev_op ha hb fun H1 e Q q => ⟨a, dx, fs, rfl, e _ _ h, hy H1 e, s H1 e _ (fun H2 e2 => ⟨b, rfl, q H2 e2⟩) E0⟩
theorem ev_neO {σ : L2.St} {H : Hp} {ta tb : TE} {a C dx : Addr} {fs : List (Str × V)} {y : V} {sp : Sp} {b : Bool} (ha : Ev ta σ H (.ref a)) (hb : Ev tb σ H y) (h : H a = some (.ins C dx fs)) (hy : ∀ H1, Ex H H1 → YTy K C H1 y) (s : SpV sp [.ref a, y] H (.bl b)) :
    Ev (tOp (rOwn K C sp true) ta tb) σ H (.bl (!b)) := ev_op ha hb fun H1 e Q q => ⟨a, dx, fs, rfl, e _ _ h, hy H1 e, s H1 e _ (fun H2 e2 => ⟨b, rfl, q H2 e2⟩) E0⟩
/-! Rule.__eq__ -/
def sp_Rule_eq (K : Frag) : Sp := fun vs H Q _ => ∃ v u r s, vs = [v, u] ∧ RuleAt K H v r ∧ RuleAt K H u s ∧ ∀ H', Ex H H' → Q (.bl (decide (r = s))) H'
theorem sc_Rule_eq : FnScope ["self", "other"] ["self", "other"] (defScope s_Rule_eq) := ⟨rfl, rfl, rfl, by decide +kernel, rfl, by decide +kernel, by decide +kernel⟩
theorem ok_Rule_eq (T : Txt w K mg) : FB P w K mg base 1 (He.ma K (He.ga K "Rule") "__eq__") ["self", "other"] (sp_Rule_eq K) := by
  refine FB.of T.F_Rule_eq sc_Rule_eq (fun _ _ _ _ _ _ us hl => match us, hl with | [_, _], _ => rfl) (by rintro vs H Q E ⟨_, _, _, _, rfl, _⟩; rfl) (fun cdv A outer s H vs Q E hr h => ?_)
  refine ⟨_, (pss_cons (ps_if (PW.pt (pw_or (pt_not (pt_val (pe_callB call_isi (by rfl) T.f_isinstance (by decide +kernel) (pa_cons (pv 1) (pa_cons (pe_glob (v := .ref (He.ga K "Rule")) (by rfl) T.g_Rule rfl) pa_nil))))) (pw_or1 (pt_cmpR (op_neD hr.units) (pe_fld (pv 0) rfl) (pe_fld (pv 1) rfl) (nomark _)))))
    (pss_one (ps_ret pe_bl))
    pss_nil)
    (pss_one (ps_ret (pe_and (pe_cmpR (op_eqD hr.units) (pe_fld (pv 0) rfl) (pe_fld (pv 1) rfl) (nomark _)) (pe_one (pe_cmpR (op_eqD hr.units) (pe_fld (pv 0) rfl) (pe_fld (pv 1) rfl) (nomark _))))))), ?_⟩
  obtain ⟨v, u, r, s, rfl, h1, h2, k⟩ := h
  have ty := tyx_rule T h2
  obtain ⟨a, dx, p, b, l, rfl, a1, a2, a3, a4⟩ := h1
  obtain ⟨a', dx', p', b', l', rfl, b1, b2, b3, b4⟩ := h2
  rw [← eq_rl r s] at k
  refine q_when (b := !decide (r.parts = s.parts)) (et_is (et_or (et_not (et_B (ev_isiC (ev_var rfl) ty T.o_is_Rule))) fun _ => et_test (ev_neD (ev_fld (ev_var rfl) a1 T.c_Rule T.n_r_parts rfl) (ev_fld (ev_var rfl) b1 T.c_Rule T.n_r_parts rfl) a2 b2 (shp_dParts _) (shp_dParts _))) (by rw [eqv_dParts]; rfl)) (fun h H1 e1 => ?_) (fun h H1 e1 => ?_)
  · rw [nb h] at k
    exact s_ret ev_c fun H2 e2 => k H2 (e1.trans e2)
  · rw [nbf h] at k
    refine s_ret (ev_is (ev_andV (ev_eqD (ev_fld (ev_var rfl) (e1 _ _ a1) T.c_Rule T.n_r_bounds rfl) (ev_fld (ev_var rfl) (e1 _ _ b1) T.c_Rule T.n_r_bounds rfl) (a3.mv e1) (b3.mv e1) (shp_bnd _) (shp_bnd _)) fun _ => ev_eqD (ev_fld (ev_var rfl) (e1 _ _ a1) T.c_Rule T.n_r_limits rfl) (ev_fld (ev_var rfl) (e1 _ _ b1) T.c_Rule T.n_r_limits rfl) (a4.mv e1) (b4.mv e1) (shp_lim _) (shp_lim _)) ?_) fun H2 e2 => k H2 (e1.trans e2)
    rw [eqv_dBnd, eqv_dLim]
    rfl
theorem v_Rule_eq {H : Hp} {v u : V} {r s : Rl} (h1 : RuleAt K H v r) (h2 : RuleAt K H u s) : SpV (sp_Rule_eq K) [v, u] H (.bl (decide (r = s))) := fun H1 e Q q E => ⟨v, u, r, s, rfl, h1.mv e, h2.mv e, q⟩
theorem eqc_Rule (T : Txt w K mg) : EqC K (He.ga K "Rule") (He.ma K (He.ga K "Rule") "__eq__") := ⟨T.m_Rule_eq.at_, T.m_Rule_eq.fn, T.o_ne_Rule, T.o_co_Rule⟩
theorem yty_rule {H : Hp} {u : V} {s : Rl} (h : RuleAt K H u s) : ∀ H1, Ex H H1 → YTy K (He.ga K "Rule") H1 u := fun H1 e => by
  obtain ⟨a, dx, p, b, l, rfl, h1, _⟩ := h
  exact .inr ⟨a, _, _, _, rfl, e _ _ h1, nf_self⟩
theorem ev_eq_Rule {σ : L2.St} {H : Hp} {ta tb : TE} {v u : V} {r s : Rl} (ha : Ev ta σ H v) (hb : Ev tb σ H u) (h1 : RuleAt K H v r) (h2 : RuleAt K H u s) : Ev (tOp (rOwn K (He.ga K "Rule") (sp_Rule_eq K) false) ta tb) σ H (.bl (decide (r = s))) := by
  have h3 := h1
  obtain ⟨a, dx, p, b, l, rfl, a1, _⟩ := h3
  exact ev_eqO ha hb a1 (yty_rule h2) (v_Rule_eq h1 h2)
theorem ev_ne_Rule {σ : L2.St} {H : Hp} {ta tb : TE} {v u : V} {r s : Rl} (ha : Ev ta σ H v) (hb : Ev tb σ H u) (h1 : RuleAt K H v r) (h2 : RuleAt K H u s) : Ev (tOp (rOwn K (He.ga K "Rule") (sp_Rule_eq K) true) ta tb) σ H (.bl (!decide (r = s))) := by
  have h3 := h1
  obtain ⟨a, dx, p, b, l, rfl, a1, _⟩ := h3
  exact ev_neO ha hb a1 (yty_rule h2) (v_Rule_eq h1 h2)
/-! need_curve: a list of loads -/
def sp_need_curve (K : Frag) : Sp := fun vs H Q _ => ∃ (a : Addr) (xs : List V) (ls : List Ld), vs = [.ref a] ∧ H a = some (.lst xs) ∧ DpAll K H xs (ls.map dLd) ∧ (∀ l ∈ ls, okLd l) ∧ ∀ H', Ex H H' → Q .non H'
theorem for_enum {a : Addr} {xs : List V} {g : TG} {tb : TS} {D : Ends} {σ : L2.St} {H : Hp} (Pv : Nat → L2.St → Hp → Prop) (h0 : Pv 0 σ H) (hl : ∀ i σ H, i ≤ xs.length → Pv i σ H → SqL K H a xs)
    (hs : ∀ (i : Nat) x p σ H, xs[i]? = some x → Pv i σ H → H p = none → g (.ref p) σ (upd H p (.tup [.int (i : Int), x])) fun σ2 H2 => tb { D with nx := Pv (i + 1), ct := Pv (i + 1), bk := D.nx } σ2 H2) (hd : ∀ σ H, Pv xs.length σ H → D.nx σ H) :
    ∃ W : Nat → Nat → L2.St → Hp → Prop, (∃ m, W 0 m σ H) ∧ ∀ i m σ H, W i m σ H →
      ((Ite K a).stop i H ∧ D.nx σ H) ∨ ((Ite K a).go i H ∧ ∃ N : L2.St → Hp → Prop, (∀ σ' H', N σ' H' → ∃ m', m' < m ∧ W (i + 1) m' σ' H') ∧ ∀ x H', (Ite K a).yld i H x H' → g x σ H' fun σ2 H2 => tb { D with nx := N, ct := N, bk := D.nx } σ2 H2) := by
  refine ⟨fun i m σ H => m = xs.length - i ∧ i ≤ xs.length ∧ Pv i σ H, ⟨xs.length, by simp, Nat.zero_le _, h0⟩, ?_⟩
  rintro i m σ H ⟨rfl, hi, p⟩
  have q := hl i σ H hi p
  by_cases hlt : i < xs.length
  · refine .inr ⟨⟨xs, xs[i], q, by simp [hlt]⟩, Pv (i + 1), fun σ' H' p' => ⟨xs.length - (i + 1), by omega, rfl, hlt, p'⟩, ?_⟩
    rintro _ _ ⟨t, x, rfl, ht, rfl, y⟩
    exact hs i x t σ H (y xs q) p ht
  · have e : i = xs.length := by omega
    subst e
    exact .inl ⟨⟨xs, q, Nat.le_refl _⟩, hd σ H p⟩
theorem sc_need_curve : FnScope ["curve", "at", "load"] ["curve"] (defScope s_need_curve) := ⟨rfl, rfl, rfl, by decide +kernel, rfl, by decide +kernel, by decide +kernel⟩
theorem ok_need_curve (T : Txt w K mg) : FB P w K mg base 4 (He.ga K "need_curve") ["curve"] (sp_need_curve K) := by
  refine FB.of T.F_need_curve sc_need_curve (fun _ _ _ _ _ _ us hl => match us, hl with | [_], _ => rfl) (by rintro vs H Q E ⟨_, _, _, rfl, _⟩; rfl) (fun cdv A outer s H vs Q E hr h => ?_)
  refine ⟨_, (pss_cons (ps_if (pt_not (pt_val (pe_callB call_isiT (by rfl) T.f_isinstance (by decide +kernel) (pa_cons (pv 0) (pa_cons (pe_tup (pa_cons (pe_bltn (by rfl) T.f_list (by decide +kernel) (v := .ty "list") rfl) (pa_cons (pe_bltn (by rfl) T.f_tuple (by decide +kernel) (v := .ty "tuple") rfl) pa_nil))) pa_nil)))))
    (pss_one ps_never)
    pss_nil)
    (pss_one (ps_for (passes_of rfl) rfl (pi_enum (by rfl) T.f_enumerate (pa_cons (pv 0) pa_nil)) (pg_tup rfl (pgs_cons (pg_name (i := 1) sc_need_curve.nd rfl (Or.inl rfl)) (pgs_cons (pg_name (i := 2) sc_need_curve.nd rfl (Or.inl rfl)) pgs_nil)))
    (pss_one (ps_if (pt_not (pt_val (pe_callF (ok_is_load T) (hr.mono (by decide)) (by rfl) T.g_is_load passL (pa_cons (pv 2) pa_nil))))
    (pss_one ps_never)
    pss_nil))))), ?_⟩
  obtain ⟨a, xs, ls, rfl, hl, hd, ho, k⟩ := h
  refine q_when (b := false) (et_is (et_not (et_B (ev_isiT (ev_var rfl) (eu_tup (ea_cons ev_c (ea_cons ev_c ea_nil)) (Nat.le_of_ble_eq_true rfl)) lt_clsv (fun H1 e => .base (.lst (e _ _ hl))) lt_list))) rfl) (fun h => nomatch h) fun _ H1 e1 => ?_
  have hl1 := e1 _ _ hl
  refine ⟨_, rfl, _, xs, rfl, sq_of hl1, for_enum (xs := xs) (fun i σ' H' => ∃ o1 o2, σ' = [some (.ref a), o1, o2] ∧ Ex H1 H') ⟨_, _, rfl, Ex.refl _⟩ (fun i σ' H' _ ⟨_, _, _, e⟩ => sq_of (e _ _ hl1)) (fun i x p σ' H' hx ⟨o1, o2, es, e⟩ hp => ?_) (fun σ' H' ⟨_, _, _, e⟩ => k H' (e1.trans e))⟩
  subst es
  obtain ⟨l, el, dl⟩ := DpAll.get hd hx
  have ol := ho l (List.mem_of_getElem? el)
  have e2 : Ex H (upd H' p (.tup [.int (i : Int), x])) := (e1.trans e).trans (Ex.new hp)
  refine ⟨p, _, rfl, st_of upd_same, rfl, _, _, rfl, _, _, rfl, rfl, ?_⟩
  exact s_when (b := false) (et_is (et_not (et_B (ev_callS (ea_cons (ev_var rfl) ea_nil) (v_is_load fun H3 e3 => (LdT.of dl ol).mv (e2.trans e3))))) rfl) (fun h => nomatch h) fun _ H3 e3 => ⟨_, _, rfl, (e.trans (Ex.new hp)).trans e3⟩
/-! scalers -/
def ScalerAt (K : Frag) (Z : Hp) (v : V) (r : Rl) (n : Int) : Prop := ∃ a dx f ru, v = .ref a ∧ Z a = some (.ins (He.ga K "Scaler") dx [("s_first", f), ("s_rule", ru)]) ∧ Dp K Z f (dSt (first r n)) ∧ RuleAt K Z ru r
theorem ScalerAt.mv {Z H : Hp} {v : V} {r : Rl} {n : Int} (h : ScalerAt K Z v r n) (e : Ex Z H) : ScalerAt K H v r n := by
  obtain ⟨a, dx, p, b, rfl, h1, h2, h3⟩ := h
  exact ⟨a, dx, p, b, rfl, e _ _ h1, h2.mv e, h3.mv e⟩
end
end K74

/-! X2 -/
set_option Elab.async false
set_option linter.all false
set_option maxRecDepth 100000
set_option maxHeartbeats 4000000
namespace K74
open PySem PySem.Spec PyProof.Rows L2
/-! ### ticks keep the state's word -/
theorem mx_mem : ∀ (ns : List Int) (x : Int), ns.foldl max x ∈ x :: ns
  | [], x => List.mem_cons_self
  | n :: r, x => by
    show r.foldl max (max x n) ∈ _
    rcases List.mem_cons.mp (mx_mem r (max x n)) with q | q
    · rw [q]
      by_cases h : x ≤ n
      · rw [show max x n = n by omega]; exact List.mem_cons_of_mem _ List.mem_cons_self
      · rw [show max x n = x by omega]; exact List.mem_cons_self
    · exact List.mem_cons_of_mem _ (List.mem_cons_of_mem _ q)
theorem mn_mem : ∀ (ns : List Int) (x : Int), ns.foldl min x ∈ x :: ns
  | [], x => List.mem_cons_self
  | n :: r, x => by
    show r.foldl min (min x n) ∈ _
    rcases List.mem_cons.mp (mn_mem r (min x n)) with q | q
    · rw [q]
      by_cases h : x ≤ n
      · rw [show min x n = x by omega]; exact List.mem_cons_self
      · rw [show min x n = n by omega]; exact List.mem_cons_of_mem _ List.mem_cons_self
    · exact List.mem_cons_of_mem _ (List.mem_cons_of_mem _ q)
theorem mxL_mem {ns : List Int} (h : 0 < ns.length) : mxL ns ∈ ns := by
  cases ns with
  | nil => cases h
  | cons x r => exact mx_mem r x
theorem mnL_mem {ns : List Int} (h : 0 < ns.length) : mnL ns ∈ ns := by
  cases ns with
  | nil => cases h
  | cons x r => exact mn_mem r x
theorem lastN_pos {n : Int} {xs : List Int} (h : 1 ≤ n) (hx : xs ≠ []) : 0 < (lastN n xs).length := by
  have : 0 < xs.length := List.length_pos_iff.mpr hx
  unfold lastN
  rw [List.length_drop]
  omega
theorem settle_ok {r : Rl} {n : Int} {rec_ : List Int} (o : okR r) (hn : r.least ≤ n ∧ n ≤ r.most) (hne : rec_ ≠ []) (h : ∀ x ∈ rec_, r.least ≤ x ∧ x ≤ r.most) : r.least ≤ settleL r n rec_ ∧ settleL r n rec_ ≤ r.most := by
  have hlo := h _ (List.mem_of_mem_drop (mnL_mem (lastN_pos o.u1 hne)))
  have hhi := h _ (List.mem_of_mem_drop (mxL_mem (lastN_pos o.d1 hne)))
  have hri := o.ri
  have hfa := o.fa
  unfold settleL
  change r.least ≤ mnL (lastN r.up rec_) ∧ mnL (lastN r.up rec_) ≤ r.most at hlo
  change r.least ≤ mxL (lastN r.down rec_) ∧ mxL (lastN r.down rec_) ≤ r.most at hhi
  split
  · split
    · exact hlo
    · rename_i i e
      have := hri i e
      omega
  · split
    · split
      · exact hhi
      · rename_i i e
        have := hfa i e
        omega
    · exact hn
theorem tick_ok {r : Rl} {s : Stt} {l : Ld} (o : okR r) (h : okS r s) : okS r (tickL r s l) := by
  have hc : r.least ≤ clamp r.least r.most (wishL r.parts s.1 l) ∧ clamp r.least r.most (wishL r.parts s.1 l) ≤ r.most := by
    have := o.lm
    unfold clamp
    omega
  have ha : ∀ x ∈ s.2 ++ [clamp r.least r.most (wishL r.parts s.1 l)], r.least ≤ x ∧ x ≤ r.most := fun x hx => by
    rcases List.mem_append.mp hx with q | q
    · exact h.all x q
    · rw [List.mem_singleton.mp q]; exact hc
  have hs := settle_ok (rec_ := s.2 ++ [clamp r.least r.most (wishL r.parts s.1 l)]) o ⟨h.n1, h.n2⟩ (by simp) ha
  refine ⟨hs.1, hs.2, ?_, fun x hx => ha x (List.mem_of_mem_drop hx)⟩
  show ((s.2 ++ [clamp r.least r.most (wishL r.parts s.1 l)]).drop 1).length = psz r
  rw [List.length_drop, List.length_append, h.len]
  rfl
theorem first_ok {r : Rl} {n : Int} (h : r.least ≤ n ∧ n ≤ r.most) : okS r (first r n) := ⟨h.1, h.2, List.length_replicate, fun x hx => by rw [List.eq_of_mem_replicate hx]; exact h⟩
/-- the servers after each load -/
def runL (r : Rl) : Stt → List Ld → List Int
  | _, [] => []
  | s, l :: ls => (tickL r s l).1 :: runL r (tickL r s l) ls
/-- the state after the loads -/
def endL (r : Rl) (s : Stt) (ls : List Ld) : Stt := ls.foldl (tickL r) s
theorem endL_app (r : Rl) (s : Stt) (ls : List Ld) (l : Ld) : endL r s (ls ++ [l]) = tickL r (endL r s ls) l := by
  unfold endL
  rw [List.foldl_append]
  rfl
theorem runL_app (r : Rl) : ∀ (s : Stt) (ls : List Ld) (l : Ld), runL r s (ls ++ [l]) = runL r s ls ++ [(tickL r (endL r s ls) l).1]
  | s, [], l => rfl
  | s, x :: ls, l => by
    show _ :: runL r _ (ls ++ [l]) = _ :: (runL r _ ls ++ _)
    rw [runL_app r (tickL r s x) ls l]
    rfl
theorem endL_ok {r : Rl} (o : okR r) : ∀ (ls : List Ld) (s : Stt), okS r s → okS r (endL r s ls)
  | [], s, h => h
  | l :: ls, s, h => endL_ok o ls (tickL r s l) (tick_ok o h)
theorem runL_last (r : Rl) (s : Stt) (ls : List Ld) (h : ls ≠ []) : (runL r s ls).drop ((runL r s ls).length - 1) = [(endL r s ls).1] := by
  obtain ⟨xs, x, e⟩ : ∃ xs x, ls = xs ++ [x] := ⟨ls.dropLast, ls.getLast h, (List.dropLast_concat_getLast h).symm⟩
  rw [e, runL_app, endL_app, List.length_append]
  simp
end K74

/-! E7 -/
set_option Elab.async false
set_option linter.all false
set_option maxRecDepth 100000
set_option maxHeartbeats 4000000
namespace K74
open PySem PySem.Spec PyProof.Rows L2
open Evl hiding tCut pss_cut
theorem Mv.toGr {S : Addr → Prop} {Z H Z1 H1 : Hp} (h : Mv S Z H Z1 H1) (n : ∀ a, S a → H a = none) : Gr Z H Z1 H1 := ⟨h.z, h.h, h.n, fun a o q _ => h.k a o q (fun s => by rw [n a s] at q; cases q), h.e⟩
/-- a new instance and its dict -/
theorem Gr.inst {Z H : Hp} {x dx : Addr} {o o' : HO} (h : Same Z H) (hx : H x = none) (hd : H dx = none) (hne : dx ≠ x) : Gr Z H Z (upd (upd H dx o) x o') := by
  have h1 : Gr Z H Z (upd H dx o) := Gr.new h hd
  have hx' : upd H dx o x = none := by rw [upd_ne (Ne.symm hne)]; exact hx
  exact h1.trans (Gr.new h1.h hx')
section
variable {P : Program} {w : World} {K : Frag} {mg : Str → Option Value} {base : Heap}
/-! making: __init__ leaves the new instance unfrozen; the caller freezes it -/
/-- what the promise of an __init__ tells: x's last look, with frozen values -/
def Made (S : Addr → Prop) (C x dx : Addr) (Z H : Hp) (Φ : List (Str × V) → Hp → Prop) (Q : VK) : Prop := ∀ fs Z' H', Mv S Z H Z' H' → H' x = some (.ins C dx fs) → Z' x = none → Φ fs Z' → Q .non H'
def SpI (C : Addr) (sp : Sp) (vs : List V) (Z : Hp) (Φ : List (Str × V) → Hp → Prop) : Prop := ∀ x dx H (Q : VK) (E : XK), Same Z H → H x = some (.ins C dx []) → Z x = none → Made (fun a => a = x) C x dx Z H Φ Q → sp (.ref x :: vs) H Q E
theorem eg_make {σ : L2.St} {Z : Hp} {C : Addr} {sp : Sp} {E : XK} {ta : TA} {Ψ : List V → Hp → Prop} {Φ : List (Str × V) → Hp → Prop} {Θ : V → Hp → Prop} (h : EvGA ta σ Z Ψ) (s : ∀ vs Z2, Ex Z Z2 → Ψ vs Z2 → SpI C sp vs Z2 Φ)
    (t : ∀ x dx fs Z', Φ fs Z' → Z' x = none → Θ (.ref x) (upd Z' x (.ins C dx fs))) : EvG (tMake C sp [] E ta) σ Z Θ := fun H1 e Q q => h H1 e _ fun vs Z2 H2 g p x dx hx hd hne => by
  have g1 : Gr Z2 H2 Z2 (upd (upd H2 dx (.own x)) x (.ins C dx [])) := Gr.inst g.h hx hd hne
  have zx : Z2 x = none := Same.free g.h hx
  rw [List.append_nil]
  refine s vs Z2 g.z p x dx _ _ E g1.h upd_same zx fun fs Z' H' mv hx' zx' f => ⟨rfl, ?_⟩
  have g2 : Gr Z2 H2 (upd Z' x (.ins C dx fs)) H' := (Mv.freeze ((Mv.gr g1).trans mv) hx hx').toGr fun a ha => by rw [ha]; exact hx
  exact q _ _ _ (g.trans g2) (t x dx fs Z' f zx')
theorem ega_nil {σ : L2.St} {Z : Hp} : EvGA tNil σ Z (fun vs _ => vs = []) := fun H1 e Q q => q [] Z H1 (Mv.refl e) rfl
theorem ega_cons {σ : L2.St} {Z : Hp} {te : TE} {tr : TA} {Φ : V → Hp → Prop} {Ψ : List V → Hp → Prop} (h : EvG te σ Z Φ) (m : ∀ v Z Z', Ex Z Z' → Φ v Z → Φ v Z') (hr : ∀ Z2, Ex Z Z2 → EvGA tr σ Z2 Ψ) : EvGA (tCons te tr) σ Z (fun vs Z2 => ∃ x r, vs = x :: r ∧ Φ x Z2 ∧ Ψ r Z2) := fun H1 e Q q =>
  h H1 e _ fun v Z2 H2 g p => hr Z2 g.z H2 g.h _ fun vs Z3 H3 g3 p3 => q _ Z3 H3 (g.trans g3) ⟨v, vs, rfl, m _ _ _ g3.z p, p3⟩
/-- arguments that make nothing -/
theorem ega_ev {σ : L2.St} {Z : Hp} {ta : TA} {vs : List V} (h : EvA ta σ Z vs) : EvGA ta σ Z (fun us _ => us = vs) := fun H1 e Q q => h H1 e _ fun H2 e2 => q vs Z H2 (Gr.of e e2) rfl
/-- a field of an unfrozen instance is written -/
theorem s_fld {σ : L2.St} {H : Hp} {ta tv : TE} {f : Str} {y : V} {a C dx : Addr} {fs : List (Str × V)} {D : Ends} (hv : Ev tv σ H y) (ha : Ev ta σ H (.ref a)) (h : H a = some (.ins C dx fs)) (c : Cls K C) (n : NoAttr K C f) (l : fs.length < 1000)
    (k : ∀ H1, Ex H H1 → D.nx σ (upd H1 a (.ins C dx (putF f y fs)))) : sFld K ta tv f D σ H := hv H (Ex.refl _) _ fun H1 e1 => ha H1 e1 _ fun H2 e2 => ⟨a, C, dx, fs, rfl, e2 _ _ (e1 _ _ h), c, n, l, k H2 (e1.trans e2)⟩
theorem q_fld {σ : L2.St} {H : Hp} {ta tv : TE} {f : Str} {y : V} {a C dx : Addr} {fs : List (Str × V)} {D : Ends} {tz : TS} (hv : Ev tv σ H y) (ha : Ev ta σ H (.ref a)) (h : H a = some (.ins C dx fs)) (c : Cls K C) (n : NoAttr K C f) (l : fs.length < 1000)
    (k : ∀ H1, Ex H H1 → tz D σ (upd H1 a (.ins C dx (putF f y fs)))) : tSeq (sFld K ta tv f) tz D σ H := s_fld (D := { D with nx := tz D }) hv ha h c n l k
theorem q_fldG {σ : L2.St} {Z H : Hp} {ta tv : TE} {f : Str} {Φ : V → Hp → Prop} {a C dx : Addr} {fs : List (Str × V)} {D : Ends} {tz : TS} (hv : EvG tv σ Z Φ) (e : Ex Z H) (ha : Ev ta σ H (.ref a)) (h : H a = some (.ins C dx fs)) (c : Cls K C) (n : NoAttr K C f) (l : fs.length < 1000)
    (k : ∀ y Z2 H1, Gr Z H Z2 H1 → Φ y Z2 → tz D σ (upd H1 a (.ins C dx (putF f y fs)))) : tSeq (sFld K ta tv f) tz D σ H := hv H e _ fun y Z2 H1 g p => ha H1 g.same _ fun H2 e2 => ⟨a, C, dx, fs, rfl, e2 _ _ (g.same _ _ h), c, n, l, k y Z2 H2 (g.trans (Gr.of g.h e2)) p⟩
/-! scalers -/
def sp_Scaler_init (K : Frag) : Sp := fun vs H Q _ => ∃ (x dx : Addr) (rv : V) (r : Rl) (n : Int) (Z : Hp), vs = [.ref x, rv, .int n] ∧ Same Z H ∧ H x = some (.ins (He.ga K "Scaler") dx []) ∧ Z x = none ∧ RuleAt K Z rv r ∧ okR r ∧ (r.least ≤ n ∧ n ≤ r.most) ∧
  Made (fun a => a = x) (He.ga K "Scaler") x dx Z H (fun fs Z' => ∃ f, fs = ([("s_first", f), ("s_rule", rv)] : List (Str × V)) ∧ Dp K Z' f (dSt (first r n))) Q
theorem sc_Scaler_init : FnScope ["self", "rule", "servers"] ["self", "rule", "servers"] (defScope s_Scaler_init) := ⟨rfl, rfl, rfl, by decide +kernel, rfl, by decide +kernel, by decide +kernel⟩
theorem ok_Scaler_init (T : Txt w K mg) : FB P w K mg base 4 (He.ma K (He.ga K "Scaler") "__init__") ["self", "rule", "servers"] (sp_Scaler_init K) := by
  refine FB.of T.F_Scaler_init sc_Scaler_init (fun _ _ _ _ _ _ us hl => match us, hl with | [_, _, _], _ => rfl) (by rintro vs H Q E ⟨_, _, _, _, _, _, rfl, _⟩; rfl) (fun cdv A outer s H vs Q E hr h => ?_)
  refine ⟨_, (pss_cons (ps_fld (pv 0) (pe_callF (ok_first_state T) (hr.mono (by decide)) (by rfl) T.g_first_state passL (pa_cons (pv 1) (pa_cons (pv 2) pa_nil))) rfl)
    (pss_one (ps_fld (pv 0) (pv 1) rfl))), ?_⟩
  obtain ⟨x, dx, rv, r, n, Z, rfl, hZ, hx, zx, hr0, o, hn, k⟩ := h
  refine q_fldG (eg_call (ea_cons (ev_var rfl) (ea_cons (ev_var rfl) ea_nil)) (g_first_state hr0 o hn) (fun _ _ _ e q => q.mv e)) hZ (ev_var rfl) hx T.c_Scaler T.n_s_first (by decide) fun f Z2 H1 g p => ?_
  have hx1 := g.same _ _ hx
  have zx1 := g.n _ _ hx zx
  have m1 : Mv (fun a => a = x) Z H Z2 (upd H1 x (.ins (He.ga K "Scaler") dx [("s_first", f)])) := (Mv.gr g).trans (Mv.write g.h zx1 hx1 rfl)
  refine s_fld (fs := [("s_first", f)]) (ev_var rfl) (ev_var rfl) upd_same T.c_Scaler T.n_s_rule (Nat.le_of_ble_eq_true rfl) fun H2 e2 => ?_
  have hx2 := e2 _ _ (upd_same (H := H1) (a := x) (o := .ins (He.ga K "Scaler") dx [("s_first", f)]))
  have m2 : Mv (fun a => a = x) Z H Z2 H2 := m1.trans (Mv.gr (Gr.of m1.h e2))
  exact k [("s_first", f), ("s_rule", rv)] Z2 _ (m2.trans (Mv.write m2.h zx1 hx2 rfl)) upd_same zx1 ⟨f, rfl, p⟩
theorem eg_Scaler {σ : L2.St} {Z : Hp} {E : XK} {ta : TA} {rv : V} {r : Rl} {n : Int} (h : EvA ta σ Z [rv, .int n]) (h1 : RuleAt K Z rv r) (o : okR r) (hn : r.least ≤ n ∧ n ≤ r.most) : EvG (tMake (He.ga K "Scaler") (sp_Scaler_init K) [] E ta) σ Z (fun v Z2 => ScalerAt K Z2 v r n) :=
  eg_make (ega_ev h) (Φ := fun fs Z' => ∃ f, fs = ([("s_first", f), ("s_rule", rv)] : List (Str × V)) ∧ Dp K Z' f (dSt (first r n)) ∧ RuleAt K Z' rv r) (fun vs Z2 e ev x dx H Q E hs hx zx k => by
    subst ev
    exact ⟨x, dx, rv, r, n, Z2, rfl, hs, hx, zx, h1.mv e, o, hn, fun fs Z' H' mv hx' zx' ⟨f, ef, df⟩ => k fs Z' H' mv hx' zx' ⟨f, ef, df, (h1.mv e).mv mv.z⟩⟩) (fun x dx fs Z' ⟨f, ef, df, hr'⟩ zx => by
    subst ef
    exact ⟨x, dx, f, rv, rfl, upd_same, df.mv (K74.same_new zx), hr'.mv (K74.same_new zx)⟩)
def sp_Scaler_rule (K : Frag) : Sp := fun vs H Q _ => ∃ v r n Z, vs = [v] ∧ Same Z H ∧ ScalerAt K Z v r n ∧ ∀ x H', Same H H' → RuleAt K Z x r → Q x H'
theorem sc_Scaler_rule : FnScope ["self"] ["self"] (defScope s_Scaler_rule) := ⟨rfl, rfl, rfl, by decide +kernel, rfl, by decide +kernel, by decide +kernel⟩
theorem ok_Scaler_rule (T : Txt w K mg) : FB P w K mg base 1 (gtAd K "Scaler" "rule") ["self"] (sp_Scaler_rule K) := by
  refine FB.of (T.p_Scaler_rule).1 sc_Scaler_rule (fun _ _ _ _ _ _ us hl => match us, hl with | [_], _ => rfl) (by rintro vs H Q E ⟨_, _, _, _, rfl, _⟩; rfl) (fun cdv A outer s H vs Q E hr h => ?_)
  refine ⟨_, (pss_one (ps_ret (pe_fld (pv 0) rfl))), ?_⟩
  obtain ⟨v, r, n, Z, rfl, hZ, ⟨a, dx, f, ru, rfl, h1, h2, h3⟩, k⟩ := h
  exact s_ret (ev_fld (ev_var rfl) (hZ _ _ h1) T.c_Scaler T.n_s_rule rfl) fun H1 e1 => k _ _ e1 h3
def sp_Scaler_servers (K : Frag) : Sp := fun vs H Q _ => ∃ v r n, vs = [v] ∧ ScalerAt K H v r n ∧ ∀ H', Same H H' → Q (.int n) H'
theorem sc_Scaler_servers : FnScope ["self"] ["self"] (defScope s_Scaler_servers) := ⟨rfl, rfl, rfl, by decide +kernel, rfl, by decide +kernel, by decide +kernel⟩
theorem ok_Scaler_servers (T : Txt w K mg) : FB P w K mg base 1 (gtAd K "Scaler" "servers") ["self"] (sp_Scaler_servers K) := by
  refine FB.of (T.p_Scaler_servers).1 sc_Scaler_servers (fun _ _ _ _ _ _ us hl => match us, hl with | [_], _ => rfl) (by rintro vs H Q E ⟨_, _, _, rfl, _⟩; rfl) (fun cdv A outer s H vs Q E hr h => ?_)
  refine ⟨_, (pss_one (ps_ret (pe_ix ix_tup (pe_fld (pv 0) rfl) pe_int (fun _ _ => rfl)))), ?_⟩
  obtain ⟨v, r, n, rfl, ⟨a, dx, f, ru, rfl, h1, h2, h3⟩, k⟩ := h
  obtain ⟨c, b, rfl, sq, _⟩ := st_at h2
  exact s_ret (ev_ixT (ev_fld (ev_var rfl) h1 T.c_Scaler T.n_s_first rfl) sq rfl) k
theorem ep_Scaler_rule {σ : L2.St} {H : Hp} {ta : TE} {v : V} {r : Rl} {n : Int} {E : XK} (ha : Ev ta σ H v) (h : ScalerAt K H v r n) : EvP (tProp (He.ga K "Scaler") (sp_Scaler_rule K) [] E ta) σ H (fun x _ => RuleAt K H x r) := by
  have h' := h
  obtain ⟨a, dx, p, b, rfl, h1, _⟩ := h'
  exact ep_prop ha h1 fun H1 e Q q E => ⟨_, r, n, H, rfl, e, h, fun x H2 e2 d => q x H2 e2 d⟩
theorem ev_Scaler_servers {σ : L2.St} {H : Hp} {ta : TE} {v : V} {r : Rl} {n : Int} {E : XK} (ha : Ev ta σ H v) (h : ScalerAt K H v r n) : Ev (tProp (He.ga K "Scaler") (sp_Scaler_servers K) [] E ta) σ H (.int n) := by
  have h' := h
  obtain ⟨a, dx, p, b, rfl, h1, _⟩ := h'
  exact ev_prop ha h1 fun H1 e Q q E => ⟨_, r, n, rfl, h.mv e, q⟩
theorem tyx_scaler (T : Txt w K mg) {H : Hp} {v : V} {r : Rl} {n : Int} (h : ScalerAt K H v r n) : ∀ H1, Ex H H1 → TyX K H1 v (.ref (He.ga K "Scaler")) := fun H1 e => by
  obtain ⟨a, dx, p, b, rfl, h1, _⟩ := h
  exact .base (.ins (e _ _ h1) T.c_Scaler T.o_cc_Scaler T.o_cget T.o_ctak T.o_co_Scaler)
def sp_Scaler_eq (K : Frag) : Sp := fun vs H Q _ => ∃ v u r n s m, vs = [v, u] ∧ ScalerAt K H v r n ∧ ScalerAt K H u s m ∧ ∀ H', Ex H H' → Q (.bl (decide (first r n = first s m) && decide (r = s))) H'
theorem sc_Scaler_eq : FnScope ["self", "other"] ["self", "other"] (defScope s_Scaler_eq) := ⟨rfl, rfl, rfl, by decide +kernel, rfl, by decide +kernel, by decide +kernel⟩
theorem ok_Scaler_eq (T : Txt w K mg) : FB P w K mg base 3 (He.ma K (He.ga K "Scaler") "__eq__") ["self", "other"] (sp_Scaler_eq K) := by
  refine FB.of T.F_Scaler_eq sc_Scaler_eq (fun _ _ _ _ _ _ us hl => match us, hl with | [_, _], _ => rfl) (by rintro vs H Q E ⟨_, _, _, _, _, _, rfl, _⟩; rfl) (fun cdv A outer s H vs Q E hr h => ?_)
  refine ⟨_, (pss_one (ps_ret (pe_and (pe_callB call_isi (by rfl) T.f_isinstance (by decide +kernel) (pa_cons (pv 1) (pa_cons (pe_glob (v := .ref (He.ga K "Scaler")) (by rfl) T.g_Scaler rfl) pa_nil))) (pe_and (pe_cmpR (op_eqD hr.units) (pe_fld (pv 0) rfl) (pe_fld (pv 1) rfl) (nomark _)) (pe_one (pe_cmpR (op_eqO (eqc_Rule T) (ok_Rule_eq T) (hr.mono (by decide))) (pe_fld (pv 0) rfl) (pe_fld (pv 1) rfl) (nomark _))))))), ?_⟩
  obtain ⟨v, u, r, n, s, m, rfl, h1, h2, k⟩ := h
  have ty := tyx_scaler T h2
  obtain ⟨a, dx, f, ru, rfl, a1, a2, a3⟩ := h1
  obtain ⟨a', dx', f', ru', rfl, b1, b2, b3⟩ := h2
  refine s_ret (ev_is (ev_andV (ev_isiC (ev_var rfl) ty T.o_is_Scaler) fun _ => ev_andV (ev_eqD (ev_fld (ev_var rfl) a1 T.c_Scaler T.n_s_first rfl) (ev_fld (ev_var rfl) b1 T.c_Scaler T.n_s_first rfl) a2 b2 (shp_st _) (shp_st _)) fun _ => ev_eq_Rule (ev_fld (ev_var rfl) a1 T.c_Scaler T.n_s_rule rfl) (ev_fld (ev_var rfl) b1 T.c_Scaler T.n_s_rule rfl) a3 b3) ?_) k
  rw [eqv_dSt]
  rfl
theorem eqc_Scaler (T : Txt w K mg) : EqC K (He.ga K "Scaler") (He.ma K (He.ga K "Scaler") "__eq__") := ⟨T.m_Scaler_eq.at_, T.m_Scaler_eq.fn, T.o_ne_Scaler, T.o_co_Scaler⟩
theorem ev_ne_Scaler {σ : L2.St} {H : Hp} {ta tb : TE} {v u : V} {r s : Rl} {n m : Int} (ha : Ev ta σ H v) (hb : Ev tb σ H u) (h1 : ScalerAt K H v r n) (h2 : ScalerAt K H u s m) : Ev (tOp (rOwn K (He.ga K "Scaler") (sp_Scaler_eq K) true) ta tb) σ H (.bl (!(decide (first r n = first s m) && decide (r = s)))) := by
  have h3 := h1
  have h4 := h2
  obtain ⟨a, dx, p, b, rfl, a1, _⟩ := h3
  obtain ⟨a', dx', p', b', rfl, b1, _⟩ := h4
  exact ev_neO ha hb a1 (fun H1 e => .inr ⟨a', _, _, _, rfl, e _ _ b1, nf_self⟩) fun H1 e Q q E => ⟨_, _, r, n, s, m, rfl, h1.mv e, h2.mv e, q⟩
end
end K74

/-! E8 -/
set_option Elab.async false
set_option linter.all false
set_option maxRecDepth 100000
set_option maxHeartbeats 4000000
namespace K74
open PySem PySem.Spec PyProof.Rows L2
open Evl hiding tCut pss_cut
section
variable {P : Program} {w : World} {K : Frag} {mg : Str → Option Value} {base : Heap}
theorem q_parL {σ : L2.St} {H : Hp} {i j : Nat} {te : TE} {v : V} {D : Ends} {tz : TS} (h : Ev te σ H v) (k : ∀ p H1, H p = none → Ex H H1 → H1 p = some (.lst []) → tz D ((σ.set i (some v)).set j (some (.ref p))) H1) :
    tSeq (tPar i j (tCons te (tCons (tLst tNil) tNil))) tz D σ H := h H (Ex.refl _) _ fun H1 e => ⟨Nat.zero_le _, fun p hp => ⟨v, .ref p, rfl, k p _ (fresh_back e hp) (e.trans (Ex.new hp)) upd_same⟩⟩
theorem take_succ_map {α : Type} {xs : List α} {i : Nat} {x : α} (h : xs[i]? = some x) : xs.take (i + 1) = xs.take i ++ [x] := by
  rw [List.take_add_one, h]
  rfl
theorem runL_len (r : Rl) : ∀ (ls : List Ld) (s : Stt), (runL r s ls).length = ls.length
  | [], _ => rfl
  | l :: ls, s => by
    show (runL r _ ls).length + 1 = _
    rw [runL_len r ls]
    rfl
def sp_Scaler_call (K : Frag) : Sp := fun vs H Q _ => ∃ (v : V) (r : Rl) (n : Int) (a : Addr) (xs : List V) (ls : List Ld) (Z : Hp), vs = [v, .ref a] ∧ Same Z H ∧ ScalerAt K Z v r n ∧ okR r ∧ (r.least ≤ n ∧ n ≤ r.most) ∧ Z a = some (.lst xs) ∧ DpAll K Z xs (ls.map dLd) ∧ (∀ l ∈ ls, okLd l) ∧ ls.length ≤ 1000 ∧
  ∀ x Z' H', Gr Z H Z' H' → LsD K Z' x ((runL r (first r n) ls).map PyData.int) → Q x H'
theorem sc_Scaler_call : FnScope ["self", "curve", "load", "state", "found"] ["self", "curve"] (defScope s_Scaler_call) := ⟨rfl, rfl, rfl, by decide +kernel, rfl, by decide +kernel, by decide +kernel⟩
theorem ok_Scaler_call (T : Txt w K mg) : FB P w K mg base 6 (He.ma K (He.ga K "Scaler") "__call__") ["self", "curve"] (sp_Scaler_call K) := by
  refine FB.of T.F_Scaler_call sc_Scaler_call (fun _ _ _ _ _ _ us hl => match us, hl with | [_, _], _ => rfl) (by rintro vs H Q E ⟨_, _, _, _, _, _, _, rfl, _⟩; rfl) (fun cdv A outer s H vs Q E hr h => ?_)
  refine ⟨_, (pss_cons (ps_expr (pe_callF (ok_need_curve T) (hr.mono (by decide)) (by rfl) T.g_need_curve passL (pa_cons (pv 1) pa_nil)))
    (pss_cons (ps_par rfl sc_Scaler_call.nd (i := 3) (j := 4) rfl rfl (by decide) rfl rfl (pa_cons (pe_fld (pv 0) rfl) (pa_cons (pe_lst pa_nil) pa_nil)) (by rfl))
    (pss_cons (ps_for (passes_of rfl) rfl (pi_list (pv 1)) (pg_name (i := 2) sc_Scaler_call.nd rfl (Or.inl rfl))
    (pss_cons (ps_set (i := 3) sc_Scaler_call.nd rfl (Or.inl rfl) (pe_callF (ok_ticked T) (hr.mono (by decide)) (by rfl) T.g_ticked passL (pa_cons (pe_fld (pv 0) rfl) (pa_cons (pv 3) (pa_cons (pv 2) pa_nil)))))
    (pss_one (ps_expr (pe_bm PySem.F.plainAttrs_list PySem.F.slot_list_append PySem.F.type_list_append mt_append (pv 4) (pa_cons (pe_ix ix_tup (pv 3) pe_int (fun _ _ => rfl)) pa_nil))))))
    (pss_one (ps_ret (pv 4)))))), ?_⟩
  obtain ⟨v, r, n, a, xs, ls, Z, rfl, hZ, hS, o, hn, hl, hd, ho, hz, k⟩ := h
  obtain ⟨c, dx, f, ru, rfl, a1, a2, a3⟩ := hS
  have hx : xs.length = ls.length := by rw [hd.len, List.length_map]
  refine q_drop (v := .non) (ev_callS (ea_cons (ev_var rfl) ea_nil) fun H1 e1 Q q E => ⟨a, xs, ls, rfl, e1 _ _ (hZ _ _ hl), hd.mv (hZ.trans e1), ho, q⟩) fun H1 e1 => ?_
  have hZ1 := hZ.trans e1
  refine q_parL (ev_fld (ev_var rfl) (hZ1 _ _ a1) T.c_Scaler T.n_s_first rfl) fun p H2 hp e2 lp => ?_
  have hZ2 : Ex Z H2 := hZ1.trans e2
  have zp : Z p = none := Same.free hZ1 hp
  refine q_forL (xs := xs) (ev_var rfl) (sq_of (hZ2 _ _ hl)) (fun i σ' H' => ∃ o1 st Zi, σ' = [some (.ref c), some (.ref a), o1, some st, some (.ref p)] ∧ Mv (fun b => b = p) Z H2 Zi H' ∧ Zi p = none ∧ Dp K Zi st (dSt (endL r (first r n) (ls.take i))) ∧ H' p = some (.lst ((runL r (first r n) (ls.take i)).map V.int)))
    (fun H3 e3 => ⟨_, _, Z, rfl, Mv.gr (Gr.of hZ2 e3), zp, a2, e3 _ _ lp⟩) (fun i σ' H' _ ⟨_, _, Zi, _, m, _⟩ => sq_of (m.h _ _ (m.z _ _ hl))) (fun i x σ' H' hxi ⟨o1, st, Zi, es, m, zi, dst, hp'⟩ => ?_) (fun σ' H' ⟨o1, st, Zi, es, m, zi, dst, hp'⟩ => ?_)
  · subst es
    obtain ⟨l, el, dl⟩ := DpAll.get hd hxi
    have hi : i < ls.length := (List.getElem?_eq_some_iff.mp el).1
    have ol := ho l (List.mem_of_getElem? el)
    refine q_asgG (eg_call (ea_cons (ev_fld (ev_var rfl) (m.z _ _ a1) T.c_Scaler T.n_s_rule rfl) (ea_cons (ev_var rfl) (ea_cons (ev_var rfl) ea_nil))) (g_ticked (a3.mv m.z) o dst (endL_ok o _ _ (first_ok hn)) (LdZ.of (dl.mv m.z) ol)) (fun _ _ _ e q => q.mv e)) m.h fun st2 Z3 H3 g p3 => ?_
    rw [← endL_app, ← take_succ_map el] at p3
    have hp3 := g.same _ _ hp'
    have zp3 := g.n _ _ hp' zi
    obtain ⟨b, b2, rfl, sq, _⟩ := st_at p3
    refine s_app hp3 (ev_var rfl) (ev_ixT (ev_var rfl) (sqT_mv sq g.h) rfl) (by rw [List.length_map, runL_len, List.length_take]; omega) fun H4 e4 => ⟨_, _, Z3, rfl, ?_, zp3, p3, ?_⟩
    · have m3 := m.trans (Mv.gr (g.trans (Gr.of g.h e4)))
      exact m3.trans (Mv.write m3.h zp3 (e4 _ _ hp3) rfl)
    · rw [upd_same, take_succ_map el, runL_app, endL_app, List.map_append]
      rfl
  · subst es
    rw [hx, List.take_length] at hp'
    have g0 : Gr Z H Z H2 := Gr.of hZ (e1.trans e2)
    refine s_ret (ev_var rfl) fun H3 e3 => ?_
    have m3 := m.trans (Mv.gr (Gr.of m.h e3))
    have hp0 : H p = none := Same.free e1 hp
    have g3 := (Mv.freeze ((Mv.gr g0).trans m3) hp0 (e3 _ _ hp')).toGr fun b hb => by rw [hb]; exact hp0
    exact k _ _ _ g3 (LsD.newL (DpAll.ints _) zi)
end
end K74

/-! E9 -/
set_option Elab.async false
set_option linter.all false
set_option maxRecDepth 100000
set_option maxHeartbeats 4000000
namespace K74
open PySem PySem.Spec PyProof.Rows L2
open Evl hiding tCut pss_cut
section
variable {P : Program} [hPT : PT P] {w : World} {K : Frag} {mg : Str → Option Value} {base : Heap}
theorem s_fldG {σ : L2.St} {Z H : Hp} {ta tv : TE} {f : Str} {Φ : V → Hp → Prop} {a C dx : Addr} {fs : List (Str × V)} {D : Ends} (hv : EvG tv σ Z Φ) (e : Ex Z H) (ha : Ev ta σ H (.ref a)) (h : H a = some (.ins C dx fs)) (c : Cls K C) (n : NoAttr K C f) (l : fs.length < 1000)
    (k : ∀ y Z2 H1, Gr Z H Z2 H1 → Φ y Z2 → D.nx σ (upd H1 a (.ins C dx (putF f y fs)))) : sFld K ta tv f D σ H := hv H e _ fun y Z2 H1 g p => ha H1 g.same _ fun H2 e2 => ⟨a, C, dx, fs, rfl, e2 _ _ (g.same _ _ h), c, n, l, k y Z2 H2 (g.trans (Gr.of g.h e2)) p⟩
/-- the exception's word -/
def Bad (K : Frag) (H : Hp) (E : XK) : Prop := ∀ H' d, Same H H' → H' d = none → E (.ref (brC K)) (some d) (upd H' d (.xd [("part", .str "parts")]))
theorem Bad.mono {H H1 : Hp} {E : XK} (b : Bad K H E) (e : Ex H H1) : Bad K H1 E := fun H' d e' hd => b H' d (e.trans e') hd
/-- a frozen list or tuple of parts -/
def PtsAt (K : Frag) (Z : Hp) (v : V) (ps : List Part) : Prop := ∃ a xs, v = .ref a ∧ (Z a = some (.lst xs) ∨ SqT K Z a xs) ∧ DpAll K Z xs (ps.map dPart)
theorem PtsAt.mv {Z Z1 : Hp} {v : V} {ps : List Part} (h : PtsAt K Z v ps) (e : Ex Z Z1) : PtsAt K Z1 v ps := by
  obtain ⟨a, xs, ev, s, d⟩ := h
  exact ⟨a, xs, ev, s.imp (fun q => e _ _ q) (fun q => ex_t e q), d.mv e⟩
theorem ed_tupleOf {σ : L2.St} {Z : Hp} {te : TE} {v : V} {ps : List Part} (h : Ev te σ Z v) (p : PtsAt K Z v ps) :
    EvD K (tCB (fun xs H Q => ∃ p ys, xs = [.ref p] ∧ ((SqL K H p ys ∧ ∀ l, H l = none → Q (.ref l) (upd H l (.tup ys))) ∨ (SqT K H p ys ∧ Q (.ref p) H))) (tCons te tNil)) σ Z (dParts ps) := fun H1 e Q q => h H1 e _ fun H2 e2 => by
  obtain ⟨a, xs, rfl, s, d⟩ := p
  have e02 := e.trans e2
  have g0 : Gr Z H1 Z H2 := Gr.of e e2
  refine ⟨a, xs, rfl, ?_⟩
  rcases s with s | s
  · exact .inl ⟨sq_of (e02 _ _ s), fun l hl => q _ _ _ (g0.trans (Gr.newZ e02 hl)) (Dp.newT d (Same.free e02 hl))⟩
  · exact .inr ⟨ex_t e02 s, q _ _ _ g0 (.tup s d)⟩
def okB (r : Rl) : Prop := (1 ≤ r.least ∧ r.least ≤ r.most ∧ r.most ≤ 8) ∧ lim r.rise = true ∧ lim r.fall = true ∧ (1 ≤ r.up ∧ r.up ≤ 3) ∧ (1 ≤ r.down ∧ r.down ≤ 3)
theorem lim_ok8 {o : Option Int} : lim o = true ↔ ok8 o := by
  cases o with
  | none => exact ⟨fun _ i e => (nomatch e), fun _ => rfl⟩
  | some i =>
    unfold lim b8 ok8
    rw [Bool.and_eq_true, decide_eq_true_iff, decide_eq_true_iff]
    exact ⟨fun h j e => by cases e; exact h, fun h => h i rfl⟩
theorem okR.b {r : Rl} (o : okR r) : okB r := ⟨⟨o.l1, o.lm, o.m8⟩, lim_ok8.mpr o.ri, lim_ok8.mpr o.fa, ⟨o.u1, o.u3⟩, ⟨o.d1, o.d3⟩⟩
theorem okB.r {r : Rl} (h : okPs r.parts = true) (o : okB r) : okR r := ⟨h, o.1.1, o.1.2.1, o.1.2.2, lim_ok8.mp o.2.1, lim_ok8.mp o.2.2.1, o.2.2.2.1.1, o.2.2.2.1.2, o.2.2.2.2.1, o.2.2.2.2.2⟩
def Rl.vals (r : Rl) : List V := [.int r.least, .int r.most, oV r.rise, oV r.fall, .int r.up, .int r.down]
def sp_Rule_init (K : Frag) : Sp := fun vs H Q E => ∃ (x dx : Addr) (pv : V) (r : Rl) (Z : Hp), vs = .ref x :: pv :: r.vals ∧ Same Z H ∧ H x = some (.ins (He.ga K "Rule") dx []) ∧ Z x = none ∧ PtsAt K Z pv r.parts ∧ r.parts.length ≤ 1000 ∧ okB r ∧
  (okPs r.parts = true → Made (fun a => a = x) (He.ga K "Rule") x dx Z H (fun fs Z' => ∃ p b l, fs = ([("r_parts", p), ("r_bounds", b), ("r_limits", l)] : List (Str × V)) ∧ Dp K Z' p (dParts r.parts) ∧ Dp K Z' b (.tuple (dBnd r)) ∧ Dp K Z' l (.tuple (dLim r))) Q) ∧
  (okPs r.parts = false → Bad K H E)
theorem sc_Rule_init : FnScope ["self", "parts", "least", "most", "rise", "fall", "up", "down"] ["self", "parts", "least", "most", "rise", "fall", "up", "down"] (defScope s_Rule_init) := ⟨rfl, rfl, rfl, by decide +kernel, rfl, by decide +kernel, by decide +kernel⟩
theorem v_are_parts {H : Hp} {v : V} {ps : List Part} (h : PtsAt K H v ps) (hz : ps.length ≤ 1000) : SpV (sp_are_parts K) [v] H (.bl (okPs ps)) := fun H1 e Q q E => by
  obtain ⟨a, xs, rfl, s, d⟩ := h
  exact ⟨a, xs, ps, rfl, s.imp (fun q => e _ _ q) (fun q => ex_t e q), d.mv e, hz, q⟩
theorem ok_Rule_init (T : Txt w K mg) : ∃ fd, FnOk P w K mg base (L2.CX P w) 6 (He.ma K (He.ga K "Rule") "__init__") fd ["self", "parts", "least", "most", "rise", "fall", "up", "down"] (sp_Rule_init K) ∧
    KBn K fd ["self", "parts", "least", "most", "rise", "fall", "up", "down"] 2 ["least", "most", "rise", "fall", "up", "down"] (fun us ws => us ++ ws) (fun vs zs => vs ++ zs) ∧
    ∃ ds, Vals [.int 1, .int 8, .non, .non, .int 1, .int 1] ds ∧ Binds K fd ["self", "parts", "least", "most", "rise", "fall", "up", "down"] ds := by
  obtain ⟨tMOST_SERVERS, hMOST_SERVERS⟩ := T.i_MOST_SERVERS
  obtain ⟨fd, F⟩ := T.F_Rule_init
  refine ⟨fd, F.ok sc_Rule_init (by rintro vs H Q E ⟨_, _, _, _, _, rfl, _⟩; rfl) (fun cdv A outer s H vs Q E hr h => ?_), ?_, ?_⟩
  · refine ⟨_, (pss_cons (ps_if (pt_not (pt_val (pe_callF (ok_are_parts T) (hr.mono (by decide)) (by rfl) T.g_are_parts passL (pa_cons (pv 1) pa_nil))))
    (pss_one (ps_raise rfl (takes_of rfl rfl rfl rfl) (pmk_br hPT T.br_ (hr.mono (by decide)) (by rfl) T.g_BadRule (pa_cons pe_str pa_nil))))
    pss_nil)
    (pss_cons (ps_if (pt_not (pt_val (pe_callF (ok_is_between T) (hr.mono (by decide)) (by rfl) T.g_is_between passL (pa_cons (pv 2) (pa_cons pe_int (pa_cons (pe_glob (v := .int 8) (by rfl) hMOST_SERVERS ⟨_, rfl⟩) pa_nil))))))
    (pss_one ps_never)
    pss_nil)
    (pss_cons (ps_if (pt_not (pt_val (pe_callF (ok_is_between T) (hr.mono (by decide)) (by rfl) T.g_is_between passL (pa_cons (pv 3) (pa_cons (pv 2) (pa_cons (pe_glob (v := .int 8) (by rfl) hMOST_SERVERS ⟨_, rfl⟩) pa_nil))))))
    (pss_one ps_never)
    pss_nil)
    (pss_cons (ps_expr (pe_callF (ok_need_limits T) (hr.mono (by decide)) (by rfl) T.g_need_limits passL (pa_cons (pv 4) (pa_cons (pv 5) (pa_cons (pv 6) (pa_cons (pv 7) pa_nil))))))
    (pss_cons (ps_fld (pv 0) (pe_callTy call_tuple_of (by rfl) T.f_tuple (by decide +kernel) (pa_cons (pv 1) pa_nil)) rfl)
    (pss_cons (ps_fld (pv 0) (pe_tup (pa_cons (pv 2) (pa_cons (pv 3) pa_nil))) rfl)
    (pss_one (ps_fld (pv 0) (pe_tup (pa_cons (pv 4) (pa_cons (pv 5) (pa_cons (pv 6) (pa_cons (pv 7) pa_nil))))) rfl)))))))), ?_⟩
    obtain ⟨x, dx, pv, r, Z, rfl, hZ, hx, zx, hp, hz, ob, k1, k2⟩ := h
    refine q_when (b := !okPs r.parts) (et_not (et_B (ev_callS (ea_cons (ev_var rfl) ea_nil) (v_are_parts (hp.mv hZ) hz)))) (fun h H1 e1 => ?_) (fun h H1 e1 => ?_)
    · exact ⟨_, rfl, fun d hd => k2 (nb h) H1 d e1 hd⟩
    · have okp := nbf h
      obtain ⟨⟨o1, o2, o3⟩, o4, o5, ⟨o6, o7⟩, o8, o9⟩ := ob
      refine q_when (b := false) (et_is (et_not (et_B (ev_callS (ea_cons (ev_var rfl) (ea_cons ev_c (ea_cons ev_c ea_nil))) (v_is_between (K := K))))) (by rw [bt_true o1 (by omega)]; rfl)) (fun h => nomatch h) (fun _ H2 e2 => ?_)
      refine q_when (b := false) (et_is (et_not (et_B (ev_callS (ea_cons (ev_var rfl) (ea_cons (ev_var rfl) (ea_cons ev_c ea_nil))) (v_is_between (K := K))))) (by rw [bt_true o2 o3]; rfl)) (fun h => nomatch h) (fun _ H3 e3 => ?_)
      refine q_drop (v := .non) (ev_callS (ea_cons (ev_var rfl) (ea_cons (ev_var rfl) (ea_cons (ev_var rfl) (ea_cons (ev_var rfl) ea_nil)))) fun H4 e4 Q q E => ⟨r.rise, r.fall, r.up, r.down, rfl, o4, o5, ⟨o6, o7⟩, ⟨o8, o9⟩, q⟩) fun H4 e4 => ?_
      have e04 := ((e1.trans e2).trans e3).trans e4
      have hx4 := e04 _ _ hx
      have m4 : Mv (fun a => a = x) Z H Z H4 := Mv.gr (Gr.of hZ e04)
      refine q_fldG (ed_tupleOf (ev_var rfl) hp) m4.h (ev_var rfl) hx4 T.c_Rule T.n_r_parts (by decide) fun p Z5 H5 g5 dp => ?_
      have m5 := (m4.trans (Mv.gr g5)).trans (Mv.write (o' := .ins (He.ga K "Rule") dx [("r_parts", p)]) (m4.trans (Mv.gr g5)).h (g5.n _ _ hx4 zx) (g5.same _ _ hx4) rfl)
      refine q_fldG (fs := [("r_parts", p)]) (ed_tup (K := K) (ds := dBnd r) (eda_cons (ed_int (ev_var rfl)) (eda_cons (ed_int (ev_var rfl)) eda_nil)) (Nat.le_of_ble_eq_true rfl)) m5.h (ev_var rfl) upd_same T.c_Rule T.n_r_bounds (Nat.le_of_ble_eq_true rfl) fun b Z6 H6 g6 db => ?_
      have hx5 := upd_same (H := H5) (a := x) (o := .ins (He.ga K "Rule") dx [("r_parts", p)])
      have m6 := (m5.trans (Mv.gr g6)).trans (Mv.write (o' := .ins (He.ga K "Rule") dx [("r_parts", p), ("r_bounds", b)]) (m5.trans (Mv.gr g6)).h (g6.n _ _ hx5 (g5.n _ _ hx4 zx)) (g6.same _ _ hx5) rfl)
      refine s_fldG (fs := [("r_parts", p), ("r_bounds", b)]) (ed_tup (K := K) (ds := dLim r) (eda_cons (ed_ev (ev_var rfl) (by rw [← oD_V]; exact Dp.ofSc (oD_B _))) (eda_cons (ed_ev (ev_var rfl) (by rw [← oD_V]; exact Dp.ofSc (oD_B _))) (eda_cons (ed_int (ev_var rfl)) (eda_cons (ed_int (ev_var rfl)) eda_nil)))) (Nat.le_of_ble_eq_true rfl)) m6.h (ev_var rfl) upd_same T.c_Rule T.n_r_limits (Nat.le_of_ble_eq_true rfl) fun l Z7 H7 g7 dl => ?_
      have hx6 := upd_same (H := H6) (a := x) (o := .ins (He.ga K "Rule") dx [("r_parts", p), ("r_bounds", b)])
      have zx7 := g7.n _ _ hx6 (g6.n _ _ hx5 (g5.n _ _ hx4 zx))
      have m7 := (m6.trans (Mv.gr g7)).trans (Mv.write (o' := .ins (He.ga K "Rule") dx [("r_parts", p), ("r_bounds", b), ("r_limits", l)]) (m6.trans (Mv.gr g7)).h zx7 (g7.same _ _ hx6) rfl)
      exact k1 okp [("r_parts", p), ("r_bounds", b), ("r_limits", l)] Z7 _ m7 upd_same zx7 ⟨p, b, l, rfl, (dp.mv g6.z).mv g7.z, db.mv g7.z, dl⟩
  · obtain ⟨mv, kb⟩ := F.kbinds0 (ps := ["self", "parts", "least", "most", "rise", "fall", "up", "down"]) 2 ["least", "most", "rise", "fall", "up", "down"] [] (fun us _ ws => us ++ ws) (fun e => nomatch e) (fun q hq => nomatch hq) (fun r1 _ r2 => r1.append r2)
      (fun D doc pm an cdv ct us mv ws l1 l2 l3 => match us, mv, ws, l1, l2, l3 with
        | [_, _], [], [_, _, _, _, _, _], _, _, _ => rfl)
    exact kb
  · exact F.binds0 (ps := ["self", "parts", "least", "most", "rise", "fall", "up", "down"]) 2 (fun e => nomatch e) rfl (fun D doc pm an cdv ct us ks l1 l2 => match us, ks, l1, l2 with
        | [_, _], [_, _, _, _, _, _], _, _ => ⟨_, _, _, _, _, _, rfl, rfl, ⟨_, _, _, _, _, _, rfl, rfl, ⟨_, _, _, _, _, _, rfl, rfl, ⟨_, _, _, _, _, _, rfl, rfl, ⟨_, _, _, _, _, _, rfl, rfl, ⟨_, _, _, _, _, _, rfl, rfl, rfl⟩⟩⟩⟩⟩⟩)
end
end K74

/-! E10 -/
set_option Elab.async false
set_option linter.all false
set_option maxRecDepth 100000
set_option maxHeartbeats 4000000
namespace K74
open PySem PySem.Spec PyProof.Rows L2
open Evl hiding tCut pss_cut
section
variable {P : Program} [hPT : PT P] {w : World} {K : Frag} {mg : Str → Option Value} {base : Heap}
theorem init_run {Z H : Hp} {x dx : Addr} {pv : V} {r : Rl} {Q : VK} {E : XK} (hZ : Ex Z H) (hp : PtsAt K Z pv r.parts) (hz : r.parts.length ≤ 1000) (ob : okB r) (hx : H x = none) (hd : H dx = none) (hne : dx ≠ x)
    (k1 : okPs r.parts = true → ∀ Z' H', Gr Z H Z' H' → RuleAt K Z' (.ref x) r → Q (.ref x) H') (k2 : okPs r.parts = false → Bad K H E) :
    sp_Rule_init K (.ref x :: pv :: r.vals) (upd (upd H dx (.own x)) x (.ins (He.ga K "Rule") dx [])) (fun v H3 => v = .non ∧ Q (.ref x) H3) E := by
  have g1 : Gr Z H Z (upd (upd H dx (.own x)) x (.ins (He.ga K "Rule") dx [])) := Gr.inst hZ hx hd hne
  have zx : Z x = none := Same.free hZ hx
  refine ⟨x, dx, pv, r, Z, rfl, g1.h, upd_same, zx, hp, hz, ob, fun h fs Z' H' mv hx' zx' ⟨p, b, l, ef, dp, db, dl⟩ => ⟨rfl, ?_⟩, fun h => (k2 h).mono g1.same⟩
  subst ef
  have g2 := (Mv.freeze ((Mv.gr g1).trans mv) hx hx').toGr fun a ha => by rw [ha]; exact hx
  have e2 : Ex Z' (upd Z' x (.ins (He.ga K "Rule") dx [("r_parts", p), ("r_bounds", b), ("r_limits", l)])) := K74.same_new zx'
  exact k1 h _ _ g2 ⟨x, dx, p, b, l, rfl, upd_same, dp.mv e2, db.mv e2, dl.mv e2⟩
theorem Ev.to {te : TE} {σ : L2.St} {H : Hp} {v : V} {Q : VK} (h : Ev te σ H v) (k : ∀ H1, Ex H H1 → Q v H1) : te σ H Q := h H (Ex.refl _) Q k
theorem q_unp4 {σ : L2.St} {H : Hp} {i j k l : Nat} {te : TE} {a : Addr} {v u x y : V} {D : Ends} {tz : TS} (h : Ev te σ H (.ref a)) (s : SqT K H a [v, u, x, y]) (kk : ∀ H1, Ex H H1 → tz D ((((σ.set i (some v)).set j (some u)).set k (some x)).set l (some y)) H1) :
    tSeq (tAsg te (gTup K 4 (gCons (gName i) (gCons (gName j) (gCons (gName k) (gCons (gName l) gNil)))))) tz D σ H := h H (Ex.refl _) _ fun H1 e => ⟨a, _, rfl, ex_t e s, rfl, _, _, rfl, _, _, rfl, _, _, rfl, _, _, rfl, rfl, kk H1 e⟩
theorem meth_go {σ : L2.St} {H : Hp} {a C dx : Addr} {fs : List (Str × V)} {m : Str} {sp : Sp} {E : XK} {ta : TE} {t : TA} {Q : VK} (h : Ev ta σ H (.ref a)) (hx : H a = some (.ins C dx fs)) (l : fs.lookup m = none) (k : ∀ H1, Ex H H1 → t σ H1 fun vs H2 => sp (.ref a :: vs) H2 Q E) : tMeth C m sp [] E ta t σ H Q :=
  h H (Ex.refl _) _ fun H1 e => ⟨a, dx, fs, rfl, e _ _ hx, l, by
    have q := k H1 e
    simp only [List.append_nil]
    exact q⟩
theorem s_retM {σ : L2.St} {H : Hp} {a C dx : Addr} {fs : List (Str × V)} {m : Str} {sp : Sp} {E : XK} {ta : TE} {t : TA} {D : Ends} (h : Ev ta σ H (.ref a)) (hx : H a = some (.ins C dx fs)) (l : fs.lookup m = none) (k : ∀ H1, Ex H H1 → t σ H1 fun vs H2 => sp (.ref a :: vs) H2 D.rt E) : tRet (tMeth C m sp [] E ta t) D σ H := meth_go h hx l k
/-! with_parts -/
def sp_Rule_with_parts (K : Frag) : Sp := fun vs H Q E => ∃ (v pv : V) (r : Rl) (ps : List Part) (Z : Hp), vs = [v, pv] ∧ Ex Z H ∧ RuleAt K Z v r ∧ okR r ∧ PtsAt K Z pv ps ∧ ps.length ≤ 1000 ∧
  (okPs ps = true → ∀ x Z' H', Gr Z H Z' H' → RuleAt K Z' x { r with parts := ps } → Q x H') ∧ (okPs ps = false → Bad K H E)
theorem sc_Rule_with_parts : FnScope ["self", "parts", "rise", "fall", "up", "down"] ["self", "parts"] (defScope s_Rule_with_parts) := ⟨rfl, rfl, rfl, by decide +kernel, rfl, by decide +kernel, by decide +kernel⟩
theorem ok_Rule_with_parts (T : Txt w K mg) : FB P w K mg base 8 (He.ma K (He.ga K "Rule") "with_parts") ["self", "parts"] (sp_Rule_with_parts K) := by
  obtain ⟨fdR, FR, kbR, dsR, hdR, bdR⟩ := ok_Rule_init (P := P) (base := base) T
  refine FB.of T.F_Rule_with_parts sc_Rule_with_parts (fun _ _ _ _ _ _ us hl => match us, hl with | [_, _], _ => rfl) (by rintro vs H Q E ⟨_, _, _, _, _, rfl, _⟩; rfl) (fun cdv A outer s H vs Q E hr h => ?_)
  refine ⟨_, (pss_cons (ps_asg (pe_fld (pv 0) rfl) (pg_tup rfl (pgs_cons (pg_name (i := 2) sc_Rule_with_parts.nd rfl (Or.inl rfl)) (pgs_cons (pg_name (i := 3) sc_Rule_with_parts.nd rfl (Or.inl rfl)) (pgs_cons (pg_name (i := 4) sc_Rule_with_parts.nd rfl (Or.inl rfl)) (pgs_cons (pg_name (i := 5) sc_Rule_with_parts.nd rfl (Or.inl rfl)) pgs_nil))))))
    (pss_one (ps_ret (pe_makeK T.mk_Rule FR (hr.mono (by decide)) (by rfl) T.g_Rule kbR (passes_call (takes_of rfl rfl rfl rfl) (fun _ _ _ _ z => z)) (pa_cons (pv 1) pa_nil) (pk_cons (pe_propF (pv 0) T.c_Rule (T.p_Rule_least).2 (ok_Rule_least T) (hr.mono (by decide))) (pk_cons (pe_propF (pv 0) T.c_Rule (T.p_Rule_most).2 (ok_Rule_most T) (hr.mono (by decide))) (pk_cons (pv 2) (pk_cons (pv 3) (pk_cons (pv 4) (pk_cons (pv 5) pk_nil)))))))))), ?_⟩
  obtain ⟨v, pv, r, ps, Z, rfl, hZ, hr0, o, hp, hz, k1, k2⟩ := h
  have hrH := hr0.mv hZ
  obtain ⟨a, dx, p, b, l, rfl, a1, a2, a3, a4⟩ := id hrH
  obtain ⟨la, rfl, sl⟩ := lim_at a4
  refine q_unp4 (ev_fld (ev_var rfl) a1 T.c_Rule T.n_r_limits rfl) sl fun H1 e1 => ?_
  have hr1 := hrH.mv e1
  refine Ev.to (ev_var rfl) fun H2 e2 => ?_
  refine Ev.to (ev_Rule_least (ev_var rfl) (hr1.mv e2)) fun H3 e3 => ?_
  refine Ev.to (ev_Rule_most (ev_var rfl) ((hr1.mv e2).mv e3)) fun H4 e4 => ?_
  refine ⟨_, rfl, _, rfl, _, rfl, _, rfl, rfl, rfl, fun x dx hx hd hne => ?_⟩
  have e04 := ((e1.trans e2).trans e3).trans e4
  have g0 : Gr Z H Z H4 := Gr.of hZ e04
  exact init_run (r := { r with parts := ps }) g0.h hp hz o.b hx hd hne (fun h Z' H' g hr' => k1 h _ _ _ (g0.trans g) hr') (fun h => (k2 h).mono e04)
theorem bin_or (T : Txt w K mg) : BinC K (He.ga K "Rule") (He.ma K (He.ga K "Rule") "__or__") .BitOr "tuple" := ⟨T.o_sf_Rule, T.m_Rule_or.at_, T.m_Rule_or.fn, T.o_ror, ⟨none, by kernel_rfl⟩, ⟨none, by kernel_rfl⟩, T.o_sor⟩
theorem bin_shl (T : Txt w K mg) : BinC K (He.ga K "Rule") (He.ma K (He.ga K "Rule") "__lshift__") .LShift "int" := ⟨T.o_sf_Rule, T.m_Rule_lshift.at_, T.m_Rule_lshift.fn, T.o_rls, ⟨some (.builtin "int.__lshift__"), by kernel_rfl⟩, ⟨some (.builtin "int.__rlshift__"), by kernel_rfl⟩, T.o_sin⟩
/-! | -/
def sp_Rule_or (K : Frag) : Sp := fun vs H Q E => ∃ (v u : V) (r : Rl) (p : Part) (Z : Hp), vs = [v, u] ∧ Ex Z H ∧ RuleAt K Z v r ∧ okR r ∧ Dp K Z u (dPart p) ∧
  (okPs (r.parts ++ [p]) = true → ∀ x Z' H', Gr Z H Z' H' → RuleAt K Z' x { r with parts := r.parts ++ [p] } → Q x H') ∧ (okPs (r.parts ++ [p]) = false → Bad K H E)
theorem okR.len {r : Rl} (o : okR r) : r.parts.length ≤ 4 := by
  have h := o.ps
  unfold okPs at h
  rw [Bool.and_eq_true] at h
  exact of_decide_eq_true h.1
theorem sc_Rule_or : FnScope ["self", "part"] ["self", "part"] (defScope s_Rule_or) := ⟨rfl, rfl, rfl, by decide +kernel, rfl, by decide +kernel, by decide +kernel⟩
theorem ok_Rule_or (T : Txt w K mg) : FB P w K mg base 9 (He.ma K (He.ga K "Rule") "__or__") ["self", "part"] (sp_Rule_or K) := by
  refine FB.of T.F_Rule_or sc_Rule_or (fun _ _ _ _ _ _ us hl => match us, hl with | [_, _], _ => rfl) (by rintro vs H Q E ⟨_, _, _, _, _, rfl, _⟩; rfl) (fun cdv A outer s H vs Q E hr h => ?_)
  refine ⟨_, (pss_one (ps_ret (pe_methF (pv 0) T.c_Rule T.m_Rule_with_parts (ok_Rule_with_parts T) (hr.mono (by decide)) (passes_call (takes_of rfl rfl rfl rfl) (fun _ _ _ _ z => z)) (pa_cons (pe_op op_catA (pe_fld (pv 0) rfl) (pe_tup (pa_cons (pv 1) pa_nil))) pa_nil)))), ?_⟩
  obtain ⟨v, u, r, p, Z, rfl, hZ, hr0, o, hp, k1, k2⟩ := h
  obtain ⟨a, dx, q, b, l, rfl, a1, a2, a3, a4⟩ := id hr0
  have hz := o.len
  refine s_retM (ev_var rfl) (hZ _ _ a1) rfl fun H1 e1 => ?_
  have hZ1 := hZ.trans e1
  have g0 : Gr Z H Z H1 := Gr.of hZ e1
  refine ed_catA (K := K) (ds := r.parts.map dPart) (es := [dPart p]) (ed_ev (ev_fld (ev_var rfl) a1 T.c_Rule T.n_r_parts rfl) a2) (ed_tup (eda_cons (ed_ev (ev_var rfl) hp) eda_nil) (Nat.le_of_ble_eq_true rfl)) (by rw [List.length_map]; show r.parts.length + 1 ≤ 100000; omega) H1 hZ1 _ fun x Z2 H2 g dp => ?_
  have dp' : Dp K Z2 x (dParts (r.parts ++ [p])) := by unfold dParts; rw [List.map_append]; exact dp
  have g2 := g0.trans g
  obtain ⟨c, xs, rfl, sc, dc⟩ := Dp.tupI dp'
  exact ⟨.ref a, .ref c, r, r.parts ++ [p], Z2, rfl, g2.h, hr0.mv g.z, o, ⟨c, xs, rfl, .inr sc, dc⟩, by rw [List.length_append]; show r.parts.length + 1 ≤ 1000; omega, fun h x Z' H' g3 hr' => k1 h x _ _ (g2.trans g3) hr', fun h => (k2 h).mono g2.same⟩
/-- a list made of frozen data -/
theorem eg_mapT {σ : L2.St} {Z : Hp} {tl te : TE} {xs : List V} {ds : List PyData} {j : Nat} {vs : List Nat} (h : EvP tl σ Z (fun v H2 => ∃ a, v = .ref a ∧ SqT K H2 a xs)) (hz : xs.length ≤ 40000) (hl : ds.length = xs.length) (hw : ∀ x, wipe ((wipe σ vs).set j (some x)) vs = wipe σ vs)
    (he : ∀ (i : Nat) (x : V) (d : PyData) Z1, Ex Z Z1 → xs[i]? = some x → ds[i]? = some d → EvD K te ((wipe σ vs).set j (some x)) Z1 d) : EvG (tLc (iTup K tl) (gName j) tYes te vs) σ Z (fun v Z2 => LsD K Z2 v ds) := fun H0 e Q q => h H0 e _ fun v H1 e1 ⟨a, ev, hx⟩ => ⟨a, ev, ⟨xs, hx⟩, fun Dl hD =>
  lc_tup (xs := xs) (fun i H' => ∃ Zi acc, Mv (fun b => b = Dl) Z (upd H1 Dl (.lst [])) Zi H' ∧ Zi Dl = none ∧ H' Dl = some (.lst acc) ∧ DpAll K Zi acc (ds.take i))
    ⟨Z, [], Mv.refl ((e.trans e1).trans (Ex.new hD)), Same.free (e.trans e1) hD, upd_same, .nil⟩ (fun i H' _ ⟨Zi, acc, m, _⟩ => by
      have hm : Ex H1 H' := fun b o q => m.k b o (by rw [upd_ne (ne_of_none q hD)]; exact q) (ne_of_none q hD)
      exact ex_t hm hx) (fun i x H' hi ⟨Zi, acc, m, zi, hp, da⟩ => ⟨hw x, by
      have hlt := (List.getElem?_eq_some_iff.mp hi).1
      have hy : ds[i]? = some ds[i] := List.getElem?_eq_getElem (by omega)
      refine yes_of ?_
      rw [if_pos rfl]
      refine he i x _ Zi m.z hi hy H' m.h _ fun y Z3 H3 g dy => ?_
      have hp3 := g.same _ _ hp
      have zp3 := g.n _ _ hp zi
      refine ⟨acc, hp3, sz_lt (by rw [da.len, List.length_take]; omega), Z3, acc ++ [y], (m.trans (Mv.gr g)).trans (Mv.write g.h zp3 hp3 rfl), zp3, upd_same, ?_⟩
      rw [take_succ_map hy]
      exact (da.mv g.z).app (.cons dy .nil)⟩)
    (fun H' ⟨Zi, acc, m, zi, hp, da⟩ => by
      have hD0 : H0 Dl = none := fresh_back e1 hD
      have g1 : Gr Z H0 Z (upd H1 Dl (.lst [])) := Gr.of e (e1.trans (Ex.new hD))
      have g3 := (Mv.freeze ((Mv.gr g1).trans m) hD0 hp).toGr fun b hb => by rw [hb]; exact hD0
      rw [← hl, List.take_length] at da
      exact q _ _ _ g3 (LsD.newL da zi))⟩
/-! << -/
def sp_Rule_lshift (K : Frag) : Sp := fun vs H Q E => ∃ (v : V) (i : Int) (r : Rl) (Z : Hp), vs = [v, .int i] ∧ Ex Z H ∧ RuleAt K Z v r ∧ okR r ∧
  (okPs (r.parts.map (upP i)) = true → ∀ x Z' H', Gr Z H Z' H' → RuleAt K Z' x (upR i r) → Q x H') ∧ (okPs (r.parts.map (upP i)) = false → Bad K H E)
theorem sc_Rule_lshift : FnScope ["self", "amount", "part"] ["self", "amount"] (defScope s_Rule_lshift) := ⟨rfl, rfl, rfl, by decide +kernel, rfl, by decide +kernel, by decide +kernel⟩
theorem ok_Rule_lshift (T : Txt w K mg) : FB P w K mg base 9 (He.ma K (He.ga K "Rule") "__lshift__") ["self", "amount"] (sp_Rule_lshift K) := by
  refine FB.of T.F_Rule_lshift sc_Rule_lshift (fun _ _ _ _ _ _ us hl => match us, hl with | [_, _], _ => rfl) (by rintro vs H Q E ⟨_, _, _, _, rfl, _⟩; rfl) (fun cdv A outer s H vs Q E hr h => ?_)
  refine ⟨_, (pss_cons (ps_if (pt_not (pt_val (pe_callF (ok_is_integer T) (hr.mono (by decide)) (by rfl) T.g_is_integer passL (pa_cons (pv 1) pa_nil))))
    (pss_one (ps_raise rfl (takes_of rfl rfl rfl rfl) (pmk_br hPT T.br_ (hr.mono (by decide)) (by rfl) T.g_BadRule (pa_cons pe_str pa_nil))))
    pss_nil)
    (pss_one (ps_ret (pe_methF (pv 0) T.c_Rule T.m_Rule_with_parts (ok_Rule_with_parts T) (hr.mono (by decide)) (passes_call (takes_of rfl rfl rfl rfl) (fun _ _ _ _ z => z)) (pa_cons (pe_lc (own := [("part", 2)]) (g := gName 2) (tt := tYes) rfl sc_Rule_lshift.nd (pi_tup (pe_fld (pv 0) rfl)) (blkOk_by (own := [("part", 2)]) (N := ["self", "amount", "part"]) (sc := defScope s_Rule_lshift) (by decide +kernel)) (fun _ _ _ _ _ => pg_name (i := 2) sc_Rule_lshift.nd rfl (Or.inl rfl)) (fun _ _ _ _ _ => pts_nil) (fun _ _ _ _ _ => (pe_callF (ok_raised T) (hr.mono (by decide)) (by rfl) T.g_raised passL (pa_cons (pv 2) (pa_cons (pv 1) pa_nil))))) pa_nil))))), ?_⟩
  obtain ⟨v, i, r, Z, rfl, hZ, hr0, o, k1, k2⟩ := h
  obtain ⟨a, dx, q, b, l, rfl, a1, a2, a3, a4⟩ := id hr0
  have hz := o.len
  refine q_when (b := false) (et_is (et_not (et_B (ev_callS (ea_cons (ev_var rfl) ea_nil) v_is_integer))) rfl) (fun h => nomatch h) fun _ H0 e0 => ?_
  obtain ⟨pa, xs, rfl, sp, dp⟩ := Dp.tupI a2
  have hx : xs.length = r.parts.length := by rw [dp.len, List.length_map]
  refine s_retM (ev_var rfl) (e0 _ _ (hZ _ _ a1)) rfl fun H1 e1 => ?_
  have hZ1 := hZ.trans (e0.trans e1)
  have g0 : Gr Z H Z H1 := Gr.of hZ (e0.trans e1)
  refine eg_mapT (K := K) (xs := xs) (ds := (r.parts.map (upP i)).map dPart) (EvP.seq (ev_fld (ev_var rfl) a1 T.c_Rule T.n_r_parts rfl) sp) (by omega) (by rw [List.length_map, List.length_map, hx]) (fun _ => rfl) (fun n x d Z1 e3 hxn hdn => ?_) H1 hZ1 _ fun y Z2 H2 g ls => ?_
  · obtain ⟨p, ep, dpp⟩ := DpAll.get dp hxn
    rw [List.getElem?_map, List.getElem?_map, ep] at hdn
    cases hdn
    exact eg_call (ea_cons (ev_var rfl) (ea_cons (ev_var rfl) ea_nil)) (fun H4 e4 Q4 q4 E4 => ⟨x, p, i, Z1, rfl, e4, dpp.mv e3, fun v' Z' H' g' d' => q4 v' Z' H' g' d'⟩) (fun _ _ _ e q => q.mv e)
  · obtain ⟨c, ys, rfl, sc, dc⟩ := ls
    have g2 := g0.trans g
    exact ⟨.ref a, .ref c, r, r.parts.map (upP i), Z2, rfl, g2.h, hr0.mv g.z, o, ⟨c, ys, rfl, .inl sc, dc⟩, by rw [List.length_map]; omega, fun h x Z' H' g3 hr' => k1 h x _ _ (g2.trans g3) hr', fun h => (k2 h).mono g2.same⟩
end
end K74

/-! E11 -/
set_option Elab.async false
set_option linter.all false
set_option maxRecDepth 100000
set_option maxHeartbeats 4000000
namespace K74
open PySem PySem.Spec PyProof.Rows L2
open Evl hiding tCut pss_cut
/-! ### moments -/
structure OkSh (sh : Sh) : Prop where
  r : okR sh.r
  s : okS sh.r sh.st
  c : ∀ l ∈ sh.cv, okLd l
def okDd : Deed → Prop
  | .load l => okLd l
  | _ => True
def mF (ru st cv dv b : V) : List (Str × V) := [("q_rule", ru), ("q_state", st), ("q_curve", cv), ("q_deed", dv), ("q_before", b)]
/-- the moment's own things -/
def MomHd (K : Frag) (Z : Hp) (v : V) (sh : Sh) (dv b : V) : Prop := ∃ a dx ru st cv, v = .ref a ∧ Z a = some (.ins (He.ga K "Moment") dx (mF ru st cv dv b)) ∧ RuleAt K Z ru sh.r ∧ Dp K Z st (dSt sh.st) ∧ Dp K Z cv (.tuple (sh.cv.map dLd))
/-- a moment, the deeds and sheets before it, the newest first -/
def MomAt (K : Frag) (Z : Hp) : List (Deed × Sh) → V → Sh → Prop
  | [], v, sh => MomHd K Z v sh .non .non
  | (d, s0) :: h, v, sh => ∃ dv b, MomHd K Z v sh dv b ∧ Dp K Z dv (dDeed d) ∧ b ≠ .non ∧ MomAt K Z h b s0
section
variable {P : Program} [hPT : PT P] {w : World} {K : Frag} {mg : Str → Option Value} {base : Heap}
theorem MomHd.mv {Z H : Hp} {v : V} {sh : Sh} {dv b : V} (h : MomHd K Z v sh dv b) (e : Ex Z H) : MomHd K H v sh dv b := by
  obtain ⟨a, dx, ru, st, cv, rfl, h1, h2, h3, h4⟩ := h
  exact ⟨a, dx, ru, st, cv, rfl, e _ _ h1, h2.mv e, h3.mv e, h4.mv e⟩
theorem MomAt.mv {Z H : Hp} (e : Ex Z H) : ∀ {hist : List (Deed × Sh)} {v : V} {sh : Sh}, MomAt K Z hist v sh → MomAt K H hist v sh
  | [], _, _, h => MomHd.mv h e
  | (d, s0) :: r, _, _, ⟨dv, b, h1, h2, h3, h4⟩ => ⟨dv, b, h1.mv e, h2.mv e, h3, MomAt.mv e h4⟩
theorem MomAt.hd {Z : Hp} : ∀ {hist : List (Deed × Sh)} {v : V} {sh : Sh}, MomAt K Z hist v sh → ∃ dv b, MomHd K Z v sh dv b
  | [], _, _, h => ⟨_, _, h⟩
  | (d, s0) :: r, _, _, ⟨dv, b, h1, _⟩ => ⟨dv, b, h1⟩
def sp_Moment_init (K : Frag) : Sp := fun vs H Q _ => ∃ (x dx : Addr) (ru st cv dv b : V) (Z : Hp), vs = [.ref x, ru, st, cv, dv, b] ∧ Same Z H ∧ H x = some (.ins (He.ga K "Moment") dx []) ∧ Z x = none ∧
  Made (fun a => a = x) (He.ga K "Moment") x dx Z H (fun fs _ => fs = mF ru st cv dv b) Q
theorem sc_Moment_init : FnScope ["self", "rule", "state", "curve", "deed", "before"] ["self", "rule", "state", "curve", "deed", "before"] (defScope s_Moment_init) := ⟨rfl, rfl, rfl, by decide +kernel, rfl, by decide +kernel, by decide +kernel⟩
theorem ok_Moment_init (T : Txt w K mg) : FB P w K mg base 2 (He.ma K (He.ga K "Moment") "__init__") ["self", "rule", "state", "curve", "deed", "before"] (sp_Moment_init K) := by
  refine FB.of T.F_Moment_init sc_Moment_init (fun _ _ _ _ _ _ us hl => match us, hl with | [_, _, _, _, _, _], _ => rfl) (by rintro vs H Q E ⟨_, _, _, _, _, _, _, _, rfl, _⟩; rfl) (fun cdv A outer s H vs Q E hr h => ?_)
  refine ⟨_, (pss_cons (ps_fld (pv 0) (pv 1) rfl)
    (pss_cons (ps_fld (pv 0) (pv 2) rfl)
    (pss_cons (ps_fld (pv 0) (pv 3) rfl)
    (pss_cons (ps_fld (pv 0) (pv 4) rfl)
    (pss_one (ps_fld (pv 0) (pv 5) rfl)))))), ?_⟩
  obtain ⟨x, dx, ru, st, cv, dv, b, Z, rfl, hZ, hx, zx, k⟩ := h
  have wr : ∀ {H1 H2 : Hp} {fs fs' : List (Str × V)}, Mv (fun a => a = x) Z H Z H1 → H1 x = some (.ins (He.ga K "Moment") dx fs) → Ex H1 H2 → Mv (fun a => a = x) Z H Z (upd H2 x (.ins (He.ga K "Moment") dx fs')) := fun m h e => (m.trans (Mv.gr (Gr.of m.h e))).trans (Mv.write (m.h.trans e) zx (e _ _ h) rfl)
  refine q_fld (ev_var rfl) (ev_var rfl) hx T.c_Moment T.n_q_rule (by decide) fun H1 e1 => ?_
  have m1 := wr (fs' := [("q_rule", ru)]) (Mv.refl hZ) hx e1
  refine q_fld (fs := [("q_rule", ru)]) (ev_var rfl) (ev_var rfl) upd_same T.c_Moment T.n_q_state (Nat.le_of_ble_eq_true rfl) fun H2 e2 => ?_
  have m2 := wr (fs' := [("q_rule", ru), ("q_state", st)]) m1 upd_same e2
  refine q_fld (fs := [("q_rule", ru), ("q_state", st)]) (ev_var rfl) (ev_var rfl) upd_same T.c_Moment T.n_q_curve (Nat.le_of_ble_eq_true rfl) fun H3 e3 => ?_
  have m3 := wr (fs' := [("q_rule", ru), ("q_state", st), ("q_curve", cv)]) m2 upd_same e3
  refine q_fld (fs := [("q_rule", ru), ("q_state", st), ("q_curve", cv)]) (ev_var rfl) (ev_var rfl) upd_same T.c_Moment T.n_q_deed (Nat.le_of_ble_eq_true rfl) fun H4 e4 => ?_
  have m4 := wr (fs' := [("q_rule", ru), ("q_state", st), ("q_curve", cv), ("q_deed", dv)]) m3 upd_same e4
  refine s_fld (fs := [("q_rule", ru), ("q_state", st), ("q_curve", cv), ("q_deed", dv)]) (ev_var rfl) (ev_var rfl) upd_same T.c_Moment T.n_q_before (Nat.le_of_ble_eq_true rfl) fun H5 e5 => ?_
  have m5 := wr (fs' := mF ru st cv dv b) m4 upd_same e5
  exact k (mF ru st cv dv b) Z _ m5 upd_same zx rfl
theorem ega_mom {σ : L2.St} {Z : Hp} {t1 t2 t3 t4 t5 : TE} {r : Rl} {ds dc : PyData} {dv b : V} (h1 : EvG t1 σ Z (fun v Z2 => RuleAt K Z2 v r)) (h2 : EvD K t2 σ Z ds) (h3 : EvD K t3 σ Z dc) (h4 : Ev t4 σ Z dv) (h5 : Ev t5 σ Z b) :
    EvGA (tCons t1 (tCons t2 (tCons t3 (tCons t4 (tCons t5 tNil))))) σ Z (fun vs Z2 => ∃ ru st cv, vs = [ru, st, cv, dv, b] ∧ RuleAt K Z2 ru r ∧ Dp K Z2 st ds ∧ Dp K Z2 cv dc) := fun H0 e Q q => h1 H0 e _ fun v1 Z1 H1 g1 p1 =>
  EvG.up h2 (fun _ _ _ e q => Dp.mv q e) g1.z H1 g1.h _ fun v2 Z2 H2 g2 p2 => EvG.up h3 (fun _ _ _ e q => Dp.mv q e) (g1.z.trans g2.z) H2 g2.h _ fun v3 Z3 H3 g3 p3 =>
    have g := (g1.trans g2).trans g3
    h4 H3 (g.z.trans g3.h) _ fun H4 e4 => h5 H4 ((g.z.trans g3.h).trans e4) _ fun H5 e5 => q _ Z3 H5 (g.trans (Gr.of g3.h (e4.trans e5))) ⟨v1, v2, v3, rfl, (p1.mv g2.z).mv g3.z, p2.mv g3.z, p3⟩
theorem eg_Mom {σ : L2.St} {Z : Hp} {ta : TA} {E : XK} {sh' : Sh} {dv b : V} (h : EvGA ta σ Z (fun vs Z2 => ∃ ru st cv, vs = [ru, st, cv, dv, b] ∧ RuleAt K Z2 ru sh'.r ∧ Dp K Z2 st (dSt sh'.st) ∧ Dp K Z2 cv (.tuple (sh'.cv.map dLd)))) :
    EvG (tMake (He.ga K "Moment") (sp_Moment_init K) [] E ta) σ Z (fun x Z2 => MomHd K Z2 x sh' dv b ∧ x ≠ .non) :=
  eg_make h (Φ := fun fs Z' => ∃ ru st cv, fs = mF ru st cv dv b ∧ RuleAt K Z' ru sh'.r ∧ Dp K Z' st (dSt sh'.st) ∧ Dp K Z' cv (.tuple (sh'.cv.map dLd))) (fun vs Z2 e ⟨ru, st, cv, ev, p1, p2, p3⟩ x dx H Q E hs hx zx k => by
    subst ev
    exact ⟨x, dx, ru, st, cv, dv, b, Z2, rfl, hs, hx, zx, fun fs Z' H' mv hx' zx' ef => k fs Z' H' mv hx' zx' ⟨ru, st, cv, ef, p1.mv mv.z, p2.mv mv.z, p3.mv mv.z⟩⟩)
    (fun x dx fs Z' ⟨ru, st, cv, ef, p1, p2, p3⟩ zx => by
      subst ef
      have e : Ex Z' (upd Z' x (.ins (He.ga K "Moment") dx (mF ru st cv dv b))) := K74.same_new zx
      exact ⟨⟨x, dx, ru, st, cv, rfl, upd_same, p1.mv e, p2.mv e, p3.mv e⟩, fun q => nomatch q⟩)
/-! deeds -/
def nmD : Deed → Str
  | .load _ => "load"
  | .fail _ => "fail"
  | .part _ => "part"
  | .raise _ => "raise"
def argD : Deed → PyData
  | .load l => dLd l
  | .fail k => .int k
  | .part p => dPart p
  | .raise a => .int a
theorem dDeed_eq (d : Deed) : dDeed d = .tuple [.str (nmD d), argD d] := by cases d <;> rfl
theorem deed_at {Z : Hp} {v : V} {d : Deed} (h : Dp K Z v (dDeed d)) : ∃ a y, v = .ref a ∧ SqT K Z a [.str (nmD d), y] ∧ Dp K Z y (argD d) := by
  rw [dDeed_eq] at h
  obtain ⟨a, xs, rfl, s, dx⟩ := Dp.tupI h
  obtain ⟨x, r, rfl, d1, d2⟩ := DpAll.consI dx
  obtain ⟨y, r2, rfl, d3, d4⟩ := DpAll.consI d2
  cases DpAll.nilI d4
  cases Dp.strI d1
  exact ⟨a, y, rfl, s, d3⟩
/-- the deed that takes back -/
def dUndo : PyData := .tuple [.str "undo"]
def ActAt (K : Frag) (H : Hp) (v : V) : Prop := (∃ d, Dp K H v (dDeed d)) ∨ Dp K H v dUndo
theorem lay_undo : SeqAt.shaped dUndo = true := shp_of (n := 1) (lay_tup (n := 0) (shp_all fun d hd => by cases List.mem_singleton.mp hd; exact lay_str (by decide +kernel))) (by decide)
theorem at0 {x : V} {r : List V} : atI (x :: r) 0 = some x := by
  simp [atI, ixN]
def sp_is_deed (K : Frag) : Sp := fun vs H Q _ => ∃ v, vs = [v] ∧ ActAt K H v ∧ ∀ H', Ex H H' → Q (.bl true) H'
theorem sc_is_deed : FnScope ["thing"] ["thing"] (defScope s_is_deed) := ⟨rfl, rfl, rfl, by decide +kernel, rfl, by decide +kernel, by decide +kernel⟩
theorem ok_is_deed (T : Txt w K mg) : FB P w K mg base 2 (He.ga K "is_deed") ["thing"] (sp_is_deed K) := by
  obtain ⟨esPARTS, nPARTS, hKPARTS⟩ := T.pt
  refine FB.of T.F_is_deed sc_is_deed (fun _ _ _ _ _ _ us hl => match us, hl with | [_], _ => rfl) (by rintro vs H Q E ⟨_, rfl, _⟩; rfl) (fun cdv A outer s H vs Q E hr h => ?_)
  refine ⟨_, (pss_cons (ps_if (PW.pt (pw_or (pt_not (pt_val (pe_callB call_isi (by rfl) T.f_isinstance (by decide +kernel) (pa_cons (pv 0) (pa_cons (pe_bltn (by rfl) T.f_tuple (by decide +kernel) (v := .ty "tuple") rfl) pa_nil))))) (pw_or (pt_cmpR (op_eqD hr.units) (pv 0) (pe_tup pa_nil) (nomark _)) (pw_or1 (pt_not (pt_val (pe_callB call_isi (by rfl) T.f_isinstance (by decide +kernel) (pa_cons (pe_ix ix_tup (pv 0) pe_int (fun _ _ => rfl)) (pa_cons (pe_bltn (by rfl) T.f_str (by decide +kernel) (v := .ty "str") rfl) pa_nil)))))))))
    (pss_one (ps_ret pe_bl))
    pss_nil)
    (pss_one (ps_ret (pe_cmpR op_eq (pe_kget hKPARTS (by decide) (by rfl) T.g_PARTS (pe_ix ix_tup (pv 0) pe_int (fun _ _ => rfl)) pe_int ⟨by rfl, by rfl, by rfl, by rfl⟩) (pe_callB call_len_seq (by rfl) T.f_len (by decide +kernel) (pa_cons (pv 0) pa_nil)) (nomark _))))), ?_⟩
  obtain ⟨v, rfl, ha, k⟩ := h
  have key : ∀ (a : Addr) (xs : List V) (nm : Str) (n : Int) (r : List V) (d : PyData), v = .ref a → SqT K H a xs → xs = .str nm :: r → Dp K H v d → SeqAt.shaped d = true → PyData.eqv d (.tuple []) = false → (∃ u, PySem.W.nsIn K (He.ga K "PARTS") nm = some (some u) ∧ RelV (.int n) u) → n = xs.length →
      tSeq (tIfS (tOr (tNot (tB (tCB (rIsi K) (tCons (tVar 0) (tCons (tC (.ty "tuple")) tNil))))) (tOr (tTest (tOp (rEqD K) (tVar 0) (tTup tNil))) (tNot (tB (tCB (rIsi K) (tCons (tOp (rIxT K) (tVar 0) (tC (.int 0))) (tCons (tC (.ty "str")) tNil))))))) (tRet (tC (.bl false))) tNext)
        (tRet (tOp rEq (tKGet K (He.ga K "PARTS") (tOp (rIxT K) (tVar 0) (tC (.int 0))) (tC (.int 0))) (tCB (rLenS K) (tCons (tVar 0) tNil)))) { nx := fun _ H' => Q .non H', rt := Q } (start ["thing"] [v]) H := by
    intro a xs nm n r d ev sq ex hd sd he hn hl
    subst ev ex
    refine q_when (b := false) (et_is (et_or (et_not (et_B (ev_isi (ev_var rfl) (tyx_seq sq) kit_tt))) fun _ => et_or (et_test (ev_eqDU (ev_var rfl) (eu_tup ea_nil (Nat.le_of_ble_eq_true rfl)) hd .nil sd lay_nil)) fun _ => et_not (et_B (ev_isi (ev_ixT (ev_var rfl) sq at0) tyx_s kit_ss))) (by rw [he]; rfl)) (fun h => nomatch h) fun _ H1 e1 => ?_
    have sq1 := ex_t e1 sq
    refine s_ret (ev_is (ev_eq (ev_kget (ev_ixT (ev_var rfl) sq1 at0) ev_c hn) (ev_lenT (ev_var rfl) sq1) rfl) ?_) fun H2 e2 => k H2 (e1.trans e2)
    rw [hl]
    exact congrArg V.bl (decide_eq_true rfl)
  rcases ha with ⟨d, hd⟩ | hd
  · obtain ⟨a, y, ev, sq, dy⟩ := deed_at hd
    have he : PyData.eqv (dDeed d) (.tuple []) = false := by rw [dDeed_eq]; rfl
    have hs : SeqAt.shaped (dDeed d) = true := shp_of (lay_deed d) (by decide)
    cases d with
    | load l => exact key a _ "load" 2 [y] _ ev sq rfl hd hs he (T.wparts (q := ("load", .int 2)) (by simp)) rfl
    | fail l => exact key a _ "fail" 2 [y] _ ev sq rfl hd hs he (T.wparts (q := ("fail", .int 2)) (by simp)) rfl
    | part l => exact key a _ "part" 2 [y] _ ev sq rfl hd hs he (T.wparts (q := ("part", .int 2)) (by simp)) rfl
    | raise l => exact key a _ "raise" 2 [y] _ ev sq rfl hd hs he (T.wparts (q := ("raise", .int 2)) (by simp)) rfl
  · obtain ⟨a, ev, sq⟩ := datI (ds := [.str "undo"]) hd rfl
    exact key a _ "undo" 1 [] _ ev sq rfl hd lay_undo rfl (T.wparts (q := ("undo", .int 1)) (by simp)) rfl
theorem v_is_deed {H : Hp} {v : V} (h : ∀ H1, Ex H H1 → ActAt K H1 v) : SpV (sp_is_deed K) [v] H (.bl true) := fun H1 e Q q E => ⟨v, rfl, h H1 e, q⟩
theorem ActAt.mv {H H1 : Hp} {v : V} (h : ActAt K H v) (e : Ex H H1) : ActAt K H1 v := h.imp (fun ⟨d, q⟩ => ⟨d, q.mv e⟩) (fun q => Dp.mv q e)
/-! failed -/
def BadN (K : Frag) (H : Hp) (E : XK) : Prop := ∀ H', Same H H' → E (.ref (He.ga K "BadNumber")) none H'
def sp_failed (K : Frag) : Sp := fun vs H Q E => ∃ (v u : V) (k : Int) (r : Rl) (s : Stt) (Z : Hp), vs = [v, u, .int k] ∧ Ex Z H ∧ RuleAt K Z v r ∧ Dp K Z u (dSt s) ∧
  ((1 ≤ k ∧ k ≤ s.1 - r.least) → ∀ x Z' H', Gr Z H Z' H' → Dp K Z' x (dSt (s.1 - k, s.2)) → Q x H') ∧ (¬ (1 ≤ k ∧ k ≤ s.1 - r.least) → BadN K H E)
theorem sc_failed : FnScope ["rule", "state", "many"] ["rule", "state", "many"] (defScope s_failed) := ⟨rfl, rfl, rfl, by decide +kernel, rfl, by decide +kernel, by decide +kernel⟩
theorem ok_failed (T : Txt w K mg) : FB P w K mg base 3 (He.ga K "failed") ["rule", "state", "many"] (sp_failed K) := by
  refine FB.of T.F_failed sc_failed (fun _ _ _ _ _ _ us hl => match us, hl with | [_, _, _], _ => rfl) (by rintro vs H Q E ⟨_, _, _, _, _, _, rfl, _⟩; rfl) (fun cdv A outer s H vs Q E hr h => ?_)
  refine ⟨_, (pss_cons (ps_if (pt_not (pt_val (pe_callF (ok_is_between T) (hr.mono (by decide)) (by rfl) T.g_is_between passL (pa_cons (pv 2) (pa_cons pe_int (pa_cons (pe_op op_sub (pe_ix ix_tup (pv 1) pe_int (fun _ _ => rfl)) (pe_propF (pv 0) T.c_Rule (T.p_Rule_least).2 (ok_Rule_least T) (hr.mono (by decide)))) pa_nil))))))
    (pss_one (ps_raise rfl (takes_of rfl rfl rfl rfl) (pmk_own PySem.F.excBase_ValueError T.x_BadNumber.1 T.g_BadNumber T.x_BadNumber.2.1 (raises_own T.x_BadNumber.2.2.1 T.x_BadNumber.2.2.2) (by rfl))))
    pss_nil)
    (pss_one (ps_ret (pe_tup (pa_cons (pe_op op_sub (pe_ix ix_tup (pv 1) pe_int (fun _ _ => rfl)) (pv 2)) (pa_cons (pe_ix ix_tup (pv 1) pe_int (fun _ _ => rfl)) pa_nil)))))), ?_⟩
  obtain ⟨v, u, n, r, s0, Z, rfl, hZ, hr0, hd, k1, k2⟩ := h
  obtain ⟨a, b, rfl, sq, sb, db⟩ := st_at hd
  have hrH := hr0.mv hZ
  refine q_when (b := !(decide (1 ≤ n) && decide (n ≤ s0.1 - r.least))) (et_not (et_B (ev_callS (ea_cons (ev_var rfl) (ea_cons ev_c (ea_cons (ev_I (ev_ixT (ev_var rfl) (ex_t hZ sq) rfl) (ev_Rule_least (ev_var rfl) hrH)) ea_nil))) v_is_between))) (fun h H1 e1 => ?_) (fun h H1 e1 => ?_)
  · have h' := nb h
    rw [Bool.and_eq_false_iff, decide_eq_false_iff_not, decide_eq_false_iff_not] at h'
    exact k2 (fun q => h'.elim (fun z => z q.1) (fun z => z q.2)) H1 e1
  · have h' := nbf h
    rw [Bool.and_eq_true, decide_eq_true_iff, decide_eq_true_iff] at h'
    have hZ1 := hZ.trans e1
    have g0 : Gr Z H Z H1 := Gr.of hZ e1
    exact s_retG (ed_tup (K := K) (ds := [.int (s0.1 - n), .tuple (s0.2.map PyData.int)]) (eda_cons (ed_int (ev_I (ev_ixT (ev_var rfl) sq rfl) (ev_var rfl))) (eda_cons (ed_ev (ev_ixT (ev_var rfl) sq rfl) db) eda_nil)) (Nat.le_of_ble_eq_true rfl)) hZ1 fun x Z2 H2 g p => k1 h' x Z2 H2 (g0.trans g) p
end
end K74

/-! E12 -/
set_option Elab.async false
set_option linter.all false
set_option maxRecDepth 100000
set_option maxHeartbeats 4000000
namespace K74
open PySem PySem.Spec PyProof.Rows L2
open Evl hiding tCut pss_cut
section
variable {P : Program} [hPT : PT P] {w : World} {K : Frag} {mg : Str → Option Value} {base : Heap}
theorem EvT.to {t : TT} {σ : L2.St} {H : Hp} {b : Bool} {Q : Bool → Hp → Prop} (h : EvT t σ H b) (k : ∀ H1, Ex H H1 → Q b H1) : t σ H Q := h H (Ex.refl _) Q k
theorem tag_load_load : decide (V.str ("load" : Str) = V.str ("load" : Str)) = true := by decide +kernel
theorem tag_fail_load : decide (V.str ("fail" : Str) = V.str ("load" : Str)) = false := by decide +kernel
theorem tag_fail_fail : decide (V.str ("fail" : Str) = V.str ("fail" : Str)) = true := by decide +kernel
theorem tag_part_load : decide (V.str ("part" : Str) = V.str ("load" : Str)) = false := by decide +kernel
theorem tag_part_fail : decide (V.str ("part" : Str) = V.str ("fail" : Str)) = false := by decide +kernel
theorem tag_part_part : decide (V.str ("part" : Str) = V.str ("part" : Str)) = true := by decide +kernel
theorem tag_raise_load : decide (V.str ("raise" : Str) = V.str ("load" : Str)) = false := by decide +kernel
theorem tag_raise_fail : decide (V.str ("raise" : Str) = V.str ("fail" : Str)) = false := by decide +kernel
theorem tag_raise_part : decide (V.str ("raise" : Str) = V.str ("part" : Str)) = false := by decide +kernel
theorem op_go {σ : L2.St} {H : Hp} {ta tb : TE} {x y : V} {r : R2} {Q : VK} (ha : Ev ta σ H x) (hb : Ev tb σ H y) (k : ∀ H1, Ex H H1 → r x y H1 Q) : tOp r ta tb σ H Q := ha H (Ex.refl _) _ fun H1 e1 => hb H1 e1 _ fun H2 e2 => k H2 (e1.trans e2)
theorem cons_go {σ : L2.St} {H : Hp} {te : TE} {tr : TA} {x : V} {Q : List V → Hp → Prop} (h : Ev te σ H x) (k : ∀ H1, Ex H H1 → tr σ H1 fun xs H2 => Q (x :: xs) H2) : tCons te tr σ H Q := h H (Ex.refl _) _ k
theorem cons_all {σ : L2.St} {H : Hp} {te : TE} {tr : TA} {Q : List V → Hp → Prop} (k : ∀ K', te σ H K') : tCons te tr σ H Q := k _
theorem call_go {σ : L2.St} {H : Hp} {ta : TA} {vs : List V} {sp : Sp} {E : XK} {Q : VK} (h : EvA ta σ H vs) (k : ∀ H1, Ex H H1 → sp vs H1 Q E) : tCall sp [] E ta σ H Q := h H (Ex.refl _) _ fun H1 e => by
  rw [List.append_nil]
  exact k H1 e
theorem retMk_all {σ : L2.St} {H : Hp} {C : Addr} {sp : Sp} {E : XK} {t : TA} {D : Ends} (k : ∀ K', t σ H K') : tRet (tMake C sp [] E t) D σ H := k _
theorem ifq {t : TT} {ta tb : TE} {σ : L2.St} {H : Hp} {i : Nat} {D : Ends} {tz : TS} {b : Bool} (h : EvT t σ H b) (k1 : b = true → ∀ H1, Ex H H1 → ta σ H1 fun v H2 => tz D (σ.set i (some v)) H2) (k2 : b = false → ∀ H1, Ex H H1 → tb σ H1 fun v H2 => tz D (σ.set i (some v)) H2) :
    tSeq (tAsg (tIf t ta tb) (gName i)) tz D σ H := h H (Ex.refl _) _ fun H1 e => by
  cases b with
  | true => rw [if_pos rfl]; exact k1 rfl H1 e
  | false => rw [if_neg Bool.false_ne_true]; exact k2 rfl H1 e
def BadD (K : Frag) (d : Deed) (H : Hp) (E : XK) : Prop := match d with
  | .fail _ => BadN K H E
  | _ => Bad K H E
def sp_later_moment (K : Frag) : Sp := fun vs H Q E => ∃ (m dv : V) (hist : List (Deed × Sh)) (sh : Sh) (d : Deed) (Z : Hp), vs = [m, dv] ∧ Ex Z H ∧ MomAt K Z hist m sh ∧ OkSh sh ∧ okDd d ∧ sh.cv.length ≤ 1000 ∧ Dp K Z dv (dDeed d) ∧
  (∀ sh', doneL sh d = some sh' → ∀ x Z' H', Gr Z H Z' H' → MomAt K Z' ((d, sh) :: hist) x sh' → Q x H') ∧ (doneL sh d = none → BadD K d H E)
theorem g_failed {Z : Hp} {v u : V} {r : Rl} {s : Stt} {n : Int} (h : RuleAt K Z v r) (hd : Dp K Z u (dSt s)) (hn : 1 ≤ n ∧ n ≤ s.1 - r.least) : SpG (sp_failed K) [v, u, .int n] Z (fun x Z2 => Dp K Z2 x (dSt (s.1 - n, s.2))) := fun H1 e Q q E => ⟨v, u, n, r, s, Z, rfl, e, h, hd, fun _ => q, fun z => absurd hn z⟩
theorem sc_later_moment : FnScope ["now", "deed", "rule"] ["now", "deed"] (defScope s_later_moment) := ⟨rfl, rfl, rfl, by decide +kernel, rfl, by decide +kernel, by decide +kernel⟩
theorem ok_later_moment (T : Txt w K mg) : FB P w K mg base 10 (He.ga K "later_moment") ["now", "deed"] (sp_later_moment K) := by
  refine FB.of T.F_later_moment sc_later_moment (fun _ _ _ _ _ _ us hl => match us, hl with | [_, _], _ => rfl) (by rintro vs H Q E ⟨_, _, _, _, _, _, rfl, _⟩; rfl) (fun cdv A outer s H vs Q E hr h => ?_)
  refine ⟨_, (pss_cons (ps_if (pt_cmpR op_eq (pe_ix ix_tup (pv 1) pe_int (fun _ _ => rfl)) pe_str (nomark _))
    (pss_cons (ps_expr (pe_callF (ok_need_load T) (hr.mono (by decide)) (by rfl) T.g_need_load passL (pa_cons (pe_ix ix_tup (pv 1) pe_int (fun _ _ => rfl)) pa_nil)))
    (pss_one (ps_ret (pe_makeF T.mk_Moment (ok_Moment_init T) (hr.mono (by decide)) (by rfl) T.g_Moment passL (pa_cons (pe_fld (pv 0) rfl) (pa_cons (pe_callF (ok_ticked T) (hr.mono (by decide)) (by rfl) T.g_ticked passL (pa_cons (pe_fld (pv 0) rfl) (pa_cons (pe_fld (pv 0) rfl) (pa_cons (pe_ix ix_tup (pv 1) pe_int (fun _ _ => rfl)) pa_nil)))) (pa_cons (pe_op op_catA (pe_fld (pv 0) rfl) (pe_tup (pa_cons (pe_ix ix_tup (pv 1) pe_int (fun _ _ => rfl)) pa_nil))) (pa_cons (pv 1) (pa_cons (pv 0) pa_nil)))))))))
    pss_nil)
    (pss_cons (ps_if (pt_cmpR op_eq (pe_ix ix_tup (pv 1) pe_int (fun _ _ => rfl)) pe_str (nomark _))
    (pss_one (ps_ret (pe_makeF T.mk_Moment (ok_Moment_init T) (hr.mono (by decide)) (by rfl) T.g_Moment passL (pa_cons (pe_fld (pv 0) rfl) (pa_cons (pe_callF (ok_failed T) (hr.mono (by decide)) (by rfl) T.g_failed (passes_call (takes_of rfl rfl rfl rfl) (fun _ _ _ _ z => z)) (pa_cons (pe_fld (pv 0) rfl) (pa_cons (pe_fld (pv 0) rfl) (pa_cons (pe_ix ix_tup (pv 1) pe_int (fun _ _ => rfl)) pa_nil)))) (pa_cons (pe_fld (pv 0) rfl) (pa_cons (pv 1) (pa_cons (pv 0) pa_nil))))))))
    pss_nil)
    (pss_cons (ps_set (i := 2) sc_later_moment.nd rfl (Or.inl rfl) (pe_ifExp (pt_cmpR op_eq (pe_ix ix_tup (pv 1) pe_int (fun _ _ => rfl)) pe_str (nomark _)) (pe_op (op_binO (bin_or T) (ok_Rule_or T) (hr.mono (by decide)) (passes_call (takes_of rfl rfl rfl rfl) (fun _ _ _ _ z => z))) (pe_fld (pv 0) rfl) (pe_ix ix_tup (pv 1) pe_int (fun _ _ => rfl))) (pe_op (op_binO (bin_shl T) (ok_Rule_lshift T) (hr.mono (by decide)) (passes_call (takes_of rfl rfl rfl rfl) (fun _ _ _ _ z => z))) (pe_fld (pv 0) rfl) (pe_ix ix_tup (pv 1) pe_int (fun _ _ => rfl)))))
    (pss_one (ps_ret (pe_makeF T.mk_Moment (ok_Moment_init T) (hr.mono (by decide)) (by rfl) T.g_Moment passL (pa_cons (pv 2) (pa_cons (pe_fld (pv 0) rfl) (pa_cons (pe_fld (pv 0) rfl) (pa_cons (pv 1) (pa_cons (pv 0) pa_nil))))))))))), ?_⟩
  obtain ⟨m, dv, hist, sh, d, Z, rfl, hZ, hm, ok, okd, hz, hd, k1, k2⟩ := h
  obtain ⟨mdv, mb, a, dx, ru, st, cv, rfl, h1, h2, h3, h4⟩ := hm.hd
  obtain ⟨c, y, rfl, sq, dy⟩ := deed_at hd
  have ins : ∀ {x : V} {Z' : Hp} {sh' : Sh}, Ex Z Z' → MomHd K Z' x sh' (.ref c) (.ref a) → MomAt K Z' ((d, sh) :: hist) x sh' := fun e q => ⟨.ref c, .ref a, q, hd.mv e, (fun z => nomatch z), MomAt.mv e hm⟩
  have nm : ∀ (H1 : Hp) (t : Str), Ex Z H1 → Ev (tOp rEq (tOp (rIxT K) (tVar 1) (tC (.int 0))) (tC (.str t))) (start ["now", "deed", "rule"] [.ref a, .ref c]) H1 (.bl (decide (V.str (nmD d) = V.str t))) := fun H1 t e => ev_eq (ev_ixT (ev_var rfl) (ex_t e sq) rfl) ev_c rfl
  cases d with
  | load l =>
    refine q_when (b := true) (et_is (et_test (nm _ _ hZ)) tag_load_load) (fun _ H1 e1 => ?_) (fun h => nomatch h)
    have hZ1 := hZ.trans e1
    have sq1 := ex_t hZ1 sq
    have lz : LdZ K Z y l := LdZ.of dy okd
    refine q_drop (v := .non) (ev_callS (ea_cons (ev_ixT (ev_var rfl) sq1 rfl) ea_nil) fun H2 e2 Q q E => ⟨y, l.1, l.2, rfl, (lz.mv (hZ1.trans e2)).t, q⟩) fun H2 e2 => ?_
    have g0 : Gr Z H Z H2 := Gr.of hZ (e1.trans e2)
    refine s_retG (eg_Mom (K := K) (sh' := { sh with st := tickL sh.r sh.st l, cv := sh.cv ++ [l] }) (dv := .ref c) (b := .ref a) (ega_mom (eg_ev (ev_fld (ev_var rfl) h1 T.c_Moment T.n_q_rule rfl) h2)
      (eg_call (ea_cons (ev_fld (ev_var rfl) h1 T.c_Moment T.n_q_rule rfl) (ea_cons (ev_fld (ev_var rfl) h1 T.c_Moment T.n_q_state rfl) (ea_cons (ev_ixT (ev_var rfl) sq rfl) ea_nil))) (g_ticked h2 ok.r h3 ok.s lz) (fun _ _ _ e q => q.mv e))
      (eg_imp (ed_catA (K := K) (ds := sh.cv.map dLd) (es := [dLd l]) (ed_ev (ev_fld (ev_var rfl) h1 T.c_Moment T.n_q_curve rfl) h4) (ed_tup (eda_cons (ed_ev (ev_ixT (ev_var rfl) sq rfl) dy) eda_nil) (Nat.le_of_ble_eq_true rfl)) (by rw [List.length_map]; show sh.cv.length + 1 ≤ 100000; omega)) (fun v Z2 _ q => by rw [List.map_append]; exact q)) (ev_var rfl) (ev_var rfl))) g0.h fun x Z3 H3 g p => ?_
    exact k1 _ rfl x Z3 H3 (g0.trans g) (ins g.z p.1)
  | fail n =>
    refine q_when (b := false) (et_is (et_test (nm _ _ hZ)) tag_fail_load) (fun h => nomatch h) fun _ H1 e1 => ?_
    refine q_when (b := true) (et_is (et_test (nm _ _ (hZ.trans e1))) tag_fail_fail) (fun _ H2 e2 => ?_) (fun h => nomatch h)
    have g0 : Gr Z H Z H2 := Gr.of hZ (e1.trans e2)
    cases Dp.intI dy
    by_cases hn : 1 ≤ n ∧ n ≤ sh.st.1 - sh.r.least
    · refine s_retG (eg_Mom (K := K) (sh' := { sh with st := (sh.st.1 - n, sh.st.2) }) (dv := .ref c) (b := .ref a) (ega_mom (eg_ev (ev_fld (ev_var rfl) h1 T.c_Moment T.n_q_rule rfl) h2)
        (eg_call (ea_cons (ev_fld (ev_var rfl) h1 T.c_Moment T.n_q_rule rfl) (ea_cons (ev_fld (ev_var rfl) h1 T.c_Moment T.n_q_state rfl) (ea_cons (ev_ixT (ev_var rfl) sq rfl) ea_nil))) (g_failed h2 h3 hn) (fun _ _ _ e q => q.mv e))
        (ed_ev (ev_fld (ev_var rfl) h1 T.c_Moment T.n_q_curve rfl) h4) (ev_var rfl) (ev_var rfl))) g0.h fun x Z3 H3 g p => ?_
      exact k1 _ (if_pos hn) x Z3 H3 (g0.trans g) (ins g.z p.1)
    · have bad : BadN K H E := k2 (if_neg hn)
      refine retMk_all fun K1 => cons_go (ev_fld (ev_var rfl) (g0.h _ _ h1) T.c_Moment T.n_q_rule rfl) fun H3 e3 => cons_all fun K2 => ?_
      have g3 : Gr Z H Z H3 := g0.trans (Gr.of g0.h e3)
      refine call_go (ea_cons (ev_fld (ev_var rfl) (g3.h _ _ h1) T.c_Moment T.n_q_rule rfl) (ea_cons (ev_fld (ev_var rfl) (g3.h _ _ h1) T.c_Moment T.n_q_state rfl) (ea_cons (ev_ixT (ev_var rfl) (ex_t g3.h sq) rfl) ea_nil))) fun H6 e6 => ?_
      have g6 : Gr Z H Z H6 := g3.trans (Gr.of g3.h e6)
      exact ⟨ru, st, n, sh.r, sh.st, Z, rfl, g6.h, h2, h3, fun q => absurd q hn, fun _ H7 e7 => bad H7 (g6.same.trans e7)⟩
  | part p =>
    refine q_when (b := false) (et_is (et_test (nm _ _ hZ)) tag_part_load) (fun h => nomatch h) fun _ H1 e1 => ?_
    refine q_when (b := false) (et_is (et_test (nm _ _ (hZ.trans e1))) tag_part_fail) (fun h => nomatch h) fun _ H2 e2 => ?_
    refine ifq (b := true) (et_is (et_test (nm _ _ ((hZ.trans e1).trans e2))) tag_part_part) (fun _ H3 e3 => ?_) (fun h => nomatch h)
    have g0 : Gr Z H Z H3 := Gr.of hZ ((e1.trans e2).trans e3)
    refine op_go (ev_fld (ev_var rfl) (g0.h _ _ h1) T.c_Moment T.n_q_rule rfl) (ev_ixT (ev_var rfl) (ex_t g0.h sq) rfl) fun H5 e5 => ?_
    have g5 : Gr Z H Z H5 := g0.trans (Gr.of g0.h e5)
    obtain ⟨ra, rdx, rp, rb, rl, rfl, r1, r2, r3, r4⟩ := id h2
    obtain ⟨pa, rfl, psq⟩ := part_at dy
    refine ⟨ra, rdx, _, rfl, g5.h _ _ r1, .inr ⟨rfl, pa, _, rfl, ex_t g5.h psq⟩, .ref ra, .ref pa, sh.r, p, Z, rfl, g5.h, h2, ok.r, dy, fun okp x Z6 H6 g6 hr6 => ?_, fun okp => ?_⟩
    · have g7 := g5.trans g6
      refine s_retG (eg_Mom (K := K) (sh' := { sh with r := { sh.r with parts := sh.r.parts ++ [p] } }) (dv := .ref c) (b := .ref a) (ega_mom (eg_ev (ev_var rfl) hr6) (ed_ev (ev_fld (ev_var rfl) (g7.z _ _ h1) T.c_Moment T.n_q_state rfl) (h3.mv g7.z)) (ed_ev (ev_fld (ev_var rfl) (g7.z _ _ h1) T.c_Moment T.n_q_curve rfl) (h4.mv g7.z)) (ev_var rfl) (ev_var rfl))) g7.h fun x Z8 H8 g8 p8 => ?_
      exact k1 _ (if_pos okp) x Z8 H8 (g7.trans g8) (ins (g7.z.trans g8.z) p8.1)
    · have bad : Bad K H E := k2 (if_neg (by rw [okp]; exact Bool.false_ne_true))
      exact bad.mono g5.same
  | raise i =>
    refine q_when (b := false) (et_is (et_test (nm _ _ hZ)) tag_raise_load) (fun h => nomatch h) fun _ H1 e1 => ?_
    refine q_when (b := false) (et_is (et_test (nm _ _ (hZ.trans e1))) tag_raise_fail) (fun h => nomatch h) fun _ H2 e2 => ?_
    refine ifq (b := false) (et_is (et_test (nm _ _ ((hZ.trans e1).trans e2))) tag_raise_part) (fun h => nomatch h) (fun _ H3 e3 => ?_)
    have g0 : Gr Z H Z H3 := Gr.of hZ ((e1.trans e2).trans e3)
    refine op_go (ev_fld (ev_var rfl) (g0.h _ _ h1) T.c_Moment T.n_q_rule rfl) (ev_ixT (ev_var rfl) (ex_t g0.h sq) rfl) fun H5 e5 => ?_
    have g5 : Gr Z H Z H5 := g0.trans (Gr.of g0.h e5)
    obtain ⟨ra, rdx, rp, rb, rl, rfl, r1, r2, r3, r4⟩ := id h2
    cases Dp.intI dy
    refine ⟨ra, rdx, _, rfl, g5.h _ _ r1, .inl ⟨rfl, i, rfl⟩, .ref ra, i, sh.r, Z, rfl, g5.h, h2, ok.r, fun okp x Z6 H6 g6 hr6 => ?_, fun okp => ?_⟩
    · have g7 := g5.trans g6
      refine s_retG (eg_Mom (K := K) (sh' := { sh with r := upR i sh.r }) (dv := .ref c) (b := .ref a) (ega_mom (eg_ev (ev_var rfl) hr6) (ed_ev (ev_fld (ev_var rfl) (g7.z _ _ h1) T.c_Moment T.n_q_state rfl) (h3.mv g7.z)) (ed_ev (ev_fld (ev_var rfl) (g7.z _ _ h1) T.c_Moment T.n_q_curve rfl) (h4.mv g7.z)) (ev_var rfl) (ev_var rfl))) g7.h fun x Z8 H8 g8 p8 => ?_
      exact k1 _ (if_pos okp) x Z8 H8 (g7.trans g8) (ins (g7.z.trans g8.z) p8.1)
    · have bad : Bad K H E := k2 (if_neg (by rw [okp]; exact Bool.false_ne_true))
      exact bad.mono g5.same
/-! deeds_to -/
theorem DpAll.rev {Z : Hp} : ∀ {ds : List PyData} {vs : List V}, DpAll K Z vs ds → DpAll K Z vs.reverse ds.reverse
  | [], _, h => by cases h; exact .nil
  | d :: ds, _, h => by
    cases h with
    | cons a b =>
      rw [List.reverse_cons, List.reverse_cons]
      exact (DpAll.rev b).app (.cons a .nil)
def dsOf (hist : List (Deed × Sh)) : List Deed := (hist.map (·.1)).reverse
def sp_deeds_to (K : Frag) : Sp := fun vs H Q _ => ∃ (m : V) (hist : List (Deed × Sh)) (sh : Sh) (Z : Hp), vs = [m] ∧ Ex Z H ∧ MomAt K Z hist m sh ∧ hist.length ≤ 1000 ∧ ∀ x Z' H', Gr Z H Z' H' → LsD K Z' x ((dsOf hist).map dDeed) → Q x H'
theorem sc_deeds_to : FnScope ["moment", "found"] ["moment"] (defScope s_deeds_to) := ⟨rfl, rfl, rfl, by decide +kernel, rfl, by decide +kernel, by decide +kernel⟩
theorem ok_deeds_to (T : Txt w K mg) : FB P w K mg base 2 (He.ga K "deeds_to") ["moment"] (sp_deeds_to K) := by
  refine FB.of T.F_deeds_to sc_deeds_to (fun _ _ _ _ _ _ us hl => match us, hl with | [_], _ => rfl) (by rintro vs H Q E ⟨_, _, _, _, rfl, _⟩; rfl) (fun cdv A outer s H vs Q E hr h => ?_)
  refine ⟨_, (pss_cons (ps_set (i := 1) sc_deeds_to.nd rfl (Or.inl rfl) (pe_lst pa_nil))
    (pss_cons (ps_while (passes_of rfl) (pt_cmpR op_notN (pe_fld (pv 0) rfl) pe_non (nomark _)) (pss_cons (ps_expr (pe_bm PySem.F.plainAttrs_list PySem.F.slot_list_append PySem.F.type_list_append mt_append (pv 1) (pa_cons (pe_fld (pv 0) rfl) pa_nil)))
    (pss_one (ps_set (i := 0) sc_deeds_to.nd rfl (Or.inl rfl) (pe_fld (pv 0) rfl)))))
    (pss_one (ps_ret (pe_revL (pv 1)))))), ?_⟩
  obtain ⟨m, hist, sh, Z, rfl, hZ, hm, hz, k⟩ := h
  refine q_asgL (el_lst ea_nil (Nat.le_of_ble_eq_true rfl)) fun p H1 hp e1 lp => ?_
  have hZ1 := hZ.trans e1
  have zp : Z p = none := Same.free hZ hp
  refine q_while (fun n σ' H' => ∃ m' h1 h2 sh' acc, σ' = [some m', some (.ref p)] ∧ n = h2.length ∧ hist = h1 ++ h2 ∧ MomAt K Z h2 m' sh' ∧ Mv (fun b => b = p) Z H1 Z H' ∧ H' p = some (.lst acc) ∧ DpAll K Z acc (h1.map fun q => dDeed q.1)) hist.length ⟨m, [], hist, sh, [], rfl, rfl, rfl, hm, Mv.refl hZ1, lp, .nil⟩ (fun n σ' H' ⟨m', g1, g2, sh', acc, es, en, eh, hm', mv, hp', da⟩ => ?_)
  subst es
  cases g2 with
  | nil =>
    obtain ⟨a, dx, ru, st, cv, rfl, q1, _⟩ := hm'
    refine ⟨false, et_is (et_test (ev_notN (ev_fld (ev_var rfl) (mv.h _ _ q1) T.c_Moment T.n_q_before rfl))) rfl, fun h => (nomatch h), fun _ H2 e2 => ?_⟩
    refine ⟨_, rfl, p, acc, rfl, sq_of (e2 _ _ hp'), fun q hq => ?_⟩
    have m2 := mv.trans (Mv.gr (Gr.of mv.h e2))
    have g0 : Gr Z H Z H1 := Gr.of hZ e1
    have g3 := (Mv.freeze ((Mv.gr g0).trans m2) hp (e2 _ _ hp')).toGr fun b hb => by rw [hb]; exact hp
    have zq := Same.free g3.h hq
    refine k _ _ _ (g3.trans (Gr.newZ g3.h hq)) (LsD.newL ?_ zq)
    rw [List.append_nil] at eh
    unfold dsOf
    rw [eh, List.map_reverse, List.map_map]
    exact (DpAll.rev da).mv (K74.same_new zp)
  | cons q g3 =>
    obtain ⟨d0, s0⟩ := q
    obtain ⟨dv, b, ⟨a, dx, ru, st, cv, rfl, q1, q2, q3, q4⟩, hdv, hb, hm2⟩ := hm'
    refine ⟨true, et_is (et_test (ev_notN (ev_fld (ev_var rfl) (mv.h _ _ q1) T.c_Moment T.n_q_before rfl))) (by rw [decide_eq_false hb]; rfl), fun _ H2 e2 => ?_, fun h => (nomatch h)⟩
    refine ⟨fun σ2 H3 => ∃ m' h1 h2 sh' acc, σ2 = [some m', some (.ref p)] ∧ g3.length = h2.length ∧ hist = h1 ++ h2 ∧ MomAt K Z h2 m' sh' ∧ Mv (fun b => b = p) Z H1 Z H3 ∧ H3 p = some (.lst acc) ∧ DpAll K Z acc (h1.map fun q => dDeed q.1), fun σ2 H3 h => ⟨g3.length, by rw [en, List.length_cons]; omega, h⟩, ?_⟩
    have m2 := mv.trans (Mv.gr (Gr.of mv.h e2))
    have hl : acc.length = g1.length := by rw [da.len, List.length_map]
    have hgl : g1.length + (g3.length + 1) = hist.length := by rw [eh, List.length_append, List.length_cons]
    refine q_app (e2 _ _ hp') (ev_var rfl) (ev_fld (ev_var rfl) (m2.h _ _ q1) T.c_Moment T.n_q_deed rfl) (by omega) fun H3 e3 => ?_
    have m3 := (m2.trans (Mv.gr (Gr.of m2.h e3))).trans (Mv.write (o' := .lst (acc ++ [dv])) (m2.h.trans e3) zp (e3 _ _ (e2 _ _ hp')) rfl)
    refine s_asg (ev_fld (ev_var rfl) (m3.h _ _ q1) T.c_Moment T.n_q_before rfl) fun H4 e4 => ⟨b, g1 ++ [(d0, s0)], g3, s0, acc ++ [dv], rfl, rfl, by rw [eh, List.append_assoc]; rfl, hm2, m3.trans (Mv.gr (Gr.of m3.h e4)), e4 _ _ upd_same, ?_⟩
    rw [List.map_append]
    exact da.app (.cons hdv .nil)
end
end K74

/-! E13 -/
set_option Elab.async false
set_option linter.all false
set_option maxRecDepth 100000
set_option maxHeartbeats 4000000
namespace K74
open PySem PySem.Spec PyProof.Rows L2
open Evl hiding tCut pss_cut
def sF (o m : V) : List (Str × V) := [("v_origin", o), ("v_now", m), ("v_mark", .non)]
section
variable {P : Program} [hPT : PT P] {w : World} {K : Frag} {mg : Str → Option Value} {base : Heap}
/-! Session.__init__ -/
def sp_Session_init (K : Frag) : Sp := fun vs H Q _ => ∃ (x dx : Addr) (rv : V) (r : Rl) (n : Int) (Z : Hp), vs = [.ref x, rv, .int n] ∧ Same Z H ∧ H x = some (.ins (He.ga K "Session") dx []) ∧ Z x = none ∧ RuleAt K Z rv r ∧ okR r ∧ (r.least ≤ n ∧ n ≤ r.most) ∧
  Made (fun a => a = x) (He.ga K "Session") x dx Z H (fun fs Z' => ∃ o m, fs = sF o m ∧ ScalerAt K Z' o r n ∧ MomAt K Z' [] m ⟨r, first r n, []⟩) Q
theorem scaler_first {Z : Hp} {v : V} {r : Rl} {n : Int} (h : ScalerAt K Z v r n) : ∃ a dx f ru, v = .ref a ∧ Z a = some (.ins (He.ga K "Scaler") dx [("s_first", f), ("s_rule", ru)]) ∧ Dp K Z f (dSt (first r n)) := by
  obtain ⟨a, dx, f, ru, h1, h2, h3, _⟩ := h
  exact ⟨a, dx, f, ru, h1, h2, h3⟩
/-- x.v_now = Moment(rule, x.v_origin.s_first, (), None, None) -/
theorem mk_mom {σ : L2.St} {Z H : Hp} {t1 t2 to : TE} {f : Str} {ru st : V} {E : XK} {sh' : Sh} {a C dx : Addr} {fs : List (Str × V)} {D : Ends} {tz : TS} (hZ : Ex Z H) (h1 : ∀ H1, Ex H H1 → Ev t1 σ H1 ru) (p1 : RuleAt K Z ru sh'.r) (h2 : ∀ H1, Ex H H1 → Ev t2 σ H1 st) (p2 : Dp K Z st (dSt sh'.st))
    (ho : ∀ H1, Ex H H1 → Ev to σ H1 (.ref a)) (h : H a = some (.ins C dx fs)) (c : Cls K C) (n : NoAttr K C f) (l : fs.length < 1000) (k : ∀ m Z3 H3, Gr Z H Z3 H3 → MomAt K Z3 [] m { sh' with cv := [] } → tz D σ (upd H3 a (.ins C dx (putF f m fs)))) :
    tSeq (sFld K to (tMake (He.ga K "Moment") (sp_Moment_init K) [] E (tCons t1 (tCons t2 (tCons (tTup tNil) (tCons (tC .non) (tCons (tC .non) tNil)))))) f) tz D σ H := by
  refine h1 H (Ex.refl _) H (Ex.refl _) _ fun H1 e1 => h2 H1 e1 H1 (Ex.refl _) _ fun H2 e2 => ⟨Nat.zero_le _, fun p hp x dx' hx hd hne => ?_⟩
  have g2 : Gr Z H Z H2 := Gr.of hZ (e1.trans e2)
  have g3 := g2.trans (Gr.newZ (o := .tup []) g2.h hp)
  have zx := Same.free g3.h hx
  have g4 : Gr _ _ _ _ := Gr.inst (o := .own x) (o' := .ins (He.ga K "Moment") dx' []) g3.h hx hd hne
  have hx0 : H x = none := by
    cases q : H x with
    | none => rfl
    | some u =>
      have := g3.same _ _ q
      rw [this] at hx
      cases hx
  refine ⟨x, dx', ru, st, .ref p, .non, .non, _, rfl, g4.h, upd_same, zx, fun fs' Z' H' mv hx' zx' ef => ⟨rfl, ?_⟩⟩
  subst ef
  have g5 := (Mv.freeze ((Mv.gr (g3.trans g4)).trans mv) hx0 hx').toGr fun a ha => by rw [ha]; exact hx0
  have e5 : Ex Z' (upd Z' x (.ins (He.ga K "Moment") dx' (mF ru st (.ref p) .non .non))) := K74.same_new zx'
  refine ho H' g5.same H' (Ex.refl _) _ fun H6 e6 => ⟨a, C, dx, fs, rfl, e6 _ _ (g5.same _ _ h), c, n, l, ?_⟩
  have e3 : Ex (upd Z p (.tup [])) Z' := mv.z
  refine k (.ref x) _ H6 (g5.trans (Gr.of g5.h e6)) ⟨x, dx', ru, st, .ref p, rfl, upd_same, p1.mv g5.z, p2.mv g5.z, ?_⟩
  exact .tup (SqT.of (e5 _ _ (e3 _ _ upd_same))) .nil
theorem sc_Session_init : FnScope ["self", "rule", "servers"] ["self", "rule", "servers"] (defScope s_Session_init) := ⟨rfl, rfl, rfl, by decide +kernel, rfl, by decide +kernel, by decide +kernel⟩
theorem ok_Session_init (T : Txt w K mg) : FB P w K mg base 6 (He.ma K (He.ga K "Session") "__init__") ["self", "rule", "servers"] (sp_Session_init K) := by
  refine FB.of T.F_Session_init sc_Session_init (fun _ _ _ _ _ _ us hl => match us, hl with | [_, _, _], _ => rfl) (by rintro vs H Q E ⟨_, _, _, _, _, _, rfl, _⟩; rfl) (fun cdv A outer s H vs Q E hr h => ?_)
  refine ⟨_, (pss_cons (ps_fld (pv 0) (pe_makeF T.mk_Scaler (ok_Scaler_init T) (hr.mono (by decide)) (by rfl) T.g_Scaler passL (pa_cons (pv 1) (pa_cons (pv 2) pa_nil))) rfl)
    (pss_cons (ps_fld (pv 0) (pe_makeF T.mk_Moment (ok_Moment_init T) (hr.mono (by decide)) (by rfl) T.g_Moment passL (pa_cons (pv 1) (pa_cons (pe_fld (pe_fld (pv 0) rfl) rfl) (pa_cons (pe_tup pa_nil) (pa_cons pe_non (pa_cons pe_non pa_nil)))))) rfl)
    (pss_one (ps_fld (pv 0) pe_non rfl)))), ?_⟩
  obtain ⟨x, dx, rv, r, n, Z, rfl, hZ, hx, zx, hr0, o, hn, k⟩ := h
  refine q_fldG (eg_Scaler (ea_cons (ev_var rfl) (ea_cons (ev_var rfl) ea_nil)) hr0 o hn) hZ (ev_var rfl) hx T.c_Session T.n_v_origin (by decide) fun sc Z1 H1 g1 hs => ?_
  have hx1 := g1.same _ _ hx
  have zx1 := g1.n _ _ hx zx
  have m1 := (Mv.gr g1 : Mv (fun a => a = x) Z H Z1 H1).trans (Mv.write (o' := .ins (He.ga K "Session") dx [("v_origin", sc)]) g1.h zx1 hx1 rfl)
  obtain ⟨sa, sdx, sf, sr, rfl, s1, s2⟩ := scaler_first hs
  have hx2 := upd_same (H := H1) (a := x) (o := .ins (He.ga K "Session") dx [("v_origin", .ref sa)])
  -- read of the first state with the unfrozen session at hand
  have nx : sa ≠ x := fun e => by rw [e, zx1] at s1; cases s1
  have rd : ∀ H2, Ex (upd H1 x (.ins (He.ga K "Session") dx [("v_origin", .ref sa)])) H2 → Ev (tFld K (tFld K (tVar 0) "v_origin") "s_first") (start ["self", "rule", "servers"] [.ref x, rv, .int n]) H2 sf := fun H2 e2 => ev_fld (ev_fld (ev_var rfl) (e2 _ _ hx2) T.c_Session T.n_v_origin rfl) (e2 _ _ (m1.h _ _ s1)) T.c_Scaler T.n_s_first rfl
  refine mk_mom (K := K) (sh' := ⟨r, first r n, []⟩) m1.h (fun H2 e2 => ev_var rfl) (hr0.mv m1.z) rd s2 (fun H2 e2 => ev_var rfl) upd_same T.c_Session T.n_v_now (Nat.le_of_ble_eq_true rfl) fun m Z3 H3 g3 hm => ?_
  have hx3 := g3.same _ _ hx2
  have zx3 := g3.n _ _ hx2 zx1
  have m3 := (m1.trans (Mv.gr g3)).trans (Mv.write (o' := .ins (He.ga K "Session") dx [("v_origin", .ref sa), ("v_now", m)]) g3.h zx3 hx3 rfl)
  refine s_fld (fs := [("v_origin", .ref sa), ("v_now", m)]) ev_c (ev_var rfl) upd_same T.c_Session T.n_v_mark (Nat.le_of_ble_eq_true rfl) fun H4 e4 => ?_
  have hx4 := e4 _ _ (upd_same (H := H3) (a := x) (o := .ins (He.ga K "Session") dx [("v_origin", .ref sa), ("v_now", m)]))
  have m4 := (m3.trans (Mv.gr (Gr.of m3.h e4))).trans (Mv.write (o' := .ins (He.ga K "Session") dx (sF (.ref sa) m)) (m3.h.trans e4) zx3 hx4 rfl)
  exact k (sF (.ref sa) m) Z3 _ m4 upd_same zx3 ⟨.ref sa, m, rfl, hs.mv g3.z, hm⟩
end
end K74

/-! E14 -/
set_option Elab.async false
set_option linter.all false
set_option maxRecDepth 100000
set_option maxHeartbeats 4000000
namespace K74
open PySem PySem.Spec PyProof.Rows L2
open Evl hiding tCut pss_cut
/-- a session, its two things -/
def SesH (K : Frag) (H : Hp) (a : Addr) (o m : V) : Prop := ∃ dx, H a = some (.ins (He.ga K "Session") dx (sF o m))
section
variable {P : Program} [hPT : PT P] {w : World} {K : Frag} {mg : Str → Option Value} {base : Heap}
theorem SesH.mv {H H1 : Hp} {a : Addr} {o m : V} (h : SesH K H a o m) (e : Ex H H1) : SesH K H1 a o m := let ⟨dx, q⟩ := h; ⟨dx, e _ _ q⟩
/-- a session is made, unfrozen -/
theorem mk_sess {σ : L2.St} {Z H : Hp} {ta : TA} {r : Rl} {n : Int} {E : XK} {Q : VK} (hZ : Ex Z H) (h : EvPA ta σ H (fun vs => ∃ rv, vs = [rv, .int n] ∧ RuleAt K Z rv r)) (o : okR r) (hn : r.least ≤ n ∧ n ≤ r.most)
    (k : ∀ x Z' H' sc m, Gr Z H Z' H' → H x = none → SesH K H' x sc m → Z' x = none → ScalerAt K Z' sc r n → MomAt K Z' [] m ⟨r, first r n, []⟩ → Q (.ref x) H') : tMake (He.ga K "Session") (sp_Session_init K) [] E ta σ H Q :=
  h H (Ex.refl _) _ fun vs H1 e1 ⟨rv, ev, hr⟩ x dx hx hd hne => by
    subst ev
    have g1 : Gr Z H Z H1 := Gr.of hZ e1
    have g2 := g1.trans (Gr.inst (o := .own x) (o' := .ins (He.ga K "Session") dx []) g1.h hx hd hne)
    have zx := Same.free g1.h hx
    have hx0 : H x = none := Same.free e1 hx
    exact ⟨x, dx, rv, r, n, Z, rfl, g2.h, upd_same, zx, hr, o, hn, fun fs Z' H' mv hx' zx' ⟨sc, m, ef, hs, hm⟩ => ⟨rfl, by
      subst ef
      exact k x Z' H' sc m (((Mv.gr g2).trans mv).toGr fun b hb => by rw [hb]; exact hx0) hx0 ⟨dx, hx'⟩ zx' hs hm⟩⟩
/-! properties -/
def sp_Session_rule (K : Frag) : Sp := fun vs H Q _ => ∃ (a : Addr) (o m : V) (sh : Sh) (dv b : V) (Z : Hp), vs = [.ref a] ∧ SesH K H a o m ∧ Ex Z H ∧ MomHd K Z m sh dv b ∧ ∀ x H', Ex H H' → RuleAt K Z x sh.r → Q x H'
theorem sc_Session_rule : FnScope ["self"] ["self"] (defScope s_Session_rule) := ⟨rfl, rfl, rfl, by decide +kernel, rfl, by decide +kernel, by decide +kernel⟩
theorem ok_Session_rule (T : Txt w K mg) : FB P w K mg base 1 (gtAd K "Session" "rule") ["self"] (sp_Session_rule K) := by
  refine FB.of (T.p_Session_rule).1 sc_Session_rule (fun _ _ _ _ _ _ us hl => match us, hl with | [_], _ => rfl) (by rintro vs H Q E ⟨_, _, _, _, _, _, _, rfl, _⟩; rfl) (fun cdv A outer s H vs Q E hr h => ?_)
  refine ⟨_, (pss_one (ps_ret (pe_fld (pe_fld (pv 0) rfl) rfl))), ?_⟩
  obtain ⟨a, o, m, sh, dv, b, Z, rfl, ⟨dx, hs⟩, hZ, ⟨ma, mdx, ru, st, cv, rfl, m1, m2, m3, m4⟩, k⟩ := h
  exact s_ret (ev_fld (ev_fld (ev_var rfl) hs T.c_Session T.n_v_now rfl) (hZ _ _ m1) T.c_Moment T.n_q_rule rfl) fun H1 e1 => k _ _ e1 m2
def sp_Session_state (K : Frag) : Sp := fun vs H Q _ => ∃ (a : Addr) (o m : V) (sh : Sh) (dv b : V) (Z : Hp), vs = [.ref a] ∧ SesH K H a o m ∧ Ex Z H ∧ MomHd K Z m sh dv b ∧ ∀ x H', Ex H H' → Dp K Z x (dSt sh.st) → Q x H'
theorem sc_Session_state : FnScope ["self"] ["self"] (defScope s_Session_state) := ⟨rfl, rfl, rfl, by decide +kernel, rfl, by decide +kernel, by decide +kernel⟩
theorem ok_Session_state (T : Txt w K mg) : FB P w K mg base 1 (gtAd K "Session" "state") ["self"] (sp_Session_state K) := by
  refine FB.of (T.p_Session_state).1 sc_Session_state (fun _ _ _ _ _ _ us hl => match us, hl with | [_], _ => rfl) (by rintro vs H Q E ⟨_, _, _, _, _, _, _, rfl, _⟩; rfl) (fun cdv A outer s H vs Q E hr h => ?_)
  refine ⟨_, (pss_one (ps_ret (pe_fld (pe_fld (pv 0) rfl) rfl))), ?_⟩
  obtain ⟨a, o, m, sh, dv, b, Z, rfl, ⟨dx, hs⟩, hZ, ⟨ma, mdx, ru, st, cv, rfl, m1, m2, m3, m4⟩, k⟩ := h
  exact s_ret (ev_fld (ev_fld (ev_var rfl) hs T.c_Session T.n_v_now rfl) (hZ _ _ m1) T.c_Moment T.n_q_state rfl) fun H1 e1 => k _ _ e1 m3
def sp_Session_origin (K : Frag) : Sp := fun vs H Q _ => ∃ (a : Addr) (o m : V), vs = [.ref a] ∧ SesH K H a o m ∧ ∀ H', Ex H H' → Q o H'
theorem sc_Session_origin : FnScope ["self"] ["self"] (defScope s_Session_origin) := ⟨rfl, rfl, rfl, by decide +kernel, rfl, by decide +kernel, by decide +kernel⟩
theorem ok_Session_origin (T : Txt w K mg) : FB P w K mg base 1 (gtAd K "Session" "origin") ["self"] (sp_Session_origin K) := by
  refine FB.of (T.p_Session_origin).1 sc_Session_origin (fun _ _ _ _ _ _ us hl => match us, hl with | [_], _ => rfl) (by rintro vs H Q E ⟨_, _, _, rfl, _⟩; rfl) (fun cdv A outer s H vs Q E hr h => ?_)
  refine ⟨_, (pss_one (ps_ret (pe_fld (pv 0) rfl))), ?_⟩
  obtain ⟨a, o, m, rfl, ⟨dx, hs⟩, k⟩ := h
  exact s_ret (ev_fld (ev_var rfl) hs T.c_Session T.n_v_origin rfl) k
def sp_Session_servers (K : Frag) : Sp := fun vs H Q _ => ∃ (a : Addr) (o m : V) (sh : Sh) (dv b : V), vs = [.ref a] ∧ SesH K H a o m ∧ MomHd K H m sh dv b ∧ ∀ H', Ex H H' → Q (.int sh.st.1) H'
theorem sc_Session_servers : FnScope ["self"] ["self"] (defScope s_Session_servers) := ⟨rfl, rfl, rfl, by decide +kernel, rfl, by decide +kernel, by decide +kernel⟩
theorem ok_Session_servers (T : Txt w K mg) : FB P w K mg base 1 (gtAd K "Session" "servers") ["self"] (sp_Session_servers K) := by
  refine FB.of (T.p_Session_servers).1 sc_Session_servers (fun _ _ _ _ _ _ us hl => match us, hl with | [_], _ => rfl) (by rintro vs H Q E ⟨_, _, _, _, _, _, rfl, _⟩; rfl) (fun cdv A outer s H vs Q E hr h => ?_)
  refine ⟨_, (pss_one (ps_ret (pe_ix ix_tup (pe_fld (pe_fld (pv 0) rfl) rfl) pe_int (fun _ _ => rfl)))), ?_⟩
  obtain ⟨a, o, m, sh, dv, b, rfl, ⟨dx, hs⟩, ⟨ma, mdx, ru, st, cv, rfl, m1, m2, m3, m4⟩, k⟩ := h
  obtain ⟨c, e, rfl, sq, _⟩ := st_at m3
  exact s_ret (ev_ixT (ev_fld (ev_fld (ev_var rfl) hs T.c_Session T.n_v_now rfl) m1 T.c_Moment T.n_q_state rfl) sq rfl) k
def sp_Session_curve (K : Frag) : Sp := fun vs H Q _ => ∃ (a : Addr) (o m : V) (sh : Sh) (dv b : V) (Z : Hp), vs = [.ref a] ∧ SesH K H a o m ∧ Ex Z H ∧ MomHd K Z m sh dv b ∧ ∀ x Z' H', Gr Z H Z' H' → LsD K Z' x (sh.cv.map dLd) → Q x H'
theorem el_listG {σ : L2.St} {H : Hp} {te : TE} {a : Addr} {xs : List V} {Q : VK} (h : Ev te σ H (.ref a)) (s : SqT K H a xs) (k : ∀ p H1, Ex H H1 → H1 p = none → Q (.ref p) (upd H1 p (.lst xs))) :
    tCB (fun xs H Q => ∃ p ys, xs = [.ref p] ∧ (SqL K H p ys ∨ SqT K H p ys) ∧ ∀ l, H l = none → Q (.ref l) (upd H l (.lst ys))) (tCons te tNil) σ H Q := h H (Ex.refl _) _ fun H1 e1 => ⟨a, xs, rfl, .inr (ex_t e1 s), fun l hl => k l H1 e1 hl⟩
theorem sc_Session_curve : FnScope ["self"] ["self"] (defScope s_Session_curve) := ⟨rfl, rfl, rfl, by decide +kernel, rfl, by decide +kernel, by decide +kernel⟩
theorem ok_Session_curve (T : Txt w K mg) : FB P w K mg base 1 (gtAd K "Session" "curve") ["self"] (sp_Session_curve K) := by
  refine FB.of (T.p_Session_curve).1 sc_Session_curve (fun _ _ _ _ _ _ us hl => match us, hl with | [_], _ => rfl) (by rintro vs H Q E ⟨_, _, _, _, _, _, _, rfl, _⟩; rfl) (fun cdv A outer s H vs Q E hr h => ?_)
  refine ⟨_, (pss_one (ps_ret (pe_callTy call_list_of (by rfl) T.f_list (by decide +kernel) (pa_cons (pe_fld (pe_fld (pv 0) rfl) rfl) pa_nil)))), ?_⟩
  obtain ⟨a, o, m, sh, dv, b, Z, rfl, ⟨dx, hs⟩, hZ, ⟨ma, mdx, ru, st, cv, rfl, m1, m2, m3, m4⟩, k⟩ := h
  obtain ⟨c, xs, rfl, sq, dd⟩ := Dp.tupI m4
  refine el_listG (ev_fld (ev_fld (ev_var rfl) hs T.c_Session T.n_v_now rfl) (hZ _ _ m1) T.c_Moment T.n_q_curve rfl) (ex_t hZ sq) fun p H1 e1 hp => ?_
  have g : Gr Z H Z H1 := Gr.of hZ e1
  exact k _ _ _ (g.trans (Gr.newZ g.h hp)) (LsD.newL dd (Same.free g.h hp))
theorem ep_Session_rule {σ : L2.St} {Z H : Hp} {ta : TE} {a : Addr} {o m dv b : V} {sh : Sh} {E : XK} (ha : Ev ta σ H (.ref a)) (hs : SesH K H a o m) (hZ : Ex Z H) (hm : MomHd K Z m sh dv b) : EvP (tProp (He.ga K "Session") (sp_Session_rule K) [] E ta) σ H (fun x _ => RuleAt K Z x sh.r) := by
  obtain ⟨dx, q⟩ := id hs
  exact ep_prop ha q fun H1 e Q k E => ⟨a, o, m, sh, dv, b, Z, rfl, hs.mv e, hZ.trans e, hm, fun x H2 e2 p => k x H2 e2 p⟩
theorem ep_Session_state {σ : L2.St} {Z H : Hp} {ta : TE} {a : Addr} {o m dv b : V} {sh : Sh} {E : XK} (ha : Ev ta σ H (.ref a)) (hs : SesH K H a o m) (hZ : Ex Z H) (hm : MomHd K Z m sh dv b) : EvP (tProp (He.ga K "Session") (sp_Session_state K) [] E ta) σ H (fun x _ => Dp K Z x (dSt sh.st)) := by
  obtain ⟨dx, q⟩ := id hs
  exact ep_prop ha q fun H1 e Q k E => ⟨a, o, m, sh, dv, b, Z, rfl, hs.mv e, hZ.trans e, hm, fun x H2 e2 p => k x H2 e2 p⟩
theorem ev_Session_origin {σ : L2.St} {H : Hp} {ta : TE} {a : Addr} {o m : V} {E : XK} (ha : Ev ta σ H (.ref a)) (hs : SesH K H a o m) : Ev (tProp (He.ga K "Session") (sp_Session_origin K) [] E ta) σ H o := by
  obtain ⟨dx, q⟩ := id hs
  exact ev_prop ha q fun H1 e Q k E => ⟨a, o, m, rfl, hs.mv e, k⟩
theorem ev_Session_servers {σ : L2.St} {H : Hp} {ta : TE} {a : Addr} {o m dv b : V} {sh : Sh} {E : XK} (ha : Ev ta σ H (.ref a)) (hs : SesH K H a o m) (hm : MomHd K H m sh dv b) : Ev (tProp (He.ga K "Session") (sp_Session_servers K) [] E ta) σ H (.int sh.st.1) := by
  obtain ⟨dx, q⟩ := id hs
  exact ev_prop ha q fun H1 e Q k E => ⟨a, o, m, sh, dv, b, rfl, hs.mv e, hm.mv e, k⟩
/-- the curve, with the heap itself for base -/
theorem eg_Session_curve {σ : L2.St} {H : Hp} {ta : TE} {a : Addr} {o m dv b : V} {sh : Sh} {E : XK} (ha : Ev ta σ H (.ref a)) (hs : SesH K H a o m) (hm : MomHd K H m sh dv b) : EvD K (tProp (He.ga K "Session") (sp_Session_curve K) [] E ta) σ H (.list (sh.cv.map dLd)) := fun H0 e Q k => ha H0 e _ fun H1 e1 => by
  obtain ⟨dx, q⟩ := id hs
  have g : Gr H H0 H H1 := Gr.of e e1
  exact ⟨a, dx, _, rfl, e1 _ _ (e _ _ q), a, o, m, sh, dv, b, H, rfl, hs.mv (e.trans e1), e.trans e1, hm, fun x Z' H' g2 l => k x Z' H' (g.trans g2) l.dp⟩
/-! do -/
theorem if_go {t : TT} {ta tb : TE} {σ : L2.St} {H : Hp} {Q : VK} {b : Bool} (h : EvT t σ H b) (k1 : b = true → ∀ H1, Ex H H1 → ta σ H1 Q) (k2 : b = false → ∀ H1, Ex H H1 → tb σ H1 Q) : tIf t ta tb σ H Q := h H (Ex.refl _) _ fun H1 e => by
  cases b with
  | true => rw [if_pos rfl]; exact k1 rfl H1 e
  | false => rw [if_neg Bool.false_ne_true]; exact k2 rfl H1 e
theorem q_fldK {σ : L2.St} {H : Hp} {to tv : TE} {f : Str} {a C : Addr} {D : Ends} {tz : TS} (ho : ∀ H1, Ev to σ H1 (.ref a)) (c : Cls K C) (n : NoAttr K C f)
    (k : ∀ K0 : VK, (∀ y H1 dx fs, H1 a = some (.ins C dx fs) → fs.length < 1000 → (∀ H2, Ex H1 H2 → tz D σ (upd H2 a (.ins C dx (putF f y fs)))) → K0 y H1) → tv σ H K0) : tSeq (sFld K to tv f) tz D σ H :=
  k _ fun y H1 dx fs h l kk => ho H1 H1 (Ex.refl _) _ fun H2 e2 => ⟨a, C, dx, fs, rfl, e2 _ _ h, c, n, l, kk H2 e2⟩
theorem eqv_undo (d : Deed) : PyData.eqv (dDeed d) dUndo = false := by
  rw [dDeed_eq]
  unfold dUndo
  rw [eqv_tag]
  rw [show PyData.eqvAll [argD d] [] = false by simp [PyData.eqvAll], Bool.and_false]
theorem eqv_undo2 : PyData.eqv dUndo dUndo = true := by
  unfold dUndo
  rw [eqv_tag]
  simp [PyData.eqvAll]
def sp_Session_do (K : Frag) : Sp := fun vs H Q E => ∃ (a : Addr) (dv o m : V) (hist : List (Deed × Sh)) (sh : Sh) (Z : Hp), vs = [.ref a, dv] ∧ Ex Z H ∧ SesH K H a o m ∧ Z a = none ∧ MomAt K Z hist m sh ∧ OkSh sh ∧ sh.cv.length ≤ 1000 ∧
  ((∃ d, Dp K Z dv (dDeed d) ∧ okDd d ∧ (∀ sh', doneL sh d = some sh' → ∀ m' Z' H', Mv (fun b => b = a) Z H Z' H' → SesH K H' a o m' → Z' a = none → MomAt K Z' ((d, sh) :: hist) m' sh' → Q (.int sh'.st.1) H') ∧ (doneL sh d = none → BadD K d H E)) ∨
    (Dp K Z dv dUndo ∧ ∃ d0 s0 h0, hist = (d0, s0) :: h0 ∧ ∀ m' Z' H', Mv (fun b => b = a) Z H Z' H' → SesH K H' a o m' → Z' a = none → MomAt K Z' h0 m' s0 → Q (.int s0.st.1) H'))
theorem BadD.mono {d : Deed} {H H1 : Hp} {E : XK} (b : BadD K d H E) (e : Ex H H1) : BadD K d H1 E := by
  cases d with
  | fail n => exact fun H' e' => (show BadN K H E from b) H' (e.trans e')
  | load l => exact (show Bad K H E from b).mono e
  | part l => exact (show Bad K H E from b).mono e
  | raise l => exact (show Bad K H E from b).mono e
theorem sc_Session_do : FnScope ["self", "deed"] ["self", "deed"] (defScope s_Session_do) := ⟨rfl, rfl, rfl, by decide +kernel, rfl, by decide +kernel, by decide +kernel⟩
theorem ok_Session_do (T : Txt w K mg) : FB P w K mg base 11 (He.ma K (He.ga K "Session") "do") ["self", "deed"] (sp_Session_do K) := by
  refine FB.of T.F_Session_do sc_Session_do (fun _ _ _ _ _ _ us hl => match us, hl with | [_, _], _ => rfl) (by rintro vs H Q E ⟨_, _, _, _, _, _, _, rfl, _⟩; rfl) (fun cdv A outer s H vs Q E hr h => ?_)
  refine ⟨_, (pss_cons (ps_if (PW.pt (pw_or (pt_not (pt_val (pe_callF (ok_is_deed T) (hr.mono (by decide)) (by rfl) T.g_is_deed passL (pa_cons (pv 1) pa_nil)))) (pw_or1 (PW.pt (pw_and (pt_cmpR (op_eqD hr.units) (pv 1) (pe_tup (pa_cons pe_str pa_nil)) (nomark _)) (pw_and1 (pt_cmpR op_isN (pe_fld (pe_fld (pv 0) rfl) rfl) pe_non (nomark _))))))))
    (pss_one ps_never)
    pss_nil)
    (pss_cons (ps_fld (pv 0) (pe_ifExp (pt_cmpR (op_eqD hr.units) (pv 1) (pe_tup (pa_cons pe_str pa_nil)) (nomark _)) (pe_fld (pe_fld (pv 0) rfl) rfl) (pe_callF (ok_later_moment T) (hr.mono (by decide)) (by rfl) T.g_later_moment (passes_call (takes_of rfl rfl rfl rfl) (fun _ _ _ _ z => z)) (pa_cons (pe_fld (pv 0) rfl) (pa_cons (pv 1) pa_nil)))) rfl)
    (pss_one (ps_ret (pe_propF (pv 0) T.c_Session (T.p_Session_servers).2 (ok_Session_servers T) (hr.mono (by decide))))))), ?_⟩
  obtain ⟨a, dv, o, m, hist, sh, Z, rfl, hZ, hs, za, hm, ok, hz, alt⟩ := h
  obtain ⟨mdv, mb, hd⟩ := hm.hd
  obtain ⟨ma, mdx, ru, st, cv, rfl, m1, m2, m3, m4⟩ := id hd
  obtain ⟨dx, hsx⟩ := id hs
  have act : ActAt K Z dv := alt.imp (fun ⟨d, q, _⟩ => ⟨d, q⟩) (fun ⟨q, _⟩ => q)
  have udat : ∀ H1, DpAll K H1 [V.str "undo"] [.str "undo"] := fun H1 => .cons (.str _) .nil
  have eu : ∀ H1, EvU (tTup (tCons (tC (.str "undo")) tNil)) (start ["self", "deed"] [.ref a, dv]) H1 [.str "undo"] := fun H1 => eu_tup (ea_cons ev_c ea_nil) (Nat.le_of_ble_eq_true rfl)
  have finish : ∀ (y : V) (s' : Sh) (mdv' mb' : V) (Z1 H1 : Hp), MomHd K Z1 y s' mdv' mb' → Ex Z1 H1 → Z1 a = none → SesH K H1 a o (.ref ma) → Mv (fun b => b = a) Z H Z1 H1 → (∀ H', Mv (fun b => b = a) Z H Z1 H' → SesH K H' a o y → Q (.int s'.st.1) H') →
      ∀ K0 : VK, (∀ y H1 dx fs, H1 a = some (.ins (He.ga K "Session") dx fs) → fs.length < 1000 → (∀ H2, Ex H1 H2 → tRet (tProp (He.ga K "Session") (sp_Session_servers K) [] E0 (tVar 0)) { nx := fun _ H' => Q .non H', rt := Q } (start ["self", "deed"] [.ref a, dv]) (upd H2 a (.ins (He.ga K "Session") dx (putF "v_now" y fs)))) → K0 y H1) → K0 y H1 := by
    intro y s' mdv' mb' Z1 H1 hmd e1 z1 ⟨dx1, hs1⟩ mv kq K0 hK
    refine hK y H1 dx1 _ hs1 (Nat.le_of_ble_eq_true rfl) fun H2 e2 => ?_
    have mv2 := (mv.trans (Mv.gr (Gr.of mv.h e2))).trans (Mv.write (o' := .ins (He.ga K "Session") dx1 (sF o y)) (mv.h.trans e2) z1 (e2 _ _ hs1) rfl)
    have hs3 : SesH K (upd H2 a (.ins (He.ga K "Session") dx1 (sF o y))) a o y := ⟨dx1, upd_same⟩
    exact s_ret (ev_Session_servers (ev_var rfl) hs3 (hmd.mv mv2.h)) fun H3 e3 => kq H3 (mv2.trans (Mv.gr (Gr.of mv2.h e3))) (hs3.mv e3)
  rcases alt with ⟨d, dd, okd, k1, k2⟩ | ⟨du, d0, s0, h0, eh, k1⟩
  · have eF : PyData.eqv (dDeed d) (.tuple [.str "undo"]) = false := eqv_undo d
    have sd : SeqAt.shaped (dDeed d) = true := shp_of (lay_deed d) (by decide)
    refine q_when (b := false) (et_is (et_or (et_not (et_B (ev_callS (ea_cons (ev_var rfl) ea_nil) (v_is_deed fun H1 e => act.mv (hZ.trans e))))) fun _ => et_and (b := false) (et_test (ev_eqDU (ev_var rfl) (eu _) (dd.mv hZ) (udat _) sd lay_undo)) fun h => absurd (h.symm.trans eF) (by decide)) (by rw [eF]; rfl)) (fun h => nomatch h) fun _ H1 e1 => ?_
    refine q_fldK (fun H1 => ev_var rfl) T.c_Session T.n_v_now fun K0 hK => ?_
    refine if_go (b := false) (et_is (et_test (ev_eqDU (ev_var rfl) (eu _) (dd.mv (hZ.trans e1)) (udat _) sd lay_undo)) (eqv_undo d)) (fun h => nomatch h) fun _ H2 e2 => ?_
    have e02 := e1.trans e2
    refine call_go (ea_cons (ev_fld (ev_var rfl) (e02 _ _ hsx) T.c_Session T.n_v_now rfl) (ea_cons (ev_var rfl) ea_nil)) fun H3 e3 => ?_
    have e03 := e02.trans e3
    have g0 : Gr Z H Z H3 := Gr.of hZ e03
    refine ⟨.ref ma, dv, hist, sh, d, Z, rfl, g0.h, hm, ok, okd, hz, dd, fun sh' hsh x Z4 H4 g4 hm' => ?_, fun hn => (k2 hn).mono e03⟩
    obtain ⟨dv', b', hd'⟩ := hm'.hd
    have g := g0.trans g4
    exact finish x sh' dv' b' Z4 H4 hd' g.h (g.n _ _ hsx za) (hs.mv g.same) (Mv.gr g) (fun H' mv hs' => k1 sh' hsh x Z4 H' mv hs' (g.n _ _ hsx za) hm') K0 hK
  · subst eh
    obtain ⟨udv, ub, ⟨ua, udx, uru, ust, ucv, ue, u1, u2, u3, u4⟩, u5, u6, u7⟩ := hm
    cases ue
    have ndu : decide (ub = V.non) = false := decide_eq_false u6
    refine q_when (b := false) (et_is (et_or (et_not (et_B (ev_callS (ea_cons (ev_var rfl) ea_nil) (v_is_deed fun H1 e => act.mv (hZ.trans e))))) fun _ => et_and (et_test (ev_eqDU (ev_var rfl) (eu _) (du.mv hZ) (udat _) lay_undo lay_undo)) fun _ => et_test (ev_isN (ev_fld (ev_fld (ev_var rfl) hsx T.c_Session T.n_v_now rfl) (hZ _ _ u1) T.c_Moment T.n_q_before rfl))) (by rw [ndu, Bool.and_false]; rfl)) (fun h => nomatch h) fun _ H1 e1 => ?_
    refine q_fldK (fun H1 => ev_var rfl) T.c_Session T.n_v_now fun K0 hK => ?_
    refine if_go (b := true) (et_is (et_test (ev_eqDU (ev_var rfl) (eu _) (du.mv (hZ.trans e1)) (udat _) lay_undo lay_undo)) eqv_undo2) (fun _ H2 e2 => ?_) (fun h => nomatch h)
    have e02 := e1.trans e2
    refine Ev.to (ev_fld (ev_fld (ev_var rfl) (e02 _ _ hsx) T.c_Session T.n_v_now rfl) ((hZ.trans e02) _ _ u1) T.c_Moment T.n_q_before rfl) fun H3 e3 => ?_
    have g0 : Gr Z H Z H3 := Gr.of hZ (e02.trans e3)
    obtain ⟨dv', b', hd'⟩ := u7.hd
    exact finish ub s0 dv' b' Z H3 hd' g0.h za (hs.mv g0.same) (Mv.gr g0) (fun H' mv hs' => k1 ub Z H' mv hs' za u7) K0 hK
end
end K74

/-! X3 -/
set_option Elab.async false
set_option linter.all false
set_option maxRecDepth 100000
set_option maxHeartbeats 4000000
namespace K74
open PySem PySem.Spec PyProof.Rows L2
theorem parts_ok {r : Rl} {ps : List Part} (o : okR r) (h : okPs ps = true) : okR { r with parts := ps } := ⟨h, o.l1, o.lm, o.m8, o.ri, o.fa, o.u1, o.u3, o.d1, o.d3⟩
theorem doneL_ok {sh sh' : Sh} {d : Deed} (ok : OkSh sh) (okd : okDd d) (h : doneL sh d = some sh') : OkSh sh' := by
  cases d with
  | load l =>
    cases h
    refine ⟨ok.r, tick_ok ok.r ok.s, fun x hx => ?_⟩
    rcases List.mem_append.mp hx with q | q
    · exact ok.c x q
    · rw [List.mem_singleton.mp q]; exact okd
  | fail k =>
    change (if _ then _ else _) = some sh' at h
    split at h
    · rename_i hk
      cases h
      exact ⟨ok.r, ⟨by show sh.r.least ≤ sh.st.1 - k; omega, by have := ok.s.n2; show sh.st.1 - k ≤ sh.r.most; omega, ok.s.len, ok.s.all⟩, ok.c⟩
    · cases h
  | part p =>
    change (if _ then _ else _) = some sh' at h
    split at h
    · rename_i hk
      cases h
      exact ⟨parts_ok ok.r hk, ⟨ok.s.n1, ok.s.n2, ok.s.len, ok.s.all⟩, ok.c⟩
    · cases h
  | raise i =>
    change (if _ then _ else _) = some sh' at h
    split at h
    · rename_i hk
      cases h
      exact ⟨parts_ok ok.r hk, ⟨ok.s.n1, ok.s.n2, ok.s.len, ok.s.all⟩, ok.c⟩
    · cases h
theorem doneL_cv {sh sh' : Sh} {d : Deed} (h : doneL sh d = some sh') : sh'.cv.length ≤ sh.cv.length + 1 := by
  cases d with
  | load l => cases h; show (sh.cv ++ [l]).length ≤ _; rw [List.length_append]; exact Nat.le_refl _
  | fail k =>
    change (if _ then _ else _) = some sh' at h
    split at h
    · cases h; exact Nat.le_succ _
    · cases h
  | part p =>
    change (if _ then _ else _) = some sh' at h
    split at h
    · cases h; exact Nat.le_succ _
    · cases h
  | raise i =>
    change (if _ then _ else _) = some sh' at h
    split at h
    · cases h; exact Nat.le_succ _
    · cases h
/-- deeds done one behind another -/
def runH : List (Deed × Sh) → Sh → List Deed → Option (List (Deed × Sh) × Sh)
  | h, sh, [] => some (h, sh)
  | h, sh, d :: ds => match doneL sh d with
    | none => none
    | some sh' => runH ((d, sh) :: h) sh' ds
theorem runH_app : ∀ (as bs : List Deed) (h : List (Deed × Sh)) (sh : Sh), runH h sh (as ++ bs) = match runH h sh as with
    | none => none
    | some (h', sh') => runH h' sh' bs
  | [], bs, h, sh => rfl
  | d :: as, bs, h, sh => by
    show (match doneL sh d with
      | none => none
      | some sh' => runH ((d, sh) :: h) sh' (as ++ bs)) = _
    cases q : doneL sh d with
    | none =>
      show none = match runH h sh (d :: as) with
        | none => none
        | some (h', sh') => runH h' sh' bs
      have e : runH h sh (d :: as) = none := by
        show (match doneL sh d with
          | none => none
          | some sh' => runH ((d, sh) :: h) sh' as) = none
        rw [q]
      rw [e]
    | some s1 =>
      have e : runH h sh (d :: as) = runH ((d, sh) :: h) s1 as := by
        show (match doneL sh d with
          | none => none
          | some sh' => runH ((d, sh) :: h) sh' as) = _
        rw [q]
      rw [e]
      exact runH_app as bs _ s1
/-- a history that the deeds make, from its first sheet -/
def Chn (s0 : Sh) : List (Deed × Sh) → Sh → Prop
  | [], sh => sh = s0
  | (d, s1) :: h, sh => doneL s1 d = some sh ∧ Chn s0 h s1
theorem dsOf_cons (d : Deed) (s : Sh) (h : List (Deed × Sh)) : dsOf ((d, s) :: h) = dsOf h ++ [d] := by
  unfold dsOf
  rw [List.map_cons, List.reverse_cons]
theorem Chn.run {s0 : Sh} : ∀ {h : List (Deed × Sh)} {sh : Sh}, Chn s0 h sh → runH [] s0 (dsOf h) = some (h, sh)
  | [], sh, e => by
    cases (show sh = s0 from e)
    rfl
  | (d, s1) :: h, sh, ⟨e, c⟩ => by
    rw [dsOf_cons, runH_app, Chn.run c]
    show (match doneL s1 d with
      | none => none
      | some sh' => runH ((d, s1) :: h) sh' []) = _
    rw [e]
    rfl
end K74

/-! E15 -/
set_option Elab.async false
set_option linter.all false
set_option maxRecDepth 100000
set_option maxHeartbeats 4000000
namespace K74
open PySem PySem.Spec PyProof.Rows L2
open Evl hiding tCut pss_cut
section
variable {P : Program} [hPT : PT P] {w : World} {K : Frag} {mg : Str → Option Value} {base : Heap}
theorem ev_opP2 {σ : L2.St} {H : Hp} {ta tb : TE} {r : R2} {Φ Ψ : V → Prop} {z : V} (ha : EvP ta σ H (fun v _ => Φ v)) (hb : EvP tb σ H (fun v _ => Ψ v)) (hr : ∀ x y, Φ x → Ψ y → RV r x y H z) : Ev (tOp r ta tb) σ H z := fun H0 e Q q =>
  ha H0 e _ fun x H1 e1 p => hb H1 (e.trans e1) _ fun y H2 e2 p2 => hr x y p p2 H2 ((e.trans e1).trans e2) Q fun H3 e3 => q H3 ((e1.trans e2).trans e3)
theorem ev_eqGG {σ : L2.St} {H : Hp} {ta tb : TE} {d e : PyData} (ha : EvD K ta σ H d) (hb : EvD K tb σ H e) (s1 : SeqAt.shaped d = true) (s2 : SeqAt.shaped e = true) : Ev (tOp (rEqD K) ta tb) σ H (.bl (PyData.eqv d e)) := fun H0 e0 Q q =>
  ha H0 e0 _ fun x Z1 H1 g1 p1 => EvG.up hb (fun _ _ _ e q => Dp.mv q e) g1.z H1 g1.h _ fun y Z2 H2 g2 p2 => ⟨d, e, (p1.mv g2.z).mv g2.h, p2.mv g2.h, s1, s2, q H2 (g1.trans g2).same⟩
/-! deeds -/
def sp_Session_deeds (K : Frag) : Sp := fun vs H Q _ => ∃ (a : Addr) (o m : V) (hist : List (Deed × Sh)) (sh : Sh) (Z : Hp), vs = [.ref a] ∧ SesH K H a o m ∧ Ex Z H ∧ MomAt K Z hist m sh ∧ hist.length ≤ 1000 ∧ ∀ x Z' H', Gr Z H Z' H' → LsD K Z' x ((dsOf hist).map dDeed) → Q x H'
theorem g_deeds_to {Z : Hp} {m : V} {hist : List (Deed × Sh)} {sh : Sh} (h : MomAt K Z hist m sh) (hz : hist.length ≤ 1000) : SpG (sp_deeds_to K) [m] Z (fun x Z2 => LsD K Z2 x ((dsOf hist).map dDeed)) := fun H1 e Q q E => ⟨m, hist, sh, Z, rfl, e, h, hz, q⟩
theorem sc_Session_deeds : FnScope ["self"] ["self"] (defScope s_Session_deeds) := ⟨rfl, rfl, rfl, by decide +kernel, rfl, by decide +kernel, by decide +kernel⟩
theorem ok_Session_deeds (T : Txt w K mg) : FB P w K mg base 3 (He.ma K (He.ga K "Session") "deeds") ["self"] (sp_Session_deeds K) := by
  refine FB.of T.F_Session_deeds sc_Session_deeds (fun _ _ _ _ _ _ us hl => match us, hl with | [_], _ => rfl) (by rintro vs H Q E ⟨_, _, _, _, _, _, rfl, _⟩; rfl) (fun cdv A outer s H vs Q E hr h => ?_)
  refine ⟨_, (pss_one (ps_ret (pe_callF (ok_deeds_to T) (hr.mono (by decide)) (by rfl) T.g_deeds_to passL (pa_cons (pe_fld (pv 0) rfl) pa_nil)))), ?_⟩
  obtain ⟨a, o, m, hist, sh, Z, rfl, ⟨dx, hs⟩, hZ, hm, hz, k⟩ := h
  refine call_go (ea_cons (ev_fld (ev_var rfl) hs T.c_Session T.n_v_now rfl) ea_nil) fun H1 e1 => ?_
  have g0 : Gr Z H Z H1 := Gr.of hZ e1
  exact ⟨m, hist, sh, Z, rfl, g0.h, hm, hz, fun x Z' H' g l => k x Z' H' (g0.trans g) l⟩
/-! twin -/
theorem ep_Scaler_ruleZ {σ : L2.St} {Z H : Hp} {ta : TE} {v : V} {r : Rl} {n : Int} {E : XK} (ha : Ev ta σ H v) (hZ : Ex Z H) (h : ScalerAt K Z v r n) : EvP (tProp (He.ga K "Scaler") (sp_Scaler_rule K) [] E ta) σ H (fun x _ => RuleAt K Z x r) := by
  have h' := h
  obtain ⟨a, dx, p, b, rfl, h1, _⟩ := h'
  exact ep_prop ha (hZ _ _ h1) fun H1 e Q q E => ⟨_, r, n, Z, rfl, hZ.trans e, h, fun x H2 e2 d => q x H2 e2 d⟩
theorem q_sess {σ : L2.St} {Z H : Hp} {ta : TA} {r : Rl} {n : Int} {E : XK} {i : Nat} {D : Ends} {tz : TS} (hZ : Ex Z H) (h : EvPA ta σ H (fun vs => ∃ rv, vs = [rv, .int n] ∧ RuleAt K Z rv r)) (o : okR r) (hn : r.least ≤ n ∧ n ≤ r.most)
    (k : ∀ x Z' H' sc m, Gr Z H Z' H' → H x = none → SesH K H' x sc m → Z' x = none → ScalerAt K Z' sc r n → MomAt K Z' [] m ⟨r, first r n, []⟩ → tz D (σ.set i (some (.ref x))) H') : tSeq (tAsg (tMake (He.ga K "Session") (sp_Session_init K) [] E ta) (gName i)) tz D σ H :=
  mk_sess (Q := fun v H2 => tz D (σ.set i (some v)) H2) hZ h o hn k
theorem epa_imp {ta : TA} {σ : L2.St} {H : Hp} {Φ Ψ : List V → Prop} (h : EvPA ta σ H Φ) (m : ∀ vs, Φ vs → Ψ vs) : EvPA ta σ H Ψ := fun H1 e Q q => h H1 e Q fun vs H2 e2 p => q vs H2 e2 (m vs p)
def sp_Session_twin (K : Frag) : Sp := fun vs H Q _ => ∃ (a : Addr) (o m : V) (r : Rl) (n : Int) (Z : Hp), vs = [.ref a] ∧ SesH K H a o m ∧ Ex Z H ∧ ScalerAt K Z o r n ∧ okR r ∧ (r.least ≤ n ∧ n ≤ r.most) ∧
  ∀ x Z' H' sc, Gr Z H Z' H' → H x = none → SesH K H' x sc m → Z' x = none → ScalerAt K Z' sc r n → Q (.ref x) H'
theorem sc_Session_twin : FnScope ["self", "other"] ["self"] (defScope s_Session_twin) := ⟨rfl, rfl, rfl, by decide +kernel, rfl, by decide +kernel, by decide +kernel⟩
theorem ok_Session_twin (T : Txt w K mg) : FB P w K mg base 8 (He.ma K (He.ga K "Session") "twin") ["self"] (sp_Session_twin K) := by
  refine FB.of T.F_Session_twin sc_Session_twin (fun _ _ _ _ _ _ us hl => match us, hl with | [_], _ => rfl) (by rintro vs H Q E ⟨_, _, _, _, _, _, rfl, _⟩; rfl) (fun cdv A outer s H vs Q E hr h => ?_)
  refine ⟨_, (pss_cons (ps_set (i := 1) sc_Session_twin.nd rfl (Or.inl rfl) (pe_makeF T.mk_Session (ok_Session_init T) (hr.mono (by decide)) (by rfl) T.g_Session passL (pa_cons (pe_propF (pe_fld (pv 0) rfl) T.c_Scaler (T.p_Scaler_rule).2 (ok_Scaler_rule T) (hr.mono (by decide))) (pa_cons (pe_propF (pe_fld (pv 0) rfl) T.c_Scaler (T.p_Scaler_servers).2 (ok_Scaler_servers T) (hr.mono (by decide))) pa_nil))))
    (pss_cons (ps_fld (pv 1) (pe_fld (pv 0) rfl) rfl)
    (pss_one (ps_ret (pv 1))))), ?_⟩
  obtain ⟨a, o, m, r, n, Z, rfl, hs, hZ, hsc, ok, hn, k⟩ := h
  obtain ⟨dx, hsx⟩ := id hs
  refine q_sess (K := K) (r := r) (n := n) hZ (epa_imp (epa_cons (ep_Scaler_ruleZ (ev_fld (ev_var rfl) hsx T.c_Session T.n_v_origin rfl) hZ hsc) (epa_cons (ep_ev (ev_Scaler_servers (ev_fld (ev_var rfl) hsx T.c_Session T.n_v_origin rfl) (hsc.mv hZ))) epa_nil)) ?_) ok hn fun x Z1 H1 sc m1 g1 hx0 hs1 z1 hsc1 hm1 => ?_
  · rintro vs ⟨x, r1, rfl, hx, y, r2, rfl, rfl, rfl⟩
    exact ⟨x, rfl, hx⟩
  · obtain ⟨dx1, hsx1⟩ := id hs1
    refine q_fld (ev_fld (ev_var rfl) (g1.same _ _ hsx) T.c_Session T.n_v_now rfl) (ev_var rfl) hsx1 T.c_Session T.n_v_now (Nat.le_of_ble_eq_true rfl) fun H2 e2 => ?_
    have g2 := g1.trans (Gr.of g1.h e2)
    have mv := (Mv.gr (S := fun b => b = x) g2).trans (Mv.write (o' := .ins (He.ga K "Session") dx1 (sF sc m)) g2.h z1 (e2 _ _ hsx1) rfl)
    have g3 := mv.toGr fun b hb => by rw [hb]; exact hx0
    refine s_ret (ev_var rfl) fun H3 e3 => ?_
    exact k x Z1 H3 sc (g3.trans (Gr.of g3.h e3)) hx0 ⟨dx1, e3 _ _ upd_same⟩ z1 hsc1
/-! == -/
def eqS (h1 : List (Deed × Sh)) (s1 : Sh) (h2 : List (Deed × Sh)) (s2 : Sh) : Bool := (decide (s1.r = s2.r) && (decide (s1.st = s2.st) && decide (s1.cv = s2.cv))) && decide (dsOf h1 = dsOf h2)
def sp_Session_eq (K : Frag) : Sp := fun vs H Q _ => ∃ (a : Addr) (o m y : V) (hist : List (Deed × Sh)) (sh : Sh), vs = [.ref a, y] ∧ SesH K H a o m ∧ MomAt K H hist m sh ∧ hist.length ≤ 1000 ∧
  (((y = .non ∨ ∃ r, RuleAt K H y r) ∧ ∀ H', Ex H H' → Q (.bl false) H') ∨
    ∃ (b : Addr) (o' m' : V) (hist' : List (Deed × Sh)) (sh' : Sh), y = .ref b ∧ SesH K H b o' m' ∧ MomAt K H hist' m' sh' ∧ hist'.length ≤ 1000 ∧ ∀ H', Ex H H' → Q (.bl (eqS hist sh hist' sh')) H')
theorem tyx_sess (T : Txt w K mg) {H : Hp} {a : Addr} {o m : V} (h : SesH K H a o m) : ∀ H1, Ex H H1 → TyX K H1 (.ref a) (.ref (He.ga K "Session")) := fun H1 e => by
  obtain ⟨dx, q⟩ := h
  exact .base (.ins (e _ _ q) T.c_Session T.o_cc_Session T.o_cget T.o_ctak T.o_co_Session)
theorem sc_Session_eq : FnScope ["self", "other", "is_same"] ["self", "other"] (defScope s_Session_eq) := ⟨rfl, rfl, rfl, by decide +kernel, rfl, by decide +kernel, by decide +kernel⟩
theorem ok_Session_eq (T : Txt w K mg) : FB P w K mg base 5 (He.ma K (He.ga K "Session") "__eq__") ["self", "other"] (sp_Session_eq K) := by
  refine FB.of T.F_Session_eq sc_Session_eq (fun _ _ _ _ _ _ us hl => match us, hl with | [_, _], _ => rfl) (by rintro vs H Q E ⟨_, _, _, _, _, _, rfl, _⟩; rfl) (fun cdv A outer s H vs Q E hr h => ?_)
  refine ⟨_, (pss_cons (ps_if (pt_not (pt_val (pe_callB call_isi (by rfl) T.f_isinstance (by decide +kernel) (pa_cons (pv 1) (pa_cons (pe_glob (v := .ref (He.ga K "Session")) (by rfl) T.g_Session rfl) pa_nil)))))
    (pss_one (ps_ret pe_bl))
    pss_nil)
    (pss_cons (ps_set (i := 2) sc_Session_eq.nd rfl (Or.inl rfl) (pe_and (pe_cmpR (op_eqO (eqc_Rule T) (ok_Rule_eq T) (hr.mono (by decide))) (pe_propF (pv 0) T.c_Session (T.p_Session_rule).2 (ok_Session_rule T) (hr.mono (by decide))) (pe_propF (pv 1) T.c_Session (T.p_Session_rule).2 (ok_Session_rule T) (hr.mono (by decide))) (nomark _)) (pe_and (pe_cmpR (op_eqD hr.units) (pe_propF (pv 0) T.c_Session (T.p_Session_state).2 (ok_Session_state T) (hr.mono (by decide))) (pe_propF (pv 1) T.c_Session (T.p_Session_state).2 (ok_Session_state T) (hr.mono (by decide))) (nomark _)) (pe_one (pe_cmpR (op_eqD hr.units) (pe_propF (pv 0) T.c_Session (T.p_Session_curve).2 (ok_Session_curve T) (hr.mono (by decide))) (pe_propF (pv 1) T.c_Session (T.p_Session_curve).2 (ok_Session_curve T) (hr.mono (by decide))) (nomark _))))))
    (pss_one (ps_ret (pe_and (pv 2) (pe_one (pe_cmpR (op_eqD hr.units) (pe_callF (ok_deeds_to T) (hr.mono (by decide)) (by rfl) T.g_deeds_to passL (pa_cons (pe_fld (pv 0) rfl) pa_nil)) (pe_callF (ok_deeds_to T) (hr.mono (by decide)) (by rfl) T.g_deeds_to passL (pa_cons (pe_fld (pv 1) rfl) pa_nil)) (nomark _)))))))), ?_⟩
  obtain ⟨a, o, m, y, hist, sh, rfl, hs, hm, hz, alt⟩ := h
  rcases alt with ⟨hy, k⟩ | ⟨b, o', m', hist', sh', rfl, hs', hm', hz', k⟩
  · have no : Ev (tCB (rIsi K) (tCons (tVar 1) (tCons (tC (.ref (He.ga K "Session"))) tNil))) (start ["self", "other", "is_same"] [.ref a, y]) H (.bl false) := by
      rcases hy with rfl | ⟨r, hr0⟩
      · exact ev_isiC (ev_var rfl) (fun H1 e => .base .non) T.o_isn
      · exact ev_isiC (ev_var rfl) (tyx_rule T hr0) T.o_isr
    exact q_when (b := true) (et_is (et_not (et_B no)) rfl) (fun _ H1 e1 => s_ret ev_c fun H2 e2 => k H2 (e1.trans e2)) (fun h => nomatch h)
  · refine q_when (b := false) (et_is (et_not (et_B (ev_isiC (ev_var rfl) (tyx_sess T hs') T.o_is_Session))) rfl) (fun h => nomatch h) fun _ H1 e1 => ?_
    have hs1 := hs.mv e1
    have hs1' := hs'.mv e1
    have hm1 := MomAt.mv e1 hm
    have hm1' := MomAt.mv e1 hm'
    obtain ⟨dv, mb, hd⟩ := hm1.hd
    obtain ⟨dv', mb', hd'⟩ := hm1'.hd
    refine q_asg (ev_andV (ev_opP2 (ep_Session_rule (ev_var rfl) hs1 (Ex.refl _) hd) (ep_Session_rule (ev_var rfl) hs1' (Ex.refl _) hd') (z := .bl (decide (sh.r = sh'.r))) fun x y p q => ?_) fun _ => ev_andV (ev_opP2 (ep_Session_state (ev_var rfl) hs1 (Ex.refl _) hd) (ep_Session_state (ev_var rfl) hs1' (Ex.refl _) hd') (z := .bl (decide (sh.st = sh'.st))) fun x y p q => ?_) fun _ => ev_is (ev_eqGG (eg_Session_curve (ev_var rfl) hs1 hd) (eg_Session_curve (ev_var rfl) hs1' hd') (shp_curve _) (shp_curve _)) (by rw [eqv_lst, eqv_map eqv_dLd])) fun H2 e2 => ?_
    · obtain ⟨ra, rdx, rp, rb, rl, rfl, r1, _⟩ := id p
      exact fun H3 e3 Q q3 => ⟨ra, rdx, _, rfl, e3 _ _ r1, yty_rule q H3 e3, v_Rule_eq p q H3 e3 _ (fun H4 e4 => ⟨_, rfl, q3 H4 e4⟩) E0⟩
    · exact fun H3 e3 Q q3 => ⟨_, _, p.mv e3, q.mv e3, shp_st _, shp_st _, by rw [eqv_dSt]; exact q3 H3 (Ex.refl _)⟩
    · obtain ⟨dx, hsx⟩ := hs1.mv e2
      obtain ⟨dx', hsx'⟩ := hs1'.mv e2
      refine s_ret (ev_andV (ev_var rfl) fun _ => ev_is (ev_eqGG (d := .list ((dsOf hist).map dDeed)) (e := .list ((dsOf hist').map dDeed)) (eg_imp (eg_call (ea_cons (ev_fld (ev_var rfl) hsx T.c_Session T.n_v_now rfl) ea_nil) (g_deeds_to (MomAt.mv e2 hm1) hz) (fun _ _ _ e q => q.mv e)) fun _ _ _ q => q.dp) (eg_imp (eg_call (ea_cons (ev_fld (ev_var rfl) hsx' T.c_Session T.n_v_now rfl) ea_nil) (g_deeds_to (MomAt.mv e2 hm1') hz') (fun _ _ _ e q => q.mv e)) fun _ _ _ q => q.dp) (shp_deeds _) (shp_deeds _)) (by rw [eqv_lst, eqv_map eqv_dDeed])) fun H3 e3 => k H3 ((e1.trans e2).trans e3)
theorem eqc_Session (T : Txt w K mg) : EqC K (He.ga K "Session") (He.ma K (He.ga K "Session") "__eq__") := ⟨T.m_Session_eq.at_, T.m_Session_eq.fn, T.o_ne_Session, T.o_co_Session⟩
end
end K74

/-! E16 -/
set_option Elab.async false
set_option linter.all false
set_option maxRecDepth 100000
set_option maxHeartbeats 4000000
namespace K74
open PySem PySem.Spec PyProof.Rows L2
open Evl hiding tCut pss_cut
section
variable {P : Program} [hPT : PT P] {w : World} {K : Frag} {mg : Str → Option Value} {base : Heap}
instance ptNox {X : Cx} [h : PT X.prog] : PT X.nox.prog := h
theorem ev_any {te : TE} {σ : L2.St} {H : Hp} {Q : VK} {D : Ends} (h : te σ H fun _ H1 => D.nx σ H1) : tDrop te D σ H := h
/-- found.append(e), e with changes of its own -/
theorem app_do {σ : L2.St} {H : Hp} {ta te : TE} {l : Addr} {xs : List V} {D : Ends} (hl : H l = some (.lst xs)) (ha : ∀ {H1 : Hp}, Ev ta σ H1 (.ref l)) (hz : xs.length < 100000)
    (k2 : ∀ H0, Ex H H0 → ∀ K0 : VK, (∀ v H1, H1 l = some (.lst xs) → (∀ H2, Ex H1 H2 → D.nx σ (upd H2 l (.lst (xs ++ [v])))) → K0 v H1) → te σ H0 K0) : tDrop (tBM K "list" rAppend ta (tCons te tNil)) D σ H := ha H (Ex.refl _) _ fun H1 e1 =>
  ⟨Or.inl ⟨rfl, xs, sq_of (e1 l _ hl)⟩, k2 H1 e1 _ fun v H2 h2 kk => ⟨l, xs, v, rfl, rfl, h2, sz_lt hz, kk H2 (Ex.refl _)⟩⟩
/-! do_all: every deed can be done -/
def sp_Session_do_all (K : Frag) : Sp := fun vs H Q _ => ∃ (a c : Addr) (o m : V) (xs : List V) (ds : List Deed) (hist h2 : List (Deed × Sh)) (sh s2 : Sh) (Z : Hp), vs = [.ref a, .ref c] ∧ Ex Z H ∧ SesH K H a o m ∧ Z a = none ∧ MomAt K Z hist m sh ∧ OkSh sh ∧
  Z c = some (.lst xs) ∧ DpAll K Z xs (ds.map dDeed) ∧ (∀ d ∈ ds, okDd d) ∧ sh.cv.length + ds.length ≤ 1000 ∧ runH hist sh ds = some (h2, s2) ∧
  ∀ x m' Z' H', Mv (fun b => b = a) Z H Z' H' → SesH K H' a o m' → Z' a = none → MomAt K Z' h2 m' s2 → Q x H'
theorem sc_Session_do_all : FnScope ["self", "deeds", "at", "deed", "kept", "found"] ["self", "deeds"] (defScope s_Session_do_all) := ⟨rfl, rfl, rfl, by decide +kernel, rfl, by decide +kernel, by decide +kernel⟩
theorem ok_Session_do_all (T : Txt w K mg) : FB P w K mg base 12 (He.ma K (He.ga K "Session") "do_all") ["self", "deeds"] (sp_Session_do_all K) := by
  refine FB.of T.F_Session_do_all sc_Session_do_all (fun _ _ _ _ _ _ us hl => match us, hl with | [_, _], _ => rfl) (by rintro vs H Q E ⟨_, _, _, _, _, _, _, _, _, _, _, rfl, _⟩; rfl) (fun cdv A outer s H vs Q E hr h => ?_)
  refine ⟨_, (pss_cons (ps_if (pt_not (pt_val (pe_callB call_isiT (by rfl) T.f_isinstance (by decide +kernel) (pa_cons (pv 1) (pa_cons (pe_tup (pa_cons (pe_bltn (by rfl) T.f_list (by decide +kernel) (v := .ty "list") rfl) (pa_cons (pe_bltn (by rfl) T.f_tuple (by decide +kernel) (v := .ty "tuple") rfl) pa_nil))) pa_nil)))))
    (pss_one ps_never)
    pss_nil)
    (pss_cons (ps_for (passes_of rfl) rfl (pi_enum (by rfl) T.f_enumerate (pa_cons (pv 1) pa_nil)) (pg_tup rfl (pgs_cons (pg_name (i := 2) sc_Session_do_all.nd rfl (Or.inl rfl)) (pgs_cons (pg_name (i := 3) sc_Session_do_all.nd rfl (Or.inl rfl)) pgs_nil)))
    (pss_one (ps_if (pt_not (pt_val (pe_callF (ok_is_deed T) (hr.mono (by decide)) (by rfl) T.g_is_deed passL (pa_cons (pv 3) pa_nil))))
    (pss_one ps_never)
    pss_nil)))
    (pss_cons (ps_par rfl sc_Session_do_all.nd (i := 4) (j := 5) rfl rfl (by decide) rfl rfl (pa_cons (pe_fld (pv 0) rfl) (pa_cons (pe_lst pa_nil) pa_nil)) (by rfl))
    (pss_cons (ps_try_thru0 (pss_one (ps_for PassesOwn.never rfl (pi_list (pv 1)) (pg_name (i := 3) sc_Session_do_all.nd rfl (Or.inl rfl))
    (pss_one (ps_expr (pe_bm PySem.F.plainAttrs_list PySem.F.slot_list_append PySem.F.type_list_append mt_append (pv 5) (pa_cons (pe_methF (pv 0) T.c_Session T.m_Session_do (ok_Session_do T) (hr.mono (by decide)) passL (pa_cons (pv 3) pa_nil)) pa_nil)))))))
    (pss_one (ps_ret (pv 5))))))), ?_⟩
  obtain ⟨a, c, o, m, xs, ds, hist, h2, sh, s2, Z, rfl, hZ, hs, za, hm, ok, hc, hd, okd, hz, hrun, k⟩ := h
  have hxl : xs.length = ds.length := by rw [hd.len, List.length_map]
  refine q_when (b := false) (et_is (et_not (et_B (ev_isiT (ev_var rfl) (eu_tup (ea_cons ev_c (ea_cons ev_c ea_nil)) (Nat.le_of_ble_eq_true rfl)) lt_clsv (fun H1 e => .base (.lst (e _ _ (hZ _ _ hc)))) lt_list))) rfl) (fun h => nomatch h) fun _ H1 e1 => ?_
  have hl1 := (hZ.trans e1) _ _ hc
  refine ⟨_, rfl, _, xs, rfl, sq_of hl1, for_enum (xs := xs) (fun i σ' H' => ∃ o1 o2, σ' = [some (.ref a), some (.ref c), o1, o2, none, none] ∧ Ex H1 H') ⟨_, _, rfl, Ex.refl _⟩ (fun i σ' H' _ ⟨_, _, _, e⟩ => sq_of (e _ _ hl1)) (fun i x p σ' H' hx ⟨o1, o2, es, e⟩ hp => ?_) (fun σ' H' ⟨o1, o2, es, e⟩ => ?_)⟩
  · subst es
    obtain ⟨d, ed, dd⟩ := DpAll.get hd hx
    have e2 : Ex Z (upd H' p (.tup [.int (i : Int), x])) := ((hZ.trans e1).trans e).trans (Ex.new hp)
    refine ⟨p, _, rfl, st_of upd_same, rfl, _, _, rfl, _, _, rfl, rfl, ?_⟩
    exact s_when (b := false) (et_is (et_not (et_B (ev_callS (ea_cons (ev_var rfl) ea_nil) (v_is_deed fun H3 e3 => .inl ⟨d, dd.mv (e2.trans e3)⟩)))) rfl) (fun h => nomatch h) fun _ H3 e3 => ⟨_, _, rfl, (e.trans (Ex.new hp)).trans e3⟩
  · subst es
    have hs' := hs.mv (e1.trans e)
    obtain ⟨dx, hsx⟩ := id hs'
    have e01 := e1.trans e
    refine q_parL (ev_fld (ev_var rfl) hsx T.c_Session T.n_v_now rfl) fun p H2 hp e2 lp => ?_
    have e02 := e01.trans e2
    have hp0 : H p = none := Same.free e01 hp
    have zp : Z p = none := Same.free (hZ.trans e01) hp
    have hap : a ≠ p := fun q => by rw [q, hp] at hsx; cases hsx
    refine q_forL (xs := xs) (ev_var rfl) (sq_of ((hZ.trans e02) _ _ hc)) (fun i σ' H' => ∃ o1 o2 v4 m' Zi hi si acc, σ' = [some (.ref a), some (.ref c), o1, o2, v4, some (.ref p)] ∧ Mv (fun b => b = a ∨ b = p) Z H2 Zi H' ∧ Zi a = none ∧ Zi p = none ∧ SesH K H' a o m' ∧ H' p = some (.lst acc) ∧ acc.length = i ∧ MomAt K Zi hi m' si ∧ OkSh si ∧ si.cv.length ≤ sh.cv.length + i ∧ runH hi si (ds.drop i) = some (h2, s2))
      (fun H3 e3 => ⟨_, _, _, m, Z, hist, sh, [], rfl, Mv.gr (Gr.of (hZ.trans e02) e3), za, zp, hs'.mv (e2.trans e3), e3 _ _ lp, rfl, hm, ok, Nat.le_refl _, hrun⟩) (fun i σ' H' _ ⟨_, _, _, _, Zi, _, _, _, _, mv, _⟩ => sq_of (mv.h _ _ (mv.z _ _ hc))) (fun i x σ' H' hxi ⟨o1, o2, v4, m', Zi, hi, si, acc, es, mv, zi, zpi, hsi, hpi, hal, hmi, oki, hzi, hri⟩ => ?_) (fun σ' H' ⟨o1, o2, v4, m', Zi, hi, si, acc, es, mv, zi, zpi, hsi, hpi, hal, hmi, oki, hzi, hri⟩ => ?_)
    · subst es
      obtain ⟨d, ed, dd⟩ := DpAll.get hd hxi
      have hil : i < ds.length := (List.getElem?_eq_some_iff.mp ed).1
      have od := okd d (List.mem_of_getElem? ed)
      rw [List.drop_eq_getElem_cons hil, (List.getElem?_eq_some_iff.mp ed).2] at hri
      cases hdn : doneL si d with
      | none =>
        exfalso
        have hri' : (match doneL si d with
          | none => none
          | some sh' => runH ((d, si) :: hi) sh' (ds.drop (i + 1))) = some (h2, s2) := hri
        rw [hdn] at hri'
        cases hri'
      | some sh' =>
        have hri' : (match doneL si d with
          | none => none
          | some sh' => runH ((d, si) :: hi) sh' (ds.drop (i + 1))) = some (h2, s2) := hri
        rw [hdn] at hri'
        obtain ⟨dxi, hsxi⟩ := id hsi
        refine app_do (K := K) hpi (ev_var rfl) (by rw [hal]; omega) fun H3 e3 K0 hK => ?_
        refine meth_go (ev_var rfl) (e3 _ _ hsxi) rfl fun H4 e4 => cons_go (ev_var rfl) fun H5 e5 => ?_
        have e34 := (e3.trans e4).trans e5
        have mv4 := mv.trans (Mv.gr (Gr.of mv.h e34))
        refine ⟨a, x, o, m', hi, si, Zi, rfl, mv4.h, hsi.mv e34, zi, hmi, oki, by omega, .inl ⟨d, dd.mv mv.z, od, fun sh1 hsh m1 Z1 H1 mv1 hs1 z1 hm1 => ?_, fun hn => by rw [hdn] at hn; cases hn⟩⟩
        rw [hdn] at hsh
        cases hsh
        have hp4 := e34 _ _ hpi
        have hp1 := mv1.k _ _ hp4 (fun q => hap q.symm)
        have zp1 := mv1.n _ _ hp4 zpi
        refine hK _ H1 hp1 fun H5 e5 => ?_
        have mv5 := (mv4.trans ((mv1.mono fun b hb => .inl hb).trans (Mv.gr (Gr.of mv1.h e5)))).trans (Mv.write (o' := .lst (acc ++ [V.int sh'.st.1])) (mv1.h.trans e5) zp1 (e5 _ _ hp1) (.inr rfl))
        obtain ⟨dx1, hsx1⟩ := hs1
        exact ⟨_, _, _, m1, Z1, (d, si) :: hi, sh', acc ++ [V.int sh'.st.1], rfl, mv5, z1, zp1, ⟨dx1, by rw [upd_ne hap]; exact e5 _ _ hsx1⟩, upd_same, by rw [List.length_append, hal]; rfl, hm1, doneL_ok oki od hdn, by have := doneL_cv hdn; omega, hri'⟩
    · subst es
      rw [hxl, List.drop_length] at hri
      have hri' : some (hi, si) = some (h2, s2) := hri
      cases hri'
      refine s_ret (ev_var rfl) fun H3 e3 => ?_
      have mv3 := mv.trans (Mv.gr (Gr.of mv.h e3))
      have g0 : Gr Z H Z H2 := Gr.of hZ e02
      have mvA := (Mv.gr g0).trans mv3
      have mvB : Mv (fun b => b = a) Z H Zi H3 := ⟨mvA.z, mvA.h, mvA.n, fun b u q r => mvA.k b u q (fun z => z.elim r fun z => by rw [z, hp0] at q; cases q), mvA.e⟩
      exact k _ m' Zi H3 mvB (hsi.mv e3) zi hmi
end
end K74

/-! F1 -/
set_option Elab.async false
set_option linter.all false
set_option maxRecDepth 100000
set_option maxHeartbeats 4000000
namespace K74
open PySem PySem.Spec PyProof.Rows L2
open Evl hiding tCut pss_cut
section
variable {P : Program} [hPT : PT P] {w : World} {K : Frag} {mg : Str → Option Value} {base : Heap}
/-! ### dicts -/
theorem ev_dget {σ : L2.St} {H : Hp} {td : TE} {a : Addr} {kvs : List (Key × V)} {k : Str} {v : V} (ha : Ev td σ H (.ref a)) (h : H a = some (.dK kvs)) (hv : valV kvs (.inr k) = some v) : Ev (tDGet td (tC (.str k))) σ H v := fun H0 e Q q =>
  ha H0 e _ fun H1 e1 => ⟨a, v, rfl, by rw [← hv]; exact DGet.k (k := .inr k) (e1 _ _ (e _ _ h)), q _ e1⟩
theorem s_dput {σ : L2.St} {H : Hp} {td tv : TE} {a : Addr} {kvs : List (Key × V)} {k : Str} {v : V} {D : Ends} (hv : Ev tv σ H v) (ha : Ev td σ H (.ref a)) (h : H a = some (.dK kvs)) (hl : kvs.length ≤ 100) (kk : ∀ H1, Ex H H1 → D.nx σ (upd H1 a (.dK (putK kvs (.inr k) v)))) :
    sDPut td (tC (.str k)) tv D σ H := hv H (Ex.refl _) _ fun H1 e1 => ha H1 e1 _ fun H2 e2 => ⟨a, _, rfl, DPut.k (k := .inr k) (e2 _ _ (e1 _ _ h)) (sz_lt (by omega)), kk H2 (e1.trans e2)⟩
theorem q_dput {σ : L2.St} {H : Hp} {td tv : TE} {a : Addr} {kvs : List (Key × V)} {k : Str} {v : V} {D : Ends} {tz : TS} (hv : Ev tv σ H v) (ha : Ev td σ H (.ref a)) (h : H a = some (.dK kvs)) (hl : kvs.length ≤ 100) (kk : ∀ H1, Ex H H1 → tz D σ (upd H1 a (.dK (putK kvs (.inr k) v)))) :
    tSeq (sDPut td (tC (.str k)) tv) tz D σ H := s_dput (D := { D with nx := tz D }) hv ha h hl kk
/-! ### the draw -/
def dkv (l c : Addr) (rest turn mix : Int) : List (Key × V) := [(.inr "large", .ref l), (.inr "cells", .ref c), (.inr "rest", .int rest), (.inr "turn", .int turn), (.inr "mix", .int mix)]
structure DrawAt (H : Hp) (d l c : Addr) (rest turn mix : Int) (larges cells : List Int) : Prop where
  dd : H d = some (.dK (dkv l c rest turn mix))
  ll : H l = some (.lst (larges.map V.int))
  cc : H c = some (.lst (cells.map V.int))
  m0 : 0 ≤ mix
  m1 : mix < 2147483629
  lz : larges.length ≤ 100
  cz : cells.length ≤ 100
  cl : c ≠ l
def Draw (H : Hp) (d : Addr) (l : Addr × Addr) : Prop := ∃ rest turn mix larges cells, DrawAt H d l.1 l.2 rest turn mix larges cells
theorem DrawAt.mv {H H1 : Hp} {d l c : Addr} {rest turn mix : Int} {larges cells : List Int} (h : DrawAt H d l c rest turn mix larges cells) (e : Ex H H1) : DrawAt H1 d l c rest turn mix larges cells := ⟨e _ _ h.dd, e _ _ h.ll, e _ _ h.cc, h.m0, h.m1, h.lz, h.cz, h.cl⟩
theorem Draw.mv {H H1 : Hp} {d : Addr} {l : Addr × Addr} (h : Draw H d l) (e : Ex H H1) : Draw H1 d l := let ⟨r, t, m, ls, cs, q⟩ := h; ⟨r, t, m, ls, cs, q.mv e⟩
theorem DrawAt.dl {H : Hp} {d l c : Addr} {rest turn mix : Int} {larges cells : List Int} (h : DrawAt H d l c rest turn mix larges cells) : d ≠ l := ne_of h.dd h.ll (fun z => nomatch z)
theorem DrawAt.dc {H : Hp} {d l c : Addr} {rest turn mix : Int} {larges cells : List Int} (h : DrawAt H d l c rest turn mix larges cells) : d ≠ c := ne_of h.dd h.cc (fun z => nomatch z)
/-- the dict is written -/
theorem DrawAt.put {H : Hp} {d l c : Addr} {rest turn mix rest' turn' mix' : Int} {larges cells : List Int} (h : DrawAt H d l c rest turn mix larges cells) (m0 : 0 ≤ mix') (m1 : mix' < 2147483629) : DrawAt (upd H d (.dK (dkv l c rest' turn' mix'))) d l c rest' turn' mix' larges cells :=
  ⟨upd_same, by rw [upd_ne (Ne.symm h.dl)]; exact h.ll, by rw [upd_ne (Ne.symm h.dc)]; exact h.cc, m0, m1, h.lz, h.cz, h.cl⟩
abbrev DS (d : Addr) (l : Addr × Addr) : Addr → Prop := fun a => a = d ∨ a = l.1
def sp_law_take (K : Frag) : Sp := fun vs H Q _ => ∃ (d : Addr) (l : Addr × Addr) (n : Int) (Z : Hp), vs = [.ref d, .int n] ∧ Ex Z H ∧ Draw H d l ∧ Z d = none ∧ Z l.1 = none ∧ (0 < n ∧ n < 1073741824) ∧ ∀ r H', 0 ≤ r → r < n → Mv (DS d l) Z H Z H' → Draw H' d l → Q (.int r) H'
theorem el_catL {σ : L2.St} {H : Hp} {ta tb : TE} {xs ys : List V} {b : Addr} (ha : EvL ta σ H xs) (hb : Ev tb σ H (.ref b)) (h : H b = some (.lst ys)) (hz : xs.length + ys.length ≤ 100000) : EvL (tOp rCat ta tb) σ H (xs ++ ys) := fun H0 e Q q =>
  ha H0 e _ fun p H1 hp e1 l1 => hb H1 (e.trans e1) _ fun H2 e2 => ⟨p, b, xs, ys, rfl, rfl, e2 _ _ l1, e2 _ _ (e1 _ _ (e _ _ h)), sz_of hz, fun r hr => q r _ (fresh_back (e1.trans e2) hr) ((e1.trans e2).trans (Ex.new hr)) upd_same⟩
theorem ev_int1 {σ : L2.St} {H : Hp} {te : TE} {i : Int} (h : Ev te σ H (.int i)) : Ev (tCB (fun xs H Q => (∃ i, xs = [.int i] ∧ Q (.int i) H) ∨ ∃ k, xs = [.bl k] ∧ Q (.int (if k then 1 else 0)) H) (tCons te tNil)) σ H (.int i) := ev_cb (ea_cons h ea_nil) fun H1 e Q q => .inl ⟨i, rfl, q _ (Ex.refl _)⟩
theorem eqv_nil (ns : List Int) : PyData.eqv (.list (ns.map PyData.int)) (.list []) = decide (ns = []) := by
  rw [eqv_lst]
  exact eqv_ints ns []
theorem pop_go {σ : L2.St} {H : Hp} {ta : TE} {l : Addr} {x : V} {xs : List V} {Q : VK} (ha : Ev ta σ H (.ref l)) (hl : H l = some (.lst (x :: xs))) (k : ∀ H1, Ex H H1 → Q x (upd H1 l (.lst xs))) : tBM K "list" rPopAt ta (tCons (tC (.int 0)) tNil) σ H Q := ha H (Ex.refl _) _ fun H1 e1 =>
  ⟨Or.inl ⟨rfl, _, sq_of (e1 _ _ hl)⟩, l, x :: xs, 0, 0, x, rfl, rfl, e1 _ _ hl, by decide, by decide, by simp [seqIndex?], rfl, k H1 e1⟩
theorem ev_neDL {σ : L2.St} {H : Hp} {ta tb : TE} {x : V} {d : PyData} {ys : List V} {es : List PyData} (ha : Ev ta σ H x) (hb : EvL tb σ H ys) (h : Dp K H x d) (h' : DpAll K H ys es) (s1 : SeqAt.shaped d = true) (s2 : SeqAt.shaped (.list es) = true) : Ev (tOp (rNeD K) ta tb) σ H (.bl (!PyData.eqv d (.list es))) :=
  ev_opL ha hb fun p H1 l e1 H2 e2 Q q => ⟨d, _, h.mv (e1.trans e2), .lst (sq_of (e2 _ _ l)) (h'.mv (e1.trans e2)), s1, s2, q _ (Ex.refl _)⟩
theorem shp_ilist (ns : List Int) : SeqAt.shaped (.list (ns.map PyData.int)) = true := shp_of (n := 1) (lay_lst (n := 0) (lay_map lay_int ns)) (by decide)
theorem sc_law_take : FnScope ["_law_draw", "_law_size", "_law_found", "_law_cell"] ["_law_draw", "_law_size"] (defScope s_law_take) := ⟨rfl, rfl, rfl, by decide +kernel, rfl, by decide +kernel, by decide +kernel⟩
theorem ok_law_take (T : Txt w K mg) : FB P w K mg base 1 (He.ga K "_law_take") ["_law_draw", "_law_size"] (sp_law_take K) := by
  refine FB.of T.F_law_take sc_law_take (fun _ _ _ _ _ _ us hl => match us, hl with | [_, _], _ => rfl) (by rintro vs H Q E ⟨_, _, _, _, rfl, _⟩; rfl) (fun cdv A outer s H vs Q E hr h => ?_)
  refine ⟨_, (pss_cons (ps_if (PW.pt (pw_and (pt_cmpR op_eq (pe_dget (hu_of hr) (pv 0) pe_str (fun _ _ => rfl)) pe_int (nomark _)) (pw_and1 (pt_cmpR (op_neD hr.units) (pe_dget (hu_of hr) (pv 0) pe_str (fun _ _ => rfl)) (pe_lst pa_nil) (nomark _)))))
    (pss_one (ps_dput (hu_of hr) (pv 0) pe_str (pe_bm PySem.F.plainAttrs_list PySem.F.slot_list_pop PySem.F.type_list_pop mt_popAt (pe_dget (hu_of hr) (pv 0) pe_str (fun _ _ => rfl)) (pa_cons pe_int pa_nil)) rfl))
    (pss_one (ps_if (pt_cmpR op_eq (pe_dget (hu_of hr) (pv 0) pe_str (fun _ _ => rfl)) pe_int (nomark _))
    (pss_cons (ps_dput (hu_of hr) (pv 0) pe_str (pe_op op_add (pe_dget (hu_of hr) (pv 0) pe_str (fun _ _ => rfl)) pe_int) rfl)
    (pss_cons (ps_for (passes_of rfl) rfl (pi_list (pe_op op_cat (pe_lst (pa_cons (pe_dget (hu_of hr) (pv 0) pe_str (fun _ _ => rfl)) pa_nil)) (pe_dget (hu_of hr) (pv 0) pe_str (fun _ _ => rfl)))) (pg_name (i := 3) sc_law_take.nd rfl (Or.inl rfl))
    (pss_one (ps_dput (hu_of hr) (pv 0) pe_str (pe_op op_mod (pe_callTy call_int1 (by rfl) T.f_int (by decide +kernel) (pa_cons (pe_op op_add (pe_op op_add (pe_op op_mul (pe_dget (hu_of hr) (pv 0) pe_str (fun _ _ => rfl)) pe_int) (pe_op op_mul (pv 3) pe_int)) pe_int) pa_nil)) pe_int) rfl)))
    (pss_one (ps_dput (hu_of hr) (pv 0) pe_str (pe_op op_mod (pe_callTy call_int1 (by rfl) T.f_int (by decide +kernel) (pa_cons (pe_op op_pow (pe_dget (hu_of hr) (pv 0) pe_str (fun _ _ => rfl)) pe_int) pa_nil)) pe_int) rfl))))
    pss_nil)))
    (pss_cons (ps_asg (pe_callB call_divmod (by rfl) T.f_divmod (by decide +kernel) (pa_cons (pe_dget (hu_of hr) (pv 0) pe_str (fun _ _ => rfl)) (pa_cons (pv 1) pa_nil))) (pg_tup rfl (pgs_cons (pg_sub (pv 0) pe_str (set_dict (hu_of hr))) (pgs_cons (pg_name (i := 2) sc_law_take.nd rfl (Or.inl rfl)) pgs_nil))))
    (pss_one (ps_ret (pv 2))))), ?_⟩
  obtain ⟨d, ⟨l, c⟩, n, Z, rfl, hZ, ⟨rest, turn, mix, larges, cells, hD⟩, zd, zl, ⟨n0, n1⟩, k⟩ := h
  dsimp only at hD zl
  have S0 : Mv (DS d (l, c)) Z H Z H := Mv.refl hZ
  have fin : ∀ (H' : Hp) (o : Option V) (rest turn mix : Int) (larges : List Int), Mv (DS d (l, c)) Z H Z H' → DrawAt H' d l c rest turn mix larges cells →
      (tSeq (tAsg (tCB (fun xs H Q => ∃ i j, xs = [.int i, .int j] ∧ CDiv i j ∧ ∀ p, H p = none → Q (.ref p) (upd H p (.tup [.int (i / j), .int (i % j)]))) (tCons (tDGet (tVar 0) (tC (.str "rest"))) (tCons (tVar 1) tNil))) (gTup K 2 (gCons (gSub (tVar 0) (tC (.str "rest")) rSetD) (gCons (gName 2) gNil)))) (tRet (tVar 2))) { nx := fun _ H' => Q .non H', rt := Q } [some (.ref d), some (.int n), none, o] H' := by
    intro H' o rest turn mix larges mv hD'
    refine ⟨_, rfl, d, _, rfl, DGet.k (k := .inr "rest") hD'.dd, _, rfl, rest, n, rfl, ⟨n0, n1⟩, fun p hp => ⟨p, _, rfl, st_of upd_same, rfl, _, _, rfl, ⟨_, rfl, d, _, rfl, DPut.k (k := .inr "rest") (by rw [upd_ne (ne_of_none hD'.dd hp)]; exact hD'.dd) (sz_lt (Nat.le_of_ble_eq_true rfl)), _, _, rfl, rfl, _, rfl, ?_⟩⟩⟩
    have hD2 := hD'.mv (Ex.new (o := .tup [.int (rest / n), .int (rest % n)]) hp)
    have mv2 := mv.trans (Mv.gr (Gr.new mv.h hp (o := .tup [.int (rest / n), .int (rest % n)])))
    exact k (rest % n) _ (Int.emod_nonneg _ (by omega)) (Int.emod_lt_of_pos _ n0) (mv2.trans (Mv.write mv2.h zd hD2.dd (.inl rfl))) ⟨rest / n, turn, mix, larges, cells, hD2.put hD'.m0 hD'.m1⟩
  have lr : ∀ H1, Ex H H1 → DpAll K H1 (larges.map V.int) (larges.map PyData.int) := fun H1 e => DpAll.ints larges
  refine q_if (et_and (et_test (ev_eq (ev_dget (ev_var rfl) hD.dd rfl) ev_c rfl)) fun _ => et_test (ev_neDL (ev_dget (ev_var rfl) hD.dd rfl) (el_lst ea_nil (Nat.le_of_ble_eq_true rfl)) (.lst (sq_of hD.ll) (DpAll.ints larges)) .nil (shp_ilist _) (shp_ilist []))) (fun h H1 e1 => ?_) (fun h H1 e1 => ?_)
  · rw [Bool.and_eq_true, eqv_nil] at h
    have hD1 := hD.mv e1
    have mv1 := S0.trans (Mv.gr (Gr.of hZ e1))
    cases larges with
    | nil => exact absurd h.2 (by decide)
    | cons x ls =>
      refine pop_go (l := l) (x := .int x) (xs := ls.map V.int) (ev_dget (ev_var rfl) hD1.dd rfl) hD1.ll fun H2 e2 => ?_
      have hD2 := hD1.mv e2
      have mv2 := mv1.trans (Mv.gr (Gr.of mv1.h e2))
      have hD3 : DrawAt (upd H2 l (.lst (ls.map V.int))) d l c rest turn mix ls cells := ⟨by rw [upd_ne hD2.dl]; exact hD2.dd, upd_same, by rw [upd_ne hD2.cl]; exact hD2.cc, hD2.m0, hD2.m1, by have := hD2.lz; rw [List.length_cons] at this; omega, hD2.cz, hD2.cl⟩
      have mv3 := mv2.trans (Mv.write (o' := .lst (ls.map V.int)) mv2.h zl hD2.ll (.inr rfl))
      refine ⟨_, rfl, d, _, rfl, DPut.k (k := .inr "rest") hD3.dd (sz_lt (Nat.le_of_ble_eq_true rfl)), ?_⟩
      exact fin _ none x turn mix ls (mv3.trans (Mv.write mv3.h zd hD3.dd (.inl rfl))) (hD3.put hD3.m0 hD3.m1)
  · have hD1 := hD.mv e1
    have mv1 := S0.trans (Mv.gr (Gr.of hZ e1))
    refine s_when (et_test (ev_eq (ev_dget (ev_var rfl) hD1.dd rfl) ev_c rfl)) (fun _ H2 e2 => ?_) (fun _ H2 e2 => fin H2 none rest turn mix larges (mv1.trans (Mv.gr (Gr.of mv1.h e2))) (hD1.mv e2))
    have hD2 := hD1.mv e2
    have mv2 := mv1.trans (Mv.gr (Gr.of mv1.h e2))
    refine q_dput (ev_I (ev_dget (ev_var rfl) hD2.dd rfl) ev_c) (ev_var rfl) hD2.dd (Nat.le_of_ble_eq_true rfl) fun H3 e3 => ?_
    have hD3 := (hD2.mv e3).put (rest' := rest) (turn' := turn + 1) (mix' := mix) hD.m0 hD.m1
    have mv3 := (mv2.trans (Mv.gr (Gr.of mv2.h e3))).trans (Mv.write (o' := .dK (dkv l c rest (turn + 1) mix)) (mv2.trans (Mv.gr (Gr.of mv2.h e3))).h zd (hD2.mv e3).dd (.inl rfl))
    refine q_forNL (xs := [V.int (turn + 1)] ++ cells.map V.int) (el_catL (el_lst (ea_cons (ev_dget (ev_var rfl) hD3.dd rfl) ea_nil) (Nat.le_of_ble_eq_true rfl)) (ev_dget (ev_var rfl) hD3.dd rfl) hD3.cc (by rw [List.length_map]; have := hD3.cz; show 1 + cells.length ≤ 100000; omega))
      (fun p i σ' H' => H' p = some (.lst ([V.int (turn + 1)] ++ cells.map V.int)) ∧ ∃ o mix', σ' = [some (.ref d), some (.int n), none, o] ∧ Mv (DS d (l, c)) Z H Z H' ∧ DrawAt H' d l c rest (turn + 1) mix' larges cells)
      (fun p H4 hp e4 l4 => ⟨l4, none, mix, rfl, mv3.trans (Mv.gr (Gr.of mv3.h e4)), hD3.mv e4⟩) (fun p i σ' H' _ ⟨q, _⟩ => sq_of q) (fun p i x σ' H' hx ⟨q, o, mix', es, mv', hD'⟩ => ?_) (fun p σ' H' ⟨q, o, mix', es, mv', hD'⟩ => ?_)
    · subst es
      obtain ⟨cell, rfl⟩ : ∃ cell : Int, x = .int cell := by
        rcases List.mem_append.mp (List.mem_of_getElem? hx) with z | z
        · exact ⟨_, List.mem_singleton.mp z⟩
        · obtain ⟨y, _, e⟩ := List.mem_map.mp z
          exact ⟨y, e.symm⟩
      refine s_dput (ev_IC (ev_int1 (ev_I (ev_I (ev_IC (ev_dget (ev_var rfl) hD'.dd rfl) ev_c (cmulr ⟨by omega, by omega⟩)) (ev_IC (ev_var rfl) ev_c (cmulr ⟨by omega, by omega⟩))) ev_c)) ev_c (by omega)) (ev_var rfl) hD'.dd (Nat.le_of_ble_eq_true rfl) fun H5 e5 => ?_
      have hD5 := hD'.mv e5
      have mv5 := mv'.trans (Mv.gr (Gr.of mv'.h e5))
      have np : p ≠ d := fun z => by rw [z, hD'.dd] at q; cases q
      exact ⟨by rw [upd_ne np]; exact e5 _ _ q, _, _, rfl, mv5.trans (Mv.write mv5.h zd hD5.dd (.inl rfl)), hD5.put (Int.emod_nonneg _ (by decide)) (Int.emod_lt_of_pos _ (by decide))⟩
    · subst es
      refine s_dput (ev_IC (ev_int1 (ev_IC (ev_dget (ev_var rfl) hD'.dd rfl) ev_c ⟨by decide, by decide, by have := hD'.m0; have := hD'.m1; omega⟩)) ev_c (by omega)) (ev_var rfl) hD'.dd (Nat.le_of_ble_eq_true rfl) fun H5 e5 => ?_
      have hD5 := hD'.mv e5
      have mv5 := mv'.trans (Mv.gr (Gr.of mv'.h e5))
      exact fin _ _ _ _ _ _ (mv5.trans (Mv.write mv5.h zd hD5.dd (.inl rfl))) (hD5.put hD'.m0 hD'.m1)
theorem s_retOp {σ : L2.St} {H : Hp} {ta tb : TE} {x : V} {r : R2} {D : Ends} (ha : Ev ta σ H x) (k : ∀ H1, Ex H H1 → tb σ H1 fun y H2 => r x y H2 D.rt) : tRet (tOp r ta tb) D σ H := ha H (Ex.refl _) _ k
def sp_law_pick (K : Frag) : Sp := fun vs H Q _ => ∃ (d : Addr) (l : Addr × Addr) (a : Addr) (xs : List V) (Z : Hp), vs = [.ref d, .ref a] ∧ Ex Z H ∧ Draw H d l ∧ Z d = none ∧ Z l.1 = none ∧ H a = some (.lst xs) ∧ a ≠ d ∧ a ≠ l.1 ∧ xs ≠ [] ∧ xs.length ≤ 1000 ∧ ∀ v H', v ∈ xs → Mv (DS d l) Z H Z H' → Draw H' d l → Q v H'
theorem sc_law_pick : FnScope ["_law_draw", "_law_some"] ["_law_draw", "_law_some"] (defScope s_law_pick) := ⟨rfl, rfl, rfl, by decide +kernel, rfl, by decide +kernel, by decide +kernel⟩
theorem ok_law_pick (T : Txt w K mg) : FB P w K mg base 2 (He.ga K "_law_pick") ["_law_draw", "_law_some"] (sp_law_pick K) := by
  refine FB.of T.F_law_pick sc_law_pick (fun _ _ _ _ _ _ us hl => match us, hl with | [_, _], _ => rfl) (by rintro vs H Q E ⟨_, _, _, _, _, rfl, _⟩; rfl) (fun cdv A outer s H vs Q E hr h => ?_)
  refine ⟨_, (pss_one (ps_ret (pe_ix ix_list (pv 1) (pe_callF (ok_law_take T) (hr.mono (by decide)) (by rfl) T.g_law_take passL (pa_cons (pv 0) (pa_cons (pe_callB call_len_seq (by rfl) T.f_len (by decide +kernel) (pa_cons (pv 1) pa_nil)) pa_nil))) (fun _ _ => rfl)))), ?_⟩
  obtain ⟨d, l, a, xs, Z, rfl, hZ, hD, zd, zl, ha, nd, nl, hne, hz, k⟩ := h
  have hpos : 0 < xs.length := List.length_pos_iff.mpr hne
  refine s_retOp (ev_var rfl) fun H1 e1 => call_go (ea_cons (ev_var rfl) (ea_cons (ev_len (K := K) (ev_var rfl) (sq_of (e1 _ _ ha))) ea_nil)) fun H3 e3 => ?_
  have g := e1.trans e3
  have g0 : Gr Z H Z H3 := Gr.of hZ g
  refine ⟨d, l, xs.length, Z, rfl, g0.h, hD.mv g, zd, zl, ⟨by omega, by omega⟩, fun r H' r0 r1 mv hD' => ?_⟩
  have mv' := (Mv.gr g0).trans mv
  have ha' := mv'.k _ _ ha (fun q => q.elim nd nl)
  have hr : r.toNat < xs.length := by omega
  refine ⟨a, xs, r, xs[r.toNat], rfl, rfl, sq_of ha', ?_, k _ H' (List.getElem_mem hr) mv' hD'⟩
  have e5 : ixN xs.length r = some r.toNat := by
    unfold ixN
    rw [if_pos r0, if_pos (by omega)]
  unfold atI
  rw [e5]
  simp [hr]
end
end K74

/-! G2 -/
set_option Elab.async false
set_option linter.all false
set_option maxRecDepth 100000
set_option maxHeartbeats 4000000
namespace K74
open PySem PySem.Spec PyProof.Rows L2
open Evl hiding tCut pss_cut
/-! ### readings that draw -/
structure DZ (Z H : Hp) (d : Addr) (l : Addr × Addr) : Prop where
  z : Ex Z H
  dr : Draw H d l
  zd : Z d = none
  zl : Z l.1 = none
section
variable {K : Frag} {σ : L2.St} {d : Addr} {l : Addr × Addr} {Z Z1 Z2 H H1 H2 : Hp} {ta tb te tl : TE} {x y z v : V} {r : R2}
theorem Draw.hd {H : Hp} (h : Draw H d l) : ∃ o, H d = some o := let ⟨_, _, _, _, _, q⟩ := h; ⟨_, q.dd⟩
theorem Draw.hl {H : Hp} (h : Draw H d l) : ∃ o, H l.1 = some o := let ⟨_, _, _, _, _, q⟩ := h; ⟨_, q.ll⟩
theorem DZ.mv (h : DZ Z H d l) (m : Mv (DS d l) Z H Z1 H1) (dr : Draw H1 d l) : DZ Z1 H1 d l :=
  let ⟨_, q⟩ := h.dr.hd
  let ⟨_, q2⟩ := h.dr.hl
  ⟨m.h, dr, m.n _ _ q h.zd, m.n _ _ q2 h.zl⟩
theorem DZ.gr (h : DZ Z H d l) (g : Gr Z H Z1 H1) : DZ Z1 H1 d l := h.mv (Mv.gr g) (h.dr.mv g.same)
theorem DZ.no {a : Addr} {o : HO} (h : DZ Z H d l) (e : Z a = some o) : ¬ DS d l a := fun q => q.elim (fun z => by rw [z, h.zd] at e; cases e) (fun z => by rw [z, h.zl] at e; cases e)
theorem DZ.up (h : DZ Z1 H d l) (m : Mv (DS d l) Z H Z2 H2) (e : Ex Z Z1) : ∃ Z3, Mv (DS d l) Z1 H Z3 H2 ∧ Ex Z2 Z3 := by
  have keep : ∀ a u, Z1 a = some u → H2 a = some u := fun a u q => m.k a u (h.z a u q) (h.no q)
  refine ⟨fun a => (Z1 a).or (Z2 a), ⟨fun a o q => ?_, fun a o q => ?_, fun a o q r => ?_, m.k, m.e⟩, fun a o q => ?_⟩
  · show (Z1 a).or (Z2 a) = some o
    rw [q]; rfl
  · have q' : (Z1 a).or (Z2 a) = some o := q
    cases w : Z1 a with
    | none => rw [w] at q'; exact m.h a o q'
    | some u =>
      rw [w] at q'
      have q2 : some u = some o := q'
      rw [← q2]
      exact keep a u w
  · have z0 : Z a = none := Same.free e r
    show (Z1 a).or (Z2 a) = none
    rw [r, m.n a o q z0]
    rfl
  · show (Z1 a).or (Z2 a) = some o
    cases w : Z1 a with
    | none => exact q
    | some u =>
      have h1 := keep a u w
      have h2 := m.h a o q
      rw [h1] at h2
      cases h2
      rfl
def EvW (d : Addr) (l : Addr × Addr) (te : TE) (σ : L2.St) (Z : Hp) (Φ : V → Hp → Prop) : Prop := ∀ H, DZ Z H d l → ∀ Q : VK, (∀ v Z' H', Mv (DS d l) Z H Z' H' → DZ Z' H' d l → Φ v Z' → Q v H') → te σ H Q
def EvWA (d : Addr) (l : Addr × Addr) (ta : TA) (σ : L2.St) (Z : Hp) (Φ : List V → Hp → Prop) : Prop := ∀ H, DZ Z H d l → ∀ Q : List V → Hp → Prop, (∀ v Z' H', Mv (DS d l) Z H Z' H' → DZ Z' H' d l → Φ v Z' → Q v H') → ta σ H Q
def EvWT (d : Addr) (l : Addr × Addr) (tt : TT) (σ : L2.St) (Z : Hp) (Φ : Bool → Hp → Prop) : Prop := ∀ H, DZ Z H d l → ∀ Q : Bool → Hp → Prop, (∀ v Z' H', Mv (DS d l) Z H Z' H' → DZ Z' H' d l → Φ v Z' → Q v H') → tt σ H Q
def Mono {α : Type} (Φ : α → Hp → Prop) : Prop := ∀ v Z Z', Ex Z Z' → Φ v Z → Φ v Z'
theorem EvW.up {Φ : V → Hp → Prop} (h : EvW d l te σ Z Φ) (m : Mono Φ) (e : Ex Z Z1) : EvW d l te σ Z1 Φ := fun H dz Q q => h H ⟨e.trans dz.z, dz.dr, Same.free e dz.zd, Same.free e dz.zl⟩ Q fun v Z2 H2 mv dz2 p => by
  obtain ⟨Z3, m3, e3⟩ := dz.up mv e
  exact q v Z3 H2 m3 (dz.mv m3 dz2.dr) (m _ _ _ e3 p)
theorem EvWA.up {tr : TA} {Φ : List V → Hp → Prop} (h : EvWA d l tr σ Z Φ) (m : Mono Φ) (e : Ex Z Z1) : EvWA d l tr σ Z1 Φ := fun H dz Q q => h H ⟨e.trans dz.z, dz.dr, Same.free e dz.zd, Same.free e dz.zl⟩ Q fun v Z2 H2 mv dz2 p => by
  obtain ⟨Z3, m3, e3⟩ := dz.up mv e
  exact q v Z3 H2 m3 (dz.mv m3 dz2.dr) (m _ _ _ e3 p)
theorem ew_g {Φ : V → Hp → Prop} (h : EvG te σ Z Φ) : EvW d l te σ Z Φ := fun H dz Q q => h H dz.z Q fun v Z2 H2 g p => q v Z2 H2 (Mv.gr g) (dz.gr g) p
theorem ew_imp {Φ Ψ : V → Hp → Prop} (h : EvW d l te σ Z Φ) (m : ∀ v Z2, Ex Z Z2 → Φ v Z2 → Ψ v Z2) : EvW d l te σ Z Ψ := fun H dz Q q => h H dz Q fun v Z2 H2 mv dz2 p => q v Z2 H2 mv dz2 (m _ _ mv.z p)
/-- an int -/
abbrev PI (P : Int → Prop) : V → Hp → Prop := fun v _ => ∃ i, v = .int i ∧ P i
theorem pi_mono {P : Int → Prop} : Mono (PI P) := fun _ _ _ _ p => p
theorem dp_mono {e : PyData} : Mono (fun v Z => Dp K Z v e) := fun _ _ _ e p => p.mv e
theorem ew_int {i : Int} {P : Int → Prop} (h : Ev te σ Z (.int i)) (p : P i) : EvW d l te σ Z (PI P) := ew_g (eg_ev h ⟨i, rfl, p⟩)
theorem ewa_nil : EvWA d l tNil σ Z (fun vs _ => vs = []) := fun H dz Q q => q [] Z H (Mv.refl dz.z) dz rfl
theorem ewa_cons {tr : TA} {Φ : V → Hp → Prop} {Ψ : List V → Hp → Prop} (h : EvW d l te σ Z Φ) (m : Mono Φ) (hr : EvWA d l tr σ Z Ψ) (m2 : Mono Ψ) : EvWA d l (tCons te tr) σ Z (fun vs Z2 => ∃ x r, vs = x :: r ∧ Φ x Z2 ∧ Ψ r Z2) := fun H dz Q q =>
  h H dz _ fun v Z2 H2 mv dz2 p => EvWA.up hr m2 mv.z H2 dz2 _ fun vs Z3 H3 mv3 dz3 p3 => q _ Z3 H3 (mv.trans mv3) dz3 ⟨v, vs, rfl, m _ _ _ mv3.z p, p3⟩
/-- int op int -/
theorem ew_I {g : Int → Int → Int} {A B C : Int → Prop} (ha : EvW d l ta σ Z (PI A)) (hb : EvW d l tb σ Z (PI B)) (hc : ∀ i j, A i → B j → C (g i j)) : EvW d l (tOp (rI0 fun i j => .int (g i j)) ta tb) σ Z (PI C) := fun H dz Q q =>
  ha H dz _ fun v Z1 H1 m1 dz1 ⟨i, ev, pi⟩ => EvW.up hb pi_mono m1.z H1 dz1 _ fun u Z2 H2 m2 dz2 ⟨j, eu, pj⟩ => ⟨i, j, ev, eu, q _ Z2 H2 (m1.trans m2) dz2 ⟨_, rfl, hc i j pi pj⟩⟩
theorem ew_IC {R : Int → Int → Prop} {g : Int → Int → Int} {A B C : Int → Prop} (ha : EvW d l ta σ Z (PI A)) (hb : EvW d l tb σ Z (PI B)) (hr : ∀ i j, A i → B j → R i j) (hc : ∀ i j, A i → B j → C (g i j)) : EvW d l (tOp (rI R fun i j => .int (g i j)) ta tb) σ Z (PI C) := fun H dz Q q =>
  ha H dz _ fun v Z1 H1 m1 dz1 ⟨i, ev, pi⟩ => EvW.up hb pi_mono m1.z H1 dz1 _ fun u Z2 H2 m2 dz2 ⟨j, eu, pj⟩ => ⟨i, j, ev, eu, hr i j pi pj, q _ Z2 H2 (m1.trans m2) dz2 ⟨_, rfl, hc i j pi pj⟩⟩
/-- a draw -/
theorem ew_take {E : XK} {n : Nat} {B P : Int → Prop} (hv : σ[n]? = some (some (.ref d))) (h : EvW d l te σ Z (PI B)) (hb : ∀ i, B i → 0 < i ∧ i < 1073741824) (hp : ∀ i r, B i → 0 ≤ r → r < i → P r) : EvW d l (tCall (sp_law_take K) [] E (tCons (tVar n) (tCons te tNil))) σ Z (PI P) := fun H dz Q q =>
  ⟨_, hv, h H dz _ fun v Z1 H1 m1 dz1 ⟨i, ev, pi⟩ => by
    subst ev
    exact ⟨d, l, i, Z1, rfl, dz1.z, dz1.dr, dz1.zd, dz1.zl, hb i pi, fun r H2 r0 r1 m2 dr => q _ Z1 H2 (m1.trans m2) (dz1.mv m2 dr) ⟨r, rfl, hp i r pi r0 r1⟩⟩⟩
/-- a pick out of a list of such -/
def LsV (Φ : V → Hp → Prop) : V → Hp → Prop := fun v Z => ∃ a xs, v = .ref a ∧ Z a = some (.lst xs) ∧ xs ≠ [] ∧ xs.length ≤ 1000 ∧ ∀ x ∈ xs, Φ x Z
theorem ew_pick {E : XK} {n : Nat} {Φ : V → Hp → Prop} (hv : σ[n]? = some (some (.ref d))) (h : EvW d l te σ Z (LsV Φ)) : EvW d l (tCall (sp_law_pick K) [] E (tCons (tVar n) (tCons te tNil))) σ Z Φ := fun H dz Q q =>
  ⟨_, hv, h H dz _ fun v Z1 H1 m1 dz1 ⟨a, xs, ev, za, hne, hz, hx⟩ => by
    subst ev
    have na := dz1.no za
    exact ⟨d, l, a, xs, Z1, rfl, dz1.z, dz1.dr, dz1.zd, dz1.zl, dz1.z _ _ za, fun z => na (.inl z), fun z => na (.inr z), hne, hz, fun r H2 hr m2 dr => q r Z1 H2 (m1.trans m2) (dz1.mv m2 dr) (hx r hr)⟩⟩
/-- a list made on the way, frozen -/
theorem ew_lst {t : TA} {Ψ : List V → Hp → Prop} {Φ : V → Hp → Prop} (h : EvWA d l t σ Z Ψ) (m : Mono Φ) (hp : ∀ vs Z, Ψ vs Z → vs ≠ [] ∧ vs.length ≤ 1000 ∧ ∀ x ∈ vs, Φ x Z) : EvW d l (tLst t) σ Z (LsV Φ) := fun H dz Q q =>
  h H dz _ fun vs Z1 H1 m1 dz1 p => by
    obtain ⟨h1, h2, h3⟩ := hp vs Z1 p
    exact ⟨sz_of (by omega), fun a ha => q _ _ _ (m1.trans (Mv.gr (Gr.newZ dz1.z ha))) (dz1.gr (Gr.newZ dz1.z ha)) ⟨a, vs, rfl, upd_same, h1, h2, fun x hx => m _ _ _ (K74.same_new (Same.free dz1.z ha)) (h3 x hx)⟩⟩
/-- data -/
abbrev EvWD (K : Frag) (d : Addr) (l : Addr × Addr) (te : TE) (σ : L2.St) (Z : Hp) (R : PyData → Prop) : Prop := EvW d l te σ Z (fun v Z2 => ∃ e, Dp K Z2 v e ∧ R e)
theorem ewd_mono {R : PyData → Prop} : Mono (fun v Z => ∃ e, Dp K Z v e ∧ R e) := fun _ _ _ e ⟨x, p, r⟩ => ⟨x, p.mv e, r⟩
theorem ewd_int {P : Int → Prop} {R : PyData → Prop} (h : EvW d l te σ Z (PI P)) (hr : ∀ i, P i → R (.int i)) : EvWD K d l te σ Z R := ew_imp h fun v Z2 _ ⟨i, ev, p⟩ => ⟨.int i, by rw [ev]; exact .int i, hr i p⟩
theorem ewd_str {s : Str} {R : PyData → Prop} (hr : R (.str s)) : EvWD K d l (tC (.str s)) σ Z R := ew_g (eg_ev ev_c ⟨.str s, .str s, hr⟩)
abbrev EvWDA (K : Frag) (d : Addr) (l : Addr × Addr) (ta : TA) (σ : L2.St) (Z : Hp) (R : List PyData → Prop) : Prop := EvWA d l ta σ Z (fun vs Z2 => ∃ es, DpAll K Z2 vs es ∧ R es)
theorem ewda_mono {R : List PyData → Prop} : Mono (fun vs Z => ∃ e, DpAll K Z vs e ∧ R e) := fun _ _ _ e ⟨x, p, r⟩ => ⟨x, p.mv e, r⟩
theorem ewda_nil {R : List PyData → Prop} (hr : R []) : EvWDA K d l tNil σ Z R := fun H dz Q q => q [] Z H (Mv.refl dz.z) dz ⟨[], .nil, hr⟩
theorem ewda_cons {tr : TA} {A : PyData → Prop} {B C : List PyData → Prop} (h : EvWD K d l te σ Z A) (hr : EvWDA K d l tr σ Z B) (hc : ∀ e es, A e → B es → C (e :: es)) : EvWDA K d l (tCons te tr) σ Z C := fun H dz Q q =>
  h H dz _ fun v Z2 H2 mv dz2 ⟨e, p, pa⟩ => EvWA.up hr ewda_mono mv.z H2 dz2 _ fun vs Z3 H3 mv3 dz3 ⟨es, p3, pb⟩ => q _ Z3 H3 (mv.trans mv3) dz3 ⟨e :: es, .cons (p.mv mv3.z) p3, hc e es pa pb⟩
theorem ewd_tup {t : TA} {A : List PyData → Prop} {B : PyData → Prop} (h : EvWDA K d l t σ Z A) (hb : ∀ es, A es → es.length ≤ 1000 ∧ B (.tuple es)) : EvWD K d l (tTup t) σ Z B := fun H dz Q q =>
  h H dz _ fun vs Z1 H1 m1 dz1 ⟨es, p, pa⟩ => ⟨by rw [p.len]; exact sz_of (by have := (hb es pa).1; omega), fun a ha =>
    q _ _ _ (m1.trans (Mv.gr (Gr.newZ dz1.z ha))) (dz1.gr (Gr.newZ dz1.z ha)) ⟨_, Dp.newT p (Same.free dz1.z ha), (hb es pa).2⟩⟩
/-- tests that draw -/
theorem ewt_any {tt : TT} {Φ : Bool → Hp → Prop} (h : EvWT d l tt σ Z Φ) : EvWT d l tt σ Z (fun _ _ => True) := fun H dz Q q => h H dz Q fun v Z2 H2 m z _ => q v Z2 H2 m z True.intro
theorem ewt_eq {P : Int → Prop} {i : Int} (h : EvW d l te σ Z (PI P)) : EvWT d l (tTest (tOp rEq te (tC (.int i)))) σ Z (fun _ _ => True) := fun H dz Q q => h H dz _ fun v Z2 H2 m z ⟨j, ev, _⟩ => by
  subst ev
  exact ⟨rfl, _, rfl, q _ Z2 H2 m z True.intro⟩
variable {D : Ends} {tu tw tz : TS} {Φ : V → Hp → Prop}
theorem q_asgW {i : Nat} (h : EvW d l te σ Z Φ) (dz : DZ Z H d l) (k : ∀ v Z2 H2, Mv (DS d l) Z H Z2 H2 → DZ Z2 H2 d l → Φ v Z2 → tz D (σ.set i (some v)) H2) : tSeq (tAsg te (gName i)) tz D σ H := h H dz _ k
theorem s_asgW {i : Nat} (h : EvW d l te σ Z Φ) (dz : DZ Z H d l) (k : ∀ v Z2 H2, Mv (DS d l) Z H Z2 H2 → DZ Z2 H2 d l → Φ v Z2 → D.nx (σ.set i (some v)) H2) : tAsg te (gName i) D σ H := h H dz _ k
theorem s_retW (h : EvW d l te σ Z Φ) (dz : DZ Z H d l) (k : ∀ v Z2 H2, Mv (DS d l) Z H Z2 H2 → DZ Z2 H2 d l → Φ v Z2 → D.rt v H2) : tRet te D σ H := h H dz _ k
theorem q_parW {i j : Nat} {Ψ : V → Hp → Prop} (h : EvW d l ta σ Z Φ) (m : Mono Φ) (h2 : EvW d l tb σ Z Ψ) (m2 : Mono Ψ) (dz : DZ Z H d l) (k : ∀ v u Z2 H2, Mv (DS d l) Z H Z2 H2 → DZ Z2 H2 d l → Φ v Z2 → Ψ u Z2 → tz D ((σ.set i (some v)).set j (some u)) H2) :
    tSeq (tPar i j (tCons ta (tCons tb tNil))) tz D σ H := h H dz _ fun v Z1 H1 mv1 dz1 p => EvW.up h2 m2 mv1.z H1 dz1 _ fun u Z2 H2 mv2 dz2 p2 => ⟨v, u, rfl, k v u Z2 H2 (mv1.trans mv2) dz2 (m _ _ _ mv2.z p) p2⟩
theorem q_whenW {t : TT} {Ψ : Bool → Hp → Prop} (h : EvWT d l t σ Z Ψ) (dz : DZ Z H d l) (h1 : ∀ Z2 H2, Mv (DS d l) Z H Z2 H2 → DZ Z2 H2 d l → Ψ true Z2 → tu { D with nx := tz D } σ H2) (h2 : ∀ Z2 H2, Mv (DS d l) Z H Z2 H2 → DZ Z2 H2 d l → Ψ false Z2 → tz D σ H2) : tSeq (tIfS t tu tNext) tz D σ H :=
  h H dz _ fun b Z2 H2 m z p => by
    cases b with
    | true => rw [if_pos rfl]; exact h1 Z2 H2 m z p
    | false => rw [if_neg Bool.false_ne_true]; exact h2 Z2 H2 m z p
end
end K74

/-! F2 -/
set_option Elab.async false
set_option linter.all false
set_option maxRecDepth 100000
set_option maxHeartbeats 4000000
namespace K74
open PySem PySem.Spec PyProof.Rows L2
open Evl hiding tCut pss_cut
section
variable {K : Frag} {σ : L2.St} {d : Addr} {l : Addr × Addr} {Z Z1 Z2 H H1 H2 : Hp} {ta tb te tl : TE} {x y z v : V} {r : R2}
def SpW (d : Addr) (l : Addr × Addr) (sp : Sp) (vs : List V) (Z : Hp) (Φ : V → Hp → Prop) : Prop := ∀ H, DZ Z H d l → ∀ Q : VK, (∀ v Z' H', Mv (DS d l) Z H Z' H' → DZ Z' H' d l → Φ v Z' → Q v H') → ∀ E : XK, sp vs H Q E
theorem ew_callW {t : TA} {sp : Sp} {E : XK} {Φ : V → Hp → Prop} {Ψ : List V → Hp → Prop} (h : EvWA d l t σ Z Ψ) (s : ∀ vs Z2, Ex Z Z2 → Ψ vs Z2 → SpW d l sp vs Z2 Φ) : EvW d l (tCall sp [] E t) σ Z Φ := fun H dz Q q => h H dz _ fun vs Z2 H2 m dz2 p => by
  rw [List.append_nil]
  exact s vs Z2 m.z p H2 dz2 Q (fun v Z3 H3 m3 dz3 p3 => q v Z3 H3 (m.trans m3) dz3 p3) E
theorem ewa_ev {t : TA} {vs : List V} (h : EvA t σ Z vs) : EvWA d l t σ Z (fun us _ => us = vs) := fun H dz Q q => h H dz.z _ fun H2 e2 => q vs Z H2 (Mv.gr (Gr.of dz.z e2)) (dz.gr (Gr.of dz.z e2)) rfl
theorem ew_callA {t : TA} {vs : List V} {sp : Sp} {E : XK} {Φ : V → Hp → Prop} (h : EvA t σ Z vs) (s : SpW d l sp vs Z Φ) (m : Mono Φ) : EvW d l (tCall sp [] E t) σ Z Φ := fun H dz Q q => h H dz.z _ fun H2 e2 => by
  rw [List.append_nil]
  have g : Gr Z H Z H2 := Gr.of dz.z e2
  exact s H2 (dz.gr g) Q (fun v Z3 H3 m3 dz3 p3 => q v Z3 H3 ((Mv.gr g).trans m3) dz3 p3) E
abbrev EvWL (d : Addr) (l : Addr × Addr) (t : TA) (σ : L2.St) (Z : Hp) (P : Int → Prop) (n : Nat) : Prop := EvWA d l t σ Z (fun vs Z => vs.length = n ∧ ∀ x ∈ vs, PI P x Z)
theorem ewl_nil {P : Int → Prop} : EvWL d l tNil σ Z P 0 := fun H dz Q q => q [] Z H (Mv.refl dz.z) dz ⟨rfl, fun x hx => (nomatch hx)⟩
theorem ewl_cons {t : TA} {P : Int → Prop} {n : Nat} (h : EvW d l te σ Z (PI P)) (hr : EvWL d l t σ Z P n) : EvWL d l (tCons te t) σ Z P (n + 1) := fun H dz Q q =>
  h H dz _ fun v Z2 H2 mv dz2 p => EvWA.up hr (fun _ _ _ _ p => p) mv.z H2 dz2 _ fun vs Z3 H3 mv3 dz3 p3 => q _ Z3 H3 (mv.trans mv3) dz3 ⟨by rw [List.length_cons, p3.1], fun x hx => (List.mem_cons.mp hx).elim (fun e => e ▸ p) (p3.2 x)⟩
theorem ew_lstI {t : TA} {P : Int → Prop} {n : Nat} (h : EvWL d l t σ Z P (n + 1)) (hn : n ≤ 100) : EvW d l (tLst t) σ Z (LsV (PI P)) := ew_lst h pi_mono fun vs Z ⟨h1, h2⟩ => ⟨(fun e => by rw [e] at h1; cases h1), by omega, h2⟩
theorem ew_v {P : Int → Prop} {n : Nat} {i : Int} (hv : σ[n]? = some (some (.int i))) (p : P i) : EvW d l (tVar n) σ Z (PI P) := ew_int (ev_var hv) p
theorem ew_c {P : Int → Prop} {i : Int} (p : P i) : EvW d l (tC (.int i)) σ Z (PI P) := ew_int ev_c p
theorem ev_min2 {i j : Int} (ha : Ev ta σ H (.int i)) (hb : Ev tb σ H (.int j)) : Ev (tCB (fun xs H Q => ∃ i j, xs = [.int i, .int j] ∧ Q (.int (if j < i then j else i)) H) (tCons ta (tCons tb tNil))) σ H (.int (if j < i then j else i)) :=
  ev_cb (ea_cons ha (ea_cons hb ea_nil)) fun H1 e Q q => ⟨i, j, rfl, q _ (Ex.refl _)⟩
theorem ew_min2 {A B C : Int → Prop} (ha : EvW d l ta σ Z (PI A)) (hb : EvW d l tb σ Z (PI B)) (hc : ∀ i j, A i → B j → C (if j < i then j else i)) : EvW d l (tCB (fun xs H Q => ∃ i j, xs = [.int i, .int j] ∧ Q (.int (if j < i then j else i)) H) (tCons ta (tCons tb tNil))) σ Z (PI C) := fun H dz Q q =>
  ha H dz _ fun v Z1 H1 m1 dz1 ⟨i, ev, pi⟩ => EvW.up hb pi_mono m1.z H1 dz1 _ fun u Z2 H2 m2 dz2 ⟨j, eu, pj⟩ => ⟨i, j, by rw [ev, eu], q _ Z2 H2 (m1.trans m2) dz2 ⟨_, rfl, hc i j pi pj⟩⟩
theorem ew_max2 {A B C : Int → Prop} (ha : EvW d l ta σ Z (PI A)) (hb : EvW d l tb σ Z (PI B)) (hc : ∀ i j, A i → B j → C (if j > i then j else i)) : EvW d l (tCB (fun xs H Q => ∃ i j, xs = [.int i, .int j] ∧ Q (.int (if j > i then j else i)) H) (tCons ta (tCons tb tNil))) σ Z (PI C) := fun H dz Q q =>
  ha H dz _ fun v Z1 H1 m1 dz1 ⟨i, ev, pi⟩ => EvW.up hb pi_mono m1.z H1 dz1 _ fun u Z2 H2 m2 dz2 ⟨j, eu, pj⟩ => ⟨i, j, by rw [ev, eu], q _ Z2 H2 (m1.trans m2) dz2 ⟨_, rfl, hc i j pi pj⟩⟩
end
section
variable {P : Program} [hPT : PT P] {w : World} {K : Frag} {mg : Str → Option Value} {base : Heap}
theorem ew_takeC {σ : L2.St} {d : Addr} {l : Addr × Addr} {Z : Hp} {E : XK} {n : Nat} {m : Int} {P : Int → Prop} (hv : σ[n]? = some (some (.ref d))) (hm : 0 < m ∧ m < 1073741824) (hp : ∀ r, 0 ≤ r → r < m → P r) : EvW d l (tCall (sp_law_take K) [] E (tCons (tVar n) (tCons (tC (.int m)) tNil))) σ Z (PI P) :=
  ew_take hv (ew_c (P := fun i => i = m) rfl) (fun i e => by rw [e]; exact hm) fun i r e r0 r1 => hp r r0 (by rw [← e]; exact r1)
/-! _law_part -/
def PartW (K : Frag) : V → Hp → Prop := fun v Z => ∃ p, Dp K Z v (dPart p) ∧ okP p = true
theorem partW_mono : Mono (PartW K) := fun _ _ _ e ⟨p, q, r⟩ => ⟨p, q.mv e, r⟩
def sp_law_part (K : Frag) : Sp := fun vs H Q _ => ∃ (d : Addr) (l : Addr × Addr) (Z : Hp), vs = [.ref d] ∧ DZ Z H d l ∧ ∀ v Z' H', Mv (DS d l) Z H Z' H' → DZ Z' H' d l → PartW K v Z' → Q v H'
theorem w_law_part {Z : Hp} {d : Addr} {l : Addr × Addr} : SpW d l (sp_law_part K) [.ref d] Z (PartW K) := fun H dz Q q E => ⟨d, l, Z, rfl, dz, q⟩
theorem ok_k {m k : Int} (h : 1 ≤ m ∧ m ≤ 60) (hk : 1 ≤ k ∧ k ≤ 8) : okP (.over m k) = true ∧ okP (.under m k) = true := by
  have a : mk60 m = true := by unfold mk60; rw [decide_eq_true h.1, decide_eq_true h.2]; rfl
  have b : mk60 k = true := by unfold mk60; rw [decide_eq_true hk.1, decide_eq_true (show k ≤ 60 by omega)]; rfl
  have c : (mk60 m && mk60 k && decide (k ≤ 8)) = true := by rw [a, b, decide_eq_true hk.2]; rfl
  exact ⟨c, c⟩
theorem ok_a {m lo hi : Int} (h : 1 ≤ lo ∧ lo ≤ m ∧ m ≤ hi ∧ hi ≤ 60) : okP (.aim m lo hi) = true := by
  show ((decide (1 ≤ m) && decide (m ≤ 60)) && (decide (1 ≤ lo) && decide (lo ≤ 60)) && (decide (1 ≤ hi) && decide (hi ≤ 60)) && (decide (lo ≤ m) && decide (m ≤ hi))) = true
  rw [decide_eq_true (show 1 ≤ m by omega), decide_eq_true (show m ≤ 60 by omega), decide_eq_true (show 1 ≤ lo by omega), decide_eq_true (show lo ≤ 60 by omega), decide_eq_true (show 1 ≤ hi by omega), decide_eq_true (show hi ≤ 60 by omega), decide_eq_true (show lo ≤ m by omega), decide_eq_true (show m ≤ hi by omega)]
  rfl
theorem ew_tag2 {σ : L2.St} {d : Addr} {l : Addr × Addr} {Z : Hp} {nm : Str} {t2 t3 : TE} {A B : Int → Prop} (h2 : EvW d l t2 σ Z (PI A)) (h3 : EvW d l t3 σ Z (PI B)) : EvW d l (tTup (tCons (tC (.str nm)) (tCons t2 (tCons t3 tNil)))) σ Z (fun v Z2 => ∃ i j, Dp K Z2 v (.tuple [.str nm, .int i, .int j]) ∧ A i ∧ B j) := fun H dz Q q =>
  h2 H dz _ fun v Z1 H1 m1 dz1 ⟨i, ev, pa⟩ => EvW.up h3 pi_mono m1.z H1 dz1 _ fun u Z2 H2 m2 dz2 ⟨j, eu, pb⟩ => ⟨Nat.le_of_ble_eq_true rfl, fun a ha => by
    subst ev eu
    exact q _ _ _ ((m1.trans m2).trans (Mv.gr (Gr.newZ dz2.z ha))) (dz2.gr (Gr.newZ dz2.z ha)) ⟨i, j, datM (ds := [.str nm, .int i, .int j]) (SqT.of upd_same) rfl, pa, pb⟩⟩
theorem ew_tag3 {σ : L2.St} {d : Addr} {l : Addr × Addr} {Z : Hp} {nm : Str} {t2 t3 t4 : TE} {A B C : Int → Prop} (h2 : EvW d l t2 σ Z (PI A)) (h3 : EvW d l t3 σ Z (PI B)) (h4 : EvW d l t4 σ Z (PI C)) : EvW d l (tTup (tCons (tC (.str nm)) (tCons t2 (tCons t3 (tCons t4 tNil))))) σ Z (fun v Z2 => ∃ i j k, Dp K Z2 v (.tuple [.str nm, .int i, .int j, .int k]) ∧ A i ∧ B j ∧ C k) := fun H dz Q q =>
  h2 H dz _ fun v Z1 H1 m1 dz1 ⟨i, ev, pa⟩ => EvW.up h3 pi_mono m1.z H1 dz1 _ fun u Z2 H2 m2 dz2 ⟨j, eu, pb⟩ => EvW.up h4 pi_mono (m1.z.trans m2.z) H2 dz2 _ fun w Z3 H3 m3 dz3 ⟨k, ew, pc⟩ => ⟨Nat.le_of_ble_eq_true rfl, fun a ha => by
    subst ev eu ew
    exact q _ _ _ (((m1.trans m2).trans m3).trans (Mv.gr (Gr.newZ dz3.z ha))) (dz3.gr (Gr.newZ dz3.z ha)) ⟨i, j, k, datM (ds := [.str nm, .int i, .int j, .int k]) (SqT.of upd_same) rfl, pa, pb, pc⟩⟩
/-- 1, 1, 2 or 1 + up to 7 -/
theorem ew_up8 {σ : L2.St} {d : Addr} {l : Addr × Addr} {Z : Hp} {E E' : XK} (hv : σ[0]? = some (some (.ref d))) : EvW d l (tCall (sp_law_pick K) [] E (tCons (tVar 0) (tCons (tLst (tCons (tC (.int 1)) (tCons (tC (.int 1)) (tCons (tC (.int 2)) (tCons (tOp (rI0 fun i j => .int (i + j)) (tC (.int 1)) (tCall (sp_law_take K) [] E' (tCons (tVar 0) (tCons (tC (.int 8)) tNil)))) tNil))))) tNil))) σ Z (PI fun i => 1 ≤ i ∧ i ≤ 8) :=
  ew_pick hv (ew_lstI (n := 3) (ewl_cons (ew_c ⟨by decide, by decide⟩) (ewl_cons (ew_c ⟨by decide, by decide⟩) (ewl_cons (ew_c ⟨by decide, by decide⟩) (ewl_cons (ew_I (A := fun i => i = 1) (B := fun r => 0 ≤ r ∧ r < 8) (ew_c rfl) (ew_takeC hv ⟨by decide, by decide⟩ fun r r0 r1 => ⟨r0, r1⟩) fun i j hi hj => by omega) ewl_nil)))) (by decide))
theorem sc_law_part : FnScope ["_law_draw", "_law_mark", "_law_high", "_law_way", "_law_top"] ["_law_draw"] (defScope s_law_part) := ⟨rfl, rfl, rfl, by decide +kernel, rfl, by decide +kernel, by decide +kernel⟩
theorem ok_law_part (T : Txt w K mg) : FB P w K mg base 4 (He.ga K "_law_part") ["_law_draw"] (sp_law_part K) := by
  refine FB.of T.F_law_part sc_law_part (fun _ _ _ _ _ _ us hl => match us, hl with | [_], _ => rfl) (by rintro vs H Q E ⟨_, _, _, rfl, _⟩; rfl) (fun cdv A outer s H vs Q E hr h => ?_)
  refine ⟨_, (pss_cons (ps_par rfl sc_law_part.nd (i := 3) (j := 4) rfl rfl (by decide) rfl rfl (pa_cons (pe_callF (ok_law_take T) (hr.mono (by decide)) (by rfl) T.g_law_take passL (pa_cons (pv 0) (pa_cons pe_int pa_nil))) (pa_cons (pe_callF (ok_law_pick T) (hr.mono (by decide)) (by rfl) T.g_law_pick passL (pa_cons (pv 0) (pa_cons (pe_lst (pa_cons pe_int (pa_cons pe_int (pa_cons pe_int (pa_cons pe_int pa_nil))))) pa_nil))) pa_nil)) (by rfl))
    (pss_cons (ps_set (i := 1) sc_law_part.nd rfl (Or.inl rfl) (pe_op op_add pe_int (pe_callF (ok_law_take T) (hr.mono (by decide)) (by rfl) T.g_law_take passL (pa_cons (pv 0) (pa_cons (pv 4) pa_nil)))))
    (pss_cons (ps_if (pt_cmpR op_lt (pv 3) pe_int (nomark _))
    (pss_one (ps_ret (pe_tup (pa_cons pe_str (pa_cons (pv 1) (pa_cons (pe_callF (ok_law_pick T) (hr.mono (by decide)) (by rfl) T.g_law_pick passL (pa_cons (pv 0) (pa_cons (pe_lst (pa_cons pe_int (pa_cons pe_int (pa_cons pe_int (pa_cons (pe_op op_add pe_int (pe_callF (ok_law_take T) (hr.mono (by decide)) (by rfl) T.g_law_take passL (pa_cons (pv 0) (pa_cons pe_int pa_nil)))) pa_nil))))) pa_nil))) pa_nil))))))
    pss_nil)
    (pss_cons (ps_if (pt_cmpR op_lt (pv 3) pe_int (nomark _))
    (pss_one (ps_ret (pe_tup (pa_cons pe_str (pa_cons (pv 1) (pa_cons (pe_callF (ok_law_pick T) (hr.mono (by decide)) (by rfl) T.g_law_pick passL (pa_cons (pv 0) (pa_cons (pe_lst (pa_cons pe_int (pa_cons pe_int (pa_cons pe_int (pa_cons (pe_op op_add pe_int (pe_callF (ok_law_take T) (hr.mono (by decide)) (by rfl) T.g_law_take passL (pa_cons (pv 0) (pa_cons pe_int pa_nil)))) pa_nil))))) pa_nil))) pa_nil))))))
    pss_nil)
    (pss_cons (ps_set (i := 2) sc_law_part.nd rfl (Or.inl rfl) (pe_op op_add (pv 1) (pe_callF (ok_law_take T) (hr.mono (by decide)) (by rfl) T.g_law_take passL (pa_cons (pv 0) (pa_cons (pe_callF (ok_law_pick T) (hr.mono (by decide)) (by rfl) T.g_law_pick passL (pa_cons (pv 0) (pa_cons (pe_lst (pa_cons (pe_callB (call_min2 rfl) (by rfl) T.f_min (by decide +kernel) (pa_cons pe_int (pa_cons (pe_op op_sub pe_int (pv 1)) pa_nil))) (pa_cons (pe_op op_sub pe_int (pv 1)) pa_nil))) pa_nil))) pa_nil)))))
    (pss_one (ps_ret (pe_tup (pa_cons pe_str (pa_cons (pv 1) (pa_cons (pe_op op_add pe_int (pe_callF (ok_law_take T) (hr.mono (by decide)) (by rfl) T.g_law_take passL (pa_cons (pv 0) (pa_cons (pv 1) pa_nil)))) (pa_cons (pv 2) pa_nil)))))))))))), ?_⟩
  obtain ⟨d, l, Z, rfl, dz, k⟩ := h
  refine q_parW (ew_takeC (P := fun _ => True) rfl ⟨by decide, by decide⟩ fun _ _ _ => trivial) pi_mono (ew_pick (Φ := PI fun i => 1 ≤ i ∧ i ≤ 60) rfl (ew_lstI (n := 3) (ewl_cons (ew_c ⟨by decide, by decide⟩) (ewl_cons (ew_c ⟨by decide, by decide⟩) (ewl_cons (ew_c ⟨by decide, by decide⟩) (ewl_cons (ew_c ⟨by decide, by decide⟩) ewl_nil)))) (by decide))) pi_mono dz fun v u Z1 H1 m1 dz1 ⟨way, ev, _⟩ ⟨top, eu, t1, t2⟩ => ?_
  subst ev eu
  refine q_asgW (ew_I (C := fun i => 1 ≤ i ∧ i ≤ 60) (ew_c (P := fun i => i = 1) rfl) (ew_take (P := fun r => 0 ≤ r ∧ r < 60) rfl (ew_v (P := fun i => 1 ≤ i ∧ i ≤ 60) rfl ⟨t1, t2⟩) (fun i hi => by omega) fun i r hi r0 r1 => by omega) fun i j hi hj => by omega) dz1 fun v Z2 H2 m2 dz2 ⟨mark, ev, k1, k2⟩ => ?_
  subst ev
  have m12 := m1.trans m2
  refine q_when (et_test (ev_I (ev_var rfl) ev_c)) (fun _ H3 e3 => ?_) (fun _ H3 e3 => ?_)
  · have g3 := Gr.of dz2.z e3
    refine s_retW (ew_tag2 (K := K) (ew_v (P := fun i => i = mark) rfl rfl) (ew_up8 rfl)) (dz2.gr g3) fun v Z4 H4 m4 dz4 ⟨i, j, p, hi, hj⟩ => k v Z4 H4 ((m12.trans (Mv.gr g3)).trans m4) dz4 ⟨.over i j, p, (ok_k (by omega) hj).1⟩
  · have g3 := Gr.of dz2.z e3
    have dz3 := dz2.gr g3
    refine q_when (et_test (ev_I (ev_var rfl) ev_c)) (fun _ H4 e4 => ?_) (fun _ H4 e4 => ?_)
    · have g4 := Gr.of dz3.z e4
      refine s_retW (ew_tag2 (K := K) (ew_v (P := fun i => i = mark) rfl rfl) (ew_up8 rfl)) (dz3.gr g4) fun v Z4 H4 m4 dz4 ⟨i, j, p, hi, hj⟩ => k v Z4 H4 (((m12.trans (Mv.gr g3)).trans (Mv.gr g4)).trans m4) dz4 ⟨.under i j, p, (ok_k (by omega) hj).2⟩
    · have g4 := Gr.of dz3.z e4
      refine q_asgW (ew_I (C := fun i => mark ≤ i ∧ i ≤ 60) (ew_v (P := fun i => i = mark) rfl rfl) (ew_take (P := fun r => 0 ≤ r ∧ r ≤ 60 - mark) rfl (ew_pick (Φ := PI fun i => 1 ≤ i ∧ i ≤ 61 - mark) rfl (ew_lstI (n := 1) (ewl_cons (ew_int (ev_min2 ev_c (ev_I ev_c (ev_var rfl))) (by split <;> omega)) (ewl_cons (ew_int (ev_I ev_c (ev_var rfl)) (by omega)) ewl_nil)) (by decide))) (fun i hi => by omega) fun i r hi r0 r1 => by omega) fun i j hi hj => by omega) (dz3.gr g4) fun v Z5 H5 m5 dz5 ⟨high, ev, h1, h2⟩ => ?_
      subst ev
      refine s_retW (ew_tag3 (K := K) (ew_v (P := fun i => i = mark) rfl rfl) (ew_I (C := fun i => 1 ≤ i ∧ i ≤ mark) (ew_c (P := fun i => i = 1) rfl) (ew_take (P := fun r => 0 ≤ r ∧ r < mark) rfl (ew_v (P := fun i => i = mark) rfl rfl) (fun i hi => by omega) fun i r hi r0 r1 => by omega) fun i j hi hj => by omega) (ew_v (P := fun i => i = high) rfl rfl)) dz5 fun v Z6 H6 m6 dz6 ⟨i, j, n, p, hi, hj, hn⟩ => k v Z6 H6 ((((m12.trans (Mv.gr g3)).trans (Mv.gr g4)).trans m5).trans m6) dz6 ⟨.aim i j n, p, ok_a (by omega)⟩
end
end K74

/-! F3 -/
set_option Elab.async false
set_option linter.all false
set_option maxRecDepth 100000
set_option maxHeartbeats 4000000
namespace K74
open PySem PySem.Spec PyProof.Rows L2
open Evl hiding tCut pss_cut
theorem Mv.cut {S S' : Addr → Prop} {Z H Z1 H1 : Hp} (h : Mv S Z H Z1 H1) (n : ∀ a, S a → S' a ∨ H a = none) : Mv S' Z H Z1 H1 := ⟨h.z, h.h, h.n, fun a o q r => h.k a o q (fun s => (n a s).elim r (fun e => by rw [e] at q; cases q)), h.e⟩
/-- a dict that is being filled -/
structure Bld (d : Addr) (l : Addr × Addr) (p : Addr) (Z0 H0 Z H : Hp) (kv : List (Key × V)) : Prop where
  dz : DZ Z H d l
  mv : Mv (fun b => DS d l b ∨ b = p) Z0 H0 Z H
  h0 : H0 p = none
  zp : Z p = none
  hp : H p = some (.dK kv)
  pd : p ≠ d
section
variable {K : Frag} {σ : L2.St} {d p : Addr} {l : Addr × Addr} {Z0 H0 Z H Z1 H1 : Hp} {kv kv' : List (Key × V)}
theorem Draw.other {H : Hp} {o : HO} (h : Draw H d l) (pd : p ≠ d) (hp : H p = some (.dK kv)) : Draw (upd H p o) d l := by
  obtain ⟨r, t, m, ls, cs, q⟩ := h
  have nl : l.1 ≠ p := ne_of q.ll hp (fun z => nomatch z)
  have nc : l.2 ≠ p := ne_of q.cc hp (fun z => nomatch z)
  exact ⟨r, t, m, ls, cs, by rw [upd_ne (Ne.symm pd)]; exact q.dd, by rw [upd_ne nl]; exact q.ll, by rw [upd_ne nc]; exact q.cc, q.m0, q.m1, q.lz, q.cz, q.cl⟩
theorem Bld.nl (b : Bld d l p Z0 H0 Z H kv) : p ≠ l.1 := by
  obtain ⟨r, t, m, ls, cs, q⟩ := b.dz.dr
  exact ne_of b.hp q.ll (fun z => nomatch z)
theorem Bld.step (b : Bld d l p Z0 H0 Z H kv) (m : Mv (DS d l) Z H Z1 H1) (dz1 : DZ Z1 H1 d l) : Bld d l p Z0 H0 Z1 H1 kv :=
  ⟨dz1, b.mv.trans (m.mono fun _ q => .inl q), b.h0, m.n _ _ b.hp b.zp, m.k _ _ b.hp (fun q => q.elim b.pd b.nl), b.pd⟩
theorem Bld.gr (b : Bld d l p Z0 H0 Z H kv) (g : Gr Z H Z1 H1) : Bld d l p Z0 H0 Z1 H1 kv := b.step (Mv.gr g) (b.dz.gr g)
theorem Bld.put (b : Bld d l p Z0 H0 Z H kv) : Bld d l p Z0 H0 Z (upd H p (.dK kv')) kv' :=
  have m := Mv.write (S := fun b => DS d l b ∨ b = p) (o' := .dK kv') b.dz.z b.zp b.hp (.inr rfl)
  ⟨⟨m.h, b.dz.dr.other b.pd b.hp, b.dz.zd, b.dz.zl⟩, b.mv.trans m, b.h0, b.zp, upd_same, b.pd⟩
theorem Bld.new (dz : DZ Z H d l) (hp : H p = none) : Bld d l p Z H Z (upd H p (.dK kv)) kv := by
  have g := Gr.new (o := .dK kv) dz.z hp
  obtain ⟨o, hd⟩ := dz.dr.hd
  exact ⟨dz.gr g, Mv.gr g, hp, Same.free dz.z hp, upd_same, fun e => by rw [e, hd] at hp; cases hp⟩
theorem Bld.done (b : Bld d l p Z0 H0 Z H kv) : Mv (DS d l) Z0 H0 (upd Z p (.dK kv)) H ∧ DZ (upd Z p (.dK kv)) H d l ∧ Ex Z (upd Z p (.dK kv)) := by
  have m := (Mv.freeze b.mv b.h0 b.hp).cut (S' := DS d l) fun a q => q.imp id fun e => by rw [e]; exact b.h0
  have e : Ex Z (upd Z p (.dK kv)) := K74.same_new b.zp
  exact ⟨m, ⟨m.h, b.dz.dr, by rw [upd_ne (Ne.symm b.pd)]; exact b.dz.zd, by rw [upd_ne (Ne.symm b.nl)]; exact b.dz.zl⟩, e⟩
variable {D : Ends} {tz : TS} {td tv : TE} {Φ : V → Hp → Prop}
theorem q_dputW {k : Str} (b : Bld d l p Z0 H0 Z H kv) (hv : EvW d l tv σ Z Φ) (ha : ∀ H, Ev td σ H (.ref p)) (hl : kv.length ≤ 100) (kk : ∀ v Z1 H1, Φ v Z1 → Ex Z Z1 → Bld d l p Z0 H0 Z1 H1 (putK kv (.inr k) v) → tz D σ H1) : tSeq (sDPut td (tC (.str k)) tv) tz D σ H :=
  hv H b.dz _ fun v Z1 H1 m1 dz1 pv => ha H1 H1 (Ex.refl _) _ fun H2 e2 => by
    have b1 := (b.step m1 dz1).gr (Gr.of dz1.z e2)
    exact ⟨p, _, rfl, DPut.k (k := .inr k) b1.hp (sz_lt (by omega)), kk v Z1 _ pv m1.z b1.put⟩
theorem s_dputW {k : Str} (b : Bld d l p Z0 H0 Z H kv) (hv : EvW d l tv σ Z Φ) (ha : ∀ H, Ev td σ H (.ref p)) (hl : kv.length ≤ 100) (kk : ∀ v Z1 H1, Φ v Z1 → Ex Z Z1 → Bld d l p Z0 H0 Z1 H1 (putK kv (.inr k) v) → D.nx σ H1) : sDPut td (tC (.str k)) tv D σ H :=
  hv H b.dz _ fun v Z1 H1 m1 dz1 pv => ha H1 H1 (Ex.refl _) _ fun H2 e2 => by
    have b1 := (b.step m1 dz1).gr (Gr.of dz1.z e2)
    exact ⟨p, _, rfl, DPut.k (k := .inr k) b1.hp (sz_lt (by omega)), kk v Z1 _ pv m1.z b1.put⟩
/-- [e for _ in range(n)], e drawing -/
def LsW (Φ : V → Hp → Prop) (B : Nat) : V → Hp → Prop := fun v Z => ∃ a xs, v = .ref a ∧ Z a = some (.lst xs) ∧ xs.length ≤ B ∧ ∀ x ∈ xs, Φ x Z
theorem ew_lcR {ta te : TE} {j : Nat} {vs : List Nat} {B : Nat} (hB : B ≤ 1000) (m : Mono Φ) (hn : EvW d l ta σ Z (PI fun i => 0 ≤ i ∧ i ≤ B)) (hw : ∀ x, wipe ((wipe σ vs).set j (some x)) vs = wipe σ vs) (he : ∀ x Z1, Ex Z Z1 → EvW d l te ((wipe σ vs).set j (some x)) Z1 Φ) :
    EvW d l (tLc (iRng1 (tCons ta tNil)) (gName j) tYes te vs) σ Z (LsW Φ B) := fun H dz Q q => hn H dz _ fun v Z1 H1 m1 dz1 ⟨n, ev, n0, n1⟩ => ⟨n, by rw [ev], by omega, by omega, fun D hD =>
  lc_range (lo := 0) (n := n.toNat) (fun i H' => ∃ Zi acc, Mv (fun b => DS d l b ∨ b = D) Z1 (upd H1 D (.lst [])) Zi H' ∧ DZ Zi H' d l ∧ Zi D = none ∧ H' D = some (.lst acc) ∧ acc.length = i ∧ ∀ x ∈ acc, Φ x Zi)
    ⟨Z1, [], Mv.refl (dz1.z.trans (Ex.new hD)), dz1.gr (Gr.new dz1.z hD), Same.free dz1.z hD, upd_same, rfl, fun x hx => nomatch hx⟩ (fun i H' hi ⟨Zi, acc, mv, dzi, zi, hp, hl, ha⟩ => ⟨hw _, by
      refine yes_of ?_
      rw [if_pos rfl]
      refine he _ Zi (m1.z.trans mv.z) H' dzi _ fun y Z3 H3 m3 dz3 py => ?_
      obtain ⟨od, hd⟩ := dz1.dr.hd
      obtain ⟨ol, hl'⟩ := dz1.dr.hl
      have nD : ¬ DS d l D := fun z => z.elim (fun z => by rw [z, hd] at hD; cases hD) (fun z => by rw [z, hl'] at hD; cases hD)
      have hp3 := m3.k _ _ hp nD
      have zp3 := m3.n _ _ hp zi
      have wr := Mv.write (S := fun b => DS d l b ∨ b = D) (o' := .lst (acc ++ [y])) dz3.z zp3 hp3 (.inr rfl)
      have dr3 : Draw (upd H3 D (.lst (acc ++ [y]))) d l := by
        obtain ⟨r, t, mm, ls, cs, qd⟩ := dz1.dr
        obtain ⟨r3, t3, mm3, ls3, cs3, qd3⟩ := dz3.dr
        have hc : l.2 ≠ D := fun z => by rw [← z, qd.cc] at hD; cases hD
        exact ⟨r3, t3, mm3, ls3, cs3, by rw [upd_ne (fun z => nD (.inl z.symm))]; exact qd3.dd, by rw [upd_ne (fun z => nD (.inr z.symm))]; exact qd3.ll, by rw [upd_ne hc]; exact qd3.cc, qd3.m0, qd3.m1, qd3.lz, qd3.cz, qd3.cl⟩
      refine ⟨acc, hp3, sz_lt (by omega), Z3, acc ++ [y], (mv.trans (m3.mono fun _ z => .inl z)).trans wr, ⟨wr.h, dr3, dz3.zd, dz3.zl⟩, zp3, upd_same, by rw [List.length_append, hl]; rfl, fun x hx => ?_⟩
      rcases List.mem_append.mp hx with z | z
      · exact m _ _ _ m3.z (ha x z)
      · rw [List.mem_singleton.mp z]; exact py⟩)
    (fun H' ⟨Zi, acc, mv, dzi, zi, hp, hl, ha⟩ => by
      have g1 := Mv.gr (S := fun b => DS d l b ∨ b = D) (Gr.new (o := .lst []) dz1.z hD)
      have f := (Mv.freeze (g1.trans mv) hD hp).cut (S' := DS d l) fun a z => z.imp id fun e => by rw [e]; exact hD
      have e : Ex Zi (upd Zi D (.lst acc)) := K74.same_new zi
      exact q _ _ _ (m1.trans f) (dz1.mv f dzi.dr) ⟨D, acc, rfl, upd_same, by omega, fun x hx => m _ _ _ e (ha x hx)⟩)⟩
end
end K74

/-! F4 -/
set_option Elab.async false
set_option linter.all false
set_option maxRecDepth 100000
set_option maxHeartbeats 4000000
namespace K74
open PySem PySem.Spec PyProof.Rows L2
open Evl hiding tCut pss_cut
/-! ### cases -/
def ckv (r : Rl) (pl : V) : List (Key × V) := [(.inr "least", .int r.least), (.inr "most", .int r.most), (.inr "rise", oV r.rise), (.inr "fall", oV r.fall), (.inr "parts", pl), (.inr "up", .int r.up), (.inr "down", .int r.down)]
def CaseAt (K : Frag) (Z : Hp) (v : V) (r : Rl) : Prop := ∃ a pl, v = .ref a ∧ Z a = some (.dK (ckv r pl)) ∧ LsD K Z pl (r.parts.map dPart)
section
variable {P : Program} [hPT : PT P] {w : World} {K : Frag} {mg : Str → Option Value} {base : Heap}
theorem CaseAt.mv {Z H : Hp} {v : V} {r : Rl} (h : CaseAt K Z v r) (e : Ex Z H) : CaseAt K H v r := by
  obtain ⟨a, pl, rfl, h1, h2⟩ := h
  exact ⟨a, pl, rfl, e _ _ h1, h2.mv e⟩
theorem parts_of {Z : Hp} : ∀ {xs : List V}, (∀ x ∈ xs, PartW K x Z) → ∃ ps : List Part, DpAll K Z xs (ps.map dPart) ∧ ps.all okP = true ∧ ps.length = xs.length
  | [], _ => ⟨[], .nil, rfl, rfl⟩
  | x :: xs, h => by
    obtain ⟨p, d, o⟩ := h x List.mem_cons_self
    obtain ⟨ps, ds, os, hl⟩ := parts_of (xs := xs) fun y hy => h y (List.mem_cons_of_mem _ hy)
    exact ⟨p :: ps, .cons d ds, by rw [List.all_cons, o, os]; rfl, by rw [List.length_cons, List.length_cons, hl]⟩
def CaseW (K : Frag) : V → Hp → Prop := fun v Z => ∃ r, CaseAt K Z v r ∧ okR r
theorem caseW_mono : Mono (CaseW K) := fun _ _ _ e ⟨r, q, o⟩ => ⟨r, q.mv e, o⟩
def sp_law_case (K : Frag) : Sp := fun vs H Q _ => ∃ (d : Addr) (l : Addr × Addr) (Z : Hp), vs = [.ref d] ∧ DZ Z H d l ∧ ∀ v Z' H', Mv (DS d l) Z H Z' H' → DZ Z' H' d l → CaseW K v Z' → Q v H'
theorem w_law_case {Z : Hp} {d : Addr} {l : Addr × Addr} : SpW d l (sp_law_case K) [.ref d] Z (CaseW K) := fun H dz Q q E => ⟨d, l, Z, rfl, dz, q⟩
/-- 1, 2, 3 or 1 + up to 7; 1, 1, 2, 3 -/
theorem ew_up83 {σ : L2.St} {d : Addr} {l : Addr × Addr} {Z : Hp} {E E' : XK} (hv : σ[0]? = some (some (.ref d))) : EvW d l (tCall (sp_law_pick K) [] E (tCons (tVar 0) (tCons (tLst (tCons (tC (.int 1)) (tCons (tC (.int 2)) (tCons (tC (.int 3)) (tCons (tOp (rI0 fun i j => .int (i + j)) (tC (.int 1)) (tCall (sp_law_take K) [] E' (tCons (tVar 0) (tCons (tC (.int 8)) tNil)))) tNil))))) tNil))) σ Z (PI fun i => 1 ≤ i ∧ i ≤ 8) :=
  ew_pick hv (ew_lstI (n := 3) (ewl_cons (ew_c ⟨by decide, by decide⟩) (ewl_cons (ew_c ⟨by decide, by decide⟩) (ewl_cons (ew_c ⟨by decide, by decide⟩) (ewl_cons (ew_I (A := fun i => i = 1) (B := fun r => 0 ≤ r ∧ r < 8) (ew_c rfl) (ew_takeC hv ⟨by decide, by decide⟩ fun r r0 r1 => ⟨r0, r1⟩) fun i j hi hj => by omega) ewl_nil)))) (by decide))
theorem ew_win {σ : L2.St} {d : Addr} {l : Addr × Addr} {Z : Hp} {E : XK} (hv : σ[0]? = some (some (.ref d))) : EvW d l (tCall (sp_law_pick K) [] E (tCons (tVar 0) (tCons (tLst (tCons (tC (.int 1)) (tCons (tC (.int 1)) (tCons (tC (.int 2)) (tCons (tC (.int 3)) tNil))))) tNil))) σ Z (PI fun i => 1 ≤ i ∧ i ≤ 3) :=
  ew_pick hv (ew_lstI (n := 3) (ewl_cons (ew_c ⟨by decide, by decide⟩) (ewl_cons (ew_c ⟨by decide, by decide⟩) (ewl_cons (ew_c ⟨by decide, by decide⟩) (ewl_cons (ew_c ⟨by decide, by decide⟩) ewl_nil)))) (by decide))
theorem pairs_go {σ : L2.St} {H : Hp} {kv : V} {tv : TE} {r : List (TE × TE)} {Q : List (V × V) → Hp → Prop} (h : tv σ H fun y H2 => tPairs r σ H2 fun ps H3 => Q ((kv, y) :: ps) H3) : tPairs ((tC kv, tv) :: r) σ H Q := h
theorem sc_law_case : FnScope ["_law_draw", "_law_floor", "_law_case_here", "_law_turn"] ["_law_draw"] (defScope s_law_case) := ⟨rfl, rfl, rfl, by decide +kernel, rfl, by decide +kernel, by decide +kernel⟩
theorem ok_law_case (T : Txt w K mg) : FB P w K mg base 5 (He.ga K "_law_case") ["_law_draw"] (sp_law_case K) := by
  refine FB.of T.F_law_case sc_law_case (fun _ _ _ _ _ _ us hl => match us, hl with | [_], _ => rfl) (by rintro vs H Q E ⟨_, _, _, rfl, _⟩; rfl) (fun cdv A outer s H vs Q E hr h => ?_)
  refine ⟨_, (pss_cons (ps_set (i := 1) sc_law_case.nd rfl (Or.inl rfl) (pe_callF (ok_law_pick T) (hr.mono (by decide)) (by rfl) T.g_law_pick passL (pa_cons (pv 0) (pa_cons (pe_lst (pa_cons pe_int (pa_cons pe_int (pa_cons pe_int (pa_cons pe_int (pa_cons (pe_op op_add pe_int (pe_callF (ok_law_take T) (hr.mono (by decide)) (by rfl) T.g_law_take passL (pa_cons (pv 0) (pa_cons pe_int pa_nil)))) pa_nil)))))) pa_nil))))
    (pss_cons (ps_set (i := 2) sc_law_case.nd rfl (Or.inl rfl) (pe_disp (pps_cons pe_str (pv 1) (pps_cons pe_str (pe_callB (call_min2 rfl) (by rfl) T.f_min (by decide +kernel) (pa_cons pe_int (pa_cons (pe_op op_add (pv 1) (pe_callF (ok_law_take T) (hr.mono (by decide)) (by rfl) T.g_law_take passL (pa_cons (pv 0) (pa_cons pe_int pa_nil)))) pa_nil))) (pps_cons pe_str pe_non (pps_cons pe_str pe_non pps_nil)))) (by rfl) (by rfl) (fun z => by cases z) (by decide)))
    (pss_cons (ps_dput (hu_of hr) (pv 2) pe_str (pe_lc (own := [("_law_turn", 3)]) (g := gName 3) (tt := tYes) rfl sc_law_case.nd (pi_range1 (by rfl) T.f_range (pa_cons (pe_callF (ok_law_pick T) (hr.mono (by decide)) (by rfl) T.g_law_pick passL (pa_cons (pv 0) (pa_cons (pe_lst (pa_cons pe_int (pa_cons pe_int (pa_cons pe_int (pa_cons pe_int (pa_cons pe_int (pa_cons pe_int (pa_cons pe_int pa_nil)))))))) pa_nil))) pa_nil)) (blkOk_by (own := [("_law_turn", 3)]) (N := ["_law_draw", "_law_floor", "_law_case_here", "_law_turn"]) (sc := defScope s_law_case) (by decide +kernel)) (fun _ _ _ _ _ => pg_name (i := 3) sc_law_case.nd rfl (Or.inl rfl)) (fun _ _ _ _ _ => pts_nil) (fun _ _ _ _ _ => (pe_callF (ok_law_part T) (hr.mono (by decide)) (by rfl) T.g_law_part passL (pa_cons (pv 0) pa_nil)))) rfl)
    (pss_cons (ps_if (pt_cmpR op_eq (pe_callF (ok_law_take T) (hr.mono (by decide)) (by rfl) T.g_law_take passL (pa_cons (pv 0) (pa_cons pe_int pa_nil))) pe_int (nomark _))
    (pss_one (ps_dput (hu_of hr) (pv 2) pe_str (pe_callF (ok_law_pick T) (hr.mono (by decide)) (by rfl) T.g_law_pick passL (pa_cons (pv 0) (pa_cons (pe_lst (pa_cons pe_int (pa_cons pe_int (pa_cons pe_int (pa_cons (pe_op op_add pe_int (pe_callF (ok_law_take T) (hr.mono (by decide)) (by rfl) T.g_law_take passL (pa_cons (pv 0) (pa_cons pe_int pa_nil)))) pa_nil))))) pa_nil))) rfl))
    pss_nil)
    (pss_cons (ps_if (pt_cmpR op_eq (pe_callF (ok_law_take T) (hr.mono (by decide)) (by rfl) T.g_law_take passL (pa_cons (pv 0) (pa_cons pe_int pa_nil))) pe_int (nomark _))
    (pss_one (ps_dput (hu_of hr) (pv 2) pe_str (pe_callF (ok_law_pick T) (hr.mono (by decide)) (by rfl) T.g_law_pick passL (pa_cons (pv 0) (pa_cons (pe_lst (pa_cons pe_int (pa_cons pe_int (pa_cons pe_int (pa_cons (pe_op op_add pe_int (pe_callF (ok_law_take T) (hr.mono (by decide)) (by rfl) T.g_law_take passL (pa_cons (pv 0) (pa_cons pe_int pa_nil)))) pa_nil))))) pa_nil))) rfl))
    pss_nil)
    (pss_cons (ps_asg (pe_tup (pa_cons (pe_callF (ok_law_pick T) (hr.mono (by decide)) (by rfl) T.g_law_pick passL (pa_cons (pv 0) (pa_cons (pe_lst (pa_cons pe_int (pa_cons pe_int (pa_cons pe_int (pa_cons pe_int pa_nil))))) pa_nil))) (pa_cons (pe_callF (ok_law_pick T) (hr.mono (by decide)) (by rfl) T.g_law_pick passL (pa_cons (pv 0) (pa_cons (pe_lst (pa_cons pe_int (pa_cons pe_int (pa_cons pe_int (pa_cons pe_int pa_nil))))) pa_nil))) pa_nil))) (pg_tup rfl (pgs_cons (pg_sub (pv 2) pe_str (set_dict (hu_of hr))) (pgs_cons (pg_sub (pv 2) pe_str (set_dict (hu_of hr))) pgs_nil))))
    (pss_one (ps_ret (pv 2))))))))), ?_⟩
  obtain ⟨d, l, Z, rfl, dz, k⟩ := h
  refine q_asgW (ew_pick (Φ := PI fun i => 1 ≤ i ∧ i ≤ 8) rfl (ew_lstI (n := 4) (ewl_cons (ew_c ⟨by decide, by decide⟩) (ewl_cons (ew_c ⟨by decide, by decide⟩) (ewl_cons (ew_c ⟨by decide, by decide⟩) (ewl_cons (ew_c ⟨by decide, by decide⟩) (ewl_cons (ew_I (A := fun i => i = 1) (B := fun r => 0 ≤ r ∧ r < 8) (ew_c rfl) (ew_takeC rfl ⟨by decide, by decide⟩ fun r r0 r1 => ⟨r0, r1⟩) fun i j hi hj => by omega) ewl_nil))))) (by decide))) dz fun v Z1 H1 m1 dz1 ⟨lo, ev, lo1, lo8⟩ => ?_
  subst ev
  refine fun p hp => ?_
  have b0 : Bld d l p Z1 H1 Z1 (upd H1 p (.dK [])) [] := Bld.new dz1 hp
  refine pairs_go ⟨_, rfl, pairs_go ?_⟩
  refine ew_min2 (C := fun i => lo ≤ i ∧ i ≤ 8) (ew_c (P := fun i => i = 8) rfl) (ew_I (C := fun i => lo ≤ i) (ew_v (P := fun i => i = lo) rfl rfl) (ew_takeC (P := fun r => 0 ≤ r) rfl ⟨by decide, by decide⟩ fun r r0 _ => r0) fun i j hi hj => by omega) (fun i j hi hj => by split <;> omega) _ b0.dz _ fun v Z2 H2 m2 dz2 ⟨hi, ev, hi1, hi8⟩ => ?_
  subst ev
  have b2 := b0.step m2 dz2
  refine ⟨b2.hp, [(.inr "least", .int lo), (.inr "most", .int hi), (.inr "rise", .non), (.inr "fall", .non)], rfl, Nat.le_of_ble_eq_true rfl, ?_⟩
  have b3 : Bld d l p Z1 H1 Z2 _ [(.inr "least", .int lo), (.inr "most", .int hi), (.inr "rise", .non), (.inr "fall", .non)] := b2.put
  refine q_dputW b3 (ew_lcR (Φ := PartW K) (B := 4) (by decide) partW_mono (ew_pick (Φ := PI fun i => 0 ≤ i ∧ i ≤ 4) rfl (ew_lstI (n := 6) (ewl_cons (ew_c ⟨by decide, by decide⟩) (ewl_cons (ew_c ⟨by decide, by decide⟩) (ewl_cons (ew_c ⟨by decide, by decide⟩) (ewl_cons (ew_c ⟨by decide, by decide⟩) (ewl_cons (ew_c ⟨by decide, by decide⟩) (ewl_cons (ew_c ⟨by decide, by decide⟩) (ewl_cons (ew_c ⟨by decide, by decide⟩) ewl_nil))))))) (by decide))) (fun _ => rfl) fun x Z3 e3 => ew_callA (ea_cons (ev_var rfl) ea_nil) w_law_part partW_mono) (fun H => ev_var rfl) (Nat.le_of_ble_eq_true rfl) fun pl Z4 H4 ⟨pa, xs, epl, zpa, hxl, hxs⟩ e4 b4 => ?_
  subst epl
  obtain ⟨ps, dps, ops, lps⟩ := parts_of hxs
  have hpl : LsD K Z4 (.ref pa) (ps.map dPart) := ⟨pa, xs, rfl, zpa, dps⟩
  -- rise, fall: none or 1 .. 8
  have opt : ∀ (σ : L2.St) (key : Str) (kv kv2 : V → List (Key × V)) (Z5 H5 : Hp) (tz : TS) (D : Ends), σ[0]? = some (some (.ref d)) → σ[2]? = some (some (.ref p)) → (∀ v, (kv v).length ≤ 100) → (∀ v, putK (kv .non) (.inr key) v = kv v) → Bld d l p Z1 H1 Z5 H5 (kv .non) →
      (∀ o Z6 H6, ok8 o → Ex Z5 Z6 → Bld d l p Z1 H1 Z6 H6 (kv (oV o)) → tz D σ H6) →
      tSeq (tIfS (tTest (tOp rEq (tCall (sp_law_take K) [] E0 (tCons (tVar 0) (tCons (tC (.int 3)) tNil))) (tC (.int 0)))) (sDPut (tVar 2) (tC (.str key)) (tCall (sp_law_pick K) [] E0 (tCons (tVar 0) (tCons (tLst (tCons (tC (.int 1)) (tCons (tC (.int 2)) (tCons (tC (.int 3)) (tCons (tOp (rI0 fun i j => .int (i + j)) (tC (.int 1)) (tCall (sp_law_take K) [] E0 (tCons (tVar 0) (tCons (tC (.int 8)) tNil)))) tNil))))) tNil)))) tNext) tz D σ H5 := by
    intro σ key kv kv2 Z5 H5 tz D h0 h2 hl hput b kk
    refine q_whenW (ewt_eq (ew_takeC (P := fun _ => True) h0 ⟨by decide, by decide⟩ fun _ _ _ => trivial)) b.dz (fun Z6 H6 m6 dz6 _ => ?_) (fun Z6 H6 m6 dz6 _ => kk none Z6 H6 (fun i e => nomatch e) m6.z (b.step m6 dz6))
    refine s_dputW (b.step m6 dz6) (ew_up83 h0) (fun H => ev_var h2) (hl _) fun v Z7 H7 ⟨i, ev, hi⟩ e7 b7 => ?_
    subst ev
    rw [hput] at b7
    exact kk (some i) Z7 H7 (fun j e => by cases e; exact hi) (m6.z.trans e7) b7
  refine opt _ "rise" (fun v => [(.inr "least", .int lo), (.inr "most", .int hi), (.inr "rise", v), (.inr "fall", .non), (.inr "parts", .ref pa)]) (fun _ => []) Z4 H4 _ _ rfl rfl (fun _ => Nat.le_of_ble_eq_true rfl) (fun _ => rfl) b4 fun ri Z5 H5 ori e5 b5 => ?_
  refine opt _ "fall" (fun v => [(.inr "least", .int lo), (.inr "most", .int hi), (.inr "rise", oV ri), (.inr "fall", v), (.inr "parts", .ref pa)]) (fun _ => []) Z5 H5 _ _ rfl rfl (fun _ => Nat.le_of_ble_eq_true rfl) (fun _ => rfl) b5 fun fa Z6 H6 ofa e6 b6 => ?_
  refine ew_win (K := K) rfl H6 b6.dz _ fun v Z7 H7 m7 dz7 ⟨up, ev, u1, u3⟩ => ew_win (K := K) rfl H7 dz7 _ fun u Z8 H8 m8 dz8 ⟨dn, eu, d1, d3⟩ => ⟨Nat.le_of_ble_eq_true rfl, fun q hq => ?_⟩
  subst ev eu
  have b9 := ((b6.step m7 dz7).step m8 dz8).gr (Gr.new (o := .tup [.int up, .int dn]) dz8.z hq)
  have b10 := b9.put (kv' := [(.inr "least", .int lo), (.inr "most", .int hi), (.inr "rise", oV ri), (.inr "fall", oV fa), (.inr "parts", .ref pa), (.inr "up", .int up)])
  have b11 := b10.put (kv' := ckv ⟨ps, lo, hi, ri, fa, up, dn⟩ (.ref pa))
  refine ⟨q, _, rfl, st_of upd_same, rfl, _, _, rfl, ⟨_, rfl, p, _, rfl, DPut.k (k := .inr "up") b9.hp (sz_lt (Nat.le_of_ble_eq_true rfl)), _, _, rfl, ⟨_, rfl, p, _, rfl, DPut.k (k := .inr "down") b10.hp (sz_lt (Nat.le_of_ble_eq_true rfl)), rfl, _, rfl, ?_⟩⟩⟩
  obtain ⟨mf, dzf, ef⟩ := b11.done
  have hlen : ps.length ≤ 4 := by rw [lps]; exact hxl
  have ok : okR ⟨ps, lo, hi, ri, fa, up, dn⟩ := ⟨by unfold okPs; rw [show Rl.parts ⟨ps, lo, hi, ri, fa, up, dn⟩ = ps from rfl, ops, decide_eq_true hlen]; rfl, lo1, hi1, hi8, ori, ofa, u1, u3, d1, d3⟩
  exact k _ _ _ (m1.trans mf) dzf ⟨_, ⟨p, .ref pa, rfl, upd_same, (((((hpl.mv e5).mv e6).mv m7.z).mv m8.z).mv ef)⟩, ok⟩
end
end K74

/-! F5 -/
set_option Elab.async false
set_option linter.all false
set_option maxRecDepth 100000
set_option maxHeartbeats 4000000
namespace K74
open PySem PySem.Spec PyProof.Rows L2
open Evl hiding tCut pss_cut
section
variable {P : Program} [hPT : PT P] {w : World} {K : Frag} {mg : Str → Option Value} {base : Heap}
section
variable {σ : L2.St} {H : Hp} {ta : TE} {v : V} {r : Rl}
theorem ev_c_least (ha : Ev ta σ H v) (h : CaseAt K H v r) : Ev (tDGet ta (tC (.str "least"))) σ H (.int r.least) := by obtain ⟨a, pl, rfl, q, _⟩ := h; exact ev_dget ha q rfl
theorem ev_c_most (ha : Ev ta σ H v) (h : CaseAt K H v r) : Ev (tDGet ta (tC (.str "most"))) σ H (.int r.most) := by obtain ⟨a, pl, rfl, q, _⟩ := h; exact ev_dget ha q rfl
theorem ev_c_rise (ha : Ev ta σ H v) (h : CaseAt K H v r) : Ev (tDGet ta (tC (.str "rise"))) σ H (oV r.rise) := by obtain ⟨a, pl, rfl, q, _⟩ := h; exact ev_dget ha q rfl
theorem ev_c_fall (ha : Ev ta σ H v) (h : CaseAt K H v r) : Ev (tDGet ta (tC (.str "fall"))) σ H (oV r.fall) := by obtain ⟨a, pl, rfl, q, _⟩ := h; exact ev_dget ha q rfl
theorem ev_c_up (ha : Ev ta σ H v) (h : CaseAt K H v r) : Ev (tDGet ta (tC (.str "up"))) σ H (.int r.up) := by obtain ⟨a, pl, rfl, q, _⟩ := h; exact ev_dget ha q rfl
theorem ev_c_down (ha : Ev ta σ H v) (h : CaseAt K H v r) : Ev (tDGet ta (tC (.str "down"))) σ H (.int r.down) := by obtain ⟨a, pl, rfl, q, _⟩ := h; exact ev_dget ha q rfl
theorem ev_c_parts (ha : Ev ta σ H v) (h : CaseAt K H v r) : ∃ a xs, Ev (tDGet ta (tC (.str "parts"))) σ H (.ref a) ∧ H a = some (.lst xs) ∧ DpAll K H xs (r.parts.map dPart) := by
  obtain ⟨a, pl, rfl, q, p, xs, rfl, hp, d⟩ := h
  exact ⟨p, xs, ev_dget ha q rfl, hp, d⟩
theorem ev_max2' {ta tb : TE} {i j : Int} (ha : Ev ta σ H (.int i)) (hb : Ev tb σ H (.int j)) : Ev (tCB (fun xs H Q => ∃ i j, xs = [.int i, .int j] ∧ Q (.int (if j > i then j else i)) H) (tCons ta (tCons tb tNil))) σ H (.int (if j > i then j else i)) :=
  ev_cb (ea_cons ha (ea_cons hb ea_nil)) fun H1 e Q q => ⟨i, j, rfl, q _ (Ex.refl _)⟩
theorem ev_psz' (ha : Ev ta σ H v) (h : CaseAt K H v r) (o : okR r) : Ev (tOp (rI0 fun i j => .int (i - j)) (tCB (fun xs H Q => ∃ i j, xs = [.int i, .int j] ∧ Q (.int (if j > i then j else i)) H) (tCons (tDGet ta (tC (.str "up"))) (tCons (tDGet ta (tC (.str "down"))) tNil))) (tC (.int 1))) σ H (.int (psz r)) := by
  have e : (if r.down > r.up then r.down else r.up) - 1 = (psz r : Int) := by
    rw [← psz_max o]
    split <;> omega
  rw [← e]
  exact ev_I (ev_max2' (ev_c_up ha h) (ev_c_down ha h)) ev_c
end
/-! _law_is_int -/
def sp_law_is_int (K : Frag) : Sp := fun vs H Q _ => ∃ x lo hi : Int, vs = [.int x, .int lo, .int hi] ∧ ∀ H', Ex H H' → Q (.bl (decide (lo ≤ x) && decide (x ≤ hi))) H'
theorem kit_ii : PySem.W.kitOne K (.type "int") (.type "int") = some true := kit_ty (by decide +kernel)
theorem kit_ib : PySem.W.kitOne K (.type "int") (.type "bool") = some false := kit_ty (by decide +kernel)
theorem sc_law_is_int : FnScope ["_law_worth", "_law_first_here", "_law_last"] ["_law_worth", "_law_first_here", "_law_last"] (defScope s_law_is_int) := ⟨rfl, rfl, rfl, by decide +kernel, rfl, by decide +kernel, by decide +kernel⟩
theorem ok_law_is_int (T : Txt w K mg) : FB P w K mg base 1 (He.ga K "_law_is_int") ["_law_worth", "_law_first_here", "_law_last"] (sp_law_is_int K) := by
  refine FB.of T.F_law_is_int sc_law_is_int (fun _ _ _ _ _ _ us hl => match us, hl with | [_, _, _], _ => rfl) (by rintro vs H Q E ⟨_, _, _, rfl, _⟩; rfl) (fun cdv A outer s H vs Q E hr h => ?_)
  refine ⟨_, (pss_one (ps_ret (pe_and (pe_callB call_isi (by rfl) T.f_isinstance (by decide +kernel) (pa_cons (pv 0) (pa_cons (pe_bltn (by rfl) T.f_int (by decide +kernel) (v := .ty "int") rfl) pa_nil))) (pe_and (pe_not (pe_callB call_isi (by rfl) T.f_isinstance (by decide +kernel) (pa_cons (pv 0) (pa_cons (pe_bltn (by rfl) T.f_bool (by decide +kernel) (v := .ty "bool") rfl) pa_nil)))) (pe_one (pe_chain op_le op_le (pv 1) (pv 0) (pv 2))))))), ?_⟩
  obtain ⟨x, lo, hi, rfl, k⟩ := h
  exact s_ret (ev_is (ev_andV (ev_isi (ev_var rfl) tyx_i kit_ii) fun _ => ev_andV (ev_notV (ev_isi (ev_var rfl) tyx_i kit_ib)) fun _ => ev_chain (ev_var rfl) (ev_var rfl) (ev_var rfl) rv_I0 rv_I0) rfl) k
theorem v_law_is_int {H : Hp} {x lo hi : Int} : SpV (sp_law_is_int K) [.int x, .int lo, .int hi] H (.bl (decide (lo ≤ x) && decide (x ≤ hi))) := fun H1 e Q q E => ⟨x, lo, hi, rfl, q⟩
/-! _law_first -/
def sp_law_first (K : Frag) : Sp := fun vs H Q _ => ∃ v r n Z, vs = [v, .int n] ∧ Ex Z H ∧ CaseAt K Z v r ∧ okR r ∧ ∀ x Z' H', Gr Z H Z' H' → Dp K Z' x (dSt (first r n)) → Q x H'
theorem sc_law_first : FnScope ["_law_case_here", "_law_servers_here"] ["_law_case_here", "_law_servers_here"] (defScope s_law_first) := ⟨rfl, rfl, rfl, by decide +kernel, rfl, by decide +kernel, by decide +kernel⟩
theorem ok_law_first (T : Txt w K mg) : FB P w K mg base 1 (He.ga K "_law_first") ["_law_case_here", "_law_servers_here"] (sp_law_first K) := by
  refine FB.of T.F_law_first sc_law_first (fun _ _ _ _ _ _ us hl => match us, hl with | [_, _], _ => rfl) (by rintro vs H Q E ⟨_, _, _, _, rfl, _⟩; rfl) (fun cdv A outer s H vs Q E hr h => ?_)
  refine ⟨_, (pss_one (ps_ret (pe_tup (pa_cons (pv 1) (pa_cons (pe_op op_repA (pe_tup (pa_cons (pv 1) pa_nil)) (pe_op op_sub (pe_callB (call_max2 rfl) (by rfl) T.f_max (by decide +kernel) (pa_cons (pe_dget (hu_of hr) (pv 0) pe_str (fun _ _ => rfl)) (pa_cons (pe_dget (hu_of hr) (pv 0) pe_str (fun _ _ => rfl)) pa_nil))) pe_int)) pa_nil))))), ?_⟩
  obtain ⟨v, r, n, Z, rfl, hZ, hc, o, k⟩ := h
  have pz := psz_le o
  refine s_retG (ed_tup (K := K) (eda_cons (ed_int (ev_var rfl)) (eda_cons (ed_repA (ed_tup (eda_cons (ed_int (ev_var rfl)) eda_nil) (Nat.le_of_ble_eq_true rfl)) (ev_psz' (ev_var rfl) hc o) ⟨by omega, by omega⟩) eda_nil)) (Nat.le_of_ble_eq_true rfl)) hZ fun v Z2 H2 g p => ?_
  refine k v Z2 H2 g ?_
  rw [dSt_first]
  exact p
theorem g_law_first {Z : Hp} {v : V} {r : Rl} {n : Int} (h : CaseAt K Z v r) (o : okR r) : SpG (sp_law_first K) [v, .int n] Z (fun x Z2 => Dp K Z2 x (dSt (first r n))) := fun H1 e Q q E => ⟨v, r, n, Z, rfl, e, h, o, q⟩
/-! _law_servers -/
def sp_law_servers (K : Frag) : Sp := fun vs H Q _ => ∃ (d : Addr) (l : Addr × Addr) (Z : Hp) (v : V) (r : Rl), vs = [.ref d, v] ∧ DZ Z H d l ∧ CaseAt K Z v r ∧ okR r ∧ ∀ x Z' H', Mv (DS d l) Z H Z' H' → DZ Z' H' d l → PI (fun n => r.least ≤ n ∧ n ≤ r.most) x Z' → Q x H'
theorem w_law_servers {Z : Hp} {d : Addr} {l : Addr × Addr} {v : V} {r : Rl} (h : CaseAt K Z v r) (o : okR r) : SpW d l (sp_law_servers K) [.ref d, v] Z (PI fun n => r.least ≤ n ∧ n ≤ r.most) := fun H dz Q q E => ⟨d, l, Z, v, r, rfl, dz, h, o, q⟩
theorem sc_law_servers : FnScope ["_law_draw", "_law_case_here"] ["_law_draw", "_law_case_here"] (defScope s_law_servers) := ⟨rfl, rfl, rfl, by decide +kernel, rfl, by decide +kernel, by decide +kernel⟩
theorem ok_law_servers (T : Txt w K mg) : FB P w K mg base 2 (He.ga K "_law_servers") ["_law_draw", "_law_case_here"] (sp_law_servers K) := by
  refine FB.of T.F_law_servers sc_law_servers (fun _ _ _ _ _ _ us hl => match us, hl with | [_, _], _ => rfl) (by rintro vs H Q E ⟨_, _, _, _, _, rfl, _⟩; rfl) (fun cdv A outer s H vs Q E hr h => ?_)
  refine ⟨_, (pss_one (ps_ret (pe_op op_add (pe_dget (hu_of hr) (pv 1) pe_str (fun _ _ => rfl)) (pe_callF (ok_law_take T) (hr.mono (by decide)) (by rfl) T.g_law_take passL (pa_cons (pv 0) (pa_cons (pe_op op_add (pe_op op_sub (pe_dget (hu_of hr) (pv 1) pe_str (fun _ _ => rfl)) (pe_dget (hu_of hr) (pv 1) pe_str (fun _ _ => rfl))) pe_int) pa_nil)))))), ?_⟩
  obtain ⟨d, l, Z, v, r, rfl, dz, hc, o, k⟩ := h
  have := o.l1
  have := o.lm
  have := o.m8
  exact s_retW (ew_I (C := fun n => r.least ≤ n ∧ n ≤ r.most) (ew_int (P := fun i => i = r.least) (ev_c_least (ev_var rfl) hc) rfl) (ew_take (P := fun x => 0 ≤ x ∧ x ≤ r.most - r.least) rfl (ew_int (P := fun i => i = r.most - r.least + 1) (ev_I (ev_I (ev_c_most (ev_var rfl) hc) (ev_c_least (ev_var rfl) hc)) ev_c) rfl) (fun i hi => by omega) fun i x hi h0 h1 => by omega) fun i j hi hj => by omega) dz k
/-! _law_rule -/
theorem q_disp {σ : L2.St} {H : Hp} {trs : List (TE × TE)} {i : Nat} {D : Ends} {tz : TS} (k : ∀ p, H p = none → tPairs trs σ (upd H p (.dK [])) fun ps H2 => H2 p = some (.dK []) ∧ ∃ kvs : List (Key × V), ps = kvs.map (fun kv => (kV kv.1, kv.2)) ∧ kvs.length ≤ 15 ∧ tz D (σ.set i (some (.ref p))) (upd H2 p (.dK (mergeK [] kvs)))) :
    tSeq (tAsg (tDisp trs) (gName i)) tz D σ H := k
theorem retK_go {σ : L2.St} {H : Hp} {C : Addr} {n m : Nat} {sp : Sp} {gV : List V → List V → List V} {E : XK} {t tk : TA} {D : Ends} (k : t σ H fun vs H1 => tk σ H1 fun zs H2 => vs.length = n ∧ zs.length = m ∧ ∀ x dx, H2 x = none → H2 dx = none → dx ≠ x →
    sp (gV (.ref x :: vs) zs) (upd (upd H2 dx (.own x)) x (.ins C dx [])) (fun v H3 => v = .non ∧ D.rt (.ref x) H3) E) : tRet (tMakeK C n m sp gV E t tk) D σ H := k
theorem nil_go {σ : L2.St} {H : Hp} {Q : List V → Hp → Prop} (k : Q [] H) : tNil σ H Q := k
theorem ta_ev {σ : L2.St} {H : Hp} {ta : TA} {vs : List V} {Q : List V → Hp → Prop} (h : EvA ta σ H vs) (k : ∀ H1, Ex H H1 → Q vs H1) : ta σ H Q := h H (Ex.refl _) _ k
theorem ev_listF {σ : L2.St} {H : Hp} {te : TE} {tr : TA} {a : Addr} {xs : List V} {Q : List V → Hp → Prop} (h : Ev te σ H (.ref a)) (s : SqL K H a xs) (k : ∀ p H1, Ex H H1 → H1 p = none → tr σ (upd H1 p (.lst xs)) fun ys H2 => Q (.ref p :: ys) H2) :
    tCons (tCB (rListS K) (tCons te tNil)) tr σ H Q := h H (Ex.refl _) _ fun H1 e1 => ⟨a, xs, rfl, .inl (ex_l e1 s), fun l hl => k l H1 e1 hl⟩
def sp_law_rule (K : Frag) : Sp := fun vs H Q _ => ∃ (v : V) (r : Rl) (Z : Hp), vs = [v] ∧ Ex Z H ∧ CaseAt K Z v r ∧ okR r ∧ ∀ x Z' H', Gr Z H Z' H' → RuleAt K Z' x r → Q x H'
theorem sc_law_rule : FnScope ["_law_case_here", "_law_limits", "_law_more"] ["_law_case_here"] (defScope s_law_rule) := ⟨rfl, rfl, rfl, by decide +kernel, rfl, by decide +kernel, by decide +kernel⟩
theorem ok_law_rule (T : Txt w K mg) : FB P w K mg base 8 (He.ga K "_law_rule") ["_law_case_here"] (sp_law_rule K) := by
  obtain ⟨fdR, FR, kbR, dsR, hdR, bdR⟩ := ok_Rule_init (P := P) (base := base) T
  refine FB.of T.F_law_rule sc_law_rule (fun _ _ _ _ _ _ us hl => match us, hl with | [_], _ => rfl) (by rintro vs H Q E ⟨_, _, _, rfl, _⟩; rfl) (fun cdv A outer s H vs Q E hr h => ?_)
  refine ⟨_, (pss_cons (ps_set (i := 1) sc_law_rule.nd rfl (Or.inl rfl) (pe_tup (pa_cons (pe_dget (hu_of hr) (pv 0) pe_str (fun _ _ => rfl)) (pa_cons (pe_dget (hu_of hr) (pv 0) pe_str (fun _ _ => rfl)) (pa_cons (pe_dget (hu_of hr) (pv 0) pe_str (fun _ _ => rfl)) (pa_cons (pe_dget (hu_of hr) (pv 0) pe_str (fun _ _ => rfl)) pa_nil))))))
    (pss_cons (ps_set (i := 2) sc_law_rule.nd rfl (Or.inl rfl) (pe_disp (pps_cons pe_str (pe_dget (hu_of hr) (pv 0) pe_str (fun _ _ => rfl)) (pps_cons pe_str (pe_dget (hu_of hr) (pv 0) pe_str (fun _ _ => rfl)) pps_nil)) (by rfl) (by rfl) (fun z => by cases z) (by decide)))
    (pss_one (ps_ret (pe_makeK T.mk_Rule FR (hr.mono (by decide)) (by rfl) T.g_Rule kbR passL (pa_cons (pe_callTy call_list_of (by rfl) T.f_list (by decide +kernel) (pa_cons (pe_dget (hu_of hr) (pv 0) pe_str (fun _ _ => rfl)) pa_nil)) pa_nil) (pk_cons (pe_dget (hu_of hr) (pv 2) pe_str (fun _ _ => rfl)) (pk_cons (pe_dget (hu_of hr) (pv 2) pe_str (fun _ _ => rfl)) (pk_cons (pe_ix ix_tup (pv 1) pe_int (fun _ _ => rfl)) (pk_cons (pe_ix ix_tup (pv 1) pe_int (fun _ _ => rfl)) (pk_cons (pe_ix ix_tup (pv 1) pe_int (fun _ _ => rfl)) (pk_cons (pe_ix ix_tup (pv 1) pe_int (fun _ _ => rfl)) pk_nil))))))))))), ?_⟩
  obtain ⟨v, r, Z, rfl, hZ, hc, o, k⟩ := h
  have hcH := hc.mv hZ
  refine q_asgU (eu_tup (ea_cons (ev_c_rise (ev_var rfl) hcH) (ea_cons (ev_c_fall (ev_var rfl) hcH) (ea_cons (ev_c_up (ev_var rfl) hcH) (ea_cons (ev_c_down (ev_var rfl) hcH) ea_nil)))) (Nat.le_of_ble_eq_true rfl)) fun p H1 hp e1 lp => ?_
  have hc1 := hcH.mv e1
  refine q_disp fun q hq => pairs_go ?_
  have hc2 := hc1.mv (Ex.new (o := .dK []) hq)
  refine Ev.to (ev_c_least (ev_var rfl) hc2) fun H2 e2 => pairs_go (Ev.to (ev_c_most (ev_var rfl) (hc2.mv e2)) fun H3 e3 => ?_)
  have e03 : Ex H1 H3 := ((Ex.new hq).trans e2).trans e3
  have q3 := e3 _ _ (e2 _ _ (upd_same (H := H1) (a := q) (o := .dK [])))
  refine ⟨q3, [(.inr "least", .int r.least), (.inr "most", .int r.most)], rfl, Nat.le_of_ble_eq_true rfl, ?_⟩
  have hq0 : H q = none := Same.free e1 hq
  have e4 : Ex H (upd H3 q (.dK [(.inr "least", .int r.least), (.inr "most", .int r.most)])) := fun b u z => by rw [upd_ne (ne_of_none z hq0)]; exact e03 _ _ (e1 _ _ z)
  have mq := upd_same (H := H3) (a := q) (o := .dK [(.inr "least", .int r.least), (.inr "most", .int r.most)])
  have npq : p ≠ q := fun z => by rw [z, hq] at lp; cases lp
  have lq : SqT K (upd H3 q (.dK [(.inr "least", .int r.least), (.inr "most", .int r.most)])) p [oV r.rise, oV r.fall, .int r.up, .int r.down] := SqT.of (by rw [upd_ne npq]; exact e03 _ _ lp)
  have hc4 := hcH.mv e4
  obtain ⟨ca, cpl, rfl, c1, pa, xs, rfl, c2, c3⟩ := id hc
  have hpa := e4 _ _ (hZ _ _ c2)
  have evp : Ev (tDGet (tVar 0) (tC (.str "parts"))) [some (.ref ca), some (.ref p), some (.ref q)] (upd H3 q (.dK [(.inr "least", .int r.least), (.inr "most", .int r.most)])) (.ref pa) := ev_dget (ev_var rfl) (e4 _ _ (hZ _ _ c1)) rfl
  have em : mergeK [] [((.inr "least" : Key), V.int r.least), (.inr "most", .int r.most)] = [(.inr "least", .int r.least), (.inr "most", .int r.most)] := rfl
  rw [em]
  refine retK_go (ev_listF evp (sq_of hpa) fun nl H5 e5 hn => ?_)
  have e45 := e4.trans e5
  have e5n := e5.trans (Ex.new (o := .lst xs) hn)
  have mq5 := e5n _ _ mq
  have lq5 := ex_t e5n lq
  refine nil_go (ta_ev (ea_cons (ev_dget (ev_var rfl) mq5 rfl) (ea_cons (ev_dget (ev_var rfl) mq5 rfl) (ea_cons (ev_ixT (ev_var rfl) lq5 rfl) (ea_cons (ev_ixT (ev_var rfl) lq5 rfl) (ea_cons (ev_ixT (ev_var rfl) lq5 rfl) (ea_cons (ev_ixT (ev_var rfl) lq5 rfl) ea_nil)))))) fun H6 e6 => ⟨rfl, rfl, fun x dx hx hd hne => ?_⟩)
  have g0 : Gr Z H Z H5 := Gr.of hZ e45
  have g6 := (g0.trans (Gr.newZ (o := .lst xs) g0.h hn)).trans (Gr.of (g0.trans (Gr.newZ (o := .lst xs) g0.h hn)).h e6)
  have zn := Same.free g0.h hn
  have eZ : Ex Z (upd Z nl (.lst xs)) := K74.same_new zn
  exact init_run (r := r) (Z := upd Z nl (.lst xs)) g6.h ⟨nl, xs, rfl, .inl upd_same, c3.mv eZ⟩ (by have := o.len; omega) o.b hx hd hne (fun _ Z' H' g hr' => k _ _ _ (g6.trans g) hr') (fun h => by rw [o.ps] at h; cases h)
end
end K74

/-! F6 -/
set_option Elab.async false
set_option linter.all false
set_option maxRecDepth 100000
set_option maxHeartbeats 4000000
namespace K74
open PySem PySem.Spec PyProof.Rows L2
open Evl hiding tCut pss_cut
section
variable {P : Program} [hPT : PT P] {w : World} {K : Frag} {mg : Str → Option Value} {base : Heap}
/-! _law_fraction -/
theorem frac_ok {t b : Int} (ht : 0 ≤ t) (hb : 1 ≤ b) (t1 : t ≤ 1000000) (b1 : b ≤ 1000) : (0 < (Int.gcd t b : Int) ∧ (Int.gcd t b : Int) < 1073741824) ∧ okLd (t / (Int.gcd t b : Int), b / (Int.gcd t b : Int)) := by
  obtain ⟨m, rfl⟩ := Int.eq_ofNat_of_zero_le ht
  obtain ⟨n, rfl⟩ := Int.eq_ofNat_of_zero_le (show (0 : Int) ≤ b by omega)
  have hg : 0 < Nat.gcd m n := Nat.gcd_pos_of_pos_right m (by omega)
  have hle : Nat.gcd m n ≤ n := Nat.gcd_le_right m (by omega)
  have e1 : Int.gcd (m : Int) (n : Int) = Nat.gcd m n := rfl
  rw [e1]
  refine ⟨⟨by omega, by omega⟩, ?_⟩
  have d1 : ((m : Int) / (Nat.gcd m n : Int)) = ((m / Nat.gcd m n : Nat) : Int) := rfl
  have d2 : ((n : Int) / (Nat.gcd m n : Int)) = ((n / Nat.gcd m n : Nat) : Int) := rfl
  have l1 : m / Nat.gcd m n ≤ m := Nat.div_le_self m _
  have l2 : n / Nat.gcd m n ≤ n := Nat.div_le_self n _
  have l3 : 1 ≤ n / Nat.gcd m n := Nat.div_pos hle hg
  have c : Nat.gcd (m / Nat.gcd m n) (n / Nat.gcd m n) = 1 := Nat.coprime_div_gcd_div_gcd hg
  refine ⟨?_, ?_, ?_, ?_, ?_⟩
  · exact Int.natCast_nonneg _
  · show (1 : Int) ≤ ((n / Nat.gcd m n : Nat) : Int); generalize n / Nat.gcd m n = q at l3; omega
  · exact c
  · show ((m / Nat.gcd m n : Nat) : Int) ≤ 1000000; generalize m / Nat.gcd m n = q at l1; omega
  · show ((n / Nat.gcd m n : Nat) : Int) ≤ 1000; generalize n / Nat.gcd m n = q at l2; omega
def LdW (K : Frag) : V → Hp → Prop := fun v Z => ∃ ld, Dp K Z v (dLd ld) ∧ okLd ld
theorem ldW_mono : Mono (LdW K) := fun _ _ _ e ⟨p, q, r⟩ => ⟨p, q.mv e, r⟩
def sp_law_fraction (K : Frag) : Sp := fun vs H Q _ => ∃ (t b : Int) (Z : Hp), vs = [.int t, .int b] ∧ Ex Z H ∧ (0 ≤ t ∧ t ≤ 1000000) ∧ (1 ≤ b ∧ b ≤ 1000) ∧ ∀ v Z' H', Gr Z H Z' H' → LdW K v Z' → Q v H'
theorem s_par {σ : L2.St} {H : Hp} {i j : Nat} {ta : TA} {v u : V} {D : Ends} (h : EvA ta σ H [v, u]) (k : ∀ H1, Ex H H1 → D.nx ((σ.set i (some v)).set j (some u)) H1) : tPar i j ta D σ H := h H (Ex.refl _) _ fun H1 e => ⟨v, u, rfl, k H1 e⟩
theorem sc_law_fraction : FnScope ["_law_top", "_law_bottom", "_law_one", "_law_other"] ["_law_top", "_law_bottom"] (defScope s_law_fraction) := ⟨rfl, rfl, rfl, by decide +kernel, rfl, by decide +kernel, by decide +kernel⟩
theorem ok_law_fraction (T : Txt w K mg) : FB P w K mg base 1 (He.ga K "_law_fraction") ["_law_top", "_law_bottom"] (sp_law_fraction K) := by
  refine FB.of T.F_law_fraction sc_law_fraction (fun _ _ _ _ _ _ us hl => match us, hl with | [_, _], _ => rfl) (by rintro vs H Q E ⟨_, _, _, rfl, _⟩; rfl) (fun cdv A outer s H vs Q E hr h => ?_)
  refine ⟨_, (pss_cons (ps_par rfl sc_law_fraction.nd (i := 2) (j := 3) rfl rfl (by decide) rfl rfl (pa_cons (pv 0) (pa_cons (pv 1) pa_nil)) (by rfl))
    (pss_cons (ps_while (passes_of rfl) (pt_cmpR op_gt (pv 3) pe_int (nomark _)) (pss_one (ps_par rfl sc_law_fraction.nd (i := 2) (j := 3) rfl rfl (by decide) rfl rfl (pa_cons (pv 3) (pa_cons (pe_op op_mod (pv 2) (pv 3)) pa_nil)) (by rfl))))
    (pss_one (ps_ret (pe_tup (pa_cons (pe_op op_fdiv (pv 0) (pv 2)) (pa_cons (pe_op op_fdiv (pv 1) (pv 2)) pa_nil))))))), ?_⟩
  obtain ⟨t, b, Z, rfl, hZ, ⟨t0, t1⟩, ⟨b0, b1⟩, k⟩ := h
  obtain ⟨hg, okl⟩ := frac_ok t0 b0 t1 b1
  refine q_par (ea_cons (ev_var rfl) (ea_cons (ev_var rfl) ea_nil)) fun H1 e1 => ?_
  refine q_while (fun m σ' H' => ∃ a' b' : Int, σ' = [some (.int t), some (.int b), some (.int a'), some (.int b')] ∧ Ex H1 H' ∧ 0 ≤ a' ∧ 0 ≤ b' ∧ Int.gcd a' b' = Int.gcd t b ∧ m = b'.toNat) b.toNat ⟨t, b, rfl, Ex.refl _, t0, by omega, rfl, rfl⟩ (fun m σ' H' ⟨a', b', es, e2, ha', hb', g, em⟩ => ?_)
  subst es
  refine ⟨_, et_test (ev_I (ev_var rfl) ev_c), fun h H2 e3 => ?_, fun h H2 e3 => ?_⟩
  · have hlt : 0 < b' := of_decide_eq_true h
    refine ⟨fun σ2 H3 => ∃ a2 b2 : Int, σ2 = [some (.int t), some (.int b), some (.int a2), some (.int b2)] ∧ Ex H1 H3 ∧ 0 ≤ a2 ∧ 0 ≤ b2 ∧ Int.gcd a2 b2 = Int.gcd t b ∧ (a' % b').toNat = b2.toNat, fun σ2 H3 h => ⟨(a' % b').toNat, by have := Int.emod_lt_of_pos a' hlt; have := Int.emod_nonneg a' (show b' ≠ 0 by omega); omega, h⟩, ?_⟩
    exact s_par (ea_cons (ev_var rfl) (ea_cons (ev_IC (ev_var rfl) (ev_var rfl) hlt) ea_nil)) fun H4 e4 => ⟨b', a' % b', rfl, (e2.trans e3).trans e4, hb', Int.emod_nonneg _ (by omega), by rw [gcd_step ha' hlt, g], rfl⟩
  · have hn : ¬ 0 < b' := of_decide_eq_false h
    have h0 : b' = 0 := by omega
    subst h0
    rw [Int.gcd_zero_right] at g
    have e : a' = (Int.gcd t b : Int) := by rw [← g]; omega
    subst e
    have g0 : Gr Z H Z H2 := Gr.of hZ ((e1.trans e2).trans e3)
    exact s_retG (ed_tup (K := K) (ds := [.int (t / (Int.gcd t b : Int)), .int (b / (Int.gcd t b : Int))]) (eda_cons (ed_int (ev_IC (ev_var rfl) (ev_var rfl) hg)) (eda_cons (ed_int (ev_IC (ev_var rfl) (ev_var rfl) hg)) eda_nil)) (Nat.le_of_ble_eq_true rfl)) g0.h fun x Z2 H3 g2 p => k x Z2 H3 (g0.trans g2) ⟨(t / (Int.gcd t b : Int), b / (Int.gcd t b : Int)), p, okl⟩
theorem g_law_fraction {Z : Hp} {t b : Int} (ht : 0 ≤ t ∧ t ≤ 1000000) (hb : 1 ≤ b ∧ b ≤ 1000) : SpG (sp_law_fraction K) [.int t, .int b] Z (LdW K) := fun H1 e Q q E => ⟨t, b, Z, rfl, e, ht, hb, q⟩
/-! _law_wish -/
theorem ceil_eq {t c : Int} (hc : 0 < c) : 0 - (0 - t) / c = (t + c - 1) / c := by
  have h1 := Int.emod_add_mul_ediv (t + c - 1) c
  have h2 := Int.emod_add_mul_ediv (0 - t) c
  have r1 := Int.emod_nonneg (t + c - 1) (show c ≠ 0 by omega)
  have r2 := Int.emod_nonneg (0 - t) (show c ≠ 0 by omega)
  have r3 := Int.emod_lt_of_pos (t + c - 1) hc
  have r4 := Int.emod_lt_of_pos (0 - t) hc
  generalize (t + c - 1) / c = q at *
  generalize (0 - t) / c = s at *
  generalize (t + c - 1) % c = u at *
  generalize (0 - t) % c = v at *
  have e : c * (q + s) = c - 1 - u - v := by rw [Int.mul_add]; omega
  by_cases h : 1 ≤ q + s
  · have := Int.mul_le_mul_of_nonneg_left h (show 0 ≤ c by omega)
    rw [Int.mul_one] at this
    omega
  · by_cases h' : q + s ≤ -1
    · have := Int.mul_le_mul_of_nonneg_left h' (show 0 ≤ c by omega)
      rw [show c * -1 = -c by omega] at this
      omega
    · omega
theorem tag_oo : decide (V.str ("over" : Str) = V.str ("over" : Str)) = true := by decide +kernel
theorem tag_ou : decide (V.str ("over" : Str) = V.str ("under" : Str)) = false := by decide +kernel
theorem tag_oa : decide (V.str ("over" : Str) = V.str ("aim" : Str)) = false := by decide +kernel
theorem tag_uo : decide (V.str ("under" : Str) = V.str ("over" : Str)) = false := by decide +kernel
theorem tag_uu : decide (V.str ("under" : Str) = V.str ("under" : Str)) = true := by decide +kernel
theorem tag_ua : decide (V.str ("under" : Str) = V.str ("aim" : Str)) = false := by decide +kernel
theorem tag_ao : decide (V.str ("aim" : Str) = V.str ("over" : Str)) = false := by decide +kernel
theorem tag_au : decide (V.str ("aim" : Str) = V.str ("under" : Str)) = false := by decide +kernel
theorem tag_aa : decide (V.str ("aim" : Str) = V.str ("aim" : Str)) = true := by decide +kernel
def sp_law_wish (K : Frag) : Sp := fun vs H Q _ => ∃ v n lv r l, vs = [v, .int n, lv] ∧ CaseAt K H v r ∧ okR r ∧ (1 ≤ n ∧ n ≤ 8) ∧ LdZ K H lv l ∧ ∀ H', Ex H H' → Q (.int (wishL r.parts n l)) H'
theorem sc_law_wish : FnScope ["_law_case_here", "_law_servers_here", "_law_one", "_law_part_here", "_law_top", "_law_bottom", "_law_whole"] ["_law_case_here", "_law_servers_here", "_law_one"] (defScope s_law_wish) := ⟨rfl, rfl, rfl, by decide +kernel, rfl, by decide +kernel, by decide +kernel⟩
theorem ok_law_wish (T : Txt w K mg) : FB P w K mg base 1 (He.ga K "_law_wish") ["_law_case_here", "_law_servers_here", "_law_one"] (sp_law_wish K) := by
  refine FB.of T.F_law_wish sc_law_wish (fun _ _ _ _ _ _ us hl => match us, hl with | [_, _, _], _ => rfl) (by rintro vs H Q E ⟨_, _, _, _, _, rfl, _⟩; rfl) (fun cdv A outer s H vs Q E hr h => ?_)
  refine ⟨_, (pss_cons (ps_asg (pv 2) (pg_tup rfl (pgs_cons (pg_name (i := 4) sc_law_wish.nd rfl (Or.inl rfl)) (pgs_cons (pg_name (i := 5) sc_law_wish.nd rfl (Or.inl rfl)) pgs_nil))))
    (pss_cons (ps_for (passes_of rfl) rfl (pi_list (pe_dget (hu_of hr) (pv 0) pe_str (fun _ _ => rfl))) (pg_name (i := 3) sc_law_wish.nd rfl (Or.inl rfl))
    (pss_cons (ps_set (i := 6) sc_law_wish.nd rfl (Or.inl rfl) (pe_op op_mul (pv 1) (pv 5)))
    (pss_cons (ps_if (PW.pt (pw_and (pt_cmpR op_eq (pe_ix ix_tup (pv 3) pe_int (fun _ _ => rfl)) pe_str (nomark _)) (pw_and1 (pt_cmpR op_gt (pv 4) (pe_op op_mul (pe_ix ix_tup (pv 3) pe_int (fun _ _ => rfl)) (pv 6)) (nomark _)))))
    (pss_one (ps_ret (pe_op op_add (pv 1) (pe_ix ix_tup (pv 3) pe_int (fun _ _ => rfl)))))
    pss_nil)
    (pss_cons (ps_if (PW.pt (pw_and (pt_cmpR op_eq (pe_ix ix_tup (pv 3) pe_int (fun _ _ => rfl)) pe_str (nomark _)) (pw_and1 (pt_cmpR op_lt (pv 4) (pe_op op_mul (pe_ix ix_tup (pv 3) pe_int (fun _ _ => rfl)) (pv 6)) (nomark _)))))
    (pss_one (ps_ret (pe_op op_sub (pv 1) (pe_ix ix_tup (pv 3) pe_int (fun _ _ => rfl)))))
    pss_nil)
    (pss_one (ps_if (PW.pt (pw_and (pt_cmpR op_eq (pe_ix ix_tup (pv 3) pe_int (fun _ _ => rfl)) pe_str (nomark _)) (pw_and1 (PW.pt (pw_or (pt_cmpR op_lt (pv 4) (pe_op op_mul (pe_ix ix_tup (pv 3) pe_int (fun _ _ => rfl)) (pv 6)) (nomark _)) (pw_or1 (pt_cmpR op_gt (pv 4) (pe_op op_mul (pe_ix ix_tup (pv 3) pe_int (fun _ _ => rfl)) (pv 6)) (nomark _))))))))
    (pss_one (ps_ret (pe_op op_sub pe_int (pe_op op_fdiv (pe_op op_sub pe_int (pv 4)) (pe_op op_mul (pe_ix ix_tup (pv 3) pe_int (fun _ _ => rfl)) (pv 5))))))
    pss_nil))))))
    (pss_one (ps_ret (pv 1))))), ?_⟩
  obtain ⟨v, n, lv, r, l, rfl, hc, o, hn, hl, k⟩ := h
  obtain ⟨⟨la, rfl, sl⟩, ol⟩ := id hl
  obtain ⟨t0, b1, gg, tm, bm⟩ := id ol
  obtain ⟨ca, cpl, rfl, c1, pa, xs, rfl, c2, c3⟩ := id hc
  refine q_unp2 (ev_var rfl) sl fun H1 e1 => ?_
  refine q_forL (xs := xs) (ev_dget (ev_var rfl) (e1 _ _ c1) rfl) (sq_of (e1 _ _ c2)) (fun i σ' H' => ∃ o3 o6, σ' = [some (.ref ca), some (.int n), some (.ref la), o3, some (.int l.1), some (.int l.2), o6] ∧ Ex H H' ∧ wishL (r.parts.drop i) n l = wishL r.parts n l) (fun H2 e2 => ⟨_, _, rfl, e1.trans e2, rfl⟩) (fun i σ' H' _ ⟨_, _, _, e, _⟩ => sq_of (e _ _ c2)) (fun i x σ' H' hx ⟨o3, o6, es, e, ew⟩ => ?_) (fun σ' H' ⟨o3, o6, es, e, ew⟩ => ?_)
  · subst es
    obtain ⟨p, ep, dp⟩ := DpAll.get c3 hx
    have okp : okP p = true := List.all_eq_true.mp o.allP p (List.mem_of_getElem? ep)
    rw [wishL_at ep] at ew
    refine q_asg (ev_IC (ev_var rfl) (ev_var rfl) (cmul ⟨by omega, by omega⟩)) fun H2 e2 => ?_
    have e02 := e.trans e2
    obtain ⟨a, rfl, sq⟩ := part_at (dp.mv e02)
    have tg : ∀ (H3 : Hp) (nm t : Str) (ys : List V) (σ3 : L2.St), SqT K H3 a (.str nm :: ys) → σ3[3]? = some (some (.ref a)) → Ev (tOp rEq (tOp (rIxT K) (tVar 3) (tC (.int 0))) (tC (.str t))) σ3 H3 (.bl (decide (V.str nm = V.str t))) := fun H3 nm t ys σ3 s3 h3 => ev_eq (ev_ixT (ev_var h3) s3 at0) ev_c rfl
    have go : ∀ {y : Int} {H3 : Hp}, wishP n l p = some y → Ex H H3 → Q (.int y) H3 := fun {y H3} ey e3 => by
      rw [ey] at ew
      have ew' : y = wishL r.parts n l := ew
      rw [ew']
      exact k H3 e3
    have nx : ∀ {H3 : Hp}, wishP n l p = none → wishL (r.parts.drop (i + 1)) n l = wishL r.parts n l := fun {H3} ey => by
      rw [ey] at ew
      exact ew
    have mul3 : ∀ m : Int, m * (n * l.2) = m * n * l.2 := fun m => (Int.mul_assoc m n l.2).symm
    cases p with
    | over m c =>
      obtain ⟨hm, hk⟩ := okP_over okp
      refine q_when (et_and (et_is (et_test (tg _ "over" _ _ _ sq rfl)) tag_oo) fun _ => et_test (ev_I (ev_var rfl) (ev_IC (ev_ixT (ev_var rfl) sq rfl) (ev_var rfl) (cmul ⟨by omega, by omega⟩)))) (fun h H3 e3 => ?_) (fun h H3 e3 => ?_)
      · rw [Bool.true_and, mul3] at h
        exact s_ret (ev_I (ev_var rfl) (ev_ixT (ev_var rfl) (ex_t e3 sq) rfl)) fun H4 e4 => go (if_pos (of_decide_eq_true h)) ((e02.trans e3).trans e4)
      · rw [Bool.true_and, mul3] at h
        have sq3 := ex_t e3 sq
        refine q_when (b := false) (et_is (et_and (b := false) (et_is (et_test (tg _ "over" _ _ _ sq3 rfl)) tag_ou) fun h => nomatch h) rfl) (fun h => nomatch h) fun _ H4 e4 => ?_
        exact s_when (b := false) (et_is (et_and (b := false) (et_is (et_test (tg _ "over" _ _ _ (ex_t e4 sq3) rfl)) tag_oa) fun h => nomatch h) rfl) (fun h => nomatch h) fun _ H5 e5 => ⟨_, _, rfl, ((e02.trans e3).trans e4).trans e5, nx (H3 := H) (if_neg (of_decide_eq_false h))⟩
    | under m c =>
      obtain ⟨hm, hk⟩ := okP_under okp
      refine q_when (b := false) (et_is (et_and (b := false) (et_is (et_test (tg _ "under" _ _ _ sq rfl)) tag_uo) fun h => nomatch h) rfl) (fun h => nomatch h) fun _ H3 e3 => ?_
      have sq3 := ex_t e3 sq
      refine q_when (et_and (et_is (et_test (tg _ "under" _ _ _ sq3 rfl)) tag_uu) fun _ => et_test (ev_I (ev_var rfl) (ev_IC (ev_ixT (ev_var rfl) sq3 rfl) (ev_var rfl) (cmul ⟨by omega, by omega⟩)))) (fun h H4 e4 => ?_) (fun h H4 e4 => ?_)
      · rw [Bool.true_and, mul3] at h
        exact s_ret (ev_I (ev_var rfl) (ev_ixT (ev_var rfl) (ex_t e4 sq3) rfl)) fun H5 e5 => go (if_pos (of_decide_eq_true h)) (((e02.trans e3).trans e4).trans e5)
      · rw [Bool.true_and, mul3] at h
        exact s_when (b := false) (et_is (et_and (b := false) (et_is (et_test (tg _ "under" _ _ _ (ex_t e4 sq3) rfl)) tag_ua) fun h => nomatch h) rfl) (fun h => nomatch h) fun _ H5 e5 => ⟨_, _, rfl, ((e02.trans e3).trans e4).trans e5, nx (H3 := H) (if_neg (of_decide_eq_false h))⟩
    | aim m lo hi =>
      obtain ⟨hm, hlo, hhi, _, _⟩ := okP_aim okp
      refine q_when (b := false) (et_is (et_and (b := false) (et_is (et_test (tg _ "aim" _ _ _ sq rfl)) tag_ao) fun h => nomatch h) rfl) (fun h => nomatch h) fun _ H3 e3 => ?_
      have sq3 := ex_t e3 sq
      refine q_when (b := false) (et_is (et_and (b := false) (et_is (et_test (tg _ "aim" _ _ _ sq3 rfl)) tag_au) fun h => nomatch h) rfl) (fun h => nomatch h) fun _ H4 e4 => ?_
      have sq4 := ex_t e4 sq3
      refine s_when (et_and (et_is (et_test (tg _ "aim" _ _ _ sq4 rfl)) tag_aa) fun _ => et_or (et_test (ev_I (ev_var rfl) (ev_IC (ev_ixT (ev_var rfl) sq4 rfl) (ev_var rfl) (cmul ⟨by omega, by omega⟩)))) fun _ => et_test (ev_I (ev_var rfl) (ev_IC (ev_ixT (ev_var rfl) sq4 rfl) (ev_var rfl) (cmul ⟨by omega, by omega⟩)))) (fun h H5 e5 => ?_) (fun h H5 e5 => ?_)
      · rw [Bool.true_and, Bool.or_eq_true, mul3, mul3] at h
        have mb : 0 < m * l.2 ∧ m * l.2 < 1073741824 := by
          have h1 : 0 < m * l.2 := Int.mul_pos (by omega) (by omega)
          have h2 : m * l.2 ≤ 60 * 1000 := Int.mul_le_mul hm.2 bm (by omega) (by omega)
          exact ⟨h1, by omega⟩
        have ey : wishP n l (.aim m lo hi) = some (0 - (0 - l.1) / (m * l.2)) := by
          rw [ceil_eq mb.1]
          exact if_pos (h.imp (fun q => of_decide_eq_true q) (fun q => of_decide_eq_true q))
        exact s_ret (ev_I ev_c (ev_IC (ev_I ev_c (ev_var rfl)) (ev_IC (ev_ixT (ev_var rfl) (ex_t e5 sq4) rfl) (ev_var rfl) (cmul ⟨by omega, by omega⟩)) mb)) fun H6 e6 => go ey ((((e02.trans e3).trans e4).trans e5).trans e6)
      · rw [Bool.true_and, Bool.or_eq_false_iff, mul3, mul3] at h
        exact ⟨_, _, rfl, ((e02.trans e3).trans e4).trans e5, nx (H3 := H) (if_neg fun q => q.elim (of_decide_eq_false h.1) (of_decide_eq_false h.2))⟩
  · subst es
    have hx : xs.length = r.parts.length := by rw [c3.len, List.length_map]
    rw [hx, List.drop_length] at ew
    have ew' : n = wishL r.parts n l := ew
    refine s_ret (ev_var rfl) fun H3 e3 => ?_
    rw [← ew'] at k
    exact k H3 (e.trans e3)
end
end K74

/-! F7 -/
set_option Elab.async false
set_option linter.all false
set_option maxRecDepth 100000
set_option maxHeartbeats 4000000
namespace K74
open PySem PySem.Spec PyProof.Rows L2
open Evl hiding tCut pss_cut
section
variable {P : Program} [hPT : PT P] {w : World} {K : Frag} {mg : Str → Option Value} {base : Heap}
theorem v_law_wish {H : Hp} {v lv : V} {n : Int} {r : Rl} {l : Ld} (h : CaseAt K H v r) (o : okR r) (hn : 1 ≤ n ∧ n ≤ 8) (hl : LdZ K H lv l) : SpV (sp_law_wish K) [v, .int n, lv] H (.int (wishL r.parts n l)) := fun H1 e Q q E => ⟨v, n, lv, r, l, rfl, h.mv e, o, hn, hl.mv e, q⟩
theorem el_catLL {σ : L2.St} {H : Hp} {ta tb : TE} {xs ys : List V} (ha : EvL ta σ H xs) (hb : EvL tb σ H ys) (hz : xs.length + ys.length ≤ 100000) : EvL (tOp rCat ta tb) σ H (xs ++ ys) := fun H0 e Q q =>
  ha H0 e _ fun p H1 hp e1 l1 => hb H1 (e.trans e1) _ fun b H2 hb' e2 l2 => ⟨p, b, xs, ys, rfl, rfl, e2 _ _ l1, l2, sz_of hz, fun r hr => q r _ (fresh_back (e1.trans e2) hr) ((e1.trans e2).trans (Ex.new hr)) upd_same⟩
theorem ev_negI {σ : L2.St} {H : Hp} {ta : TE} {i : Int} (ha : Ev ta σ H (.int i)) : Ev (tUn (rU fun i => .int (-i)) ta) σ H (.int (-i)) := ev_un ha ru_neg
theorem el_lastL {σ : L2.St} {H : Hp} {tr tp : TE} {a : Addr} {ns : List Int} {u : Int} (ha : Ev tr σ H (.ref a)) (sq : SqL K H a (ns.map V.int)) (hu : Ev tp σ H (.int u)) (h1 : 1 ≤ u) (h2 : u ≤ ns.length) :
    EvL (tSl (rSlL K) tr (tPart (tUn (rU fun i => .int (-i)) tp)) tNoPart) σ H ((lastN u ns).map V.int) := by
  have e : cutV (ns.map V.int) (some (-u)) none = (lastN u ns).map V.int := by
    rw [cut_neg h1 (by rw [List.length_map]; exact h2), List.length_map]
    unfold lastN
    rw [List.map_drop]
  rw [← e]
  exact el_sl ha (eo_some (ev_negI hu)) eo_none sq
theorem ed_tupL {σ : L2.St} {Z : Hp} {te : TE} {ns : List Int} (h : EvL te σ Z (ns.map V.int)) :
    EvD K (tCB (fun xs H Q => ∃ p ys, xs = [.ref p] ∧ ((SqL K H p ys ∧ ∀ l, H l = none → Q (.ref l) (upd H l (.tup ys))) ∨ (SqT K H p ys ∧ Q (.ref p) H))) (tCons te tNil)) σ Z (.tuple (ns.map PyData.int)) := fun H1 e Q q => h H1 e _ fun p H2 hp e2 l2 =>
  ⟨p, _, rfl, .inl ⟨sq_of l2, fun l hl => by
    have g0 : Gr Z H1 Z H2 := Gr.of e e2
    exact q _ _ _ (g0.trans (Gr.newZ g0.h hl)) (Dp.newT (DpAll.ints ns) (Same.free g0.h hl))⟩⟩
def sp_law_tick (K : Frag) : Sp := fun vs H Q _ => ∃ v u lv r s l Z, vs = [v, u, lv] ∧ Ex Z H ∧ CaseAt K Z v r ∧ okR r ∧ Dp K Z u (dSt s) ∧ okS r s ∧ LdZ K Z lv l ∧ ∀ x Z' H', Gr Z H Z' H' → Dp K Z' x (dSt (tickL r s l)) → Q x H'
theorem g_law_tick {Z : Hp} {v u lv : V} {r : Rl} {s : Stt} {l : Ld} (h : CaseAt K Z v r) (o : okR r) (hd : Dp K Z u (dSt s)) (hs : okS r s) (hl : LdZ K Z lv l) : SpG (sp_law_tick K) [v, u, lv] Z (fun x Z2 => Dp K Z2 x (dSt (tickL r s l))) := fun H1 e Q q E => ⟨v, u, lv, r, s, l, Z, rfl, e, h, o, hd, hs, hl, q⟩
theorem sc_law_tick : FnScope ["_law_case_here", "_law_stand", "_law_one", "_law_wished", "_law_recent", "_law_size", "_law_later", "_law_servers_here", "_law_past"] ["_law_case_here", "_law_stand", "_law_one"] (defScope s_law_tick) := ⟨rfl, rfl, rfl, by decide +kernel, rfl, by decide +kernel, by decide +kernel⟩
theorem ok_law_tick (T : Txt w K mg) : FB P w K mg base 2 (He.ga K "_law_tick") ["_law_case_here", "_law_stand", "_law_one"] (sp_law_tick K) := by
  refine FB.of T.F_law_tick sc_law_tick (fun _ _ _ _ _ _ us hl => match us, hl with | [_, _, _], _ => rfl) (by rintro vs H Q E ⟨_, _, _, _, _, _, _, rfl, _⟩; rfl) (fun cdv A outer s H vs Q E hr h => ?_)
  refine ⟨_, (pss_cons (ps_asg (pv 1) (pg_tup rfl (pgs_cons (pg_name (i := 7) sc_law_tick.nd rfl (Or.inl rfl)) (pgs_cons (pg_name (i := 8) sc_law_tick.nd rfl (Or.inl rfl)) pgs_nil))))
    (pss_cons (ps_set (i := 3) sc_law_tick.nd rfl (Or.inl rfl) (pe_callB (call_max2 rfl) (by rfl) T.f_max (by decide +kernel) (pa_cons (pe_dget (hu_of hr) (pv 0) pe_str (fun _ _ => rfl)) (pa_cons (pe_callB (call_min2 rfl) (by rfl) T.f_min (by decide +kernel) (pa_cons (pe_dget (hu_of hr) (pv 0) pe_str (fun _ _ => rfl)) (pa_cons (pe_callF (ok_law_wish T) (hr.mono (by decide)) (by rfl) T.g_law_wish passL (pa_cons (pv 0) (pa_cons (pv 7) (pa_cons (pv 2) pa_nil)))) pa_nil))) pa_nil))))
    (pss_cons (ps_set (i := 4) sc_law_tick.nd rfl (Or.inl rfl) (pe_op op_cat (pe_callTy call_list_of (by rfl) T.f_list (by decide +kernel) (pa_cons (pv 8) pa_nil)) (pe_lst (pa_cons (pv 3) pa_nil))))
    (pss_cons (ps_set (i := 5) sc_law_tick.nd rfl (Or.inl rfl) (pe_op op_sub (pe_callB (call_max2 rfl) (by rfl) T.f_max (by decide +kernel) (pa_cons (pe_dget (hu_of hr) (pv 0) pe_str (fun _ _ => rfl)) (pa_cons (pe_dget (hu_of hr) (pv 0) pe_str (fun _ _ => rfl)) pa_nil))) pe_int))
    (pss_cons (ps_set (i := 6) sc_law_tick.nd rfl (Or.inl rfl) (pv 7))
    (pss_cons (ps_if (pt_cmpR op_gt (pe_callB (cr_min rfl) (by rfl) T.f_min (by decide +kernel) (pa_cons (pe_slice sl_list (pv 4) (po_some (pe_un un_neg (pe_dget (hu_of hr) (pv 0) pe_str (fun _ _ => rfl)))) po_none) pa_nil)) (pv 7) (nomark _))
    (pss_cons (ps_set (i := 6) sc_law_tick.nd rfl (Or.inl rfl) (pe_callB (cr_min rfl) (by rfl) T.f_min (by decide +kernel) (pa_cons (pe_slice sl_list (pv 4) (po_some (pe_un un_neg (pe_dget (hu_of hr) (pv 0) pe_str (fun _ _ => rfl)))) po_none) pa_nil)))
    (pss_one (ps_if (PW.pt (pw_and (pt_cmpR op_notN (pe_dget (hu_of hr) (pv 0) pe_str (fun _ _ => rfl)) pe_non (nomark _)) (pw_and1 (pt_cmpR op_gt (pv 6) (pe_op op_add (pv 7) (pe_dget (hu_of hr) (pv 0) pe_str (fun _ _ => rfl))) (nomark _)))))
    (pss_one (ps_set (i := 6) sc_law_tick.nd rfl (Or.inl rfl) (pe_op op_add (pv 7) (pe_dget (hu_of hr) (pv 0) pe_str (fun _ _ => rfl)))))
    pss_nil)))
    (pss_one (ps_if (pt_cmpR op_lt (pe_callB (cr_max rfl) (by rfl) T.f_max (by decide +kernel) (pa_cons (pe_slice sl_list (pv 4) (po_some (pe_un un_neg (pe_dget (hu_of hr) (pv 0) pe_str (fun _ _ => rfl)))) po_none) pa_nil)) (pv 7) (nomark _))
    (pss_cons (ps_set (i := 6) sc_law_tick.nd rfl (Or.inl rfl) (pe_callB (cr_max rfl) (by rfl) T.f_max (by decide +kernel) (pa_cons (pe_slice sl_list (pv 4) (po_some (pe_un un_neg (pe_dget (hu_of hr) (pv 0) pe_str (fun _ _ => rfl)))) po_none) pa_nil)))
    (pss_one (ps_if (PW.pt (pw_and (pt_cmpR op_notN (pe_dget (hu_of hr) (pv 0) pe_str (fun _ _ => rfl)) pe_non (nomark _)) (pw_and1 (pt_cmpR op_lt (pv 6) (pe_op op_sub (pv 7) (pe_dget (hu_of hr) (pv 0) pe_str (fun _ _ => rfl))) (nomark _)))))
    (pss_one (ps_set (i := 6) sc_law_tick.nd rfl (Or.inl rfl) (pe_op op_sub (pv 7) (pe_dget (hu_of hr) (pv 0) pe_str (fun _ _ => rfl)))))
    pss_nil)))
    pss_nil)))
    (pss_one (ps_ret (pe_tup (pa_cons (pv 6) (pa_cons (pe_callTy call_tuple_of (by rfl) T.f_tuple (by decide +kernel) (pa_cons (pe_slice sl_list (pv 4) (po_some (pe_op op_sub (pe_callB call_len_seq (by rfl) T.f_len (by decide +kernel) (pa_cons (pv 4) pa_nil)) (pv 5))) po_none) pa_nil)) pa_nil))))))))))), ?_⟩
  obtain ⟨v, u, lv, r, ⟨n, ms⟩, l, Z, rfl, hZ, hc, o, hd, hs, hl, k⟩ := h
  obtain ⟨a, b, rfl, sq, sb, db⟩ := st_at hd
  have hlen : ms.length = psz r := hs.len
  have pz := psz_le o
  have hn : 1 ≤ n ∧ n ≤ 8 := ⟨Int.le_trans o.l1 hs.n1, Int.le_trans hs.n2 o.m8⟩
  refine q_unp2 (ev_var rfl) (ex_t hZ sq) fun H0 e0 => ?_
  have hZ0 := hZ.trans e0
  have ecl : (if (if wishL r.parts n l < r.most then wishL r.parts n l else r.most) > r.least then (if wishL r.parts n l < r.most then wishL r.parts n l else r.most) else r.least) = clamp r.least r.most (wishL r.parts n l) := by
    have := o.lm
    unfold clamp
    split <;> split at * <;> omega
  refine q_asg (v := .int (clamp r.least r.most (wishL r.parts n l))) (Ev.mono hZ0 (by rw [← ecl]; exact ev_max2' (ev_c_least (ev_var rfl) hc) (ev_min2 (ev_c_most (ev_var rfl) hc) (ev_callS (ea_cons (ev_var rfl) (ea_cons (ev_var rfl) (ea_cons (ev_var rfl) ea_nil))) (v_law_wish hc o hn hl))))) fun H1 e1 => ?_
  have hZ1 := hZ0.trans e1
  refine q_asgL (el_catLL (el_listT (K := K) (EvP.seq (ev_var rfl) (ex_t hZ1 sb))) (el_lst (ea_cons (ev_var rfl) ea_nil) (Nat.le_of_ble_eq_true rfl)) (by rw [List.length_map]; show ms.length + 1 ≤ 100000; omega)) fun p H2 hp e2 lp => ?_
  have hZ2 := hZ1.trans e2
  have er : ms.map V.int ++ [V.int (clamp r.least r.most (wishL r.parts n l))] = (ms ++ [clamp r.least r.most (wishL r.parts n l)]).map V.int := by rw [List.map_append]; rfl
  rw [er] at lp
  generalize hrec : ms ++ [clamp r.least r.most (wishL r.parts n l)] = rec_ at lp
  have hl1 : rec_.length = psz r + 1 := by rw [← hrec, List.length_append, hlen]; rfl
  have hne : rec_ ≠ [] := fun e => by rw [e] at hl1; cases hl1
  have hu : r.up ≤ rec_.length := by have := psz_max o; have := o.u1; omega
  have hdn : r.down ≤ rec_.length := by have := psz_max o; have := o.d1; omega
  have pu := lastN_pos o.u1 hne
  have pd := lastN_pos o.d1 hne
  have g1 : Gr Z H Z H1 := Gr.of hZ (e0.trans e1)
  have g2 : Gr Z H (upd Z p (.lst (rec_.map V.int))) H2 := g1.trans (Gr.mk1 g1.h hp e2 lp)
  have hcH := hc.mv hZ2
  refine q_asg (ev_psz' (ev_var rfl) hcH o) fun H3 e3 => ?_
  refine q_asg (ev_var rfl) fun H4 e4 => ?_
  have e24 := e3.trans e4
  have hc4 := hcH.mv e24
  have sl4 : SqL K H4 p (rec_.map V.int) := sq_of (e24 _ _ lp)
  have fin : ∀ (σ' : L2.St) (H5 : Hp) (x : Int), Ex H4 H5 → σ'[4]? = some (some (.ref p)) → σ'[5]? = some (some (.int (psz r))) → σ'[6]? = some (some (.int x)) → x = settleL r n rec_ →
      tRet (tTup (tCons (tVar 6) (tCons (tCB (fun xs H Q => ∃ p ys, xs = [.ref p] ∧ ((SqL K H p ys ∧ ∀ l, H l = none → Q (.ref l) (upd H l (.tup ys))) ∨ (SqT K H p ys ∧ Q (.ref p) H))) (tCons (tSl (rSlL K) (tVar 4) (tPart (tOp (rI0 fun i j => .int (i - j)) (tCB (rLenS K) (tCons (tVar 4) tNil)) (tVar 5))) tNoPart) tNil)) tNil))) { nx := fun _ H' => Q .non H', rt := Q } σ' H5 := by
    intro σ' H5 x e5 h4 h5 h6 ex
    have e25 := e24.trans e5
    have g5 : Gr Z H (upd Z p (.lst (rec_.map V.int))) H5 := g2.trans (Gr.of g2.h e25)
    have zp : (upd Z p (.lst (rec_.map V.int))) p = some (.lst (rec_.map V.int)) := upd_same
    have ecut : cutV (rec_.map V.int) (some ((rec_.map V.int).length - (psz r : Int))) none = (rec_.drop 1).map V.int := by
      rw [List.length_map, hl1, show (((psz r + 1 : Nat) : Int) - (psz r : Int)) = ((1 : Nat) : Int) by omega, cut_lo, List.map_drop]
    refine s_retG (ed_tup (K := K) (eda_cons (ed_int (ev_var h6)) (eda_cons (ed_tupL (ns := rec_.drop 1) (by rw [← ecut]; exact el_sl (ev_var h4) (eo_some (ev_I (ev_len (ev_var h4) (sq_of zp)) (ev_var h5))) eo_none (sq_of zp))) eda_nil)) (Nat.le_of_ble_eq_true rfl)) g5.h fun y Z6 H6 g6 p6 => k y Z6 H6 (g5.trans g6) ?_
    rw [ex] at p6
    rw [tickL_eq]
    show Dp K Z6 y (dSt (settleL r n (ms ++ [clamp r.least r.most (wishL r.parts n l)]), (ms ++ [clamp r.least r.most (wishL r.parts n l)]).drop 1))
    rw [hrec]
    exact p6
  have eUp : ∀ (σ' : L2.St) (H5 : Hp), Ex H4 H5 → σ'[0]? = some (some v) → σ'[4]? = some (some (.ref p)) → Ev (tCB (rMin K) (tCons (tSl (rSlL K) (tVar 4) (tPart (tUn (rU fun i => .int (-i)) (tDGet (tVar 0) (tC (.str "up"))))) tNoPart) tNil)) σ' H5 (.int (mnL (lastN r.up rec_))) := fun σ' H5 e5 h0 h4 => ev_mnL (el_lastL (ev_var h4) (ex_l e5 sl4) (ev_c_up (ev_var h0) (hc4.mv e5)) o.u1 hu) pu
  have eDn : ∀ (σ' : L2.St) (H5 : Hp), Ex H4 H5 → σ'[0]? = some (some v) → σ'[4]? = some (some (.ref p)) → Ev (tCB (rMax K) (tCons (tSl (rSlL K) (tVar 4) (tPart (tUn (rU fun i => .int (-i)) (tDGet (tVar 0) (tC (.str "down"))))) tNoPart) tNil)) σ' H5 (.int (mxL (lastN r.down rec_))) := fun σ' H5 e5 h0 h4 => ev_mxL (el_lastL (ev_var h4) (ex_l e5 sl4) (ev_c_down (ev_var h0) (hc4.mv e5)) o.d1 hdn) pd
  refine q_if (et_test (ev_I (eUp _ _ (Ex.refl _) rfl rfl) (ev_var rfl))) (fun h H5 e5 => ?_) (fun h H5 e5 => ?_)
  · have eS : settleL r n rec_ = (match r.rise with | none => mnL (lastN r.up rec_) | some i => min (mnL (lastN r.up rec_)) (n + i)) := if_pos (of_decide_eq_true h)
    refine q_asg (eUp _ _ e5 rfl rfl) fun H6 e6 => ?_
    have e46 := e5.trans e6
    have hc6 := hc4.mv e46
    cases hri : r.rise with
    | none =>
      rw [hri] at eS
      exact s_when (b := false) (et_is (et_and (a := false) (b := false) (et_is (et_test (ev_notN (ev_c_rise (ev_var rfl) hc6))) (congrArg (fun o => !decide (oV o = V.non)) hri)) (fun h => nomatch h)) rfl) (fun h => nomatch h) fun _ H7 e7 => fin _ H7 _ (e46.trans e7) rfl rfl rfl eS.symm
    | some i =>
      rw [hri] at eS
      have gi : ∀ H7, Ex H6 H7 → ∀ σ' : L2.St, σ'[0]? = some (some v) → Ev (tDGet (tVar 0) (tC (.str "rise"))) σ' H7 (.int i) := fun H7 e7 σ' h0 => ev_is (ev_c_rise (ev_var h0) (hc6.mv e7)) (by rw [hri]; rfl)
      refine s_when (et_and (a := true) (et_is (et_test (ev_notN (ev_c_rise (ev_var rfl) hc6))) (congrArg (fun o => !decide (oV o = V.non)) hri)) fun _ => et_test (ev_I (ev_var rfl) (ev_I (ev_var rfl) (gi _ (Ex.refl _) _ rfl)))) (fun h2 H7 e7 => ?_) (fun h2 H7 e7 => ?_)
      · rw [Bool.true_and] at h2
        have h3 := of_decide_eq_true h2
        refine s_asg (ev_I (ev_var rfl) (gi _ e7 _ rfl)) fun H8 e8 => fin _ H8 _ ((e46.trans e7).trans e8) rfl rfl rfl ?_
        rw [eS]
        show n + i = min (mnL (lastN r.up rec_)) (n + i)
        omega
      · rw [Bool.true_and] at h2
        have h3 := of_decide_eq_false h2
        refine fin _ H7 _ (e46.trans e7) rfl rfl rfl ?_
        rw [eS]
        show mnL (lastN r.up rec_) = min (mnL (lastN r.up rec_)) (n + i)
        omega
  · have eS0 : settleL r n rec_ = (if mxL (lastN r.down rec_) < n then (match r.fall with | none => mxL (lastN r.down rec_) | some i => max (mxL (lastN r.down rec_)) (n - i)) else n) := if_neg (of_decide_eq_false h)
    refine s_when (et_test (ev_I (eDn _ _ e5 rfl rfl) (ev_var rfl))) (fun h2 H6 e6 => ?_) (fun h2 H6 e6 => ?_)
    · have eS : settleL r n rec_ = (match r.fall with | none => mxL (lastN r.down rec_) | some i => max (mxL (lastN r.down rec_)) (n - i)) := eS0.trans (if_pos (of_decide_eq_true h2))
      refine q_asg (eDn _ _ (e5.trans e6) rfl rfl) fun H7 e7 => ?_
      have e47 := (e5.trans e6).trans e7
      have hc7 := hc4.mv e47
      cases hri : r.fall with
      | none =>
        rw [hri] at eS
        exact s_when (b := false) (et_is (et_and (a := false) (b := false) (et_is (et_test (ev_notN (ev_c_fall (ev_var rfl) hc7))) (congrArg (fun o => !decide (oV o = V.non)) hri)) (fun h => nomatch h)) rfl) (fun h => nomatch h) fun _ H8 e8 => fin _ H8 _ (e47.trans e8) rfl rfl rfl eS.symm
      | some i =>
        rw [hri] at eS
        have gi : ∀ H8, Ex H7 H8 → ∀ σ' : L2.St, σ'[0]? = some (some v) → Ev (tDGet (tVar 0) (tC (.str "fall"))) σ' H8 (.int i) := fun H8 e8 σ' h0 => ev_is (ev_c_fall (ev_var h0) (hc7.mv e8)) (by rw [hri]; rfl)
        refine s_when (et_and (a := true) (et_is (et_test (ev_notN (ev_c_fall (ev_var rfl) hc7))) (congrArg (fun o => !decide (oV o = V.non)) hri)) fun _ => et_test (ev_I (ev_var rfl) (ev_I (ev_var rfl) (gi _ (Ex.refl _) _ rfl)))) (fun h3 H8 e8 => ?_) (fun h3 H8 e8 => ?_)
        · rw [Bool.true_and] at h3
          have h4 := of_decide_eq_true h3
          refine s_asg (ev_I (ev_var rfl) (gi _ e8 _ rfl)) fun H9 e9 => fin _ H9 _ ((e47.trans e8).trans e9) rfl rfl rfl ?_
          rw [eS]
          show n - i = max (mxL (lastN r.down rec_)) (n - i)
          omega
        · rw [Bool.true_and] at h3
          have h4 := of_decide_eq_false h3
          refine fin _ H8 _ (e47.trans e8) rfl rfl rfl ?_
          rw [eS]
          show mxL (lastN r.down rec_) = max (mxL (lastN r.down rec_)) (n - i)
          omega
    · exact fin _ H6 _ (e5.trans e6) rfl rfl rfl ((eS0.trans (if_neg (of_decide_eq_false h2))).symm)
end
end K74

/-! F8 -/
set_option Elab.async false
set_option linter.all false
set_option maxRecDepth 100000
set_option maxHeartbeats 4000000
namespace K74
open PySem PySem.Spec PyProof.Rows L2
open Evl hiding tCut pss_cut
section
variable {P : Program} [hPT : PT P] {w : World} {K : Frag} {mg : Str → Option Value} {base : Heap}
/-! [1 for x in .. if ..] -/
theorem el_filT {σ : L2.St} {H : Hp} {tl : TE} {t : TT} {xs : List V} {j : Nat} {vs : List Nat} (f : Nat → Bool) (h : EvP tl σ H (fun v H2 => ∃ a, v = .ref a ∧ SqT K H2 a xs)) (hz : xs.length ≤ 40000) (hw : ∀ x, wipe ((wipe σ vs).set j (some x)) vs = wipe σ vs)
    (ht : ∀ (i : Nat) (x : V) H1, Ex H H1 → xs[i]? = some x → EvT t ((wipe σ vs).set j (some x)) H1 (f i)) : EvL (tLc (iTup K tl) (gName j) t (tC (.int 1)) vs) σ H (given xs.length f fun _ => .int 1) := fun H0 e Q q => h H0 e _ fun v H1 e1 ⟨a, ev, hx⟩ => ⟨a, ev, ⟨xs, hx⟩, fun Dl hD =>
  lc_tup (xs := xs) (Cw H1 f (fun _ => .int 1) Dl) ⟨hD, Ex.new hD, upd_same⟩ (fun i H' _ p => ex_t p.2.1 hx) (fun i x H' hi p => ⟨hw x, cw_turn p (by have := (List.getElem?_eq_some_iff.mp hi).1; omega) (ht i x H1 (e.trans e1) hi) (fun _ => ev_c)⟩)
    (fun H' p => q Dl H' (fresh_back e1 p.1) (e1.trans p.2.1) p.2.2)⟩
theorem el_filL {σ : L2.St} {H : Hp} {tl : TE} {t : TT} {xs : List V} {j : Nat} {vs : List Nat} (f : Nat → Bool) (h : EvP tl σ H (fun v H2 => ∃ a, v = .ref a ∧ SqL K H2 a xs)) (hz : xs.length ≤ 40000) (hw : ∀ x, wipe ((wipe σ vs).set j (some x)) vs = wipe σ vs)
    (ht : ∀ (i : Nat) (x : V) H1, Ex H H1 → xs[i]? = some x → EvT t ((wipe σ vs).set j (some x)) H1 (f i)) : EvL (tLc (iList K tl) (gName j) t (tC (.int 1)) vs) σ H (given xs.length f fun _ => .int 1) := fun H0 e Q q => h H0 e _ fun v H1 e1 ⟨a, ev, hx⟩ => ⟨a, ev, ⟨xs, hx⟩, fun Dl hD =>
  lc_list (xs := xs) (Cw H1 f (fun _ => .int 1) Dl) ⟨hD, Ex.new hD, upd_same⟩ (fun i H' _ p => ex_l p.2.1 hx) (fun i x H' hi p => ⟨hw x, cw_turn p (by have := (List.getElem?_eq_some_iff.mp hi).1; omega) (ht i x H1 (e.trans e1) hi) (fun _ => ev_c)⟩)
    (fun H' p => q Dl H' (fresh_back e1 p.1) (e1.trans p.2.1) p.2.2)⟩
theorem given_ones (n : Nat) (f : Nat → Bool) : given n f (fun _ => V.int 1) = (((List.range n).filter f).map fun _ => (1 : Int)).map V.int := by
  unfold given
  rw [List.map_map]
  rfl
/-- .. != [] -/
theorem ev_anyF {σ : L2.St} {H : Hp} {ta : TE} {n : Nat} {f : Nat → Bool} (h : EvL ta σ H (given n f fun _ => .int 1)) : Ev (tOp (rNeD K) ta (tLst tNil)) σ H (.bl ((List.range n).any f)) := by
  rw [given_ones] at h
  refine ev_is (ev_opLL h (el_lst ea_nil (Nat.le_of_ble_eq_true rfl)) (z := .bl (!PyData.eqv (.list ((((List.range n).filter f).map fun _ => (1 : Int)).map PyData.int)) (.list []))) fun p q H1 l1 l2 e1 H2 e2 Q k => ⟨_, _, .lst (sq_of (e2 _ _ l1)) (DpAll.ints _), .lst (sq_of (e2 _ _ l2)) .nil, shp_ilist _, shp_ilist [], k _ (Ex.refl _)⟩) ?_
  rw [eqv_nil]
  congr 1
  cases q : (List.range n).any f with
  | true =>
    obtain ⟨i, hi, hf⟩ := List.any_eq_true.mp q
    rw [decide_eq_false]
    · rfl
    · intro e
      have : i ∈ (List.range n).filter f := List.mem_filter.mpr ⟨hi, hf⟩
      rw [List.map_eq_nil_iff.mp e] at this
      cases this
  | false =>
    rw [decide_eq_true]
    · rfl
    · rw [List.map_eq_nil_iff, List.filter_eq_nil_iff]
      intro i hi hf
      have := List.any_eq_true.mpr ⟨i, hi, hf⟩
      rw [q] at this
      cases this
/-! _law_is_load -/
def sp_law_is_load (K : Frag) : Sp := fun vs H Q _ => ∃ v l, vs = [v] ∧ LdZ K H v l ∧ ∀ H', Ex H H' → Q (.bl true) H'
theorem sc_law_is_load : FnScope ["_law_worth", "_law_one", "_law_other", "_law_part_here"] ["_law_worth"] (defScope s_law_is_load) := ⟨rfl, rfl, rfl, by decide +kernel, rfl, by decide +kernel, by decide +kernel⟩
theorem ok_law_is_load (T : Txt w K mg) : FB P w K mg base 1 (He.ga K "_law_is_load") ["_law_worth"] (sp_law_is_load K) := by
  refine FB.of T.F_law_is_load sc_law_is_load (fun _ _ _ _ _ _ us hl => match us, hl with | [_], _ => rfl) (by rintro vs H Q E ⟨_, _, rfl, _⟩; rfl) (fun cdv A outer s H vs Q E hr h => ?_)
  refine ⟨_, (pss_cons (ps_if (PW.pt (pw_or (pt_not (pt_val (pe_callB call_isi (by rfl) T.f_isinstance (by decide +kernel) (pa_cons (pv 0) (pa_cons (pe_bltn (by rfl) T.f_tuple (by decide +kernel) (v := .ty "tuple") rfl) pa_nil))))) (pw_or1 (pt_cmpR op_ne (pe_callB call_len_seq (by rfl) T.f_len (by decide +kernel) (pa_cons (pv 0) pa_nil)) pe_int (nomark _)))))
    (pss_one (ps_ret pe_bl))
    pss_nil)
    (pss_cons (ps_if (pt_cmpR (op_neD hr.units) (pe_lc (own := [("_law_part_here", 3)]) (g := gName 3) rfl sc_law_is_load.nd (pi_tup (pv 0)) (blkOk_by (own := [("_law_part_here", 3)]) (N := ["_law_worth", "_law_one", "_law_other", "_law_part_here"]) (sc := defScope s_law_is_load) (by decide +kernel)) (fun _ _ _ _ _ => pg_name (i := 3) sc_law_is_load.nd rfl (Or.inl rfl)) (fun _ _ _ _ _ => pts_one (PW.pt (pw_or (pt_not (pt_val (pe_callB (id := "isinstance") (r := rIsi K) call_isi (by rfl) T.f_isinstance (by decide +kernel) (pa_cons (pv 3) (pa_cons (pe_bltn (by rfl) T.f_int (by decide +kernel) (v := .ty "int") rfl) pa_nil))))) (pw_or1 (pt_val (pe_callB (id := "isinstance") (r := rIsi K) call_isi (by rfl) T.f_isinstance (by decide +kernel) (pa_cons (pv 3) (pa_cons (pe_bltn (by rfl) T.f_bool (by decide +kernel) (v := .ty "bool") rfl) pa_nil)))))))) (fun _ _ _ _ _ => pe_int)) (pe_lst pa_nil) (nomark _))
    (pss_one (ps_ret pe_bl))
    pss_nil)
    (pss_cons (ps_asg (pv 0) (pg_tup rfl (pgs_cons (pg_name (i := 1) sc_law_is_load.nd rfl (Or.inl rfl)) (pgs_cons (pg_name (i := 2) sc_law_is_load.nd rfl (Or.inl rfl)) pgs_nil))))
    (pss_cons (ps_if (PW.pt (pw_or (pt_cmpR op_lt (pv 1) pe_int (nomark _)) (pw_or1 (pt_cmpR op_lt (pv 2) pe_int (nomark _)))))
    (pss_one (ps_ret pe_bl))
    pss_nil)
    (pss_cons (ps_while (passes_of rfl) (pt_cmpR op_gt (pv 2) pe_int (nomark _)) (pss_one (ps_par rfl sc_law_is_load.nd (i := 1) (j := 2) rfl rfl (by decide) rfl rfl (pa_cons (pv 2) (pa_cons (pe_op op_mod (pv 1) (pv 2)) pa_nil)) (by rfl))))
    (pss_one (ps_ret (pe_cmpR op_eq (pv 1) pe_int (nomark _))))))))), ?_⟩
  obtain ⟨v, l, rfl, ⟨⟨a, rfl, sq⟩, ol⟩, k⟩ := h
  obtain ⟨t0, b1, gg, _, _⟩ := id ol
  refine q_when (b := false) (et_is (et_or (et_not (et_B (ev_isi (ev_var rfl) (tyx_seq sq) kit_tt))) fun _ => et_test (ev_ne (ev_lenT (ev_var rfl) sq) ev_c rfl)) rfl) (fun h => nomatch h) fun _ H1 e1 => ?_
  have sq1 := ex_t e1 sq
  refine q_when (b := false) (et_is (et_test (ev_anyF (el_filT (fun _ => false) (EvP.seq (ev_var rfl) sq1) (Nat.le_of_ble_eq_true rfl) (fun _ => rfl) fun i x H2 e2 hx => ?_))) rfl) (fun h => nomatch h) fun _ H2 e2 => ?_
  · obtain ⟨m, rfl⟩ : ∃ m : Int, x = .int m := by
      match i, hx with
      | 0, hx => cases hx; exact ⟨_, rfl⟩
      | 1, hx => cases hx; exact ⟨_, rfl⟩
    exact et_is (et_or (et_not (et_B (ev_isi (ev_var rfl) tyx_i kit_ii))) fun _ => et_B (ev_isi (ev_var rfl) tyx_i kit_ib)) rfl
  · refine q_unp2 (ev_var rfl) (ex_t e2 sq1) fun H3 e3 => ?_
    refine q_when (b := false) (et_is (et_or (et_test (ev_I (ev_var rfl) ev_c)) fun _ => et_test (ev_I (ev_var rfl) ev_c)) (by rw [decide_eq_false (show ¬ l.1 < 0 by omega), decide_eq_false (show ¬ l.2 < 1 by omega)]; rfl)) (fun h => nomatch h) fun _ H4 e4 => ?_
    refine q_while (fun m σ' H' => ∃ (a' b' : Int) (o3 : Option V), σ' = [some (.ref a), some (.int a'), some (.int b'), o3] ∧ Ex H4 H' ∧ 0 ≤ a' ∧ 0 ≤ b' ∧ Int.gcd a' b' = 1 ∧ m = b'.toNat) l.2.toNat ⟨l.1, l.2, _, rfl, Ex.refl _, t0, by omega, gg, rfl⟩ (fun m σ' H' ⟨a', b', o3, es, e5, ha', hb', g, em⟩ => ?_)
    subst es
    refine ⟨_, et_test (ev_I (ev_var rfl) ev_c), fun h H5 e6 => ?_, fun h H5 e6 => ?_⟩
    · have hlt : 0 < b' := of_decide_eq_true h
      refine ⟨fun σ2 H6 => ∃ (a2 b2 : Int) (o3 : Option V), σ2 = [some (.ref a), some (.int a2), some (.int b2), o3] ∧ Ex H4 H6 ∧ 0 ≤ a2 ∧ 0 ≤ b2 ∧ Int.gcd a2 b2 = 1 ∧ (a' % b').toNat = b2.toNat, fun σ2 H6 h => ⟨(a' % b').toNat, by have := Int.emod_lt_of_pos a' hlt; have := Int.emod_nonneg a' (show b' ≠ 0 by omega); omega, h⟩, ?_⟩
      exact s_par (ea_cons (ev_var rfl) (ea_cons (ev_IC (ev_var rfl) (ev_var rfl) hlt) ea_nil)) fun H7 e7 => ⟨b', a' % b', _, rfl, (e5.trans e6).trans e7, hb', Int.emod_nonneg _ (by omega), by rw [gcd_step ha' hlt, g], rfl⟩
    · have hn : ¬ 0 < b' := of_decide_eq_false h
      have h0 : b' = 0 := by omega
      subst h0
      rw [Int.gcd_zero_right] at g
      have e : a' = 1 := by omega
      subst e
      exact s_ret (ev_is (ev_eq (ev_var rfl) ev_c rfl) rfl) fun H6 e7 => k H6 (((((e1.trans e2).trans e3).trans e4).trans e5).trans (e6.trans e7))
theorem v_law_is_load {H : Hp} {v : V} {l : Ld} (h : LdZ K H v l) : SpV (sp_law_is_load K) [v] H (.bl true) := fun H1 e Q q E => ⟨v, l, rfl, h.mv e, q⟩
/-! sheets -/
def skv (c s cl : V) : List (Key × V) := [(.inr "case", c), (.inr "state", s), (.inr "curve", cl)]
def SheetAt (K : Frag) (Z : Hp) (v : V) (sh : Sh) : Prop := ∃ a c s cl, v = .ref a ∧ Z a = some (.dK (skv c s cl)) ∧ CaseAt K Z c sh.r ∧ Dp K Z s (dSt sh.st) ∧ LsD K Z cl (sh.cv.map dLd)
theorem SheetAt.mv {Z H : Hp} {v : V} {sh : Sh} (h : SheetAt K Z v sh) (e : Ex Z H) : SheetAt K H v sh := by
  obtain ⟨a, c, s, cl, rfl, h1, h2, h3, h4⟩ := h
  exact ⟨a, c, s, cl, rfl, e _ _ h1, h2.mv e, h3.mv e, h4.mv e⟩
end
end K74

/-! F9 -/
set_option Elab.async false
set_option linter.all false
set_option maxRecDepth 100000
set_option maxHeartbeats 4000000
namespace K74
open PySem PySem.Spec PyProof.Rows L2
open Evl hiding tCut pss_cut
section
variable {P : Program} [hPT : PT P] {w : World} {K : Frag} {mg : Str → Option Value} {base : Heap}
theorem Mv.free {S : Addr → Prop} {Z H Z1 H1 : Hp} {p : Addr} (h : Mv S Z H Z1 H1) (hp : H1 p = none) : H p = none := by
  cases q : H p with
  | none => rfl
  | some o =>
    obtain ⟨o', e⟩ := h.e p o q
    rw [hp] at e
    cases e
theorem el_catVL {σ : L2.St} {H : Hp} {ta tb : TE} {a : Addr} {xs ys : List V} (ha : Ev ta σ H (.ref a)) (hl : H a = some (.lst xs)) (hb : EvL tb σ H ys) (hz : xs.length + ys.length ≤ 100000) : EvL (tOp rCat ta tb) σ H (xs ++ ys) := fun H0 e Q q =>
  ha H0 e _ fun H1 e1 => hb H1 (e.trans e1) _ fun b H2 hb' e2 l2 => ⟨a, b, xs, ys, rfl, rfl, ((e.trans e1).trans e2) _ _ hl, l2, sz_of hz, fun r hr => q r _ (fresh_back (e1.trans e2) hr) ((e1.trans e2).trans (Ex.new hr)) upd_same⟩
/-! _law_ends -/
/-- a list of ints born since (Z, H) -/
def Grow (Z H : Hp) (c : Nat) (x : Option V) (H' : Hp) : Prop := ∃ (p : Addr) (ns : List Int), x = some (.ref p) ∧ H p = none ∧ Mv (fun b => H b = none) Z H Z H' ∧ H' p = some (.lst (ns.map V.int)) ∧ (∀ n ∈ ns, 0 ≤ n ∧ n ≤ 480) ∧ ns.length ≤ c
theorem mul480 {m n : Int} (hm : 1 ≤ m ∧ m ≤ 60) (hn : 1 ≤ n ∧ n ≤ 8) : 0 ≤ m * n ∧ m * n ≤ 480 := ⟨Int.mul_nonneg (by omega) (by omega), by have := Int.mul_le_mul hm.2 hn.2 (by omega) (by omega); omega⟩
theorem Grow.ex {Z H H1 H2 : Hp} {c : Nat} {x : Option V} (h : Grow Z H c x H1) (e : Ex H1 H2) : Grow Z H c x H2 := by
  obtain ⟨p, ns, ex, hp, m, hl, hb, hc⟩ := h
  exact ⟨p, ns, ex, hp, m.trans (Mv.gr (Gr.of m.h e)), e _ _ hl, hb, hc⟩
theorem Grow.le {Z H H1 : Hp} {c c' : Nat} {x : Option V} (h : Grow Z H c x H1) (e : c ≤ c') : Grow Z H c' x H1 := by
  obtain ⟨p, ns, ex, hp, m, hl, hb, hc⟩ := h
  exact ⟨p, ns, ex, hp, m, hl, hb, Nat.le_trans hc e⟩
theorem grow_app {σ : L2.St} {Z H H1 : Hp} {c : Nat} {te : TE} {D : Ends} {n : Int} (hZ : Ex Z H) {o : Option V} (hg : Grow Z H c o H1) (hs : σ[1]? = some o) (hc : c ≤ 1000) (h : Ev te σ H1 (.int n)) (hn : 0 ≤ n ∧ n ≤ 480) (k : ∀ H2, Grow Z H (c + 1) o H2 → D.nx σ H2) :
    tDrop (tBM K "list" rAppend (tVar 1) (tCons te tNil)) D σ H1 := by
  obtain ⟨p, ns, rfl, hp, m, hl, hb, hcn⟩ := hg
  refine s_app hl (ev_var hs) h (by rw [List.length_map]; omega) fun H2 e => k _ ⟨p, ns ++ [n], rfl, hp, ?_, ?_, ?_, ?_⟩
  · exact (m.trans (Mv.gr (Gr.of m.h e))).writeN hp (Same.free hZ hp) (e _ _ hl)
  · rw [upd_same, List.map_append]
    rfl
  · intro i hi
    rcases List.mem_append.mp hi with hi | hi
    · exact hb i hi
    · rw [List.mem_singleton.mp hi]
      exact hn
  · rw [List.length_append]
    show ns.length + 1 ≤ c + 1
    omega
/-! _law_ends -/
def EndsAt (K : Frag) : V → Hp → Prop := fun u Z => ∃ (a : Addr) (ns : List Int), u = .ref a ∧ Z a = some (.lst (ns.map V.int)) ∧ (∀ n ∈ ns, 0 ≤ n ∧ n ≤ 480) ∧ ns.length ≤ 96
def sp_law_ends (K : Frag) : Sp := fun vs H Q _ => ∃ v r Z, vs = [v] ∧ Same Z H ∧ CaseAt K Z v r ∧ okR r ∧ ∀ u Z' H', Gr Z H Z' H' → EndsAt K u Z' → Q u H'
theorem sc_law_ends : FnScope ["_law_case_here", "_law_found", "_law_part_here", "_law_servers_here"] ["_law_case_here"] (defScope s_law_ends) := ⟨rfl, rfl, rfl, by decide +kernel, rfl, by decide +kernel, by decide +kernel⟩
theorem ok_law_ends (T : Txt w K mg) : FB P w K mg base 1 (He.ga K "_law_ends") ["_law_case_here"] (sp_law_ends K) := by
  refine FB.of T.F_law_ends sc_law_ends (fun _ _ _ _ _ _ us hl => match us, hl with | [_], _ => rfl) (by rintro vs H Q E ⟨_, _, _, rfl, _⟩; rfl) (fun cdv A outer s H vs Q E hr h => ?_)
  refine ⟨_, (pss_cons (ps_set (i := 1) sc_law_ends.nd rfl (Or.inl rfl) (pe_lst pa_nil))
    (pss_cons (ps_for (passes_of rfl) rfl (pi_list (pe_dget (hu_of hr) (pv 0) pe_str (fun _ _ => rfl))) (pg_name (i := 2) sc_law_ends.nd rfl (Or.inl rfl))
    (pss_one (ps_for (passes_of rfl) rfl (pi_range2 (by rfl) T.f_range (pa_cons (pe_dget (hu_of hr) (pv 0) pe_str (fun _ _ => rfl)) (pa_cons (pe_op op_add (pe_dget (hu_of hr) (pv 0) pe_str (fun _ _ => rfl)) pe_int) pa_nil))) (pg_name (i := 3) sc_law_ends.nd rfl (Or.inl rfl))
    (pss_one (ps_if (pt_cmpR op_eq (pe_ix ix_tup (pv 2) pe_int (fun _ _ => rfl)) pe_str (nomark _))
    (pss_cons (ps_set (i := 1) sc_law_ends.nd rfl (Or.inl rfl) (pe_op op_cat (pv 1) (pe_lst (pa_cons (pe_op op_mul (pe_ix ix_tup (pv 2) pe_int (fun _ _ => rfl)) (pv 3)) (pa_cons (pe_op op_mul (pe_ix ix_tup (pv 2) pe_int (fun _ _ => rfl)) (pv 3)) pa_nil)))))
    (pss_one (ps_if (pt_cmpR op_lt (pv 3) (pe_dget (hu_of hr) (pv 0) pe_str (fun _ _ => rfl)) (nomark _))
    (pss_one (ps_expr (pe_bm PySem.F.plainAttrs_list PySem.F.slot_list_append PySem.F.type_list_append mt_append (pv 1) (pa_cons (pe_op op_mul (pe_ix ix_tup (pv 2) pe_int (fun _ _ => rfl)) (pv 3)) pa_nil))))
    pss_nil)))
    (pss_one (ps_expr (pe_bm PySem.F.plainAttrs_list PySem.F.slot_list_append PySem.F.type_list_append mt_append (pv 1) (pa_cons (pe_op op_mul (pe_ix ix_tup (pv 2) pe_int (fun _ _ => rfl)) (pv 3)) pa_nil)))))))))
    (pss_one (ps_ret (pe_callB (cr_sortS rfl) (by rfl) T.f_sorted (by decide +kernel) (pa_cons (pe_callTy (cr_setL rfl) (by rfl) T.f_set (by decide +kernel) (pa_cons (pv 1) pa_nil)) pa_nil)))))), ?_⟩
  obtain ⟨v, r, Z, rfl, hZ, hc0, o, k⟩ := h
  have hc : CaseAt K H v r := hc0.mv hZ
  obtain ⟨ca, cpl, rfl, c1, pa, xs, rfl, c2, c3⟩ := id hc0
  have hx : xs.length = r.parts.length := by rw [c3.len, List.length_map]
  have hx4 : xs.length ≤ 4 := by
    have h := o.ps
    unfold okPs at h
    rw [Bool.and_eq_true] at h
    rw [hx]
    exact of_decide_eq_true h.1
  have l1 := o.l1
  have lm := o.lm
  have m8 := o.m8
  refine q_asgL (el_lst ea_nil (Nat.zero_le _)) fun p0 H1 hp0 e1 lp0 => ?_
  have g0 : Grow Z H 0 (some (.ref p0)) H1 := ⟨p0, [], rfl, hp0, Mv.gr (Gr.of hZ e1), lp0, (fun n hn => nomatch hn), Nat.le_refl _⟩
  have hZ1 : Ex Z H1 := Ex.trans hZ e1
  refine q_forL (xs := xs) (ev_dget (ev_var rfl) (hZ1 _ _ c1) rfl) (sq_of (hZ1 _ _ c2)) (fun i σ' H' => ∃ o1 o2 o3, σ' = [some (.ref ca), o1, o2, o3] ∧ Grow Z H (24 * i) o1 H') (fun H2 e2 => ⟨_, _, _, rfl, g0.ex e2⟩) (fun i σ' H' _ ⟨_, _, _, _, g⟩ => by
    obtain ⟨_, _, _, _, m, _⟩ := g
    exact sq_of (m.h _ _ c2)) (fun i x σ' H' hxi ⟨o1, o2, o3, es, g⟩ => ?_) (fun σ' H' ⟨o1, o2, o3, es, g⟩ => ?_)
  · subst es
    have hi : i < xs.length := (List.getElem?_eq_some_iff.mp hxi).1
    obtain ⟨p, ep, dp⟩ := DpAll.get c3 hxi
    have okp : okP p = true := List.all_eq_true.mp o.allP p (List.mem_of_getElem? ep)
    have hm : ∀ {H'}, (∃ c o, Grow Z H c o H') → Ex Z H' := fun ⟨_, _, _, _, _, _, m, _⟩ => m.h
    have hcH : CaseAt K H' (.ref ca) r := hc0.mv (hm ⟨_, _, g⟩)
    refine s_forR2 (lo := r.least) (n := r.most + 1) (ea_cons (ev_c_least (ev_var rfl) hcH) (ea_cons (ev_I (ev_c_most (ev_var rfl) hcH) ev_c) ea_nil)) ⟨by omega, by omega, by omega, by omega⟩ (fun j σ2 H2 => ∃ o1 o3, σ2 = [some (.ref ca), o1, some x, o3] ∧ Grow Z H (24 * i + 3 * j) o1 H2) (fun H2 e2 => ⟨_, _, rfl, g.ex e2⟩) (fun j σ2 H2 hj ⟨o1, o3, es, g⟩ => ?_) (fun σ2 H2 ⟨o1, o3, es, g⟩ => ⟨o1, some x, o3, es, g.le (by omega)⟩)
    subst es
    have e2 := hm ⟨_, _, g⟩
    have hcH := hc0.mv e2
    obtain ⟨a, rfl, sq⟩ := part_at (dp.mv e2)
    have hn : 1 ≤ r.least + (j : Int) ∧ r.least + (j : Int) ≤ 8 := ⟨by omega, by omega⟩
    have cc : 24 * i + 3 * j + 2 ≤ 1000 := by omega
    have tg : ∀ (H3 : Hp) (nm t : Str) (ys : List V) (σ3 : L2.St), SqT K H3 a (.str nm :: ys) → σ3[2]? = some (some (.ref a)) → Ev (tOp rEq (tOp (rIxT K) (tVar 2) (tC (.int 0))) (tC (.str t))) σ3 H3 (.bl (decide (V.str nm = V.str t))) := fun H3 nm t ys σ3 s3 h3 => ev_eq (ev_ixT (ev_var h3) s3 at0) ev_c rfl
    cases p with
    | over m c =>
      obtain ⟨hm1, hk⟩ := okP_over okp
      refine s_if (b := false) (et_is (et_test (tg _ "over" _ _ _ sq rfl)) tag_oa) (fun h => nomatch h) fun _ H3 e3 => ?_
      exact grow_app hZ (g.ex e3) rfl (by omega) (ev_IC (ev_ixT (ev_var rfl) (ex_t e3 sq) rfl) (ev_var rfl) (cmul ⟨by omega, by omega⟩)) (mul480 hm1 hn) fun H4 g4 => ⟨_, _, rfl, g4.le (by omega)⟩
    | under m c =>
      obtain ⟨hm1, hk⟩ := okP_under okp
      refine s_if (b := false) (et_is (et_test (tg _ "under" _ _ _ sq rfl)) tag_ua) (fun h => nomatch h) fun _ H3 e3 => ?_
      exact grow_app hZ (g.ex e3) rfl (by omega) (ev_IC (ev_ixT (ev_var rfl) (ex_t e3 sq) rfl) (ev_var rfl) (cmul ⟨by omega, by omega⟩)) (mul480 hm1 hn) fun H4 g4 => ⟨_, _, rfl, g4.le (by omega)⟩
    | aim m lo hi =>
      obtain ⟨hm1, hlo, hhi, _, _⟩ := okP_aim okp
      refine s_if (b := true) (et_is (et_test (tg _ "aim" _ _ _ sq rfl)) tag_aa) (fun _ H3 e3 => ?_) (fun h => nomatch h)
      obtain ⟨p, ns, rfl, hp, mv, hl, hb, hcn⟩ := g.ex e3
      have sq3 := ex_t e3 sq
      refine q_asgL (el_catVL (ys := [.int (lo * (r.least + (j : Int))), .int (hi * (r.least + (j : Int)))]) (ev_var rfl) hl (el_lst (ea_cons (ev_IC (ev_ixT (ev_var rfl) sq3 rfl) (ev_var rfl) (cmul ⟨by omega, by omega⟩)) (ea_cons (ev_IC (ev_ixT (ev_var rfl) sq3 rfl) (ev_var rfl) (cmul ⟨by omega, by omega⟩)) ea_nil)) (Nat.le_of_ble_eq_true rfl)) (by rw [List.length_map]; show ns.length + 2 ≤ 100000; omega)) fun p4 H4 hp4 e4 lp4 => ?_
      have g4 : Grow Z H (24 * i + 3 * j + 2) (some (.ref p4)) H4 := ⟨p4, ns ++ [lo * (r.least + (j : Int)), hi * (r.least + (j : Int))], rfl, mv.free hp4, mv.trans (Mv.gr (Gr.of mv.h e4)), by rw [lp4, List.map_append]; rfl, fun n hn' => by
        rcases List.mem_append.mp hn' with h | h
        · exact hb n h
        · rcases List.mem_cons.mp h with h | h
          · rw [h]; exact mul480 hlo hn
          · rw [List.mem_singleton.mp h]; exact mul480 hhi hn, by rw [List.length_append]; show ns.length + 2 ≤ _; omega⟩
      have sq4 := ex_t e4 sq3
      refine s_when (et_test (ev_I (ev_var rfl) (ev_c_most (ev_var rfl) (hcH.mv (e3.trans e4))))) (fun _ H5 e5 => ?_) (fun _ H5 e5 => ⟨_, _, rfl, (g4.ex e5).le (by omega)⟩)
      exact grow_app hZ (g4.ex e5) rfl cc (ev_IC (ev_ixT (ev_var rfl) (ex_t e5 sq4) rfl) (ev_var rfl) (cmul ⟨by omega, by omega⟩)) (mul480 hm1 hn) fun H6 g6 => ⟨_, _, rfl, g6.le (by omega)⟩
  · subst es
    obtain ⟨p, ns, rfl, hp, m, hl, hb, hcn⟩ := g
    refine ⟨.ref p, rfl, p, ns, rfl, sq_of hl, by omega, fun q c hq hcq => ?_⟩
    refine ⟨q, _, c, rfl, upd_same, by omega, fun ms u hms hlm hu => ?_⟩
    have e5 : Ex H' (upd H' q (SetO w q (fun j => decide (j ∈ ns)) c)) := Ex.new hq
    have m5 := m.trans (Mv.gr (Gr.of m.h (e5.trans (Ex.new hu (o := .lst (ms.map V.int))))))
    have hu0 : H u = none := m.free (fresh_back e5 hu)
    exact k _ _ _ ((Mv.freeze m5 hu0 upd_same).toGr fun b hb => hb) ⟨u, ms, rfl, upd_same, fun n hn => hb n (of_decide_eq_true ((hms n).mp hn)), by omega⟩
theorem g_law_ends {Z : Hp} {v : V} {r : Rl} (h : CaseAt K Z v r) (o : okR r) : SpG (sp_law_ends K) [v] Z (EndsAt K) := fun H1 e Q q E => ⟨v, r, Z, rfl, e, h, o, q⟩
end
end K74

/-! F10 -/
set_option Elab.async false
set_option linter.all false
set_option maxRecDepth 100000
set_option maxHeartbeats 4000000
namespace K74
open PySem PySem.Spec PyProof.Rows L2
open Evl hiding tCut pss_cut
section
variable {P : Program} [hPT : PT P] {w : World} {K : Frag} {mg : Str → Option Value} {base : Heap}
theorem ends_mono : Mono (EndsAt K) := fun _ _ _ e ⟨a, ns, h1, h2, h3⟩ => ⟨a, ns, h1, e _ _ h2, h3⟩
theorem lsv_mono {P : Int → Prop} : Mono (LsV (PI P)) := fun _ _ _ e ⟨a, xs, h1, h2, h3, h4, h5⟩ => ⟨a, xs, h1, e _ _ h2, h3, h4, h5⟩
theorem ew_catE {σ : L2.St} {d : Addr} {l : Addr × Addr} {Z : Hp} {ta tb : TE} {P : Int → Prop} (hP : ∀ n, 0 ≤ n ∧ n ≤ 480 → P n) (ha : EvW d l ta σ Z (EndsAt K)) (hb : EvW d l tb σ Z (fun v Z2 => LsV (PI P) v Z2 ∧ ∀ a xs, v = .ref a → Z2 a = some (.lst xs) → xs.length ≤ 100)) :
    EvW d l (tOp rCat ta tb) σ Z (LsV (PI P)) := fun H dz Q q =>
  ha H dz _ fun v Z1 H1 m1 dz1 ⟨a, ns, ev, za, hb1, hn⟩ => EvW.up hb (fun v Z Z' e ⟨h, h2⟩ => ⟨lsv_mono _ _ _ e h, fun a xs ev hz => by
    obtain ⟨a', xs', ev', z', _⟩ := h
    rw [ev] at ev'
    cases ev'
    have := e _ _ z'
    rw [hz] at this
    cases this
    exact h2 a xs ev z'⟩) m1.z H1 dz1 _ fun u Z2 H2 m2 dz2 ⟨⟨b, ys, eu, zb, hne, _, hy⟩, hyl⟩ => by
      have hl := hyl b ys eu zb
      subst ev eu
      have h1 := dz2.z _ _ (m2.z _ _ za)
      have h2 := dz2.z _ _ zb
      refine ⟨a, b, _, _, rfl, rfl, h1, h2, sz_of (by rw [List.length_map]; omega), fun r hr => ?_⟩
      exact q _ _ _ ((m1.trans m2).trans (Mv.gr (Gr.newZ dz2.z hr))) (dz2.gr (Gr.newZ dz2.z hr)) ⟨r, _, rfl, upd_same, (fun e => hne (List.append_eq_nil_iff.mp e).2), by rw [List.length_append, List.length_map]; omega, fun x hx => by
        rcases List.mem_append.mp hx with z | z
        · obtain ⟨n, hn', e⟩ := List.mem_map.mp z
          exact ⟨n, e.symm, hP n (hb1 n hn')⟩
        · exact hy x z⟩
theorem ew_lstN {σ : L2.St} {d : Addr} {l : Addr × Addr} {Z : Hp} {t : TA} {P : Int → Prop} {n : Nat} (h : EvWL d l t σ Z P (n + 1)) (hn : n + 1 ≤ 100) : EvW d l (tLst t) σ Z (fun v Z2 => LsV (PI P) v Z2 ∧ ∀ a xs, v = .ref a → Z2 a = some (.lst xs) → xs.length ≤ 100) := fun H dz Q q =>
  h H dz _ fun vs Z1 H1 m1 dz1 ⟨h1, h2⟩ => ⟨sz_of (by omega), fun a ha => q _ _ _ (m1.trans (Mv.gr (Gr.newZ dz1.z ha))) (dz1.gr (Gr.newZ dz1.z ha)) ⟨⟨a, vs, rfl, upd_same, (fun e => by rw [e] at h1; cases h1), by omega, h2⟩, fun a' xs e z => by
    cases e
    rw [upd_same] at z
    cases z
    omega⟩⟩
/-! _law_load -/
def sp_law_load (K : Frag) : Sp := fun vs H Q _ => ∃ (d : Addr) (l : Addr × Addr) (Z : Hp) (v : V) (r : Rl), vs = [.ref d, v] ∧ DZ Z H d l ∧ CaseAt K Z v r ∧ okR r ∧ ∀ x Z' H', Mv (DS d l) Z H Z' H' → DZ Z' H' d l → LdW K x Z' → Q x H'
theorem w_law_load {Z : Hp} {d : Addr} {l : Addr × Addr} {v : V} {r : Rl} (h : CaseAt K Z v r) (o : okR r) : SpW d l (sp_law_load K) [.ref d, v] Z (LdW K) := fun H dz Q q E => ⟨d, l, Z, v, r, rfl, dz, h, o, q⟩
theorem sc_law_load : FnScope ["_law_draw", "_law_case_here", "_law_some", "_law_top", "_law_bottom"] ["_law_draw", "_law_case_here"] (defScope s_law_load) := ⟨rfl, rfl, rfl, by decide +kernel, rfl, by decide +kernel, by decide +kernel⟩
theorem ok_law_load (T : Txt w K mg) : FB P w K mg base 3 (He.ga K "_law_load") ["_law_draw", "_law_case_here"] (sp_law_load K) := by
  refine FB.of T.F_law_load sc_law_load (fun _ _ _ _ _ _ us hl => match us, hl with | [_, _], _ => rfl) (by rintro vs H Q E ⟨_, _, _, _, _, rfl, _⟩; rfl) (fun cdv A outer s H vs Q E hr h => ?_)
  refine ⟨_, (pss_cons (ps_set (i := 2) sc_law_load.nd rfl (Or.inl rfl) (pe_op op_cat (pe_callF (ok_law_ends T) (hr.mono (by decide)) (by rfl) T.g_law_ends passL (pa_cons (pv 1) pa_nil)) (pe_lst (pa_cons pe_int (pa_cons (pe_op op_add pe_int (pe_callF (ok_law_take T) (hr.mono (by decide)) (by rfl) T.g_law_take passL (pa_cons (pv 0) (pa_cons pe_int pa_nil)))) pa_nil)))))
    (pss_cons (ps_set (i := 3) sc_law_load.nd rfl (Or.inl rfl) (pe_callF (ok_law_pick T) (hr.mono (by decide)) (by rfl) T.g_law_pick passL (pa_cons (pv 0) (pa_cons (pv 2) pa_nil))))
    (pss_cons (ps_set (i := 4) sc_law_load.nd rfl (Or.inl rfl) (pe_callF (ok_law_pick T) (hr.mono (by decide)) (by rfl) T.g_law_pick passL (pa_cons (pv 0) (pa_cons (pe_lst (pa_cons pe_int (pa_cons pe_int (pa_cons pe_int (pa_cons pe_int (pa_cons pe_int pa_nil)))))) pa_nil))))
    (pss_one (ps_ret (pe_callF (ok_law_fraction T) (hr.mono (by decide)) (by rfl) T.g_law_fraction passL (pa_cons (pe_callB (call_max2 rfl) (by rfl) T.f_max (by decide +kernel) (pa_cons pe_int (pa_cons (pe_op op_add (pe_op op_mul (pv 3) (pv 4)) (pe_callF (ok_law_pick T) (hr.mono (by decide)) (by rfl) T.g_law_pick passL (pa_cons (pv 0) (pa_cons (pe_lst (pa_cons pe_int (pa_cons pe_int (pa_cons pe_int (pa_cons (pe_un un_neg pe_int) pa_nil))))) pa_nil)))) pa_nil))) (pa_cons (pv 4) pa_nil)))))))), ?_⟩
  obtain ⟨d, l, Z, v, r, rfl, dz, hc, o, k⟩ := h
  refine q_asgW (ew_catE (P := fun i => 0 ≤ i ∧ i ≤ 480) (fun n h => h) (ew_g (eg_call (ea_cons (ev_var rfl) ea_nil) (g_law_ends hc o) ends_mono)) (ew_lstN (n := 1) (ewl_cons (ew_c ⟨by decide, by decide⟩) (ewl_cons (ew_I (ew_c (P := fun i => i = 1) rfl) (ew_takeC (P := fun r => 0 ≤ r ∧ r < 100) rfl ⟨by decide, by decide⟩ fun r r0 r1 => ⟨r0, r1⟩) fun i j hi hj => by omega) ewl_nil)) (by decide))) dz fun u Z1 H1 m1 dz1 hu => ?_
  refine q_asgW (ew_pick rfl (ew_g (eg_ev (ev_var rfl) hu))) dz1 fun t Z2 H2 m2 dz2 ⟨top, et, ht⟩ => ?_
  subst et
  refine q_asgW (ew_pick (Φ := PI fun i => 1 ≤ i ∧ i ≤ 1000) rfl (ew_lstI (n := 4) (ewl_cons (ew_c ⟨by decide, by decide⟩) (ewl_cons (ew_c ⟨by decide, by decide⟩) (ewl_cons (ew_c ⟨by decide, by decide⟩) (ewl_cons (ew_c ⟨by decide, by decide⟩) (ewl_cons (ew_c ⟨by decide, by decide⟩) ewl_nil))))) (by decide))) dz2 fun t Z3 H3 m3 dz3 ⟨bot, et, hb⟩ => ?_
  subst et
  have pr : 0 ≤ top * bot ∧ top * bot ≤ 480000 := ⟨Int.mul_nonneg (by omega) (by omega), by have := Int.mul_le_mul ht.2 hb.2 (by omega) (by omega); omega⟩
  refine s_retW (ew_callW (ewa_cons (ew_max2 (A := fun i => i = 0) (B := fun i => i ≤ 480001) (C := fun i => 0 ≤ i ∧ i ≤ 1000000) (ew_c rfl) (ew_I (A := fun i => i = top * bot) (B := fun i => i ≤ 1) (ew_IC (A := fun i => i = top) (B := fun i => i = bot) (ew_v rfl rfl) (ew_v rfl rfl) (fun i j hi hj => cmul (by subst hi; omega)) fun i j hi hj => by rw [hi, hj]) (ew_pick (Φ := PI fun i => i ≤ 1) rfl (ew_lstI (n := 3) (ewl_cons (ew_c (by decide)) (ewl_cons (ew_c (by decide)) (ewl_cons (ew_c (by decide)) (ewl_cons (ew_int (ev_negI ev_c) (by decide)) ewl_nil)))) (by decide))) fun i j hi hj => by omega) fun i j hi hj => by split <;> omega) pi_mono (ewa_cons (ew_v (P := fun i => i = bot) rfl rfl) pi_mono ewa_nil fun _ _ _ _ p => p) fun v Z Z' e ⟨x, r, h1, h2, h3⟩ => ⟨x, r, h1, h2, h3⟩) fun vs Z4 e4 ⟨x, r1, h1, ⟨i, ei, hi⟩, y, r2, h2, ⟨j, ej, hj⟩, h3⟩ => ?_) dz3 fun x Z5 H5 m5 dz5 hx => k x Z5 H5 (((m1.trans m2).trans m3).trans m5) dz5 hx
  subst h1 h2 h3 ei ej hj
  exact fun H dz Q q E => g_law_fraction hi hb H dz.z Q (fun v Z2 H2 g p => q v Z2 H2 (Mv.gr g) (dz.gr g) p) E
/-! _law_sheet -/
def SheetW (K : Frag) : V → Hp → Prop := fun v Z => ∃ r n, SheetAt K Z v ⟨r, first r n, []⟩ ∧ okR r ∧ r.least ≤ n ∧ n ≤ r.most
end
end K74

/-! F11 -/
set_option Elab.async false
set_option linter.all false
set_option maxRecDepth 100000
set_option maxHeartbeats 4000000
namespace K74
open PySem PySem.Spec PyProof.Rows L2
open Evl hiding tCut pss_cut
section
variable {P : Program} [hPT : PT P] {w : World} {K : Frag} {mg : Str → Option Value} {base : Heap}
/-! _law_sheet -/
def sp_law_sheet (K : Frag) : Sp := fun vs H Q _ => ∃ (d : Addr) (l : Addr × Addr) (Z : Hp), vs = [.ref d] ∧ DZ Z H d l ∧ ∀ v Z' H', Mv (DS d l) Z H Z' H' → DZ Z' H' d l → SheetW K v Z' → Q v H'
theorem sheetW_mono : Mono (SheetW K) := fun _ _ _ e ⟨r, n, h, o⟩ => ⟨r, n, h.mv e, o⟩
theorem w_law_sheet {Z : Hp} {d : Addr} {l : Addr × Addr} : SpW d l (sp_law_sheet K) [.ref d] Z (SheetW K) := fun H dz Q q E => ⟨d, l, Z, rfl, dz, q⟩
theorem sc_law_sheet : FnScope ["_law_draw", "_law_case_here"] ["_law_draw"] (defScope s_law_sheet) := ⟨rfl, rfl, rfl, by decide +kernel, rfl, by decide +kernel, by decide +kernel⟩
theorem ok_law_sheet (T : Txt w K mg) : FB P w K mg base 6 (He.ga K "_law_sheet") ["_law_draw"] (sp_law_sheet K) := by
  refine FB.of T.F_law_sheet sc_law_sheet (fun _ _ _ _ _ _ us hl => match us, hl with | [_], _ => rfl) (by rintro vs H Q E ⟨_, _, _, rfl, _⟩; rfl) (fun cdv A outer s H vs Q E hr h => ?_)
  refine ⟨_, (pss_cons (ps_set (i := 1) sc_law_sheet.nd rfl (Or.inl rfl) (pe_callF (ok_law_case T) (hr.mono (by decide)) (by rfl) T.g_law_case passL (pa_cons (pv 0) pa_nil)))
    (pss_one (ps_ret (pe_disp (pps_cons pe_str (pv 1) (pps_cons pe_str (pe_callF (ok_law_first T) (hr.mono (by decide)) (by rfl) T.g_law_first passL (pa_cons (pv 1) (pa_cons (pe_callF (ok_law_servers T) (hr.mono (by decide)) (by rfl) T.g_law_servers passL (pa_cons (pv 0) (pa_cons (pv 1) pa_nil))) pa_nil))) (pps_cons pe_str (pe_lst pa_nil) pps_nil))) (by rfl) (by rfl) (fun z => by cases z) (by decide))))), ?_⟩
  obtain ⟨d, l, Z, rfl, dz, k⟩ := h
  refine q_asgW (ew_callA (ea_cons (ev_var rfl) ea_nil) w_law_case caseW_mono) dz fun v Z1 H1 m1 dz1 ⟨r, hc, o⟩ => ?_
  refine fun p hp => ?_
  have b0 : Bld d l p Z1 H1 Z1 (upd H1 p (.dK [])) [] := Bld.new dz1 hp
  refine pairs_go ⟨_, rfl, pairs_go ?_⟩
  refine ew_callW (Z := Z1) (Φ := fun x Z2 => ∃ n, Dp K Z2 x (dSt (first r n)) ∧ r.least ≤ n ∧ n ≤ r.most) (ewa_cons (Φ := fun u Z2 => u = v) (ew_g (eg_ev (ev_var rfl) rfl)) (fun _ _ _ _ p => p) (ewa_cons (ew_callA (ea_cons (ev_var rfl) (ea_cons (ev_var rfl) ea_nil)) (w_law_servers hc o) pi_mono) pi_mono ewa_nil fun _ _ _ _ p => p) fun v Z Z' e ⟨x, r, h1, h2, h3⟩ => ⟨x, r, h1, h2, h3⟩) (fun vs Z2 e2 ⟨x, r1, h1, h2, y, r2, h3, ⟨n, h4, h5⟩, h6⟩ => by
    subst h1 h2 h3 h4 h6
    exact fun H dz Q q E => g_law_first (hc.mv e2) o H dz.z Q (fun v Z2 H2 g p => q v Z2 H2 (Mv.gr g) (dz.gr g) ⟨n, p, h5⟩) E) _ b0.dz _ fun x Z2 H2 m2 dz2 ⟨n, dx, hn⟩ => ?_
  have b2 := b0.step m2 dz2
  refine pairs_go ⟨Nat.zero_le _, fun c hcn => ?_⟩
  have b3 := b2.gr (Gr.newZ (o := .lst []) dz2.z hcn)
  refine ⟨b3.hp, skv v x (.ref c), rfl, Nat.le_of_ble_eq_true rfl, ?_⟩
  have b4 := b3.put (kv' := skv v x (.ref c))
  obtain ⟨mf, dzf, ef⟩ := b4.done
  have e3 := K74.same_new (o := HO.lst []) (Same.free dz2.z hcn)
  exact k _ _ _ (m1.trans mf) dzf ⟨r, n, ⟨p, v, x, .ref c, rfl, upd_same, ((hc.mv m2.z).mv e3).mv ef, (dx.mv e3).mv ef, ⟨c, [], rfl, ef _ _ upd_same, .nil⟩⟩, o, hn⟩
end
end K74

/-! F12 -/
set_option Elab.async false
set_option linter.all false
set_option maxRecDepth 100000
set_option maxHeartbeats 4000000
namespace K74
open PySem PySem.Spec PyProof.Rows L2
open Evl hiding tCut pss_cut
section
variable {P : Program} [hPT : PT P] {w : World} {K : Frag} {mg : Str → Option Value} {base : Heap}
/-! _law_begin -/
theorem el_filLv {σ : L2.St} {H : Hp} {tl te : TE} {t : TT} {xs : List V} {j : Nat} {vs : List Nat} (f : Nat → Bool) (g : Nat → V) (h : EvP tl σ H (fun v H2 => ∃ a, v = .ref a ∧ SqL K H2 a xs)) (hz : xs.length ≤ 40000) (hw : ∀ x, wipe ((wipe σ vs).set j (some x)) vs = wipe σ vs)
    (ht : ∀ (i : Nat) (x : V) H1, Ex H H1 → xs[i]? = some x → EvT t ((wipe σ vs).set j (some x)) H1 (f i)) (he : ∀ (i : Nat) (x : V) H1, Ex H H1 → xs[i]? = some x → Ev te ((wipe σ vs).set j (some x)) H1 (g i)) : EvL (tLc (iList K tl) (gName j) t te vs) σ H (given xs.length f g) := fun H0 e Q q => h H0 e _ fun v H1 e1 ⟨a, ev, hx⟩ => ⟨a, ev, ⟨xs, hx⟩, fun Dl hD =>
  lc_list (xs := xs) (Cw H1 f g Dl) ⟨hD, Ex.new hD, upd_same⟩ (fun i H' _ p => ex_l p.2.1 hx) (fun i x H' hi p => ⟨hw x, cw_turn p (by have := (List.getElem?_eq_some_iff.mp hi).1; omega) (ht i x H1 (e.trans e1) hi) (fun _ => he i x H1 (e.trans e1) hi)⟩)
    (fun H' p => q Dl H' (fresh_back e1 p.1) (e1.trans p.2.1) p.2.2)⟩
theorem ev_abs {σ : L2.St} {H : Hp} {te : TE} {i : Int} (h : Ev te σ H (.int i)) : Ev (tCB (fun xs H Q => ∃ i, xs = [.int i] ∧ Q (.int (if i < 0 then -i else i)) H) (tCons te tNil)) σ H (.int (if i < 0 then -i else i)) := ev_cb (ea_cons h ea_nil) fun H1 e Q q => ⟨i, rfl, q _ (Ex.refl _)⟩
theorem tc_go {σ : L2.St} {H : Hp} {v : V} {Q : VK} (h : Q v H) : tC v σ H Q := h
def sp_law_begin (K : Frag) : Sp := fun vs H Q _ => ∃ (a : Addr) (cells : List Int) (Z : Hp), vs = [.ref a] ∧ Ex Z H ∧ SqL K H a (cells.map V.int) ∧ cells.length ≤ 63 ∧ ∀ d l H', Ex H H' → H d = none → H l.1 = none → Draw H' d l → Q (.ref d) H'
theorem sc_law_begin : FnScope ["_law_script", "_law_large", "_law_cell"] ["_law_script"] (defScope s_law_begin) := ⟨rfl, rfl, rfl, by decide +kernel, rfl, by decide +kernel, by decide +kernel⟩
theorem ok_law_begin (T : Txt w K mg) : FB P w K mg base 2 (He.ga K "_law_begin") ["_law_script"] (sp_law_begin K) := by
  refine FB.of T.F_law_begin sc_law_begin (fun _ _ _ _ _ _ us hl => match us, hl with | [_], _ => rfl) (by rintro vs H Q E ⟨_, _, _, rfl, _⟩; rfl) (fun cdv A outer s H vs Q E hr h => ?_)
  refine ⟨_, (pss_cons (ps_setLc (i := 1) (own := [("_law_cell", 2)]) (g := gName 2) rfl sc_law_begin.nd rfl rfl (sw_true rfl rfl rfl (by decide +kernel)) (pi_list (pv 0)) (blkOk_by (own := [("_law_cell", 2)]) (N := ["_law_script", "_law_large", "_law_cell"]) (sc := defScope s_law_begin) (by decide +kernel)) (fun _ _ _ _ _ => pg_name (i := 2) sc_law_begin.nd rfl (Or.inl rfl)) (fun _ _ _ _ _ => pts_one (pt_cmpR op_ge (pe_callB call_abs (by rfl) T.f_abs (by decide +kernel) (pa_cons (pv 2) pa_nil)) (pe_op op_pow pe_int pe_int) (nomark _))) (fun _ _ _ _ _ => (pe_callB call_abs (by rfl) T.f_abs (by decide +kernel) (pa_cons (pv 2) pa_nil))))
    (pss_one (ps_ret (pe_disp (pps_cons pe_str (pv 1) (pps_cons pe_str (pe_callTy call_list_of (by rfl) T.f_list (by decide +kernel) (pa_cons (pv 0) pa_nil)) (pps_cons pe_str pe_int (pps_cons pe_str pe_int (pps_cons pe_str pe_int pps_nil))))) (by rfl) (by rfl) (fun z => by cases z) (by decide))))), ?_⟩
  obtain ⟨a, cells, Z, rfl, hZ, sq, hz, k⟩ := h
  have cellAt : ∀ {i : Nat} {x : V}, (cells.map V.int)[i]? = some x → x = .int (cells.getD i 0) := fun {i x} h => by
    rw [List.getElem?_map] at h
    cases q : cells[i]? with
    | none => rw [q] at h; cases h
    | some c =>
      rw [q] at h
      rw [List.getD_eq_getElem?_getD, q]
      exact (Option.some.inj h).symm
  have ab : ∀ c : Int, (V.int (if c < 0 then -c else c)) = V.int ((fun c : Int => if c < 0 then -c else c) c) := fun _ => rfl
  refine q_asgL (el_filLv (fun i => decide ((if cells.getD i 0 < 0 then -cells.getD i 0 else cells.getD i 0) ≥ (10 : Int) ^ 18)) (fun i => .int (if cells.getD i 0 < 0 then -cells.getD i 0 else cells.getD i 0)) (EvP.seqL (ev_var rfl) sq) (by rw [List.length_map]; omega) (fun _ => rfl) (fun i x H1 e1 hx => ?_) (fun i x H1 e1 hx => ?_)) fun p0 H1 hp0 e1 lp0 => ?_
  · rw [cellAt hx]
    exact et_test (ev_I (ev_abs (ev_var rfl)) (ev_IC ev_c ev_c ⟨by decide, by decide, by decide⟩))
  · rw [cellAt hx]
    exact ev_abs (ev_var rfl)
  · obtain ⟨ls, hls, lls⟩ : ∃ ls : List Int, given (cells.map V.int).length (fun i => decide ((if cells.getD i 0 < 0 then -cells.getD i 0 else cells.getD i 0) ≥ (10 : Int) ^ 18)) (fun i => .int (if cells.getD i 0 < 0 then -cells.getD i 0 else cells.getD i 0)) = ls.map V.int ∧ ls.length ≤ 63 := by
      unfold given
      refine ⟨((List.range (cells.map V.int).length).filter _).map (fun i => if cells.getD i 0 < 0 then -cells.getD i 0 else cells.getD i 0), (List.map_map ..).symm, ?_⟩
      rw [List.length_map]
      refine Nat.le_trans (List.length_filter_le _ _) ?_
      rw [List.length_range, List.length_map]
      exact hz
    rw [hls] at lp0
    refine fun d hd => ?_
    have ed : Ex H1 (upd H1 d (.dK [])) := Ex.new hd
    refine pairs_go ⟨_, rfl, pairs_go ⟨_, rfl, a, _, rfl, .inl (ex_l (e1.trans ed) sq), fun c hc => pairs_go (tc_go (pairs_go (tc_go (pairs_go (tc_go ?_)))))⟩⟩
    have hdc : d ≠ c := fun z => by rw [← z, upd_same] at hc; cases hc
    have hc1 : H1 c = none := fresh_back ed hc
    have hp0d : p0 ≠ d := fun z => by rw [z, hd] at lp0; cases lp0
    have hp0c : p0 ≠ c := fun z => by rw [z, hc1] at lp0; cases lp0
    refine ⟨by rw [upd_ne hdc]; exact upd_same, dkv p0 c 0 0 7, rfl, Nat.le_of_ble_eq_true rfl, ?_⟩
    have eF : Ex H (upd (upd (upd H1 d (.dK [])) c (.lst (cells.map V.int))) d (.dK (dkv p0 c 0 0 7))) := fun b u e => by
      have hb := e1 b u e
      have n1 : b ≠ d := fun z => by rw [z, hd] at hb; cases hb
      have n2 : b ≠ c := fun z => by rw [z, hc1] at hb; cases hb
      rw [upd_ne n1, upd_ne n2, upd_ne n1]
      exact hb
    exact k d (p0, c) _ eF (fresh_back e1 hd) hp0 ⟨0, 0, 7, ls, cells, upd_same, by rw [upd_ne hp0d, upd_ne hp0c, upd_ne hp0d]; exact lp0, by rw [upd_ne (Ne.symm hdc)]; exact upd_same, by decide, by decide, by omega, by omega, Ne.symm hp0c⟩
end
end K74

/-! F13 -/
set_option Elab.async false
set_option linter.all false
set_option maxRecDepth 100000
set_option maxHeartbeats 4000000
namespace K74
open PySem PySem.Spec PyProof.Rows L2
open Evl hiding tCut pss_cut
/-- a list that is being filled -/
structure BldL (d : Addr) (l : Addr × Addr) (p : Addr) (Z0 H0 Z H : Hp) (xs : List V) : Prop where
  dz : DZ Z H d l
  mv : Mv (fun b => DS d l b ∨ b = p) Z0 H0 Z H
  h0 : H0 p = none
  zp : Z p = none
  hp : H p = some (.lst xs)
  pd : p ≠ d
  pl : p ≠ l.1
  pc : p ≠ l.2
section
variable {d p : Addr} {l : Addr × Addr} {Z0 H0 Z H Z1 H1 : Hp} {xs ys : List V}
theorem BldL.nd (b : BldL d l p Z0 H0 Z H xs) : ¬ DS d l p := fun q => q.elim b.pd b.pl
theorem BldL.step (b : BldL d l p Z0 H0 Z H xs) (m : Mv (DS d l) Z H Z1 H1) (dz1 : DZ Z1 H1 d l) : BldL d l p Z0 H0 Z1 H1 xs :=
  ⟨dz1, b.mv.trans (m.mono fun _ q => .inl q), b.h0, m.n _ _ b.hp b.zp, m.k _ _ b.hp b.nd, b.pd, b.pl, b.pc⟩
theorem BldL.gr (b : BldL d l p Z0 H0 Z H xs) (g : Gr Z H Z1 H1) : BldL d l p Z0 H0 Z1 H1 xs := b.step (Mv.gr g) (b.dz.gr g)
theorem BldL.ex (b : BldL d l p Z0 H0 Z H xs) (e : Ex H H1) : BldL d l p Z0 H0 Z H1 xs := b.gr (Gr.of b.dz.z e)
theorem BldL.put (b : BldL d l p Z0 H0 Z H xs) : BldL d l p Z0 H0 Z (upd H p (.lst ys)) ys := by
  have m := Mv.write (S := fun b => DS d l b ∨ b = p) (o' := .lst ys) b.dz.z b.zp b.hp (.inr rfl)
  obtain ⟨r, t, mm, ls, cs, q⟩ := b.dz.dr
  have dr : Draw (upd H p (.lst ys)) d l := ⟨r, t, mm, ls, cs, by rw [upd_ne (Ne.symm b.pd)]; exact q.dd, by rw [upd_ne (Ne.symm b.pl)]; exact q.ll, by rw [upd_ne (Ne.symm b.pc)]; exact q.cc, q.m0, q.m1, q.lz, q.cz, q.cl⟩
  exact ⟨⟨m.h, dr, b.dz.zd, b.dz.zl⟩, b.mv.trans m, b.h0, b.zp, upd_same, b.pd, b.pl, b.pc⟩
theorem BldL.new (dz : DZ Z H d l) (hp : H p = none) : BldL d l p Z H Z (upd H p (.lst xs)) xs := by
  have g := Gr.new (o := .lst xs) dz.z hp
  obtain ⟨r, t, mm, ls, cs, q⟩ := id dz.dr
  exact ⟨dz.gr g, Mv.gr g, hp, Same.free dz.z hp, upd_same, (fun e => by rw [e, q.dd] at hp; cases hp), (fun e => by rw [e, q.ll] at hp; cases hp), (fun e => by rw [e, q.cc] at hp; cases hp)⟩
theorem BldL.born (dz : DZ Z H d l) (hp : H p = none) (e : Ex H H1) (h1 : H1 p = some (.lst xs)) : BldL d l p Z H Z H1 xs := by
  have g := Gr.of dz.z e
  obtain ⟨r, t, mm, ls, cs, q⟩ := id dz.dr
  exact ⟨dz.gr g, Mv.gr g, hp, Same.free dz.z hp, h1, (fun e => by rw [e, q.dd] at hp; cases hp), (fun e => by rw [e, q.ll] at hp; cases hp), (fun e => by rw [e, q.cc] at hp; cases hp)⟩
theorem BldL.done (b : BldL d l p Z0 H0 Z H xs) : Mv (DS d l) Z0 H0 (upd Z p (.lst xs)) H ∧ DZ (upd Z p (.lst xs)) H d l ∧ Ex Z (upd Z p (.lst xs)) := by
  have m := (Mv.freeze b.mv b.h0 b.hp).cut (S' := DS d l) fun a q => q.imp id fun e => by rw [e]; exact b.h0
  have e : Ex Z (upd Z p (.lst xs)) := K74.same_new b.zp
  exact ⟨m, ⟨m.h, b.dz.dr, by rw [upd_ne (Ne.symm b.pd)]; exact b.dz.zd, by rw [upd_ne (Ne.symm b.pl)]; exact b.dz.zl⟩, e⟩
end
section
variable {P : Program} [hPT : PT P] {w : World} {K : Frag} {mg : Str → Option Value} {base : Heap}
theorem atI_end {xs : List V} (h : xs ≠ []) : ∃ x, atI xs (-1) = some x ∧ xs[xs.length - 1]? = some x := by
  have e := List.dropLast_concat_getLast h
  refine ⟨xs.getLast h, ?_, ?_⟩
  · have q := L2.atI_last xs.dropLast (xs.getLast h)
    rw [e] at q
    exact q
  · rw [← List.getLast?_eq_getElem?]
    exact List.getLast?_eq_some_getLast h
theorem eqv_lnil (ls : List Ld) : PyData.eqv (.list (ls.map dLd)) (.list []) = decide (ls = []) := by
  rw [eqv_lst, show ([] : List PyData) = ([] : List Ld).map dLd from rfl, eqv_map eqv_dLd]
/-! _law_curve -/
def CurveW (K : Frag) (n : Nat) : V → Hp → Prop := fun v Z => ∃ ls : List Ld, LsD K Z v (ls.map dLd) ∧ (∀ x ∈ ls, okLd x) ∧ ls.length = n
theorem curveW_mono {n : Nat} : Mono (CurveW K n) := fun _ _ _ e ⟨ls, h, o⟩ => ⟨ls, h.mv e, o⟩
def sp_law_curve (K : Frag) : Sp := fun vs H Q _ => ∃ (d : Addr) (l : Addr × Addr) (Z : Hp) (v : V) (r : Rl) (n : Int), vs = [.ref d, v, .int n] ∧ DZ Z H d l ∧ CaseAt K Z v r ∧ okR r ∧ (0 ≤ n ∧ n ≤ 1000) ∧ ∀ x Z' H', Mv (DS d l) Z H Z' H' → DZ Z' H' d l → CurveW K n.toNat x Z' → Q x H'
theorem w_law_curve {Z : Hp} {d : Addr} {l : Addr × Addr} {v : V} {r : Rl} {n : Int} (h : CaseAt K Z v r) (o : okR r) (hn : 0 ≤ n ∧ n ≤ 1000) : SpW d l (sp_law_curve K) [.ref d, v, .int n] Z (CurveW K n.toNat) := fun H dz Q q E => ⟨d, l, Z, v, r, n, rfl, dz, h, o, hn, q⟩
theorem sc_law_curve : FnScope ["_law_draw", "_law_case_here", "_law_size", "_law_found", "_law_turn", "_law_anew"] ["_law_draw", "_law_case_here", "_law_size"] (defScope s_law_curve) := ⟨rfl, rfl, rfl, by decide +kernel, rfl, by decide +kernel, by decide +kernel⟩
theorem ok_law_curve (T : Txt w K mg) : FB P w K mg base 4 (He.ga K "_law_curve") ["_law_draw", "_law_case_here", "_law_size"] (sp_law_curve K) := by
  refine FB.of T.F_law_curve sc_law_curve (fun _ _ _ _ _ _ us hl => match us, hl with | [_, _, _], _ => rfl) (by rintro vs H Q E ⟨_, _, _, _, _, _, rfl, _⟩; rfl) (fun cdv A outer s H vs Q E hr h => ?_)
  refine ⟨_, (pss_cons (ps_set (i := 3) sc_law_curve.nd rfl (Or.inl rfl) (pe_lst pa_nil))
    (pss_cons (ps_for (passes_of rfl) rfl (pi_range1 (by rfl) T.f_range (pa_cons (pv 2) pa_nil)) (pg_name (i := 4) sc_law_curve.nd rfl (Or.inl rfl))
    (pss_cons (ps_set (i := 5) sc_law_curve.nd rfl (Or.inl rfl) (pe_and (pe_cmpR (op_neD hr.units) (pv 3) (pe_lst pa_nil) (nomark _)) (pe_one (pe_cmpR op_eq (pe_callF (ok_law_take T) (hr.mono (by decide)) (by rfl) T.g_law_take passL (pa_cons (pv 0) (pa_cons pe_int pa_nil))) pe_int (nomark _)))))
    (pss_one (ps_expr (pe_bm PySem.F.plainAttrs_list PySem.F.slot_list_append PySem.F.type_list_append mt_append (pv 3) (pa_cons (pe_ifExp (pt_val (pv 5)) (pe_ix ix_list (pv 3) (pe_un un_neg pe_int) (fun _ _ => rfl)) (pe_callF (ok_law_load T) (hr.mono (by decide)) (by rfl) T.g_law_load passL (pa_cons (pv 0) (pa_cons (pv 1) pa_nil)))) pa_nil))))))
    (pss_one (ps_ret (pv 3))))), ?_⟩
  obtain ⟨d, l, Z, v, r, n, rfl, dz, hc, o, hn, k⟩ := h
  refine q_asgL (el_lst ea_nil (Nat.zero_le _)) fun p H1 hp e1 lp => ?_
  have b0 : BldL d l p Z H Z H1 [] := BldL.born dz hp e1 lp
  refine q_forR1 (ea_cons (ev_var rfl) ea_nil) ⟨hn.1, by omega⟩ (fun i σ' H' => ∃ (o1 o2 : Option V) (Zi : Hp) (ls : List Ld) (xs : List V), σ' = [some (.ref d), some v, some (.int n), some (.ref p), o1, o2] ∧ BldL d l p Z H Zi H' xs ∧ DpAll K Zi xs (ls.map dLd) ∧ (∀ x ∈ ls, okLd x) ∧ ls.length = i) (fun H2 e2 => ⟨_, _, Z, [], [], rfl, b0.ex e2, .nil, (fun x h => nomatch h), rfl⟩) (fun i σ' H' hi ⟨o1, o2, Zi, ls, xs, es, b, dx, ok, hl⟩ => ?_) (fun σ' H' ⟨o1, o2, Zi, ls, xs, es, b, dx, ok, hl⟩ => ?_)
  · subst es
    have hxl : xs.length = i := by rw [dx.len, List.length_map, hl]
    -- anew
    have ne : ∀ {H2 : Hp}, BldL d l p Z H Zi H2 xs → Ev (tOp (rNeD K) (tVar 3) (tLst tNil)) [some (.ref d), some v, some (.int n), some (.ref p), some (.int (i : Int)), o2] H2 (.bl (!PyData.eqv (.list (ls.map dLd)) (.list []))) := fun {H2} b2 =>
      ev_opL (ev_var rfl) (el_lst ea_nil (Nat.zero_le _)) fun q H3 hq e3 H4 e4 Q k4 => ⟨_, _, .lst (sq_of (e4 _ _ (e3 _ _ b2.hp))) (dx.mv (b2.dz.z.trans (e3.trans e4))), .lst (sq_of (e4 _ _ hq)) .nil, shp_curve ls, shp_curve [], k4 _ (Ex.refl _)⟩
    have fin : ∀ (c : Bool) (Z2 H2 : Hp), BldL d l p Z H Z2 H2 xs → Ex Zi Z2 → (c = true → xs ≠ []) → (tDrop (tBM K "list" rAppend (tVar 3) (tCons (tIf (tB (tVar 5)) (tOp (rIxL K) (tVar 3) (tUn (rU fun i => .int (-i)) (tC (.int 1)))) (tCall (sp_law_load K) [] E0 (tCons (tVar 0) (tCons (tVar 1) tNil)))) tNil))) { nx := fun σ' H' => ∃ (o1 o2 : Option V) (Zi : Hp) (ls : List Ld) (xs : List V), σ' = [some (.ref d), some v, some (.int n), some (.ref p), o1, o2] ∧ BldL d l p Z H Zi H' xs ∧ DpAll K Zi xs (ls.map dLd) ∧ (∀ x ∈ ls, okLd x) ∧ ls.length = i + 1, rt := Q } [some (.ref d), some v, some (.int n), some (.ref p), some (.int (i : Int)), some (.bl c)] H2 := by
      intro c Z2 H2 b2 e2 hne
      refine app_do (K := K) b2.hp (ev_var rfl) (by omega) fun H3 e3 K0 hK => ?_
      have b3 := b2.ex e3
      refine if_go (b := c) (et_B (ev_var rfl)) (fun hc1 H4 e4 => ?_) (fun hc0 H4 e4 => ?_)
      · obtain ⟨x, hx, hx2⟩ := atI_end (hne hc1)
        have b4 := b3.ex e4
        refine Ev.to (ev_op (ev_var rfl) (ev_un ev_c ru_neg) (rv_ixL (K := K) (sq_of b4.hp) hx)) fun H5 e5 => ?_
        have b5 := b4.ex e5
        obtain ⟨y, ey, dy⟩ := DpAll.get dx hx2
        refine hK _ _ b5.hp fun H6 e6 => ⟨_, _, Z2, ls ++ [y], xs ++ [x], rfl, (b5.ex e6).put, ?_, ?_, ?_⟩
        · rw [List.map_append]
          exact (dx.mv e2).app (.cons (dy.mv e2) .nil)
        · intro z hz
          rcases List.mem_append.mp hz with q | q
          · exact ok z q
          · rw [List.mem_singleton.mp q]; exact ok y (List.mem_of_getElem? ey)
        · rw [List.length_append, hl]; rfl
      · have b4 := b3.ex e4
        refine ew_callA (Z := Z2) (ea_cons (ev_var rfl) (ea_cons (ev_var rfl) ea_nil)) (w_law_load (hc.mv b4.mv.z) o) ldW_mono H4 b4.dz _ fun x Z5 H5 m5 dz5 ⟨y, dy, oy⟩ => ?_
        have b5 := b4.step m5 dz5
        refine hK _ _ b5.hp fun H6 e6 => ⟨_, _, Z5, ls ++ [y], xs ++ [x], rfl, (b5.ex e6).put, ?_, ?_, ?_⟩
        · rw [List.map_append]
          exact ((dx.mv e2).mv m5.z).app (.cons dy .nil)
        · intro z hz
          rcases List.mem_append.mp hz with q | q
          · exact ok z q
          · rw [List.mem_singleton.mp q]; exact oy
        · rw [List.length_append, hl]; rfl
    refine Ev.to (ne b) fun H2 e2 => ⟨_, rfl, ?_⟩
    rw [eqv_lnil]
    by_cases hne : ls = []
    · rw [decide_eq_true hne, if_neg (by decide)]
      exact fin false Zi H2 (b.ex e2) (Ex.refl _) fun z => nomatch z
    · rw [decide_eq_false hne, if_pos (show (!false) = true from rfl)]
      refine ew_takeC (K := K) (σ := [some (.ref d), some v, some (.int n), some (.ref p), some (.int (i : Int)), o2]) (Z := Zi) (n := 0) (m := 3) (P := fun _ => True) rfl ⟨by decide, by decide⟩ (fun _ _ _ => trivial) H2 (b.ex e2).dz _ fun v3 Z3 H3 m3 dz3 ⟨j, ev, _⟩ => ?_
      subst ev
      exact ⟨rfl, fin _ Z3 H3 ((b.ex e2).step m3 dz3) m3.z fun _ e => hne (by rw [e] at hxl; exact List.length_eq_zero_iff.mp (by rw [hl]; exact hxl.symm))⟩
  · subst es
    refine s_ret (ev_var rfl) fun H2 e2 => ?_
    obtain ⟨mf, dzf, ef⟩ := (b.ex e2).done
    exact k _ _ _ mf dzf ⟨ls, ⟨p, xs, rfl, upd_same, dx.mv ef⟩, ok, hl⟩
end
end K74

/-! F14 -/
set_option Elab.async false
set_option linter.all false
set_option maxRecDepth 100000
set_option maxHeartbeats 4000000
namespace K74
open PySem PySem.Spec PyProof.Rows L2
open Evl hiding tCut pss_cut
section
variable {P : Program} [hPT : PT P] {w : World} {K : Frag} {mg : Str → Option Value} {base : Heap}
/-! _law_is_part -/
def nmP : Part → Str
  | .over _ _ => "over"
  | .under _ _ => "under"
  | .aim _ _ _ => "aim"
def tlP : Part → List Int
  | .over m k => [m, k]
  | .under m k => [m, k]
  | .aim m l h => [m, l, h]
theorem pV_eq (p : Part) : pV p = .str (nmP p) :: (tlP p).map V.int := by cases p <;> rfl
theorem cut_one {x : V} {xs : List V} : cutV (x :: xs) (some 1) none = xs := cut_lo (xs := x :: xs) 1
theorem eqv_pnil (p : Part) : PyData.eqv (dPart p) (.tuple []) = false := by cases p <;> rfl
theorem inV_tag (p : Part) : inV (.str (nmP p)) [.str "over", .str "under", .str "aim"] = true := by
  cases p with
  | over m k => show inV (.str "over") _ = true; decide +kernel
  | under m k => show inV (.str "under") _ = true; decide +kernel
  | aim m l k => show inV (.str "aim") _ = true; decide +kernel
theorem tl_ok {p : Part} (h : okP p = true) : ∀ x ∈ tlP p, 1 ≤ x ∧ x ≤ 60 := by
  cases p with
  | over m k => obtain ⟨a, b⟩ := okP_over h; intro x hx; exact (List.mem_cons.mp hx).elim (fun q => by omega) (fun q => by rw [List.mem_singleton.mp q]; omega)
  | under m k => obtain ⟨a, b⟩ := okP_under h; intro x hx; exact (List.mem_cons.mp hx).elim (fun q => by omega) (fun q => by rw [List.mem_singleton.mp q]; omega)
  | aim m l k =>
    obtain ⟨a, b, c, _⟩ := okP_aim h
    intro x hx
    rcases List.mem_cons.mp hx with q | q
    · omega
    · rcases List.mem_cons.mp q with q | q
      · omega
      · rw [List.mem_singleton.mp q]; omega
theorem int_at {ns : List Int} {i : Nat} {x : V} (h : (ns.map V.int)[i]? = some x) : ∃ n, x = .int n ∧ ns[i]? = some n := by
  rw [List.getElem?_map] at h
  cases q : ns[i]? with
  | none => rw [q] at h; cases h
  | some n => rw [q] at h; exact ⟨n, (Option.some.inj h).symm, rfl⟩
def sp_law_is_part (K : Frag) : Sp := fun vs H Q _ => ∃ v p, vs = [v] ∧ Dp K H v (dPart p) ∧ okP p = true ∧ ∀ H', Ex H H' → Q (.bl true) H'
theorem sc_law_is_part : FnScope ["_law_worth", "_law_numbers", "_law_number"] ["_law_worth"] (defScope s_law_is_part) := ⟨rfl, rfl, rfl, by decide +kernel, rfl, by decide +kernel, by decide +kernel⟩
theorem ok_law_is_part (T : Txt w K mg) : FB P w K mg base 2 (He.ga K "_law_is_part") ["_law_worth"] (sp_law_is_part K) := by
  refine FB.of T.F_law_is_part sc_law_is_part (fun _ _ _ _ _ _ us hl => match us, hl with | [_], _ => rfl) (by rintro vs H Q E ⟨_, _, rfl, _⟩; rfl) (fun cdv A outer s H vs Q E hr h => ?_)
  refine ⟨_, (pss_cons (ps_if (PW.pt (pw_or (pt_not (pt_val (pe_callB call_isi (by rfl) T.f_isinstance (by decide +kernel) (pa_cons (pv 0) (pa_cons (pe_bltn (by rfl) T.f_tuple (by decide +kernel) (v := .ty "tuple") rfl) pa_nil))))) (pw_or (pt_cmpR (op_eqD hr.units) (pv 0) (pe_tup pa_nil) (nomark _)) (pw_or1 (pt_cmpR op_notIn_seq (pe_ix ix_tup (pv 0) pe_int (fun _ _ => rfl)) (pe_tup (pa_cons pe_str (pa_cons pe_str (pa_cons pe_str pa_nil)))) (by rfl))))))
    (pss_one (ps_ret pe_bl))
    pss_nil)
    (pss_cons (ps_set (i := 1) sc_law_is_part.nd rfl (Or.inl rfl) (pe_callTy call_list_of (by rfl) T.f_list (by decide +kernel) (pa_cons (pe_slice sl_tupA (pv 0) (po_some pe_int) po_none) pa_nil)))
    (pss_cons (ps_if (pt_cmpR (op_neD hr.units) (pe_lc (own := [("_law_number", 2)]) (g := gName 2) rfl sc_law_is_part.nd (pi_list (pv 1)) (blkOk_by (own := [("_law_number", 2)]) (N := ["_law_worth", "_law_numbers", "_law_number"]) (sc := defScope s_law_is_part) (by decide +kernel)) (fun _ _ _ _ _ => pg_name (i := 2) sc_law_is_part.nd rfl (Or.inl rfl)) (fun _ _ _ _ _ => pts_one (pt_not (pt_val (pe_callF (ok_law_is_int T) (hr.mono (by decide)) (by rfl) T.g_law_is_int passL (pa_cons (pv 2) (pa_cons pe_int (pa_cons pe_int pa_nil))))))) (fun _ _ _ _ _ => pe_int)) (pe_lst pa_nil) (nomark _))
    (pss_one (ps_ret pe_bl))
    pss_nil)
    (pss_cons (ps_if (pt_cmpR op_eq (pe_ix ix_tup (pv 0) pe_int (fun _ _ => rfl)) pe_str (nomark _))
    (pss_one (ps_ret (pe_and (pe_cmpR op_eq (pe_callB call_len_seq (by rfl) T.f_len (by decide +kernel) (pa_cons (pv 1) pa_nil)) pe_int (nomark _)) (pe_and (pe_cmpR op_le (pe_ix ix_list (pv 1) pe_int (fun _ _ => rfl)) (pe_ix ix_list (pv 1) pe_int (fun _ _ => rfl)) (nomark _)) (pe_one (pe_cmpR op_le (pe_ix ix_list (pv 1) pe_int (fun _ _ => rfl)) (pe_ix ix_list (pv 1) pe_int (fun _ _ => rfl)) (nomark _)))))))
    pss_nil)
    (pss_one (ps_ret (pe_and (pe_cmpR op_eq (pe_callB call_len_seq (by rfl) T.f_len (by decide +kernel) (pa_cons (pv 1) pa_nil)) pe_int (nomark _)) (pe_one (pe_cmpR op_le (pe_ix ix_list (pv 1) pe_int (fun _ _ => rfl)) pe_int (nomark _)))))))))), ?_⟩
  obtain ⟨v, p, rfl, hd, okp, k⟩ := h
  obtain ⟨a, rfl, sq⟩ := part_at hd
  rw [pV_eq] at sq
  refine q_when (b := false) (et_is (et_or (et_not (et_B (ev_isi (ev_var rfl) (tyx_seq sq) kit_tt))) fun _ => et_or (et_test (ev_eqDU (ev_var rfl) (eu_tup ea_nil (Nat.le_of_ble_eq_true rfl)) hd .nil (lay_dPart p) lay_nil)) fun _ => et_test (ev_niU (ev_ixT (ev_var rfl) sq at0) (eu_tup (ea_cons ev_c (ea_cons ev_c (ea_cons ev_c ea_nil))) (Nat.le_of_ble_eq_true rfl)) rfl rfl)) (by rw [eqv_pnil, inV_tag]; rfl)) (fun h => nomatch h) fun _ H1 e1 => ?_
  have sq1 := ex_t e1 sq
  refine q_asgL (xs := (tlP p).map V.int) (el_listT (K := K) (by
    have h := ep_slA (K := K) (te := tVar 0) (ev_var rfl) (eo_some (i := 1) ev_c) eo_none sq1 (σ := start ["_law_worth", "_law_numbers", "_law_number"] [.ref a])
    rw [cut_one] at h
    exact h)) fun b H2 hb e2 lb => ?_
  have hl : (tlP p).length ≤ 3 := by cases p <;> exact Nat.le_of_ble_eq_true rfl
  refine q_when (b := false) (et_is (et_test (ev_anyF (el_filL (fun _ => false) (EvP.seqL (ev_var rfl) (sq_of lb)) (by rw [List.length_map]; omega) (fun _ => rfl) fun i x H3 e3 hx => ?_))) (List.any_eq_false.mpr fun _ _ h => nomatch h)) (fun h => nomatch h) fun _ H3 e3 => ?_
  · obtain ⟨n, rfl, hn⟩ := int_at hx
    have hb := tl_ok okp n (List.mem_of_getElem? hn)
    exact et_is (et_not (et_B (ev_callS (ea_cons (ev_var rfl) (ea_cons ev_c (ea_cons ev_c ea_nil))) (v_law_is_int (K := K))))) (by rw [decide_eq_true hb.1, decide_eq_true hb.2]; rfl)
  · have e13 := e2.trans e3
    have lb3 := e3 _ _ lb
    have sq3 := ex_t e13 sq1
    have e03 := e1.trans e13
    cases p with
    | over m c =>
      obtain ⟨hm, hk⟩ := okP_over okp
      refine q_when (b := false) (et_is (et_test (ev_eq (ev_ixT (ev_var rfl) sq3 at0) ev_c rfl)) tag_oa) (fun h => nomatch h) fun _ H4 e4 => ?_
      have lb4 := e4 _ _ lb3
      exact s_ret (ev_is (ev_andV (ev_eq (ev_len (ev_var rfl) (sq_of lb4)) ev_c rfl) fun _ => ev_I (ev_ixL (ev_var rfl) (sq_of lb4) rfl) ev_c) (by rw [decide_eq_true (show c ≤ 8 by omega)]; rfl)) fun H5 e5 => k H5 ((e03.trans e4).trans e5)
    | under m c =>
      obtain ⟨hm, hk⟩ := okP_under okp
      refine q_when (b := false) (et_is (et_test (ev_eq (ev_ixT (ev_var rfl) sq3 at0) ev_c rfl)) tag_ua) (fun h => nomatch h) fun _ H4 e4 => ?_
      have lb4 := e4 _ _ lb3
      exact s_ret (ev_is (ev_andV (ev_eq (ev_len (ev_var rfl) (sq_of lb4)) ev_c rfl) fun _ => ev_I (ev_ixL (ev_var rfl) (sq_of lb4) rfl) ev_c) (by rw [decide_eq_true (show c ≤ 8 by omega)]; rfl)) fun H5 e5 => k H5 ((e03.trans e4).trans e5)
    | aim m lo hi =>
      obtain ⟨_, _, _, h1, h2⟩ := okP_aim okp
      refine q_when (b := true) (et_is (et_test (ev_eq (ev_ixT (ev_var rfl) sq3 at0) ev_c rfl)) tag_aa) (fun _ H4 e4 => ?_) (fun h => nomatch h)
      have lb4 := e4 _ _ lb3
      exact s_ret (ev_is (ev_andV (ev_eq (ev_len (ev_var rfl) (sq_of lb4)) ev_c rfl) fun _ => ev_andV (ev_I (ev_ixL (ev_var rfl) (sq_of lb4) rfl) (ev_ixL (ev_var rfl) (sq_of lb4) rfl)) fun _ => ev_I (ev_ixL (ev_var rfl) (sq_of lb4) rfl) (ev_ixL (ev_var rfl) (sq_of lb4) rfl)) (by rw [decide_eq_true h1, decide_eq_true h2]; rfl)) fun H5 e5 => k H5 ((e03.trans e4).trans e5)
theorem v_law_is_part {H : Hp} {v : V} {p : Part} (h : Dp K H v (dPart p)) (o : okP p = true) : SpV (sp_law_is_part K) [v] H (.bl true) := fun H1 e Q q E => ⟨v, p, rfl, h.mv e, o, q⟩
/-! _law_act -/
def okAct : Deed → Prop
  | .load l => okLd l
  | .fail k => 1 ≤ k ∧ k ≤ 8
  | .part p => okP p = true
  | .raise a => -5 ≤ a ∧ a ≤ 5
def DeedW (K : Frag) : V → Hp → Prop := fun v Z => ∃ d, Dp K Z v (dDeed d) ∧ okAct d
theorem deedW_mono : Mono (DeedW K) := fun _ _ _ e ⟨d, h, o⟩ => ⟨d, h.mv e, o⟩
def sp_law_act (K : Frag) : Sp := fun vs H Q _ => ∃ (d : Addr) (l : Addr × Addr) (Z : Hp) (v : V) (sh : Sh), vs = [.ref d, v] ∧ DZ Z H d l ∧ SheetAt K Z v sh ∧ OkSh sh ∧ ∀ x Z' H', Mv (DS d l) Z H Z' H' → DZ Z' H' d l → DeedW K x Z' → Q x H'
theorem w_law_act {Z : Hp} {d : Addr} {l : Addr × Addr} {v : V} {sh : Sh} (h : SheetAt K Z v sh) (o : OkSh sh) : SpW d l (sp_law_act K) [.ref d, v] Z (DeedW K) := fun H dz Q q E => ⟨d, l, Z, v, sh, rfl, dz, h, o, q⟩
/-- (name, thing) -/
theorem ew_deed {σ : L2.St} {d : Addr} {l : Addr × Addr} {Z : Hp} {t : TE} {nm : Str} {R : PyData → Prop} (h : EvWD K d l t σ Z R) (hr : ∀ e, R e → ∃ dd, (.tuple [.str nm, e] : PyData) = dDeed dd ∧ okAct dd) :
    EvW d l (tTup (tCons (tC (.str nm)) (tCons t tNil))) σ Z (DeedW K) :=
  ew_imp (ewd_tup (K := K) (A := fun es => ∃ e, es = [.str nm, e] ∧ R e) (B := fun e => ∃ dd, e = dDeed dd ∧ okAct dd) (ewda_cons (A := fun e => e = .str nm) (B := fun es => ∃ e, es = [e] ∧ R e) (ewd_str rfl) (ewda_cons (B := fun es => es = []) h (ewda_nil rfl) fun e es a b => ⟨e, by rw [b], a⟩) fun e es a ⟨x, b, c⟩ => ⟨x, by rw [a, b], c⟩) fun es ⟨e, a, b⟩ => by
    subst a
    exact ⟨by show 2 ≤ 1000; omega, hr e b⟩) fun v Z2 _ ⟨e, p, dd, q, o⟩ => ⟨dd, by rw [← q]; exact p, o⟩
theorem sc_law_act : FnScope ["_law_draw", "_law_sheet_here", "_law_way", "_law_case_here"] ["_law_draw", "_law_sheet_here"] (defScope s_law_act) := ⟨rfl, rfl, rfl, by decide +kernel, rfl, by decide +kernel, by decide +kernel⟩
theorem ok_law_act (T : Txt w K mg) : FB P w K mg base 5 (He.ga K "_law_act") ["_law_draw", "_law_sheet_here"] (sp_law_act K) := by
  refine FB.of T.F_law_act sc_law_act (fun _ _ _ _ _ _ us hl => match us, hl with | [_, _], _ => rfl) (by rintro vs H Q E ⟨_, _, _, _, _, rfl, _⟩; rfl) (fun cdv A outer s H vs Q E hr h => ?_)
  refine ⟨_, (pss_cons (ps_par rfl sc_law_act.nd (i := 2) (j := 3) rfl rfl (by decide) rfl rfl (pa_cons (pe_callF (ok_law_take T) (hr.mono (by decide)) (by rfl) T.g_law_take passL (pa_cons (pv 0) (pa_cons pe_int pa_nil))) (pa_cons (pe_dget (hu_of hr) (pv 1) pe_str (fun _ _ => rfl)) pa_nil)) (by rfl))
    (pss_cons (ps_if (pt_cmpR op_lt (pv 2) pe_int (nomark _))
    (pss_one (ps_ret (pe_tup (pa_cons pe_str (pa_cons (pe_callF (ok_law_load T) (hr.mono (by decide)) (by rfl) T.g_law_load passL (pa_cons (pv 0) (pa_cons (pv 3) pa_nil))) pa_nil)))))
    pss_nil)
    (pss_cons (ps_if (pt_cmpR op_eq (pv 2) pe_int (nomark _))
    (pss_one (ps_ret (pe_tup (pa_cons pe_str (pa_cons (pe_op op_add pe_int (pe_callF (ok_law_take T) (hr.mono (by decide)) (by rfl) T.g_law_take passL (pa_cons (pv 0) (pa_cons (pe_callB (call_max2 rfl) (by rfl) T.f_max (by decide +kernel) (pa_cons pe_int (pa_cons (pe_op op_sub (pe_ix ix_tup (pe_dget (hu_of hr) (pv 1) pe_str (fun _ _ => rfl)) pe_int (fun _ _ => rfl)) (pe_dget (hu_of hr) (pv 3) pe_str (fun _ _ => rfl))) pa_nil))) pa_nil)))) pa_nil)))))
    pss_nil)
    (pss_cons (ps_if (pt_cmpR op_eq (pv 2) pe_int (nomark _))
    (pss_one (ps_ret (pe_tup (pa_cons pe_str (pa_cons (pe_callF (ok_law_part T) (hr.mono (by decide)) (by rfl) T.g_law_part passL (pa_cons (pv 0) pa_nil)) pa_nil)))))
    pss_nil)
    (pss_one (ps_ret (pe_tup (pa_cons pe_str (pa_cons (pe_callF (ok_law_pick T) (hr.mono (by decide)) (by rfl) T.g_law_pick passL (pa_cons (pv 0) (pa_cons (pe_lst (pa_cons pe_int (pa_cons (pe_un un_neg pe_int) (pa_cons pe_int (pa_cons (pe_un un_neg pe_int) (pa_cons pe_int (pa_cons pe_int pa_nil))))))) pa_nil))) pa_nil))))))))), ?_⟩
  obtain ⟨d, l, Z, v, sh, rfl, dz, hsh, ok, k⟩ := h
  obtain ⟨sa, c, s, cl, rfl, s1, s2, s3, s4⟩ := id hsh
  refine q_parW (ew_takeC (P := fun _ => True) rfl ⟨by decide, by decide⟩ fun _ _ _ => trivial) pi_mono (ew_g (eg_ev (Φ := fun u _ => u = c) (ev_dget (ev_var rfl) s1 rfl) rfl)) (fun _ _ _ _ q => q) dz fun v1 u1 Z1 H1 m1 dz1 ⟨way, ev, _⟩ eu => ?_
  subst ev eu
  have s1' := m1.z _ _ s1
  have s2' := s2.mv m1.z
  have s3' := s3.mv m1.z
  refine q_when (et_test (ev_I (ev_var rfl) ev_c)) (fun _ H2 e2 => ?_) (fun _ H2 e2 => ?_)
  · have g2 := Gr.of dz1.z e2
    exact s_retW (ew_deed (K := K) (R := fun e => ∃ ld, e = dLd ld ∧ okLd ld) (ew_imp (ew_callA (ea_cons (ev_var rfl) (ea_cons (ev_var rfl) ea_nil)) (w_law_load s2' ok.r) ldW_mono) fun v Z2 _ ⟨ld, p, o⟩ => ⟨_, p, ld, rfl, o⟩) fun e ⟨ld, he, o⟩ => ⟨.load ld, by rw [he]; rfl, o⟩) (dz1.gr g2) fun x Z3 H3 m3 dz3 hx => k x Z3 H3 ((m1.trans (Mv.gr g2)).trans m3) dz3 hx
  · have g2 := Gr.of dz1.z e2
    have dz2 := dz1.gr g2
    refine q_when (et_test (ev_eq (ev_var rfl) ev_c rfl)) (fun _ H3 e3 => ?_) (fun _ H3 e3 => ?_)
    · have g3 := Gr.of dz2.z e3
      obtain ⟨sta, stb, rfl, sq, _⟩ := st_at s3'
      have := ok.r.l1
      have := ok.r.m8
      have := ok.s.n2
      exact s_retW (ew_deed (K := K) (R := fun e => ∃ i, e = .int i ∧ 1 ≤ i ∧ i ≤ 8) (ewd_int (ew_I (A := fun i => i = 1) (B := fun i => 0 ≤ i ∧ i ≤ 7) (C := fun i => 1 ≤ i ∧ i ≤ 8) (ew_c rfl) (ew_take (B := fun i => 1 ≤ i ∧ i ≤ 8) rfl (ew_int (ev_max2' ev_c (ev_I (ev_ixT (ev_dget (ev_var rfl) s1' rfl) sq rfl) (ev_c_least (ev_var rfl) s2'))) (by split <;> omega)) (fun i hi => by omega) fun i r hi h0 h1 => by omega) fun i j hi hj => by omega) fun i hi => ⟨i, rfl, hi⟩) fun e ⟨i, he, hi⟩ => ⟨.fail i, by rw [he]; rfl, hi⟩) (dz2.gr g3) fun x Z3 H3 m3 dz3 hx => k x Z3 H3 (((m1.trans (Mv.gr g2)).trans (Mv.gr g3)).trans m3) dz3 hx
    · have g3 := Gr.of dz2.z e3
      have dz3 := dz2.gr g3
      refine q_when (et_test (ev_eq (ev_var rfl) ev_c rfl)) (fun _ H4 e4 => ?_) (fun _ H4 e4 => ?_)
      · have g4 := Gr.of dz3.z e4
        exact s_retW (ew_deed (K := K) (R := fun e => ∃ p, e = dPart p ∧ okP p = true) (ew_imp (ew_callA (ea_cons (ev_var rfl) ea_nil) w_law_part partW_mono) fun v Z2 _ ⟨p, q, o⟩ => ⟨_, q, p, rfl, o⟩) fun e ⟨p, he, o⟩ => ⟨.part p, by rw [he]; rfl, o⟩) (dz3.gr g4) fun x Z5 H5 m5 dz5 hx => k x Z5 H5 ((((m1.trans (Mv.gr g2)).trans (Mv.gr g3)).trans (Mv.gr g4)).trans m5) dz5 hx
      · have g4 := Gr.of dz3.z e4
        exact s_retW (ew_deed (K := K) (R := fun e => ∃ i, e = .int i ∧ -5 ≤ i ∧ i ≤ 5) (ewd_int (ew_pick (Φ := PI fun i => -5 ≤ i ∧ i ≤ 5) rfl (ew_lstI (n := 5) (ewl_cons (ew_c ⟨by decide, by decide⟩) (ewl_cons (ew_int (ev_negI ev_c) ⟨by decide, by decide⟩) (ewl_cons (ew_c ⟨by decide, by decide⟩) (ewl_cons (ew_int (ev_negI ev_c) ⟨by decide, by decide⟩) (ewl_cons (ew_c ⟨by decide, by decide⟩) (ewl_cons (ew_c ⟨by decide, by decide⟩) ewl_nil)))))) (by decide))) fun i hi => ⟨i, rfl, hi⟩) fun e ⟨i, he, hi⟩ => ⟨.raise i, by rw [he]; rfl, hi⟩) (dz3.gr g4) fun x Z5 H5 m5 dz5 hx => k x Z5 H5 ((((m1.trans (Mv.gr g2)).trans (Mv.gr g3)).trans (Mv.gr g4)).trans m5) dz5 hx
end
end K74

/-! F15 -/
set_option Elab.async false
set_option linter.all false
set_option maxRecDepth 100000
set_option maxHeartbeats 4000000
namespace K74
open PySem PySem.Spec PyProof.Rows L2
open Evl hiding tCut pss_cut
/-- a thing born since (Z0, H0), yet to be changed -/
structure Bo (p : Addr) (Z0 H0 Z H : Hp) (o : HO) : Prop where
  mv : Mv (fun b => H0 b = none) Z0 H0 Z H
  h0 : H0 p = none
  zp : Z p = none
  hp : H p = some o
section
variable {p q : Addr} {Z0 H0 Z H Z1 H1 : Hp} {o o' u : HO}
theorem Bo.next (m : Mv (fun b => H0 b = none) Z0 H0 Z H) (h : H p = none) (e : Ex H H1) (h1 : H1 p = some o) : Bo p Z0 H0 Z H1 o := ⟨m.trans (Mv.gr (Gr.of m.h e)), m.free h, Same.free m.h h, h1⟩
theorem Bo.gr (b : Bo p Z0 H0 Z H o) (g : Gr Z H Z1 H1) : Bo p Z0 H0 Z1 H1 o := ⟨b.mv.trans (Mv.gr g), b.h0, g.n _ _ b.hp b.zp, g.same _ _ b.hp⟩
theorem Bo.ex (b : Bo p Z0 H0 Z H o) (e : Ex H H1) : Bo p Z0 H0 Z H1 o := b.gr (Gr.of b.mv.h e)
theorem Bo.put (b : Bo p Z0 H0 Z H o) : Bo p Z0 H0 Z (upd H p o') o' := ⟨b.mv.writeN b.h0 b.zp b.hp, b.h0, b.zp, upd_same⟩
/-- another one is written -/
theorem Bo.other (b : Bo p Z0 H0 Z H o) (c : Bo q Z0 H0 Z H u) (n : p ≠ q) : Bo p Z0 H0 Z (upd H q o') o := ⟨(c.put (o' := o')).mv, b.h0, b.zp, by rw [upd_ne n]; exact b.hp⟩
/-- another one is frozen -/
theorem Bo.frz (b : Bo p Z0 H0 Z H o) (c : Bo q Z0 H0 Z H u) (n : p ≠ q) : Bo p Z0 H0 (upd Z q u) H o := ⟨b.mv.freeze c.h0 c.hp, b.h0, by rw [upd_ne n]; exact b.zp, b.hp⟩
theorem Bo.ez (c : Bo q Z0 H0 Z H u) : Ex Z (upd Z q u) := K74.same_new c.zp
theorem Bo.fin (c : Bo q Z0 H0 Z H u) : Mv (fun b => H0 b = none) Z0 H0 (upd Z q u) H := c.mv.freeze c.h0 c.hp
theorem Bo.done (c : Bo q Z0 H0 Z H u) : Gr Z0 H0 (upd Z q u) H := c.fin.toGr fun _ h => h
variable {σ : L2.St} {D : Ends} {tz : TS} {td tv : TE} {Φ : V → Hp → Prop} {kv : List (Key × V)} {v : V}
theorem q_dputB {k : Str} (b : Bo p Z0 H0 Z H (.dK kv)) (hv : EvG tv σ Z Φ) (ha : Ev td σ H (.ref p)) (hl : kv.length ≤ 100) (kk : ∀ v Z1 H1, Gr Z H Z1 H1 → Φ v Z1 → Bo p Z0 H0 Z1 H1 (.dK kv) → tz D σ (upd H1 p (.dK (putK kv (.inr k) v)))) :
    tSeq (sDPut td (tC (.str k)) tv) tz D σ H := hv H b.mv.h _ fun v Z1 H1 g pv => ha H1 g.same _ fun H2 e2 =>
  have g2 := g.trans (Gr.of g.h e2)
  have b2 := b.gr g2
  ⟨p, _, rfl, DPut.k (k := .inr k) b2.hp (sz_lt (by omega)), kk v Z1 H2 g2 pv b2⟩
end
section
variable {P : Program} [hPT : PT P] {w : World} {K : Frag} {mg : Str → Option Value} {base : Heap}
theorem ed_tupV {σ : L2.St} {Z : Hp} {te : TE} {b : Addr} {ns : List Int} (h : Ev te σ Z (.ref b)) (hb : Z b = some (.lst (ns.map V.int))) :
    EvD K (tCB (fun xs H Q => ∃ p ys, xs = [.ref p] ∧ ((SqL K H p ys ∧ ∀ l, H l = none → Q (.ref l) (upd H l (.tup ys))) ∨ (SqT K H p ys ∧ Q (.ref p) H))) (tCons te tNil)) σ Z (.tuple (ns.map PyData.int)) := fun H1 e Q q => h H1 e _ fun H2 e2 =>
  ⟨b, _, rfl, .inl ⟨sq_of (e2 _ _ (e _ _ hb)), fun l hl => by
    have g0 : Gr Z H1 Z H2 := Gr.of e e2
    exact q _ _ _ (g0.trans (Gr.newZ g0.h hl)) (Dp.newT (DpAll.ints ns) (Same.free g0.h hl))⟩⟩
def badN (n : Int) : Bool := decide (n < 1) || decide (n > 60)
theorem badN_eq (n : Int) : badN n = !mk60 n := by
  unfold badN mk60
  by_cases h1 : 1 ≤ n
  · by_cases h2 : n ≤ 60
    · rw [decide_eq_false (show ¬ n < 1 by omega), decide_eq_false (show ¬ n > 60 by omega), decide_eq_true h1, decide_eq_true h2]; rfl
    · rw [decide_eq_true (show n > 60 by omega), decide_eq_false h2, Bool.or_true, Bool.and_false]; rfl
  · rw [decide_eq_true (show n < 1 by omega), decide_eq_false h1]; rfl
/-- the marks of a part -/
def mkP : Part → List Int
  | .over m _ => [m]
  | .under m _ => [m]
  | .aim m l h => [m, l, h]
theorem mk_any {p : Part} {a : Int} (h : okP p = true) : (List.range (mkP (upP a p)).length).any (fun i => badN ((mkP (upP a p)).getD i 0)) = !okP (upP a p) := by
  cases p with
  | over m k =>
    obtain ⟨h1, h2⟩ := okP_over h
    show (badN (m + a) || false) = !((mk60 (m + a) && mk60 k) && decide (k ≤ 8))
    rw [badN_eq, show mk60 k = true by unfold mk60; rw [decide_eq_true h2.1, decide_eq_true (show k ≤ 60 by omega)]; rfl, decide_eq_true h2.2]
    simp
  | under m k =>
    obtain ⟨h1, h2⟩ := okP_under h
    show (badN (m + a) || false) = !((mk60 (m + a) && mk60 k) && decide (k ≤ 8))
    rw [badN_eq, show mk60 k = true by unfold mk60; rw [decide_eq_true h2.1, decide_eq_true (show k ≤ 60 by omega)]; rfl, decide_eq_true h2.2]
    simp
  | aim m l k =>
    obtain ⟨_, _, _, h1, h2⟩ := okP_aim h
    show (badN (m + a) || (badN (l + a) || (badN (k + a) || false))) = !(((mk60 (m + a) && mk60 (l + a)) && mk60 (k + a)) && (decide (l + a ≤ m + a) && decide (m + a ≤ k + a)))
    rw [badN_eq, badN_eq, badN_eq, decide_eq_true (show l + a ≤ m + a by omega), decide_eq_true (show m + a ≤ k + a by omega)]
    cases mk60 (m + a) <;> cases mk60 (l + a) <;> cases mk60 (k + a) <;> rfl
/-! _law_raised -/
def RaisedW (K : Frag) (r : Rl) (a : Int) : V → Hp → Prop := fun x Z => if okPs (r.parts.map (upP a)) = true then CaseAt K Z x (upR a r) else x = .non
theorem raisedW_mono {r : Rl} {a : Int} : Mono (RaisedW K r a) := fun x Z Z' e h => by
  unfold RaisedW at h ⊢
  split at h
  · rename_i q; rw [if_pos q]; exact h.mv e
  · rename_i q; rw [if_neg q]; exact h
def sp_law_raised (K : Frag) : Sp := fun vs H Q _ => ∃ v r a Z, vs = [v, .int a] ∧ Ex Z H ∧ CaseAt K Z v r ∧ okR r ∧ ∀ x Z' H', Gr Z H Z' H' → RaisedW K r a x Z' → Q x H'
theorem g_law_raised {Z : Hp} {v : V} {r : Rl} {a : Int} (h : CaseAt K Z v r) (o : okR r) : SpG (sp_law_raised K) [v, .int a] Z (RaisedW K r a) := fun H1 e Q q E => ⟨v, r, a, Z, rfl, e, h, o, q⟩
theorem sc_law_raised : FnScope ["_law_case_here", "_law_amount", "_law_part_here", "_law_other", "_law_parts", "_law_numbers", "_law_marks", "_law_number", "_law_mark"] ["_law_case_here", "_law_amount"] (defScope s_law_raised) := ⟨rfl, rfl, rfl, by decide +kernel, rfl, by decide +kernel, by decide +kernel⟩
theorem ok_law_raised (T : Txt w K mg) : FB P w K mg base 1 (He.ga K "_law_raised") ["_law_case_here", "_law_amount"] (sp_law_raised K) := by
  refine FB.of T.F_law_raised sc_law_raised (fun _ _ _ _ _ _ us hl => match us, hl with | [_, _], _ => rfl) (by rintro vs H Q E ⟨_, _, _, _, rfl, _⟩; rfl) (fun cdv A outer s H vs Q E hr h => ?_)
  refine ⟨_, (pss_cons (ps_par rfl sc_law_raised.nd (i := 3) (j := 4) rfl rfl (by decide) rfl rfl (pa_cons (pe_callTy call_dictD (by rfl) T.f_dict (by decide +kernel) (pa_cons (pv 0) pa_nil)) (pa_cons (pe_lst pa_nil) pa_nil)) (by rfl))
    (pss_cons (ps_for (passes_of rfl) rfl (pi_list (pe_dget (hu_of hr) (pv 0) pe_str (fun _ _ => rfl))) (pg_name (i := 2) sc_law_raised.nd rfl (Or.inl rfl))
    (pss_cons (ps_setLc (i := 5) (own := [("_law_number", 7)]) (g := gName 7) (tt := tYes) rfl sc_law_raised.nd rfl rfl (sw_true rfl rfl rfl (by decide +kernel)) (pi_tup (pe_slice sl_tupA (pv 2) (po_some pe_int) po_none)) (blkOk_by (own := [("_law_number", 7)]) (N := ["_law_case_here", "_law_amount", "_law_part_here", "_law_other", "_law_parts", "_law_numbers", "_law_marks", "_law_number", "_law_mark"]) (sc := defScope s_law_raised) (by decide +kernel)) (fun _ _ _ _ _ => pg_name (i := 7) sc_law_raised.nd rfl (Or.inl rfl)) (fun _ _ _ _ _ => pts_nil) (fun _ _ _ _ _ => (pe_op op_add (pv 7) (pv 1))))
    (Evl.pss_cut (ps_if (pt_cmpR op_ne (pe_ix ix_tup (pv 2) pe_int (fun _ _ => rfl)) pe_str (nomark _))
    (pss_one (ps_asg (pe_ix ix_tup (pv 2) pe_int (fun _ _ => rfl)) (pg_sub (pv 5) pe_int set_list)))
    pss_nil)
    (pss_cons (ps_expr (pe_bm PySem.F.plainAttrs_list PySem.F.slot_list_append PySem.F.type_list_append mt_append (pv 4) (pa_cons (pe_op op_catA (pe_tup (pa_cons (pe_ix ix_tup (pv 2) pe_int (fun _ _ => rfl)) pa_nil)) (pe_callTy call_tuple_of (by rfl) T.f_tuple (by decide +kernel) (pa_cons (pv 5) pa_nil))) pa_nil)))
    (Evl.pss_cut (ps_set (i := 6) sc_law_raised.nd rfl (Or.inl rfl) (pe_ifExp (pt_cmpR op_eq (pe_ix ix_tup (pv 2) pe_int (fun _ _ => rfl)) pe_str (nomark _)) (pv 5) (pe_slice sl_list (pv 5) po_none (po_some pe_int))))
    (pss_one (ps_if (pt_cmpR (op_neD hr.units) (pe_lc (own := [("_law_mark", 8)]) (g := gName 8) rfl sc_law_raised.nd (pi_list (pv 6)) (blkOk_by (own := [("_law_mark", 8)]) (N := ["_law_case_here", "_law_amount", "_law_part_here", "_law_other", "_law_parts", "_law_numbers", "_law_marks", "_law_number", "_law_mark"]) (sc := defScope s_law_raised) (by decide +kernel)) (fun _ _ _ _ _ => pg_name (i := 8) sc_law_raised.nd rfl (Or.inl rfl)) (fun _ _ _ _ _ => pts_one (PW.pt (pw_or (pt_cmpR op_lt (pv 8) pe_int (nomark _)) (pw_or1 (pt_cmpR op_gt (pv 8) pe_int (nomark _)))))) (fun _ _ _ _ _ => pe_int)) (pe_lst pa_nil) (nomark _))
    (pss_one (ps_ret pe_non))
    pss_nil)))))))
    (pss_cons (ps_dput (hu_of hr) (pv 3) pe_str (pv 4) rfl)
    (pss_one (ps_ret (pv 3)))))), ?_⟩
  obtain ⟨v, r, a, Z, rfl, hZ, hc0, o, k⟩ := h
  obtain ⟨ca, cpl, rfl, c1, pa, xs, rfl, c2, c3⟩ := id hc0
  have hx : xs.length = r.parts.length := by rw [c3.len, List.length_map]
  have hx4 := o.len
  refine ⟨_, rfl, ca, _, rfl, .inl (hZ _ _ c1), fun p hp => ⟨Nat.zero_le _, fun q hq => ⟨_, _, rfl, ?_⟩⟩⟩
  have npq : p ≠ q := fun z => by rw [← z, upd_same] at hq; cases hq
  have bp0 : Bo p Z H Z (upd H p (.dK (ckv r (.ref pa)))) (.dK (ckv r (.ref pa))) := Bo.next (Mv.refl hZ) hp (Ex.new hp) upd_same
  have bp : Bo p Z H Z _ (.dK (ckv r (.ref pa))) := bp0.ex (Ex.new hq (o := .lst []))
  have bq : Bo q Z H Z _ (.lst []) := Bo.next bp0.mv hq (Ex.new hq) upd_same
  refine q_forL (xs := xs) (ev_dget (ev_var rfl) (bp.mv.h _ _ c1) rfl) (sq_of (bp.mv.h _ _ c2)) (fun i σ' H' => ∃ o2 o5 o6 o7 o8 acc Zi, σ' = [some (.ref ca), some (.int a), o2, some (.ref p), some (.ref q), o5, o6, o7, o8] ∧ Bo p Z H Zi H' (.dK (ckv r (.ref pa))) ∧ Bo q Z H Zi H' (.lst acc) ∧ DpAll K Zi acc (((r.parts.take i).map (upP a)).map dPart) ∧ ((r.parts.take i).map (upP a)).all okP = true)
    (fun H2 e2 => ⟨_, _, _, _, _, [], Z, rfl, bp.ex e2, bq.ex e2, by rw [List.take_zero]; exact .nil, by rw [List.take_zero]; rfl⟩) (fun i σ' H' _ ⟨_, _, _, _, _, _, Zi, _, b, _⟩ => sq_of (b.mv.h _ _ (b.mv.z _ _ c2))) (fun i x σ' H' hxi ⟨o2, o5, o6, o7, o8, acc, Zi, es, b1, b2, da, oka⟩ => ?_) (fun σ' H' ⟨o2, o5, o6, o7, o8, acc, Zi, es, b1, b2, da, oka⟩ => ?_)
  · subst es
    have hi : i < xs.length := (List.getElem?_eq_some_iff.mp hxi).1
    obtain ⟨pt, ep, dp⟩ := DpAll.get c3 hxi
    have okp : okP pt = true := List.all_eq_true.mp o.allP pt (List.mem_of_getElem? ep)
    have etk : r.parts.take (i + 1) = r.parts.take i ++ [pt] := by rw [List.take_add_one, ep]; rfl
    have hal : acc.length ≤ 4 := by rw [da.len, List.length_map, List.length_map, List.length_take]; omega
    obtain ⟨xa, rfl, sqx⟩ := part_at dp
    rw [pV_eq] at sqx
    have sqZ : SqT K Zi xa (.str (nmP pt) :: (tlP pt).map V.int) := ex_t b1.mv.z sqx
    have sqH := ex_t b1.mv.h sqZ
    have hl : (tlP pt).length ≤ 3 := by cases pt <;> exact Nat.le_of_ble_eq_true rfl
    refine q_asgL (xs := (tlP pt).map fun n => V.int (n + a)) (el_mapT (K := K) (xs := (tlP pt).map V.int) (by
      have h := ep_slA (K := K) (te := tVar 2) (ev_var rfl) (eo_some (i := 1) ev_c) eo_none sqH (σ := [some (.ref ca), some (.int a), some (.ref xa), some (.ref p), some (.ref q), o5, o6, o7, o8])
      rw [cut_one] at h
      exact h) (by rw [List.length_map]; omega) (by rw [List.length_map, List.length_map]) (fun _ => rfl) fun j y z H1 e1 hy hz => ?_) fun nu H1 hnu e1 lnu => ?_
    · obtain ⟨n, rfl, hn⟩ := int_at hy
      rw [List.getElem?_map, hn] at hz
      cases hz
      exact ev_I (ev_var rfl) (ev_var rfl)
    · have b1b := b1.ex e1
      have b2b := b2.ex e1
      have b3b : Bo nu Z H Zi H1 _ := Bo.next b1.mv hnu e1 lnu
      have npn : p ≠ nu := fun z => by rw [← z, b1.hp] at hnu; cases hnu
      have nqn : q ≠ nu := fun z => by rw [← z, b2.hp] at hnu; cases hnu
      have sq1 := ex_t e1 sqH
      refine q_cut (M := fun σ' H' => σ' = [some (.ref ca), some (.int a), some (.ref xa), some (.ref p), some (.ref q), some (.ref nu), o6, o7, o8] ∧ Bo p Z H Zi H' (.dK (ckv r (.ref pa))) ∧ Bo q Z H Zi H' (.lst acc) ∧ Bo nu Z H Zi H' (.lst ((tlP (upP a pt)).map V.int))) ?_ fun σ' H5 ⟨es, b1, b2, b3⟩ => ?_
      · cases pt with
        | over m c =>
          refine s_when (b := true) (et_is (et_test (ev_ne (ev_ixT (ev_var rfl) sq1 at0) ev_c rfl)) (congrArg (!·) tag_oa)) (fun _ H2 e2 => ?_) (fun h => nomatch h)
          refine s_setL (j := 1) (e2 _ _ lnu) (ev_ixT (ev_var rfl) (ex_t e2 sq1) rfl) (ev_var rfl) ev_c (by show 1 < 2; omega) fun H3 e3 => ?_
          have b3c := (b3b.ex e2).ex e3
          exact ⟨rfl, ((b1b.ex e2).ex e3).other b3c npn, ((b2b.ex e2).ex e3).other b3c nqn, b3c.put⟩
        | under m c =>
          refine s_when (b := true) (et_is (et_test (ev_ne (ev_ixT (ev_var rfl) sq1 at0) ev_c rfl)) (congrArg (!·) tag_ua)) (fun _ H2 e2 => ?_) (fun h => nomatch h)
          refine s_setL (j := 1) (e2 _ _ lnu) (ev_ixT (ev_var rfl) (ex_t e2 sq1) rfl) (ev_var rfl) ev_c (by show 1 < 2; omega) fun H3 e3 => ?_
          have b3c := (b3b.ex e2).ex e3
          exact ⟨rfl, ((b1b.ex e2).ex e3).other b3c npn, ((b2b.ex e2).ex e3).other b3c nqn, b3c.put⟩
        | aim m lo hi =>
          exact s_when (b := false) (et_is (et_test (ev_ne (ev_ixT (ev_var rfl) sq1 at0) ev_c rfl)) (congrArg (!·) tag_aa)) (fun h => nomatch h) fun _ H2 e2 => ⟨rfl, b1b.ex e2, b2b.ex e2, b3b.ex e2⟩
      · subst es
        have c1 := b1.frz b3 npn
        have c2 := b2.frz b3 nqn
        have sq5 : SqT K (upd Zi nu (.lst ((tlP (upP a pt)).map V.int))) xa (.str (nmP pt) :: (tlP pt).map V.int) := ex_t b3.ez sqZ
        refine app_do (K := K) c2.hp (ev_var rfl) (by omega) fun H6 e6 K0 hK => ?_
        refine ed_catA (K := K) (Z := upd Zi nu (.lst ((tlP (upP a pt)).map V.int))) (ds := [.str (nmP pt)]) (es := (tlP (upP a pt)).map PyData.int) (ed_tup (eda_cons (ed_ev (ev_ixT (ev_var rfl) sq5 at0) (.str _)) eda_nil) (Nat.le_of_ble_eq_true rfl)) (ed_tupV (ev_var rfl) upd_same) (by rw [List.length_map]; cases pt <;> exact Nat.le_of_ble_eq_true rfl) H6 (c1.mv.h.trans e6) _ fun y Z7 H7 g7 dy0 => ?_
        have dy : Dp K Z7 y (dPart (upP a pt)) := by cases pt <;> exact dy0
        have c17 := (c1.ex e6).gr g7
        have c27 := (c2.ex e6).gr g7
        refine hK y H7 c27.hp fun H8 e8 => ?_
        have c28 := (c27.ex e8).put (o' := .lst (acc ++ [y]))
        have c18 := (c17.ex e8).other (c27.ex e8) (o' := .lst (acc ++ [y])) npq
        have hnu8 : (upd H8 q (.lst (acc ++ [y]))) nu = some (.lst ((tlP (upP a pt)).map V.int)) := by
          rw [upd_ne (Ne.symm nqn)]
          exact e8 _ _ (g7.h _ _ (g7.z _ _ upd_same))
        have sq8 : SqT K (upd H8 q (.lst (acc ++ [y]))) xa (.str (nmP pt) :: (tlP pt).map V.int) := ex_t c28.mv.h (ex_t g7.z sq5)
        refine q_cut (M := fun σ' H' => ∃ mb, σ' = [some (.ref ca), some (.int a), some (.ref xa), some (.ref p), some (.ref q), some (.ref nu), some (.ref mb), o7, o8] ∧ Ex (upd H8 q (.lst (acc ++ [y]))) H' ∧ H' mb = some (.lst ((mkP (upP a pt)).map V.int))) ?_ fun σ' H9 ⟨mb, es, e9, lmb⟩ => ?_
        · cases pt with
          | over m c =>
            refine if_go (b := false) (et_is (et_test (ev_eq (ev_ixT (ev_var rfl) sq8 at0) ev_c rfl)) tag_oa) (fun h => nomatch h) fun _ H9 e9 => ?_
            exact (el_sl (ev_var rfl) eo_none (eo_some ev_c) (sq_of (e9 _ _ hnu8))) H9 (Ex.refl _) _ fun mb H10 hmb e10 lmb => ⟨mb, rfl, e9.trans e10, lmb⟩
          | under m c =>
            refine if_go (b := false) (et_is (et_test (ev_eq (ev_ixT (ev_var rfl) sq8 at0) ev_c rfl)) tag_ua) (fun h => nomatch h) fun _ H9 e9 => ?_
            exact (el_sl (ev_var rfl) eo_none (eo_some ev_c) (sq_of (e9 _ _ hnu8))) H9 (Ex.refl _) _ fun mb H10 hmb e10 lmb => ⟨mb, rfl, e9.trans e10, lmb⟩
          | aim m lo hi =>
            refine if_go (b := true) (et_is (et_test (ev_eq (ev_ixT (ev_var rfl) sq8 at0) ev_c rfl)) tag_aa) (fun _ H9 e9 => ?_) (fun h => nomatch h)
            exact Ev.to (ev_var rfl) fun H10 e10 => ⟨nu, rfl, e9.trans e10, e10 _ _ (e9 _ _ hnu8)⟩
        · subst es
          refine s_when (b := !okP (upP a pt)) (et_is (et_test (ev_anyF (el_filL (fun i => badN ((mkP (upP a pt)).getD i 0)) (EvP.seqL (ev_var rfl) (sq_of lmb)) (by rw [List.length_map]; cases pt <;> exact Nat.le_of_ble_eq_true rfl) (fun _ => rfl) fun j z H10 e10 hz => ?_))) (by rw [List.length_map]; exact mk_any okp)) (fun h H10 e10 => ?_) (fun h H10 e10 => ?_)
          · obtain ⟨n, rfl, hn⟩ := int_at hz
            exact et_is (et_or (et_test (ev_I (ev_var rfl) ev_c)) fun _ => et_test (ev_I (ev_var rfl) ev_c)) (by rw [List.getD_eq_getElem?_getD, hn]; rfl)
          · have hno : okP (upP a pt) = false := by
              cases w : okP (upP a pt) with
              | true => rw [w] at h; cases h
              | false => rfl
            refine s_ret ev_c fun H11 e11 => ?_
            refine k .non _ H11 (((c18.ex e9).ex (e10.trans e11)).mv.toGr fun _ h => h) ?_
            unfold RaisedW
            rw [if_neg]
            intro hok
            unfold okPs at hok
            rw [Bool.and_eq_true] at hok
            have := List.all_eq_true.mp hok.2 (upP a pt) (List.mem_map.mpr ⟨pt, List.mem_of_getElem? ep, rfl⟩)
            rw [hno] at this
            cases this
          · have hyes : okP (upP a pt) = true := by
              cases w : okP (upP a pt) with
              | true => rfl
              | false => rw [w] at h; cases h
            refine ⟨_, _, _, _, _, acc ++ [y], Z7, rfl, (c18.ex e9).ex e10, (c28.ex e9).ex e10, ?_, ?_⟩
            · rw [etk, List.map_append, List.map_append]
              exact ((da.mv b3.ez).mv g7.z).app (.cons dy .nil)
            · rw [etk, List.map_append, List.all_append, oka]
              show (true && (okP (upP a pt) && true)) = true
              rw [hyes]
              rfl
  · subst es
    rw [hx, List.take_length] at da oka
    have ok : okPs (r.parts.map (upP a)) = true := by
      unfold okPs
      rw [oka, decide_eq_true (by rw [List.length_map]; exact hx4)]
      rfl
    refine q_dputB b1 (eg_ev (Φ := fun u _ => u = .ref q) (ev_var rfl) rfl) (ev_var rfl) (Nat.le_of_ble_eq_true rfl) fun v1 Z1 H1 g1 ev b1' => ?_
    subst ev
    have b2' := b2.gr g1
    have bp2 := b1'.put (o' := .dK (putK (ckv r (.ref pa)) (.inr "parts") (.ref q)))
    have bq2 := b2'.other b1' (o' := .dK (putK (ckv r (.ref pa)) (.inr "parts") (.ref q))) (Ne.symm npq)
    refine s_ret (ev_var rfl) fun H2 e2 => ?_
    have bp3 := (bp2.ex e2).frz (bq2.ex e2) npq
    refine k _ _ _ bp3.done ?_
    unfold RaisedW
    rw [if_pos ok]
    exact ⟨p, .ref q, rfl, upd_same, ⟨q, acc, rfl, bp3.ez _ _ upd_same, ((da.mv g1.z).mv bq2.ez).mv bp3.ez⟩⟩
end
end K74

/-! F16 -/
set_option Elab.async false
set_option linter.all false
set_option maxRecDepth 100000
set_option maxHeartbeats 4000000
namespace K74
open PySem PySem.Spec PyProof.Rows L2
open Evl hiding tCut pss_cut
section
variable {P : Program} [hPT : PT P] {w : World} {K : Frag} {mg : Str → Option Value} {base : Heap}
section
variable {σ : L2.St} {Z : Hp} {ta te tb : TE} {t : TT} {Φ : V → Hp → Prop}
/-- xs + [y], frozen -/
theorem eg_cat1 {a : Addr} {xs : List V} {ds : List PyData} {y : V} {e : PyData} (ha : Ev ta σ Z (.ref a)) (za : Z a = some (.lst xs)) (dx : DpAll K Z xs ds) (he : Ev te σ Z y) (dy : Dp K Z y e) (hz : xs.length ≤ 10000) :
    EvG (tOp rCat ta (tLst (tCons te tNil))) σ Z (fun v Z2 => LsD K Z2 v (ds ++ [e])) := fun H1 e Q q => ha H1 e _ fun H2 e2 => (el_lst (ea_cons he ea_nil) (Nat.le_of_ble_eq_true rfl)) H2 (e.trans e2) _ fun b H3 hb e3 l3 => by
  have g : Gr Z H1 Z H3 := Gr.of e (e2.trans e3)
  exact ⟨a, b, xs, [y], rfl, rfl, g.h _ _ za, l3, sz_of (by show xs.length + 1 ≤ 100000; omega), fun r hr => q _ _ _ (g.trans (Gr.newZ g.h hr)) (LsD.newL (dx.app (.cons dy .nil)) (Same.free g.h hr))⟩
theorem eg_ifT (ht : EvT t σ Z true) (ha : EvG ta σ Z Φ) : EvG (tIf t ta tb) σ Z Φ := fun H1 e Q q => ht H1 e _ fun H2 e2 => by
  rw [if_pos rfl]
  exact ha H2 (e.trans e2) Q fun v Z3 H3 g p => q v Z3 H3 ((Gr.of e e2).trans g) p
end
/-! _law_done -/
def errD : Deed → PyData
  | .fail _ => .tuple [.str "number"]
  | _ => .tuple [.str "rule", .str "parts"]
def DoneW (K : Frag) (sh : Sh) (dd : Deed) : V → Hp → Prop := fun x Z => match doneL sh dd with
  | some sh' => SheetAt K Z x sh'
  | none => Dp K Z x (errD dd)
theorem doneW_mono {sh : Sh} {dd : Deed} : Mono (DoneW K sh dd) := fun x Z Z' e h => by
  unfold DoneW at h ⊢
  split at h
  · exact h.mv e
  · exact h.mv e
theorem okAct.dd {d : Deed} (h : okAct d) : okDd d := by
  cases d with
  | load l => exact h
  | fail k => exact trivial
  | part p => exact trivial
  | raise a => exact trivial
theorem okPs_app {r : Rl} {p : Part} (o : okR r) (h : okP p = true) : okPs (r.parts ++ [p]) = !decide ((r.parts.length : Int) = 4) := by
  have h4 := o.len
  have ha := o.allP
  unfold okPs
  rw [List.all_append, ha, show ([p] : List Part).all okP = true by simp [h], List.length_append]
  show (decide (r.parts.length + 1 ≤ 4) && (true && true)) = _
  by_cases q : r.parts.length = 4
  · rw [decide_eq_false (by omega), decide_eq_true (by omega)]; rfl
  · rw [decide_eq_true (by omega), decide_eq_false (by omega)]; rfl
def sp_law_done (K : Frag) : Sp := fun vs H Q _ => ∃ sv av sh dd Z, vs = [sv, av] ∧ Ex Z H ∧ SheetAt K Z sv sh ∧ OkSh sh ∧ sh.cv.length ≤ 1000 ∧ Dp K Z av (dDeed dd) ∧ okAct dd ∧ ∀ x Z' H', Gr Z H Z' H' → DoneW K sh dd x Z' → Q x H'
theorem g_law_done {Z : Hp} {sv av : V} {sh : Sh} {dd : Deed} (h : SheetAt K Z sv sh) (o : OkSh sh) (hz : sh.cv.length ≤ 1000) (hd : Dp K Z av (dDeed dd)) (od : okAct dd) : SpG (sp_law_done K) [sv, av] Z (DoneW K sh dd) := fun H1 e Q q E => ⟨sv, av, sh, dd, Z, rfl, e, h, o, hz, hd, od, q⟩
theorem sc_law_done : FnScope ["_law_sheet_here", "_law_act_here", "_law_is_whole", "_law_later", "_law_case_here", "_law_stand"] ["_law_sheet_here", "_law_act_here"] (defScope s_law_done) := ⟨rfl, rfl, rfl, by decide +kernel, rfl, by decide +kernel, by decide +kernel⟩
theorem ok_law_done (T : Txt w K mg) : FB P w K mg base 3 (He.ga K "_law_done") ["_law_sheet_here", "_law_act_here"] (sp_law_done K) := by
  refine FB.of T.F_law_done sc_law_done (fun _ _ _ _ _ _ us hl => match us, hl with | [_, _], _ => rfl) (by rintro vs H Q E ⟨_, _, _, _, _, rfl, _⟩; rfl) (fun cdv A outer s H vs Q E hr h => ?_)
  refine ⟨_, (pss_cons (ps_par3 rfl sc_law_done.nd (i := 3) (j := 4) (l := 5) rfl rfl rfl (by decide) (by decide) (by decide) rfl rfl rfl (pa_cons (pe_callTy call_dictD (by rfl) T.f_dict (by decide +kernel) (pa_cons (pv 0) pa_nil)) (pa_cons (pe_dget (hu_of hr) (pv 0) pe_str (fun _ _ => rfl)) (pa_cons (pe_dget (hu_of hr) (pv 0) pe_str (fun _ _ => rfl)) pa_nil))) (by rfl))
    (pss_cons (ps_if (pt_cmpR op_eq (pe_ix ix_tup (pv 1) pe_int (fun _ _ => rfl)) pe_str (nomark _))
    (pss_cons (ps_if (pt_not (pt_val (pe_callF (ok_law_is_load T) (hr.mono (by decide)) (by rfl) T.g_law_is_load passL (pa_cons (pe_ix ix_tup (pv 1) pe_int (fun _ _ => rfl)) pa_nil))))
    (pss_one (ps_ret (pe_tup (pa_cons pe_str pa_nil))))
    pss_nil)
    (pss_cons (ps_asg (pe_tup (pa_cons (pe_callF (ok_law_tick T) (hr.mono (by decide)) (by rfl) T.g_law_tick passL (pa_cons (pv 4) (pa_cons (pv 5) (pa_cons (pe_ix ix_tup (pv 1) pe_int (fun _ _ => rfl)) pa_nil)))) (pa_cons (pe_op op_cat (pe_dget (hu_of hr) (pv 0) pe_str (fun _ _ => rfl)) (pe_lst (pa_cons (pe_ix ix_tup (pv 1) pe_int (fun _ _ => rfl)) pa_nil))) pa_nil))) (pg_tup rfl (pgs_cons (pg_sub (pv 3) pe_str (set_dict (hu_of hr))) (pgs_cons (pg_sub (pv 3) pe_str (set_dict (hu_of hr))) pgs_nil))))
    (pss_one (ps_ret (pv 3)))))
    pss_nil)
    (pss_cons (ps_if (pt_cmpR op_eq (pe_ix ix_tup (pv 1) pe_int (fun _ _ => rfl)) pe_str (nomark _))
    (pss_cons (ps_if (pt_not (pt_val (pe_callF (ok_law_is_int T) (hr.mono (by decide)) (by rfl) T.g_law_is_int passL (pa_cons (pe_ix ix_tup (pv 1) pe_int (fun _ _ => rfl)) (pa_cons pe_int (pa_cons (pe_op op_sub (pe_ix ix_tup (pv 5) pe_int (fun _ _ => rfl)) (pe_dget (hu_of hr) (pv 4) pe_str (fun _ _ => rfl))) pa_nil))))))
    (pss_one (ps_ret (pe_tup (pa_cons pe_str pa_nil))))
    pss_nil)
    (pss_cons (ps_dput (hu_of hr) (pv 3) pe_str (pe_tup (pa_cons (pe_op op_sub (pe_ix ix_tup (pv 5) pe_int (fun _ _ => rfl)) (pe_ix ix_tup (pv 1) pe_int (fun _ _ => rfl))) (pa_cons (pe_ix ix_tup (pv 5) pe_int (fun _ _ => rfl)) pa_nil))) rfl)
    (pss_one (ps_ret (pv 3)))))
    pss_nil)
    (pss_cons (ps_if (pt_cmpR op_eq (pe_ix ix_tup (pv 1) pe_int (fun _ _ => rfl)) pe_str (nomark _))
    (pss_cons (ps_if (PW.pt (pw_or (pt_not (pt_val (pe_callF (ok_law_is_part T) (hr.mono (by decide)) (by rfl) T.g_law_is_part passL (pa_cons (pe_ix ix_tup (pv 1) pe_int (fun _ _ => rfl)) pa_nil)))) (pw_or1 (pt_cmpR op_eq (pe_callB call_len_seq (by rfl) T.f_len (by decide +kernel) (pa_cons (pe_dget (hu_of hr) (pv 4) pe_str (fun _ _ => rfl)) pa_nil)) pe_int (nomark _)))))
    (pss_one (ps_ret (pe_tup (pa_cons pe_str (pa_cons pe_str pa_nil)))))
    pss_nil)
    (pss_cons (ps_dput (hu_of hr) (pv 3) pe_str (pe_callTy call_dictD (by rfl) T.f_dict (by decide +kernel) (pa_cons (pv 4) pa_nil)) rfl)
    (pss_cons (ps_dput (hu_of hr) (pe_dget (hu_of hr) (pv 3) pe_str (fun _ _ => rfl)) pe_str (pe_op op_cat (pe_dget (hu_of hr) (pv 4) pe_str (fun _ _ => rfl)) (pe_lst (pa_cons (pe_ix ix_tup (pv 1) pe_int (fun _ _ => rfl)) pa_nil))) rfl)
    (pss_one (ps_ret (pv 3))))))
    pss_nil)
    (pss_cons (ps_set (i := 2) sc_law_done.nd rfl (Or.inl rfl) (pe_and (pe_callB call_isi (by rfl) T.f_isinstance (by decide +kernel) (pa_cons (pe_ix ix_tup (pv 1) pe_int (fun _ _ => rfl)) (pa_cons (pe_bltn (by rfl) T.f_int (by decide +kernel) (v := .ty "int") rfl) pa_nil))) (pe_one (pe_not (pe_callB call_isi (by rfl) T.f_isinstance (by decide +kernel) (pa_cons (pe_ix ix_tup (pv 1) pe_int (fun _ _ => rfl)) (pa_cons (pe_bltn (by rfl) T.f_bool (by decide +kernel) (v := .ty "bool") rfl) pa_nil)))))))
    (pss_cons (ps_dput (hu_of hr) (pv 3) pe_str (pe_ifExp (pt_val (pv 2)) (pe_callF (ok_law_raised T) (hr.mono (by decide)) (by rfl) T.g_law_raised passL (pa_cons (pv 4) (pa_cons (pe_ix ix_tup (pv 1) pe_int (fun _ _ => rfl)) pa_nil))) pe_non) rfl)
    (pss_one (ps_ret (pe_ifExp (pt_cmpR op_notN (pe_dget (hu_of hr) (pv 3) pe_str (fun _ _ => rfl)) pe_non (nomark _)) (pv 3) (pe_tup (pa_cons pe_str (pa_cons pe_str pa_nil)))))))))))), ?_⟩
  obtain ⟨sv, av, sh, dd, Z, rfl, hZ, hsh, ok, hz, hd, od, k⟩ := h
  obtain ⟨sa, c, s, cl, rfl, s1, s2, s3, s4⟩ := id hsh
  obtain ⟨ab, y, rfl, sq, dy⟩ := deed_at hd
  obtain ⟨sta, stb, rfl, sqs, _, dsb⟩ := st_at s3
  obtain ⟨cla, cxs, rfl, l1, l2⟩ := id s4
  have hcl : cxs.length ≤ 1000 := by rw [l2.len, List.length_map]; exact hz
  refine ⟨_, rfl, sa, _, rfl, .inl (hZ _ _ s1), fun p hp => ?_⟩
  have hZp : Ex Z (upd H p (.dK (skv c (.ref sta) (.ref cla)))) := hZ.trans (Ex.new hp)
  refine (ea_cons (ev_dget (ev_var rfl) (hZp _ _ s1) rfl) (ea_cons (ev_dget (ev_var rfl) (hZp _ _ s1) rfl) ea_nil)) _ (Ex.refl _) _ fun H2 e2 => ⟨_, _, _, rfl, ?_⟩
  have bp : Bo p Z H Z H2 (.dK (skv c (.ref sta) (.ref cla))) := Bo.next (Mv.refl hZ) hp ((Ex.new hp).trans e2) (e2 _ _ upd_same)
  have nm : ∀ (H1 : Hp) (t : Str) (σ : L2.St), Ex Z H1 → σ[1]? = some (some (.ref ab)) → Ev (tOp rEq (tOp (rIxT K) (tVar 1) (tC (.int 0))) (tC (.str t))) σ H1 (.bl (decide (V.str (nmD dd) = V.str t))) := fun H1 t σ e h1 => ev_eq (ev_ixT (ev_var h1) (ex_t e sq) at0) ev_c rfl
  cases dd with
  | load l =>
    refine q_when (b := true) (et_is (et_test (nm _ _ _ bp.mv.h rfl)) tag_load_load) (fun _ H3 e3 => ?_) (fun h => nomatch h)
    have b3 := bp.ex e3
    have lz : LdZ K Z y l := LdZ.of dy od
    refine q_when (b := false) (et_is (et_not (et_B (ev_callS (ea_cons (ev_ixT (ev_var rfl) (ex_t b3.mv.h sq) rfl) ea_nil) (v_law_is_load (lz.mv b3.mv.h))))) rfl) (fun h => nomatch h) fun _ H4 e4 => ?_
    have b4 := b3.ex e4
    refine eg_call (Z := Z) (ea_cons (ev_var rfl) (ea_cons (ev_var rfl) (ea_cons (ev_ixT (ev_var rfl) sq rfl) ea_nil))) (g_law_tick s2 ok.r s3 ok.s lz) (fun _ _ _ e q => q.mv e) H4 b4.mv.h _ fun x Z5 H5 g5 dx => ?_
    have b5 := b4.gr g5
    refine eg_cat1 (K := K) (Z := Z5) (ev_dget (ev_var rfl) (g5.z _ _ s1) rfl) (g5.z _ _ l1) (l2.mv g5.z) (ev_ixT (ev_var rfl) (ex_t g5.z sq) rfl) (dy.mv g5.z) (by omega) H5 b5.mv.h _ fun u Z6 H6 g6 du => ⟨Nat.le_of_ble_eq_true rfl, fun q hq => ?_⟩
    have b7 := (b5.gr g6).ex (Ex.new hq (o := .tup [x, u]))
    have b8 := b7.put (o' := .dK (skv c x (.ref cla)))
    have b9 := b8.put (o' := .dK (skv c x u))
    refine ⟨q, _, rfl, st_of upd_same, rfl, _, _, rfl, ⟨_, rfl, p, _, rfl, DPut.k (k := .inr "state") b7.hp (sz_lt (Nat.le_of_ble_eq_true rfl)), _, _, rfl, ⟨_, rfl, p, _, rfl, DPut.k (k := .inr "curve") b8.hp (sz_lt (Nat.le_of_ble_eq_true rfl)), rfl, ?_⟩⟩⟩
    refine s_ret (ev_var rfl) fun H10 e10 => ?_
    have b10 := b9.ex e10
    refine k _ _ _ b10.done ?_
    show SheetAt K _ _ { sh with st := tickL sh.r sh.st l, cv := sh.cv ++ [l] }
    refine ⟨p, c, x, u, rfl, upd_same, (s2.mv (g5.z.trans g6.z)).mv b10.ez, (dx.mv g6.z).mv b10.ez, ?_⟩
    rw [List.map_append]
    exact du.mv b10.ez
  | fail n =>
    cases Dp.intI dy
    refine q_when (b := false) (et_is (et_test (nm _ _ _ bp.mv.h rfl)) tag_fail_load) (fun h => nomatch h) fun _ H3 e3 => ?_
    have b3 := bp.ex e3
    refine q_when (b := true) (et_is (et_test (nm _ _ _ b3.mv.h rfl)) tag_fail_fail) (fun _ H4 e4 => ?_) (fun h => nomatch h)
    have b4 := b3.ex e4
    refine q_when (et_not (et_B (ev_callS (ea_cons (ev_ixT (ev_var rfl) (ex_t b4.mv.h sq) rfl) (ea_cons ev_c (ea_cons (ev_I (ev_ixT (ev_var rfl) (ex_t b4.mv.h sqs) rfl) (ev_c_least (ev_var rfl) (s2.mv b4.mv.h))) ea_nil))) (v_law_is_int (K := K))))) (fun h H5 e5 => ?_) (fun h H5 e5 => ?_)
    · have b5 := b4.ex e5
      have hn : ¬ (1 ≤ n ∧ n ≤ sh.st.1 - sh.r.least) := fun ⟨h1, h2⟩ => by rw [decide_eq_true h1, decide_eq_true h2] at h; cases h
      refine s_retG (ed_tup (K := K) (eda_cons (ed_ev ev_c (.str _)) eda_nil) (Nat.le_of_ble_eq_true rfl)) b5.mv.h fun x Z6 H6 g6 dx => k x Z6 H6 ((b5.gr g6).mv.toGr fun _ h => h) ?_
      unfold DoneW
      rw [show doneL sh (.fail n) = none from if_neg hn]
      exact dx
    · have b5 := b4.ex e5
      have hn : 1 ≤ n ∧ n ≤ sh.st.1 - sh.r.least := by
        by_cases h1 : 1 ≤ n
        · by_cases h2 : n ≤ sh.st.1 - sh.r.least
          · exact ⟨h1, h2⟩
          · rw [decide_eq_false h2, Bool.and_false] at h; cases h
        · rw [decide_eq_false h1] at h; cases h
      refine q_dputB b5 (ed_tup (K := K) (eda_cons (ed_int (ev_I (ev_ixT (ev_var rfl) sqs rfl) (ev_ixT (ev_var rfl) sq rfl))) (eda_cons (ed_ev (ev_ixT (ev_var rfl) sqs rfl) dsb) eda_nil)) (Nat.le_of_ble_eq_true rfl)) (ev_var rfl) (Nat.le_of_ble_eq_true rfl) fun x Z6 H6 g6 dx b6 => ?_
      have b7 := b6.put (o' := .dK (skv c x (.ref cla)))
      refine s_ret (ev_var rfl) fun H8 e8 => ?_
      have b8 := b7.ex e8
      refine k _ _ _ b8.done ?_
      unfold DoneW
      rw [show doneL sh (.fail n) = some { sh with st := (sh.st.1 - n, sh.st.2) } from if_pos hn]
      exact ⟨p, c, x, .ref cla, rfl, upd_same, (s2.mv g6.z).mv b8.ez, dx.mv b8.ez, (s4.mv g6.z).mv b8.ez⟩
  | part pt =>
    refine q_when (b := false) (et_is (et_test (nm _ _ _ bp.mv.h rfl)) tag_part_load) (fun h => nomatch h) fun _ H3 e3 => ?_
    have b3 := bp.ex e3
    refine q_when (b := false) (et_is (et_test (nm _ _ _ b3.mv.h rfl)) tag_part_fail) (fun h => nomatch h) fun _ H4 e4 => ?_
    have b4 := b3.ex e4
    refine q_when (b := true) (et_is (et_test (nm _ _ _ b4.mv.h rfl)) tag_part_part) (fun _ H5 e5 => ?_) (fun h => nomatch h)
    have b5 := b4.ex e5
    obtain ⟨ca, cpl, rfl, c1, pa, xs, rfl, c2, c3⟩ := id s2
    have hx : xs.length = sh.r.parts.length := by rw [c3.len, List.length_map]
    have evp : ∀ (H' : Hp) (σ : L2.St), Ex Z H' → σ[4]? = some (some (.ref ca)) → Ev (tDGet (tVar 4) (tC (.str "parts"))) σ H' (.ref pa) := fun H' σ e h4 => ev_dget (ev_var h4) (e _ _ c1) rfl
    refine q_when (b := decide ((sh.r.parts.length : Int) = 4)) (et_is (et_or (et_not (et_B (ev_callS (ea_cons (ev_ixT (ev_var rfl) (ex_t b5.mv.h sq) rfl) ea_nil) (v_law_is_part (dy.mv b5.mv.h) od)))) fun _ => et_test (ev_eq (ev_len (evp _ _ b5.mv.h rfl) (sq_of (b5.mv.h _ _ c2))) ev_c rfl)) (by rw [hx]; simp)) (fun h H6 e6 => ?_) (fun h H6 e6 => ?_)
    · have b6 := b5.ex e6
      refine s_retG (ed_tup (K := K) (eda_cons (ed_ev ev_c (.str _)) (eda_cons (ed_ev ev_c (.str _)) eda_nil)) (Nat.le_of_ble_eq_true rfl)) b6.mv.h fun x Z6 H6 g6 dx => k x Z6 H6 ((b6.gr g6).mv.toGr fun _ h => h) ?_
      unfold DoneW
      rw [show doneL sh (.part pt) = none from if_neg (by rw [okPs_app ok.r od, h]; exact Bool.false_ne_true)]
      exact dx
    · have b6 := b5.ex e6
      refine ⟨_, rfl, ca, _, rfl, .inl (b6.mv.h _ _ c1), fun q hq => ?_⟩
      have npq : p ≠ q := fun z => by rw [← z, b6.hp] at hq; cases hq
      have q6 : Bo q Z H Z _ (.dK (ckv sh.r (.ref pa))) := Bo.next b6.mv hq (Ex.new hq) upd_same
      have b7 := b6.ex (Ex.new hq (o := .dK (ckv sh.r (.ref pa))))
      refine Ev.to (ev_var rfl) fun H8 e8 => ⟨p, _, rfl, DPut.k (k := .inr "case") (b7.ex e8).hp (sz_lt (Nat.le_of_ble_eq_true rfl)), ?_⟩
      have b9 := (b7.ex e8).put (o' := .dK (skv (.ref q) (.ref sta) (.ref cla)))
      have q9 := (q6.ex e8).other (b7.ex e8) (o' := .dK (skv (.ref q) (.ref sta) (.ref cla))) (Ne.symm npq)
      refine q_dputB q9 (eg_cat1 (K := K) (evp _ _ (Ex.refl _) rfl) c2 c3 (ev_ixT (ev_var rfl) sq rfl) dy (by have := ok.r.len; omega)) (ev_dget (ev_var rfl) b9.hp rfl) (Nat.le_of_ble_eq_true rfl) fun x Z10 H10 g10 dx q10 => ?_
      have b10 := b9.gr g10
      have q11 := q10.put (o' := .dK (ckv { sh.r with parts := sh.r.parts ++ [pt] } x))
      have b11 := b10.other q10 (o' := .dK (ckv { sh.r with parts := sh.r.parts ++ [pt] } x)) npq
      refine s_ret (ev_var rfl) fun H12 e12 => ?_
      have b12 := (b11.ex e12).frz (q11.ex e12) npq
      refine k _ _ _ b12.done ?_
      unfold DoneW
      rw [show doneL sh (.part pt) = some { sh with r := { sh.r with parts := sh.r.parts ++ [pt] } } from if_pos (by rw [okPs_app ok.r od, h]; rfl)]
      refine ⟨p, .ref q, .ref sta, .ref cla, rfl, upd_same, ⟨q, x, rfl, b12.ez _ _ upd_same, ?_⟩, ((s3.mv g10.z).mv (q11.ex e12).ez).mv b12.ez, ((s4.mv g10.z).mv (q11.ex e12).ez).mv b12.ez⟩
      rw [List.map_append]
      exact (dx.mv (q11.ex e12).ez).mv b12.ez
  | raise i =>
    cases Dp.intI dy
    refine q_when (b := false) (et_is (et_test (nm _ _ _ bp.mv.h rfl)) tag_raise_load) (fun h => nomatch h) fun _ H3 e3 => ?_
    have b3 := bp.ex e3
    refine q_when (b := false) (et_is (et_test (nm _ _ _ b3.mv.h rfl)) tag_raise_fail) (fun h => nomatch h) fun _ H4 e4 => ?_
    have b4 := b3.ex e4
    refine q_when (b := false) (et_is (et_test (nm _ _ _ b4.mv.h rfl)) tag_raise_part) (fun h => nomatch h) fun _ H5 e5 => ?_
    have b5 := b4.ex e5
    refine q_asg (v := .bl true) (ev_andV (a := true) (b := true) (ev_isi (ev_ixT (ev_var rfl) (ex_t b5.mv.h sq) rfl) tyx_i kit_ii) fun _ => ev_notV (a := false) (ev_isi (ev_ixT (ev_var rfl) (ex_t b5.mv.h sq) rfl) tyx_i kit_ib)) fun H6 e6 => ?_
    have b6 := b5.ex e6
    refine q_dputB b6 (eg_ifT (et_B (ev_var rfl)) (eg_call (ea_cons (ev_var rfl) (ea_cons (ev_ixT (ev_var rfl) sq rfl) ea_nil)) (g_law_raised s2 ok.r) raisedW_mono)) (ev_var rfl) (Nat.le_of_ble_eq_true rfl) fun x Z7 H7 g7 rx b7 => ?_
    have b8 := b7.put (o' := .dK (skv x (.ref sta) (.ref cla)))
    unfold RaisedW at rx
    by_cases hok : okPs (sh.r.parts.map (upP i)) = true
    · rw [if_pos hok] at rx
      obtain ⟨ca, cpl, ex, c1, c2⟩ := id rx
      refine if_go (b := true) (et_is (et_test (ev_notN (ev_dget (ev_var rfl) b8.hp rfl))) (by rw [ex]; rfl)) (fun _ H9 e9 => ?_) (fun h => nomatch h)
      refine Ev.to (ev_var rfl) fun H10 e10 => ?_
      have b10 := (b8.ex e9).ex e10
      refine k _ _ _ b10.done ?_
      unfold DoneW
      rw [show doneL sh (.raise i) = some { sh with r := upR i sh.r } from if_pos hok]
      exact ⟨p, x, .ref sta, .ref cla, rfl, upd_same, rx.mv b10.ez, (s3.mv g7.z).mv b10.ez, (s4.mv g7.z).mv b10.ez⟩
    · rw [if_neg hok] at rx
      refine if_go (b := false) (et_is (et_test (ev_notN (ev_dget (ev_var rfl) b8.hp rfl))) (by rw [rx]; rfl)) (fun h => nomatch h) (fun _ H9 e9 => ?_)
      have b9 := b8.ex e9
      refine ed_tup (K := K) (Z := Z7) (eda_cons (ed_ev ev_c (.str _)) (eda_cons (ed_ev ev_c (.str _)) eda_nil)) (Nat.le_of_ble_eq_true rfl) H9 b9.mv.h _ fun u Z10 H10 g10 dx => k u Z10 H10 ((b9.gr g10).mv.toGr fun _ h => h) ?_
      unfold DoneW
      rw [show doneL sh (.raise i) = none from if_neg hok]
      exact dx
end
end K74

/-! F17 -/
set_option Elab.async false
set_option linter.all false
set_option maxRecDepth 100000
set_option maxHeartbeats 4000000
namespace K74
open PySem PySem.Spec PyProof.Rows L2
open Evl hiding tCut pss_cut
/-! sizes -/
theorem sm_ld {l : Ld} (o : okLd l) : Sm 1 31 (dLd l) := by
  have := o.t0
  have := o.b1
  have := o.tm
  have := o.bm
  exact Sm.tup (Sm.cons (Sm.int (by omega)) (Sm.cons (Sm.int (by omega)) Sm.nil)) (Nat.le_of_ble_eq_true rfl)
theorem smP_of {p : Part} (h : okP p = true) : smP p := by
  cases p with
  | over m k => obtain ⟨a, b⟩ := okP_over h; exact ⟨by omega, by omega⟩
  | under m k => obtain ⟨a, b⟩ := okP_under h; exact ⟨by omega, by omega⟩
  | aim m l k => obtain ⟨a, b, c, _⟩ := okP_aim h; exact ⟨by omega, by omega, by omega⟩
theorem sm_deed {d : Deed} (h : okAct d) : Sm 2 200 (dDeed d) := by
  cases d with
  | load l => exact Sm.tup (m := 80) (Sm.cons (sm_load.le (by omega) (by omega)) (Sm.cons ((sm_ld h).le (Nat.le_refl _) (by omega)) Sm.nil)) (Nat.le_of_ble_eq_true rfl)
  | fail k => exact Sm.tup (m := 80) (Sm.cons (sm_fail.le (by omega) (by omega)) (Sm.cons ((Sm.int (by have : 1 ≤ k ∧ k ≤ 8 := h; omega)).le (by omega) (by omega)) Sm.nil)) (Nat.le_of_ble_eq_true rfl)
  | part p => exact Sm.tup (m := 80) (Sm.cons (sm_part.le (by omega) (by omega)) (Sm.cons (sm_dPart (smP_of h)) Sm.nil)) (Nat.le_of_ble_eq_true rfl)
  | raise a => exact Sm.tup (m := 80) (Sm.cons (sm_raise.le (by omega) (by omega)) (Sm.cons ((Sm.int (by have : -5 ≤ a ∧ a ≤ 5 := h; omega)).le (by omega) (by omega)) Sm.nil)) (Nat.le_of_ble_eq_true rfl)
theorem sm_curve {cv : List Ld} (h : ∀ l ∈ cv, okLd l) (hz : cv.length ≤ 100) : Sm 2 4000 (.list (cv.map dLd)) :=
  Sm.lst (m := 31) (fun d hd => by obtain ⟨l, hl, e⟩ := List.mem_map.mp hd; rw [← e]; exact sm_ld (h l hl)) (by rw [List.length_map]; omega)
theorem sm_deeds {ds : List Deed} (h : ∀ d ∈ ds, okAct d) (hz : ds.length ≤ 100) : Sm 3 30000 (.list (ds.map dDeed)) :=
  Sm.lst (m := 200) (fun d hd => by obtain ⟨l, hl, e⟩ := List.mem_map.mp hd; rw [← e]; exact sm_deed (h l hl)) (by rw [List.length_map]; omega)
theorem sm_st {r : Rl} {s : Stt} (o : okR r) (h : okS r s) : Sm 2 100 (dSt s) := by
  have pz := psz_le o
  have hl := h.len
  have := o.l1
  have := o.m8
  have := h.n1
  have := h.n2
  exact Sm.tup (m := 40) (Sm.cons ((Sm.int (by omega)).le (by omega) (by omega)) (Sm.cons (Sm.tup (n := 0) (m := 12) (k := 40) (fun d hd => by
    obtain ⟨i, hi, e⟩ := List.mem_map.mp hd
    rw [← e]
    have := h.all i hi
    exact Sm.int (by omega)) (by rw [List.length_map]; omega)) Sm.nil)) (Nat.le_of_ble_eq_true rfl)
/-- a history of good sheets, of few deeds -/
structure Gd (hist : List (Deed × Sh)) (sh : Sh) : Prop where
  ok : OkSh sh
  hz : hist.length ≤ 100
  cz : sh.cv.length ≤ 100
  da : ∀ d ∈ dsOf hist, okAct d
theorem dsOf_len (hist : List (Deed × Sh)) : (dsOf hist).length = hist.length := by unfold dsOf; rw [List.length_reverse, List.length_map]
section
variable {P : Program} [hPT : PT P] {w : World} {K : Frag} {mg : Str → Option Value} {base : Heap}
section
variable {σ : L2.St} {H : Hp} {ta tb te : TE} {r : R2} {z : V}
theorem ev_opGG {Φ Ψ : V → Hp → Prop} (ha : EvG ta σ H Φ) (m1 : Mono Φ) (hb : EvG tb σ H Ψ) (m2 : Mono Ψ) (hr : ∀ x y H2, Φ x H2 → Ψ y H2 → RV r x y H2 z) : Ev (tOp r ta tb) σ H z := fun H0 e0 Q q =>
  ha H0 e0 _ fun x Z1 H1 g1 p1 => EvG.up hb m2 g1.z H1 g1.h _ fun y Z2 H2 g2 p2 => hr x y H2 (m1 _ _ _ (g2.z.trans g2.h) p1) (m2 _ _ _ g2.h p2) H2 (Ex.refl _) Q fun H3 e3 => q H3 (g1.same.trans (g2.same.trans e3))
theorem ev_reprG {d : PyData} {n m : Nat} (h : EvD K te σ H d) (hr : ∃ ds, d = .tuple ds ∨ d = .list ds) (s : Sm n m d) (hn : n ≤ 20) (hm : m ≤ 100000) : Ev (tCB (rReprD K) (tCons te tNil)) σ H (.str d.shown) := fun H1 e Q q => h H1 e _ fun v Z2 H2 g p => by
  have hv : ∃ a, v = .ref a := by
    rcases hr with ⟨ds, rfl | rfl⟩
    · obtain ⟨a, _, e, _⟩ := Dp.tupI p
      exact ⟨a, e⟩
    · cases p
      exact ⟨_, rfl⟩
  obtain ⟨a, rfl⟩ := hv
  exact ⟨a, d, rfl, p.mv g.h, s.sh, s.nd, Nat.le_trans s.dep hn, sz_of (Nat.le_trans s.len hm), q H2 g.same⟩
theorem rule_mono {r : Rl} : Mono (fun x Z => RuleAt K Z x r) := fun _ _ _ e q => q.mv e
theorem rv_ruleNe {x y : V} {r s : Rl} (p : RuleAt K H x r) (q : RuleAt K H y s) : RV (rOwn K (He.ga K "Rule") (sp_Rule_eq K) true) x y H (.bl (!decide (r = s))) := by
  obtain ⟨ra, rdx, rp, rb, rl, rfl, r1, _⟩ := id p
  exact fun H3 e3 Q q3 => ⟨ra, rdx, _, rfl, e3 _ _ r1, yty_rule q H3 e3, v_Rule_eq p q H3 e3 _ (fun H4 e4 => ⟨_, rfl, q3 H4 e4⟩) E0⟩
theorem gr_law_rule {Z : Hp} {v : V} {r : Rl} (h : CaseAt K Z v r) (o : okR r) : SpG (sp_law_rule K) [v] Z (fun x Z2 => RuleAt K Z2 x r) := fun H1 e Q q E => ⟨v, r, Z, rfl, e, h, o, q⟩
theorem eg_Session_rule {a : Addr} {o m dv b : V} {sh : Sh} {E : XK} (ha : Ev ta σ H (.ref a)) (hs : SesH K H a o m) (hm : MomHd K H m sh dv b) : EvG (tProp (He.ga K "Session") (sp_Session_rule K) [] E ta) σ H (fun x Z2 => RuleAt K Z2 x sh.r) :=
  eg_imp (eg_ep (ep_Session_rule ha hs (Ex.refl _) hm)) fun v Z2 e p => p.mv e
theorem ed_Session_state {a : Addr} {o m dv b : V} {sh : Sh} {E : XK} (ha : Ev ta σ H (.ref a)) (hs : SesH K H a o m) (hm : MomHd K H m sh dv b) : EvD K (tProp (He.ga K "Session") (sp_Session_state K) [] E ta) σ H (dSt sh.st) :=
  eg_imp (eg_ep (ep_Session_state ha hs (Ex.refl _) hm)) fun v Z2 e p => p.mv e
theorem ed_Session_deeds {a : Addr} {o m : V} {hist : List (Deed × Sh)} {sh : Sh} {E : XK} (ha : Ev ta σ H (.ref a)) (hs : SesH K H a o m) (hm : MomAt K H hist m sh) (hz : hist.length ≤ 1000) : EvD K (tMeth (He.ga K "Session") "deeds" (sp_Session_deeds K) [] E ta tNil) σ H (.list ((dsOf hist).map dDeed)) := fun H0 e Q k => by
  obtain ⟨dx, q⟩ := id hs
  exact meth_go (Ev.mono e ha) (e _ _ q) rfl fun H1 e1 => ⟨a, o, m, hist, sh, H, rfl, ⟨dx, e1 _ _ (e _ _ q)⟩, e.trans e1, hm, hz, fun x Z' H' g l => k x Z' H' ((Gr.of e e1).trans g) l.dp⟩
end
/-! _law_stands -/
def sp_law_stands (K : Frag) : Sp := fun vs H Q _ => ∃ (a : Addr) (o m sv av : V) (hist : List (Deed × Sh)) (sh : Sh), vs = [.ref a, sv, av] ∧ SesH K H a o m ∧ MomAt K H hist m sh ∧ Gd hist sh ∧ SheetAt K H sv sh ∧ LsD K H av ((dsOf hist).map dDeed) ∧ ∀ H', Ex H H' → Q (.bl true) H'
theorem sc_law_stands : FnScope ["_law_bench", "_law_sheet_here", "_law_acts"] ["_law_bench", "_law_sheet_here", "_law_acts"] (defScope s_law_stands) := ⟨rfl, rfl, rfl, by decide +kernel, rfl, by decide +kernel, by decide +kernel⟩
theorem ok_law_stands (T : Txt w K mg) : GB P w K mg base 9 (He.ga K "_law_stands") ["_law_bench", "_law_sheet_here", "_law_acts"] (sp_law_stands K) := by
  refine GB.of T.F_law_stands sc_law_stands (fun _ _ _ _ _ _ us hl => match us, hl with | [_, _, _], _ => rfl) (by rintro vs H Q E ⟨_, _, _, _, _, _, _, rfl, _⟩; rfl) (fun cdv A outer s H vs Q E hgd hr h => ?_)
  refine ⟨_, (pss_cons (ps_if (PW.pt (pw_or (pt_cmpR (op_neO (eqc_Rule T) (ok_Rule_eq T) (hr.mono (by decide))) (pe_propF (pv 0) T.c_Session (T.p_Session_rule).2 (ok_Session_rule T) (hr.mono (by decide))) (pe_callF (ok_law_rule T) (hr.mono (by decide)) (by rfl) T.g_law_rule passL (pa_cons (pe_dget (hu_of hr) (pv 1) pe_str (fun _ _ => rfl)) pa_nil)) (nomark _)) (pw_or1 (pt_cmpR op_ne (pe_callB (call_reprD hgd hr.units) (by rfl) T.f_repr (by decide +kernel) (pa_cons (pe_propF (pv 0) T.c_Session (T.p_Session_state).2 (ok_Session_state T) (hr.mono (by decide))) pa_nil)) (pe_callB (call_reprD hgd hr.units) (by rfl) T.f_repr (by decide +kernel) (pa_cons (pe_dget (hu_of hr) (pv 1) pe_str (fun _ _ => rfl)) pa_nil)) (nomark _)))))
    (pss_one (ps_ret pe_bl))
    pss_nil)
    (pss_cons (ps_if (PW.pt (pw_or (pt_cmpR op_ne (pe_propF (pv 0) T.c_Session (T.p_Session_servers).2 (ok_Session_servers T) (hr.mono (by decide))) (pe_ix ix_tup (pe_dget (hu_of hr) (pv 1) pe_str (fun _ _ => rfl)) pe_int (fun _ _ => rfl)) (nomark _)) (pw_or1 (pt_cmpR op_ne (pe_callB (call_reprD hgd hr.units) (by rfl) T.f_repr (by decide +kernel) (pa_cons (pe_propF (pv 0) T.c_Session (T.p_Session_curve).2 (ok_Session_curve T) (hr.mono (by decide))) pa_nil)) (pe_callB (call_reprD hgd hr.units) (by rfl) T.f_repr (by decide +kernel) (pa_cons (pe_dget (hu_of hr) (pv 1) pe_str (fun _ _ => rfl)) pa_nil)) (nomark _)))))
    (pss_one (ps_ret pe_bl))
    pss_nil)
    (pss_one (ps_ret (pe_cmpR op_eq (pe_callB (call_reprD hgd hr.units) (by rfl) T.f_repr (by decide +kernel) (pa_cons (pe_meth0F (pv 0) T.c_Session T.m_Session_deeds (ok_Session_deeds T) (hr.mono (by decide)) passL) pa_nil)) (pe_callB (call_reprD hgd hr.units) (by rfl) T.f_repr (by decide +kernel) (pa_cons (pv 2) pa_nil)) (nomark _)))))), ?_⟩
  obtain ⟨a, o, m, sv, av, hist, sh, rfl, hs, hm, gd, hsh, hac, k⟩ := h
  obtain ⟨dv, mb, hd⟩ := hm.hd
  obtain ⟨sa, c, s, cl, rfl, s1, s2, s3, s4⟩ := id hsh
  have ok := gd.ok
  have smS := sm_st ok.r ok.s
  have smC := sm_curve ok.c gd.cz
  have smD := sm_deeds gd.da (by rw [dsOf_len]; exact gd.hz)
  refine q_when (b := false) (et_is (et_or (et_test (ev_opGG (z := .bl (!decide (sh.r = sh.r))) (eg_Session_rule (ev_var rfl) hs hd) rule_mono (eg_call (ea_cons (ev_dget (ev_var rfl) s1 rfl) ea_nil) (gr_law_rule s2 ok.r) rule_mono) rule_mono fun x y H2 p q => rv_ruleNe p q)) fun _ => et_test (ev_ne (ev_reprG (ed_Session_state (ev_var rfl) hs hd) ⟨_, .inl rfl⟩ smS (by omega) (by omega)) (ev_reprG (ed_ev (ev_dget (ev_var rfl) s1 rfl) s3) ⟨_, .inl rfl⟩ smS (by omega) (by omega)) rfl)) (by rw [decide_eq_true rfl, decide_eq_true rfl]; rfl)) (fun h => nomatch h) fun _ H1 e1 => ?_
  have hs1 := hs.mv e1
  have hd1 := hd.mv e1
  have s1' := e1 _ _ s1
  obtain ⟨sta, stb, est, sqs, _⟩ := st_at (s3.mv e1)
  refine q_when (b := false) (et_is (et_or (et_test (ev_ne (ev_Session_servers (ev_var rfl) hs1 hd1) (ev_ixT (by rw [← est]; exact ev_dget (ev_var rfl) s1' rfl) sqs rfl) rfl)) fun _ => et_test (ev_ne (ev_reprG (eg_Session_curve (ev_var rfl) hs1 hd1) ⟨_, .inr rfl⟩ smC (by omega) (by omega)) (ev_reprG (ed_ev (ev_dget (ev_var rfl) s1' rfl) (s4.mv e1).dp) ⟨_, .inr rfl⟩ smC (by omega) (by omega)) rfl)) (by rw [decide_eq_true rfl, decide_eq_true rfl]; rfl)) (fun h => nomatch h) fun _ H2 e2 => ?_
  have e02 := e1.trans e2
  refine s_ret (ev_is (ev_eq (ev_reprG (ed_Session_deeds (ev_var rfl) (hs.mv e02) (MomAt.mv e02 hm) (by have := gd.hz; omega)) ⟨_, .inr rfl⟩ smD (by omega) (by omega)) (ev_reprG (ed_ev (ev_var rfl) (hac.mv e02).dp) ⟨_, .inr rfl⟩ smD (by omega) (by omega)) rfl) (by rw [decide_eq_true rfl])) fun H3 e3 => k H3 (e02.trans e3)
end
end K74

/-! R8 -/
set_option Elab.async false
set_option linter.all false
set_option maxRecDepth 100000
set_option maxHeartbeats 4000000
/-! try with several clauses, some of them with a name -/
namespace K74
open PySem PySem.Spec PyProof.Rows L2
abbrev ClT := Value × Option Nat × (Addr → Value → Option Addr → TS)
/-- the clause's name goes behind its suite -/
def unD (i : Nat) (D : Ends) : Ends where
  nx := fun a b => D.nx (a.set i none) b
  rt := D.rt
  bk := fun a b => D.bk (a.set i none) b
  ct := fun a b => D.ct (a.set i none) b
def wCl (K : Frag) (Wo : WX) (D : Ends) : List ClT → WX
  | [] => Wo
  | (c, some i, ts) :: r => fun k d σ H => ∃ b, PySem.W.exmOne K k c = some b ∧ (b = true → ∀ a, H a = none → ts a k d (unD i D) (σ.set i (some (.ref a))) H) ∧ (b = false → wCl K Wo D r k d σ H)
  | (c, none, ts) :: r => fun k d σ H => ∃ b, PySem.W.exmOne K k c = some b ∧ (b = true → ∀ a, H a = none → ts a k d D σ H) ∧ (b = false → wCl K Wo D r k d σ H)
inductive HdsA (X : Cx) : List ExceptHandler → List ClT → Prop
  | nil : HdsA X [] []
  | bare {x : Str} {c : Value} {ts : Addr → Value → Option Addr → TS} {b0 : Stmt} {su : List Stmt} {p1 p2 : Pos} {hds : List ExceptHandler} {l : List ClT} (nmd : Names X x c)
      (go : ∀ (a : Addr) (o : Obj) (k : Value) (d : Option Addr) (pn : List (Addr × Obj)), Zc k d o → (∃ vs, o.data = .fields vs) → PSs (X.suite a ((a, o) :: pn)) (b0 :: su) (ts a k d)) (r : HdsA X hds l) : HdsA X (.ExceptHandler (some (.Name x p1)) none (b0 :: su) p2 :: hds) ((c, none, ts) :: l)
  | named {x n : Str} {i : Nat} {c : Value} {ts : Addr → Value → Option Addr → TS} {b0 : Stmt} {su : List Stmt} {p1 p2 : Pos} {hds : List ExceptHandler} {l : List ClT} (nmd : Names X x c) (hi : X.N[i]? = some n) (hl : X.env.kindOf n = some .local)
      (go : ∀ (a : Addr) (o : Obj) (k : Value) (d : Option Addr) (pn : List (Addr × Obj)), Zc k d o → (∃ vs, o.data = .fields vs) → PSs (X.suite a ((a, o) :: pn)) (b0 :: su) (ts a k d)) (r : HdsA X hds l) : HdsA X (.ExceptHandler (some (.Name x p1)) (some n) (b0 :: su) p2 :: hds) ((c, some i, ts) :: l)
section
variable {X : Cx} {body : List Stmt} {h0 : ExceptHandler} {hds : List ExceptHandler} {l : List ClT} {pos : Pos} {tb : WX → TS} {Wo : WX}
theorem ps_try_cl (hs : X.stack = X.env :: X.outer) (hf : X.env.frame = some X.env.locals) (hN : X.N.Nodup) (tk : Takes X Wo)
    (hb : ∀ (W : WX) (pn : List (Addr × Obj)) (xe : Value → Shared → Prop), Takes (X.tr pn xe) W → PassesOwn (model X.prog X.w) X.A X.env xe → PSs (X.tr pn xe) body (tb W)) (hh : HdsA X (h0 :: hds) l) :
    PS X (.Try body (h0 :: hds) [] [] pos) (fun D σ H => tb (wCl X.K Wo D l) D σ H) := by
  constructor
  intro pins s σ H D I w0
  have ok := I.ok
  have fr : X.A.frames = some (X.env :: X.outer) := hs ▸ ok.frames
  apply wpAny_Try_except
  apply wpAny_mono ((hb (wCl X.K Wo D l) (X.pn ++ pins) (fun e s1 => wpAny (model X.prog X.w) X.A (noteFrame e X.env) (fun _ s2 => wpAny (model X.prog X.w) X.A (setFlight e none) (fun _ s3 =>
    wpAny (model X.prog X.w) X.A (handleBy e X.env (h0 :: hds)) (SP X pins D) X.xe s3) X.xe s2) X.xe s1) (fun u s' xx => ?c) PassesOwn.looking).run [] s σ H D (I.toTry _) w0) ?n (fun _ _ z => z)
  case c =>
    obtain ⟨a, B, sI, pins', σ', H', k, d, rfl, J0, nb, up, sky, na, os, ag, w⟩ := xx
    have J : Inv X pins σ' H' sI := J0.ofTry ok
    have sk : Sky B (X.env :: X.outer) a (Zc k d) X.env.locals s'.heap := hs ▸ sky
    refine Sky.land (M := model X.prog X.w) Zc.steady fr hf sk fun g3 f3 u3 => ?_
    have J3 : Inv X pins σ' H' { s' with heap := g3 } := J.landed nb f3.1 (up.trans u3) os ag
    obtain ⟨o3, v3, e3, z3, d3⟩ := f3.there
    have off : a ∉ frs (X.env :: X.outer) := fun hm => by
      obtain ⟨_, o', e', nf⟩ := f3.2.2.1.mem hm
      rw [e3] at e'; cases e'
      exact nf _ d3
    have nL : a ≠ X.env.locals := fun z => off (List.mem_filterMap.mpr ⟨_, List.mem_cons_self, by rw [hf, z]⟩)
    have nF : a ∉ X.fs := fun hm => (List.mem_filterMap.mp hm).elim fun e q => off (List.mem_filterMap.mpr ⟨e, List.mem_cons_of_mem _ q.1, q.2⟩)
    have S3 := J3.suite e3 d3 na nL nF
    have key : ∀ {hs2 : List ExceptHandler} {l2 : List ClT}, HdsA X hs2 l2 → wCl X.K Wo D l2 k d σ' H' → wpAny (model X.prog X.w) X.A (handleBy (.ref a) X.env hs2) (SP X pins D) X.xe { s' with heap := g3 } := by
      -- the class of a clause is asked
      have ask : ∀ {x : Str} {c : Value} {p1 : Pos} {b : Bool} {Q E : Value → Shared → Prop}, Names X x c → (∀ {A Q E}, Q c { s' with heap := g3 } → wpAny (model X.prog X.w) (A : Around) (pure c : Sem Value) Q E { s' with heap := g3 }) → Q c { s' with heap := g3 } → wpAny (model X.prog X.w) (X.A.mark (some (.ref a))) (eval (.Name x p1) X.env) Q E { s' with heap := g3 } := by
        intro x c p1 b Q E nmd _ q
        obtain ⟨hg, hdb, hm | ⟨hm, hv, hnn⟩⟩ := nmd
        · exact ld_glob (X := X.suite a ((a, o3) :: (X.pn ++ pins))) S3 hg hm q hdb
        · exact ld_blt (X := X.suite a ((a, o3) :: (X.pn ++ pins))) S3 hg hm hv q hnn hdb
      have LT : PySem.W.Looks (model X.prog X.w) g3 (typeOf (.ref a)) k := fun A Q E s kk q => wpAny_typeOf_ref (kk _ _ e3) (by rw [z3.1]; exact q)
      intro hs2 l2 hk
      induction hk with
      | nil =>
        intro w
        apply wpAny_handleBy_nil
        obtain ⟨k1, k2, k3, oe, vs, T, oT, ts', he, hz, hd, h1, hr⟩ := id f3
        unfold PySem.passOn
        apply wpAny_bind
        apply wpAny_field he hd h1
        rw [if_neg (show ¬ ((Value.ref T == Value.none) = true) from by simp)]
        have fin : wpAny (model X.prog X.w) X.A (setFlight (.ref a) X.env.frame) (fun _ s4 => wpAny (model X.prog X.w) X.A (throw (.ref a) : Sem Flow) (SP X pins D) X.xe s4) X.xe { s' with heap := g3 } := by
          rw [hf]
          refine HandSPX.setFlight_upZ f3 fun g4 q4 u4 => wpAny_throw (tk _ _ ⟨a, B, sI, pins, σ', H', k, d, rfl, J, nb, (up.trans u3).trans u4, .inr (.inr (by rw [hs]; exact q4)), na, os, ag, w⟩)
        first | exact wpAny_bind (wpAny_pure (wpAny_bind fin)) | exact wpAny_bind fin
      | @bare x c ts b0 su p1 p2 hs3 l3 nmd go r ih =>
        intro w
        obtain ⟨b, hb1, yes, no⟩ := w
        refine wpAny_handleBy_cons (codeAny_handlers_test (ask (b := b) nmd (fun q => wpAny_pure q) ((PySem.W.exm_one (M := model X.prog X.w) (J3.kIn) LT hb1).here ?_))) (by intro q; cases q)
        cases b with
        | false => exact ih (no rfl)
        | true =>
          refine codeAny_handlers_suite (HandSPX.lands_againZ f3 fun g4 f4 u4 => ?_)
          obtain ⟨o4, v4, e4, z4, d4⟩ := f4.there
          have J4 : Inv X pins σ' H' { s' with heap := g4 } := J.landed nb f4.1 ((up.trans u3).trans u4) os ag
          have S4 := J4.suite e4 d4 na nL nF
          refine wpAny_mono ((go a o4 k d (X.pn ++ pins) z4 ⟨_, d4⟩).run [] _ _ H' _ S4 (yes rfl a na)) (fun f s6 hp => ?_) (fun _ _ z => z.elim)
          cases f with
          | ret u => obtain ⟨v6, σ6, H6, S6, r6, q6⟩ := hp; exact ⟨_, _, _, S6.unsuite ok, r6, q6⟩
          | _ => obtain ⟨σ6, H6, S6, q6⟩ := hp; exact ⟨_, _, S6.unsuite ok, q6⟩
      | @named x n i c ts b0 su p1 p2 hs3 l3 nmd hi hl go r ih =>
        intro w
        obtain ⟨b, hb1, yes, no⟩ := w
        refine wpAny_handleBy_cons (codeAny_handlers_test (ask (b := b) nmd (fun q => wpAny_pure q) ((PySem.W.exm_one (M := model X.prog X.w) (J3.kIn) LT hb1).here ?_))) (by intro q; cases q)
        cases b with
        | false => exact ih (no rfl)
        | true =>
          refine codeAny_handlers_suite_as (HandSPX.lands_againZ f3 fun g4 f4 u4 => ?_)
          obtain ⟨o4, v4, e4, z4, d4⟩ := f4.there
          have J4 : Inv X pins σ' H' { s' with heap := g4 } := J.landed nb f4.1 ((up.trans u3).trans u4) os ag
          have S4 := J4.suite e4 d4 na nL nF
          refine store_ok (X := X.suite a ((a, o4) :: (X.pn ++ pins))) (v := .ref a) S4 hN hi (.inl hl) rfl (fun s5 S5 => ?_) (.inr hl)
          refine wpAny_mono ((go a o4 k d (X.pn ++ pins) z4 ⟨_, d4⟩).run [] s5 _ H' _ S5 (yes rfl a na)) (fun f s6 hp => ?_) (fun _ _ z => z.elim)
          cases f with
          | ret u => obtain ⟨v6, σ6, H6, S6, r6, q6⟩ := hp; exact gone_ok (S6.unsuite ok) hN hi hl fun s7 J7 => ⟨_, _, _, J7, r6, q6⟩
          | _ => obtain ⟨σ6, H6, S6, q6⟩ := hp; exact gone_ok (S6.unsuite ok) hN hi hl fun s7 J7 => ⟨_, _, J7, q6⟩
    exact key hh w
  case n =>
    intro f s1 hp
    cases f with
    | next => obtain ⟨σ', H', J', q⟩ := hp; exact wpAny_execs_nil ⟨σ', H', J'.ofTry ok, q⟩
    | ret u => obtain ⟨v, σ', H', J', r, q⟩ := hp; exact ⟨v, σ', H', J'.ofTry ok, r, q⟩
    | _ => obtain ⟨σ', H', J', q⟩ := hp; exact ⟨σ', H', J'.ofTry ok, q⟩
end
end K74

/-! F18 -/
set_option Elab.async false
set_option linter.all false
set_option maxRecDepth 100000
set_option maxHeartbeats 4000000
namespace K74
open PySem PySem.Spec PyProof.Rows L2
open Evl hiding tCut pss_cut
theorem takes_len {X : Cx} {W : WX} (t : Takes X W) : Takes X (fun k d σ H => σ.length = X.N.length → W k d σ H) := fun u s' ⟨a, B, sI, pins, σ, H, k, d, e, I, nb, up, sky, na, os, ag, w⟩ => t u s' ⟨a, B, sI, pins, σ, H, k, d, e, I, nb, up, sky, na, os, ag, w I.len⟩
/-- what the clauses of _law_caught tell -/
def EC (K : Frag) (Q : VK) : XK := fun k d H =>
  (k = .ref (brC K) ∧ ∃ (dd : Addr) (fs : List (Str × V)) (v : V), d = some dd ∧ H dd = some (.xd fs) ∧ fs.lookup ("part" : Str) = some v ∧ ∀ q, H q = none → Q (.ref q) (upd H q (.tup [.str "rule", v]))) ∨
  (k = .ref (He.ga K "BadNumber") ∧ ∀ q, H q = none → Q (.ref q) (upd H q (.tup [.str "number"])))
def TCaught (K : Frag) (tl : XK → Hp → VK → Prop) (H : Hp) (Q : VK) : Prop := ∀ K' : VK, (∀ v H', (∀ q, H' q = none → Q (.ref q) (upd H' q (.tup [.str "value", v]))) → K' v H') → tl (EC K Q) H K'
theorem sc_law_caught : FnScope ["_law_work", "_law_found", "error"] ["_law_work"] (defScope s_law_caught) := ⟨rfl, rfl, rfl, by decide +kernel, rfl, by decide +kernel, by decide +kernel⟩
theorem xfC_br {w : World} {K : Frag} {mg : Str → Option Value} (T : Txt w K mg) : XfC K (brC K) := ⟨T.o_bga, T.o_bgg, T.br_.exC, T.o_bhd⟩
theorem caught_gives {X : Cx} (T : Txt X.w X.K X.mg) {q : Str} {cdg : Value} : LamX.GivesTo X ["_law_work", "_law_found", "error"] "_law_caught" (defScope s_law_caught) (He.ga X.K "_law_caught") cdg (defBody s_law_caught) "_law_work" q (TCaught X.K) := by
  intro f c' s H Q tl act hc h
  refine ⟨_, pss_cons (ps_set (i := 1) sc_law_caught.nd rfl (Or.inl rfl) pe_non) (pss_cons (ps_try_cl (Wo := fun _ _ _ _ => False)
    (tb := fun W D σ H => ∃ Ech : XK, (∀ k d σ' H', Ech k d H' → σ'.length = 3 → W k d σ' H') ∧ tAsg (tTup (tCons (tC (.str "value")) (tCons (fun σZ HZ Q => σZ[0]? = some (some (.ref f)) ∧ HZ c' = some (LamX.CodeO c' q) ∧ tl Ech HZ Q) tNil))) (gName 1) D σ H)
    (l := [(.ref (He.ga X.K "BadDeed"), some 2, fun _ _ _ => tNever), (.ref (He.ga X.K "BadRule"), some 2, fun a k d => tAsg (tTup (tCons (tC (.str "rule")) (tCons (tXf a k d (brC X.K) "part" (tVar 2)) tNil))) (gName 1)), (.ref (He.ga X.K "NoPlace"), some 2, fun _ _ _ => tNever), (.ref (He.ga X.K "BadLoad"), none, fun _ _ _ => tNever), (.ref (He.ga X.K "BadNumber"), none, fun _ _ _ => tAsg (tTup (tCons (tC (.str "number")) tNil)) (gName 1))])
    rfl rfl sc_law_caught.nd LamX.takes0 (fun W pn xe tk _ => ?_) (HdsA.named ⟨rfl, by decide, .inl T.g_BadDeed⟩ rfl rfl (fun _ _ _ _ _ _ _ => pss_one ps_never) (HdsA.named ⟨rfl, by decide, .inl T.g_BadRule⟩ rfl rfl (fun a o k d pn hz hf => pss_one (ps_set (i := 1) sc_law_caught.nd rfl (Or.inl rfl) (pe_tup (pa_cons pe_str (pa_cons (pe_xf (xfC_br T) T.br_.prt hz hf (pv 2)) pa_nil)))))
      (HdsA.named ⟨rfl, by decide, .inl T.g_NoPlace⟩ rfl rfl (fun _ _ _ _ _ _ _ => pss_one ps_never) (HdsA.bare ⟨rfl, by decide, .inl T.g_BadLoad⟩ (fun _ _ _ _ _ _ _ => pss_one ps_never) (HdsA.bare ⟨rfl, by decide, .inl T.g_BadNumber⟩ (fun _ _ _ _ _ _ _ => pss_one (ps_set (i := 1) sc_law_caught.nd rfl (Or.inl rfl) (pe_tup (pa_cons pe_str pa_nil)))) .nil)))))) (pss_one (ps_ret (pv 1)))), ?_⟩
  · refine ⟨fun pins s' σ H' D I h' => ?_⟩
    obtain ⟨Ech, hW, h1⟩ := h'
    exact (pss_one (ps_set (i := 1) sc_law_caught.nd rfl (Or.inl rfl) (pe_tup (pa_cons pe_str (pa_cons (act _ pn xe Ech _ _ (takes_len tk) hW) pa_nil))))).run pins s' σ H' D I h1
  · refine ⟨EC X.K Q, fun k d σ' H' he hl => ?_, rfl, hc, h _ fun v H' hq => ⟨Nat.le_of_ble_eq_true rfl, fun p hp => ⟨_, rfl, hq p hp⟩⟩⟩
    obtain ⟨x0, x1, x2, rfl⟩ : ∃ x0 x1 x2, σ' = [x0, x1, x2] := by
      match σ', hl with
      | [x0, x1, x2], _ => exact ⟨x0, x1, x2, rfl⟩
    rcases he with ⟨rfl, dd, fs, v, rfl, hx, hv, kq⟩ | ⟨rfl, kq⟩
    · refine ⟨false, T.e_BadRule_BadDeed, fun h => (nomatch h), fun _ => ⟨true, T.e_BadRule_BadRule, fun _ a ha => ?_, fun h => (nomatch h)⟩⟩
      exact ⟨_, rfl, rfl, rfl, dd, fs, v, rfl, hx, hv, Nat.le_of_ble_eq_true rfl, fun p hp => ⟨_, rfl, kq p hp⟩⟩
    · refine ⟨false, T.e_BadNumber_BadDeed, fun h => (nomatch h), fun _ => ⟨false, T.e_BadNumber_BadRule, fun h => (nomatch h), fun _ => ⟨false, T.e_BadNumber_NoPlace, fun h => (nomatch h), fun _ => ⟨false, T.e_BadNumber_BadLoad, fun h => (nomatch h), fun _ => ⟨true, T.e_BadNumber_BadNumber, fun _ a ha => ?_, fun h => (nomatch h)⟩⟩⟩⟩⟩
      exact ⟨Nat.le_of_ble_eq_true rfl, fun p hp => ⟨_, rfl, kq p hp⟩⟩
end K74

/-! F19 -/
set_option Elab.async false
set_option linter.all false
set_option maxRecDepth 100000
set_option maxHeartbeats 4000000
namespace K74
open PySem PySem.Spec PyProof.Rows L2
open Evl hiding tCut pss_cut
open LamX (ExtN Tabs TabS)
/-! ### all but the tables of code objects stay -/
section
variable {K : Frag} {Z H Z1 H1 : Hp}
theorem sqT_n {a : Addr} {xs : List V} (s : SqT K Z a xs) (e : ExtN Z H) : SqT K H a xs := by
  rcases s with s | s
  · rcases s with s | ⟨o, s⟩
    · exact .inl (.inl (e _ _ s fun _ z => nomatch z))
    · exact .inl (.inr ⟨o, e _ _ s fun _ z => nomatch z⟩)
  · exact .inr s
theorem sqL_n {a : Addr} {xs : List V} (s : SqL K Z a xs) (e : ExtN Z H) : SqL K H a xs := by
  rcases s with s | s
  · rcases s with s | ⟨o, s⟩
    · exact .inl (.inl (e _ _ s fun _ z => nomatch z))
    · exact .inl (.inr ⟨o, e _ _ s fun _ z => nomatch z⟩)
  · exact .inr s
mutual
theorem Dp.upN (e : ExtN Z H) : ∀ (d : PyData) (v : V), Dp K Z v d → Dp K H v d
  | .none, _, h => by cases h; exact .non
  | .bool _, _, h => by cases h; exact .bl _
  | .int _, _, h => by cases h; exact .int _
  | .str _, _, h => by cases h; exact .str _
  | .list ds, _, h => by
    cases h with
    | lst s r => exact .lst (sqL_n s e) (DpAll.upN e ds _ r)
  | .tuple ds, _, h => by
    cases h with
    | tup s r => exact .tup (sqT_n s e) (DpAll.upN e ds _ r)
  | .dict _, _, h => by cases h
theorem DpAll.upN (e : ExtN Z H) : ∀ (ds : List PyData) (vs : List V), DpAll K Z vs ds → DpAll K H vs ds
  | [], _, h => by cases h; exact .nil
  | d :: ds, _, h => by
    cases h with
    | cons a b => exact .cons (Dp.upN e d _ a) (DpAll.upN e ds _ b)
end
theorem dp_n {v : V} {d : PyData} (h : Dp K Z v d) (e : ExtN Z H) : Dp K H v d := Dp.upN e d v h
theorem lsD_n {v : V} {ds : List PyData} (h : LsD K Z v ds) (e : ExtN Z H) : LsD K H v ds := by
  obtain ⟨a, xs, r, l, d⟩ := h
  exact ⟨a, xs, r, e _ _ l (fun _ z => nomatch z), DpAll.upN e ds xs d⟩
theorem case_n {v : V} {r : Rl} (h : CaseAt K Z v r) (e : ExtN Z H) : CaseAt K H v r := by
  obtain ⟨a, pl, rfl, h1, h2⟩ := h
  exact ⟨a, pl, rfl, e _ _ h1 (fun _ z => nomatch z), lsD_n h2 e⟩
theorem sheet_n {v : V} {sh : Sh} (h : SheetAt K Z v sh) (e : ExtN Z H) : SheetAt K H v sh := by
  obtain ⟨a, c, s, cl, rfl, h1, h2, h3, h4⟩ := h
  exact ⟨a, c, s, cl, rfl, e _ _ h1 (fun _ z => nomatch z), case_n h2 e, dp_n h3 e, lsD_n h4 e⟩
theorem rule_n {v : V} {r : Rl} (h : RuleAt K Z v r) (e : ExtN Z H) : RuleAt K H v r := by
  obtain ⟨a, dx, p, b, l, rfl, h1, h2, h3, h4⟩ := h
  exact ⟨a, dx, p, b, l, rfl, e _ _ h1 (fun _ z => nomatch z), dp_n h2 e, dp_n h3 e, dp_n h4 e⟩
theorem scaler_n {v : V} {r : Rl} {n : Int} (h : ScalerAt K Z v r n) (e : ExtN Z H) : ScalerAt K H v r n := by
  obtain ⟨a, dx, f, ru, rfl, h1, h2, h3⟩ := h
  exact ⟨a, dx, f, ru, rfl, e _ _ h1 (fun _ z => nomatch z), dp_n h2 e, rule_n h3 e⟩
theorem momHd_n {v : V} {sh : Sh} {dv b : V} (h : MomHd K Z v sh dv b) (e : ExtN Z H) : MomHd K H v sh dv b := by
  obtain ⟨a, dx, ru, st, cv, rfl, h1, h2, h3, h4⟩ := h
  exact ⟨a, dx, ru, st, cv, rfl, e _ _ h1 (fun _ z => nomatch z), rule_n h2 e, dp_n h3 e, dp_n h4 e⟩
theorem mom_n (e : ExtN Z H) : ∀ {hist : List (Deed × Sh)} {v : V} {sh : Sh}, MomAt K Z hist v sh → MomAt K H hist v sh
  | [], _, _, h => momHd_n h e
  | (d, s0) :: r, _, _, ⟨dv, b, h1, h2, h3, h4⟩ => ⟨dv, b, momHd_n h1 e, dp_n h2 e, h3, mom_n e h4⟩
theorem ses_n {a : Addr} {o m : V} (h : SesH K Z a o m) (e : ExtN Z H) : SesH K H a o m := let ⟨dx, q⟩ := h; ⟨dx, e _ _ q (fun _ z => nomatch z)⟩
/-- Z without its tables -/
def dropT (Z : Hp) : Hp := fun b => match Z b with
  | some (.tbl _) => none
  | o => o
theorem dropT_ext : ExtN Z (dropT Z) := fun b o h n => by
  unfold dropT
  rw [h]
  cases o <;> first | rfl | exact absurd rfl (n _)
theorem dropT_none {b : Addr} (h : Z b = none) : dropT Z b = none := by unfold dropT; rw [h]
theorem dropT_some {b : Addr} {o : HO} (h : dropT Z b = some o) : Z b = some o ∧ ∀ ps, o ≠ .tbl ps := by
  unfold dropT at h
  split at h
  · cases h
  · rename_i w
    exact ⟨h, fun ps e => by rw [e] at h; exact w ps h⟩
theorem dropT_in (z : Ex Z H) (e : ExtN H H1) : Ex (dropT Z) H1 := fun b o q => by
  obtain ⟨q1, q2⟩ := dropT_some q
  exact e _ _ (z _ _ q1) q2
/-- how the heap moves, tables aside -/
structure MvN (S : Addr → Prop) (Z H Z' H' : Hp) : Prop where
  z : ExtN Z Z'
  k : ∀ a o, H a = some o → ¬ S a → (∀ ps, o ≠ .tbl ps) → H' a = some o
  n : ∀ a o, H a = some o → (∀ ps, o ≠ .tbl ps) → Z a = none → Z' a = none
  e : ∀ a o, H a = some o → (∀ ps, o ≠ .tbl ps) → ∃ o', H' a = some o'
theorem MvN.of {S : Addr → Prop} (m : Mv S Z H Z1 H1) : MvN S Z H Z1 H1 := ⟨ExtN.of m.z, fun a o q r _ => m.k a o q r, fun a o q _ z => m.n a o q z, fun a o q _ => m.e a o q⟩
theorem MvN.then {S : Addr → Prop} {Z2 H2 : Hp} (x : MvN S Z H Z1 H1) (y : Mv S Z1 H1 Z2 H2) : MvN S Z H Z2 H2 :=
  ⟨x.z.trans (ExtN.of y.z), fun a o q r n => y.k a o (x.k a o q r n) r, fun a o q n z => let ⟨o', q'⟩ := x.e a o q n; y.n a o' q' (x.n a o q n z), fun a o q n => let ⟨o', q'⟩ := x.e a o q n; y.e a o' q'⟩
/-! tables stay under moves of other things -/
theorem tabs_mv {T : List (Addr × Str)} {S : Addr → Prop} (t : Tabs T H) (m : Mv S Z H Z1 H1) (n : ∀ b, S b → ∃ o, H b = some o ∧ (∀ ps, o ≠ .tbl ps) ∧ ∀ c q, o ≠ LamX.CodeO c q) : Tabs T H1 := fun p hp => by
  obtain ⟨ps, h1, h2, h3⟩ := t p hp
  refine ⟨ps, m.k _ _ h1 (fun s => ?_), h2, fun pos cv hc => ?_⟩
  · obtain ⟨o, e, w, _⟩ := n _ s
    rw [h1] at e
    cases e
    exact w ps rfl
  · obtain ⟨c, e1, e2⟩ := h3 pos cv hc
    refine ⟨c, e1, m.k _ _ e2 fun s => ?_⟩
    obtain ⟨o, e, _, w⟩ := n _ s
    rw [e2] at e
    cases e
    exact w _ _ rfl
theorem tabs_ex {T : List (Addr × Str)} (t : Tabs T H) (e : Ex H H1) : Tabs T H1 := t.ext e
variable {d : Addr} {l : Addr × Addr}
theorem DZ.nt (dz : DZ Z H d l) : ∀ b, DS d l b → ∃ o, H b = some o ∧ (∀ ps, o ≠ .tbl ps) ∧ ∀ c q, o ≠ LamX.CodeO c q := fun b s => by
  obtain ⟨r, t, m, ls, cs, q⟩ := dz.dr
  rcases s with s | s
  · have q1 := q.dd
    rw [← s] at q1
    exact ⟨_, q1, fun _ z => (nomatch z), fun _ _ z => by unfold LamX.CodeO at z; cases z⟩
  · have q1 := q.ll
    rw [← s] at q1
    exact ⟨_, q1, fun _ z => (nomatch z), fun _ _ z => by unfold LamX.CodeO at z; cases z⟩
theorem tabs_d {T : List (Addr × Str)} (t : Tabs T H) (dz : DZ Z H d l) (m : Mv (DS d l) Z H Z1 H1) : Tabs T H1 := tabs_mv t m dz.nt
theorem tabs_s {T : List (Addr × Str)} {a : Addr} {o m : V} (t : Tabs T H) (hs : SesH K H a o m) (mv : Mv (fun b => b = a) Z H Z1 H1) : Tabs T H1 := tabs_mv t mv fun b s => by
  obtain ⟨dx, q⟩ := hs
  rw [← s] at q
  exact ⟨_, q, fun _ z => (nomatch z), fun _ _ z => by unfold LamX.CodeO at z; cases z⟩
/-! the draw and the sessions under each other's moves -/
theorem DZ.nes (dz : DZ Z H d l) {a : Addr} {o m : V} (hs : SesH K H a o m) : ¬ DS d l a ∧ a ≠ d ∧ a ≠ l.1 ∧ a ≠ l.2 := by
  obtain ⟨r, t, mm, ls, cs, q⟩ := dz.dr
  obtain ⟨dx, hx⟩ := hs
  have h1 : a ≠ d := ne_of hx q.dd (fun z => nomatch z)
  have h2 : a ≠ l.1 := ne_of hx q.ll (fun z => nomatch z)
  exact ⟨fun s => s.elim h1 h2, h1, h2, ne_of hx q.cc (fun z => nomatch z)⟩
theorem SesH.dr {a : Addr} {o m : V} (hs : SesH K H a o m) (dz : DZ Z H d l) (mv : Mv (DS d l) Z H Z1 H1) : SesH K H1 a o m := by
  have n := (dz.nes hs).1
  obtain ⟨dx, q⟩ := hs
  exact ⟨dx, mv.k _ _ q n⟩
theorem SesH.se {a b : Addr} {o m : V} (hs : SesH K H a o m) (n : a ≠ b) (mv : Mv (fun c => c = b) Z H Z1 H1) : SesH K H1 a o m := by
  obtain ⟨dx, q⟩ := hs
  exact ⟨dx, mv.k _ _ q n⟩
theorem SesH.zn {a : Addr} {o m : V} {S : Addr → Prop} (hs : SesH K H a o m) (z : Z a = none) (mv : Mv S Z H Z1 H1) : Z1 a = none := by
  obtain ⟨dx, q⟩ := hs
  exact mv.n _ _ q z
theorem DZ.se (dz : DZ Z H d l) {a : Addr} {o m : V} (hs : SesH K H a o m) (mv : Mv (fun c => c = a) Z H Z1 H1) : DZ Z1 H1 d l := by
  obtain ⟨_, n1, n2, n3⟩ := dz.nes hs
  obtain ⟨r, t, mm, ls, cs, q⟩ := id dz.dr
  exact ⟨mv.h, ⟨r, t, mm, ls, cs, mv.k _ _ q.dd (Ne.symm n1), mv.k _ _ q.ll (Ne.symm n2), mv.k _ _ q.cc (Ne.symm n3), q.m0, q.m1, q.lz, q.cz, q.cl⟩, mv.n _ _ q.dd dz.zd, mv.n _ _ q.ll dz.zl⟩
end
/-! ### the past -/
def pastL : List (Deed × Sh) → Sh → List (Sh × List Deed)
  | [], sh => [(sh, [])]
  | (d, s1) :: h, sh => pastL h s1 ++ [(sh, dsOf ((d, s1) :: h))]
theorem pastL_len : ∀ (h : List (Deed × Sh)) (sh : Sh), (pastL h sh).length = h.length + 1
  | [], sh => rfl
  | (d, s1) :: h, sh => by
    show (pastL h s1 ++ [(sh, dsOf ((d, s1) :: h))]).length = _
    rw [List.length_append, pastL_len h s1]
    rfl
theorem pastL_last : ∀ (h : List (Deed × Sh)) (sh : Sh), ∃ es, pastL h sh = es ++ [(sh, dsOf h)]
  | [], sh => ⟨[], rfl⟩
  | (d, s1) :: h, sh => ⟨_, rfl⟩
section
variable {K : Frag} {Z H : Hp}
def EntAt (K : Frag) (Z : Hp) (x : V) (e : Sh × List Deed) : Prop := ∃ p sv av, x = .ref p ∧ SqT K Z p [sv, av] ∧ SheetAt K Z sv e.1 ∧ LsD K Z av (e.2.map dDeed)
def EntAll (K : Frag) (Z : Hp) : List V → List (Sh × List Deed) → Prop
  | [], [] => True
  | x :: xs, e :: es => EntAt K Z x e ∧ EntAll K Z xs es
  | _, _ => False
theorem EntAt.n {x : V} {e : Sh × List Deed} (h : EntAt K Z x e) (q : ExtN Z H) : EntAt K H x e := by
  obtain ⟨p, sv, av, rfl, h1, h2, h3⟩ := h
  exact ⟨p, sv, av, rfl, sqT_n h1 q, sheet_n h2 q, lsD_n h3 q⟩
theorem EntAll.n (q : ExtN Z H) : ∀ {xs : List V} {es : List (Sh × List Deed)}, EntAll K Z xs es → EntAll K H xs es
  | [], [], _ => trivial
  | _ :: _, _ :: _, h => ⟨h.1.n q, EntAll.n q h.2⟩
  | [], _ :: _, h => h.elim
  | _ :: _, [], h => h.elim
theorem EntAll.len : ∀ {xs : List V} {es : List (Sh × List Deed)}, EntAll K Z xs es → xs.length = es.length
  | [], [], _ => rfl
  | _ :: xs, _ :: es, h => by rw [List.length_cons, List.length_cons, EntAll.len h.2]
  | [], _ :: _, h => h.elim
  | _ :: _, [], h => h.elim
theorem EntAll.app : ∀ {xs ys : List V} {es fs : List (Sh × List Deed)}, EntAll K Z xs es → EntAll K Z ys fs → EntAll K Z (xs ++ ys) (es ++ fs)
  | [], _, [], _, _, g => g
  | _ :: _, _, _ :: _, _, h, g => ⟨h.1, EntAll.app h.2 g⟩
  | [], _, _ :: _, _, h, _ => h.elim
  | _ :: _, _, [], _, h, _ => h.elim
theorem EntAll.snoc {e : Sh × List Deed} : ∀ {xs : List V} {es : List (Sh × List Deed)}, EntAll K Z xs (es ++ [e]) → ∃ ys y, xs = ys ++ [y] ∧ EntAll K Z ys es ∧ EntAt K Z y e
  | [], [], h => h.elim
  | [], _ :: _, h => h.elim
  | [x], [], h => ⟨[], x, rfl, trivial, h.1⟩
  | _ :: _ :: _, [], h => h.2.elim
  | x :: xs, _ :: es, h => by
    obtain ⟨ys, y, e1, e2, e3⟩ := EntAll.snoc (xs := xs) (es := es) h.2
    exact ⟨x :: ys, y, by rw [e1]; rfl, ⟨h.1, e2⟩, e3⟩
def PastAt (K : Frag) (Z : Hp) (v : V) (hist : List (Deed × Sh)) (sh : Sh) : Prop := ∃ a xs, v = .ref a ∧ Z a = some (.lst xs) ∧ EntAll K Z xs (pastL hist sh)
theorem PastAt.n {v : V} {hist : List (Deed × Sh)} {sh : Sh} (h : PastAt K Z v hist sh) (q : ExtN Z H) : PastAt K H v hist sh := by
  obtain ⟨a, xs, rfl, h1, h2⟩ := h
  exact ⟨a, xs, rfl, q _ _ h1 (fun _ z => nomatch z), h2.n q⟩
theorem PastAt.mv {v : V} {hist : List (Deed × Sh)} {sh : Sh} (h : PastAt K Z v hist sh) (q : Ex Z H) : PastAt K H v hist sh := h.n (ExtN.of q)
end
/-! histories -/
structure S0 (s : Sh) : Prop where
  ok : OkSh s
  cv : s.cv = []
structure J (s0 : Sh) (hist : List (Deed × Sh)) (sh : Sh) : Prop where
  c : Chn s0 hist sh
  da : ∀ d ∈ dsOf hist, okAct d
theorem J.tail {s0 sh s1 : Sh} {d : Deed} {h : List (Deed × Sh)} (j : J s0 ((d, s1) :: h) sh) : J s0 h s1 ∧ okAct d ∧ doneL s1 d = some sh := by
  have c : doneL s1 d = some sh ∧ Chn s0 h s1 := j.c
  exact ⟨⟨c.2, fun x hx => j.da x (by rw [dsOf_cons]; exact List.mem_append_left _ hx)⟩, j.da d (by rw [dsOf_cons]; exact List.mem_append_right _ List.mem_cons_self), c.1⟩
theorem J.snoc {s0 sh sh' : Sh} {d : Deed} {h : List (Deed × Sh)} (j : J s0 h sh) (o : okAct d) (e : doneL sh d = some sh') : J s0 ((d, sh) :: h) sh' := ⟨⟨e, j.c⟩, fun x hx => by
  rw [dsOf_cons] at hx
  rcases List.mem_append.mp hx with q | q
  · exact j.da x q
  · rw [List.mem_singleton.mp q]; exact o⟩
theorem J.ok {s0 : Sh} (s : S0 s0) : ∀ {h : List (Deed × Sh)} {sh : Sh}, J s0 h sh → OkSh sh ∧ sh.cv.length ≤ h.length
  | [], sh, j => by
    have e : sh = s0 := j.c
    rw [e]
    exact ⟨s.ok, by rw [s.cv]; exact Nat.le_refl _⟩
  | (d, s1) :: h, sh, j => by
    obtain ⟨j1, o, e⟩ := j.tail
    obtain ⟨o1, c1⟩ := J.ok s j1
    refine ⟨doneL_ok o1 o.dd e, ?_⟩
    have := doneL_cv e
    rw [List.length_cons]
    omega
theorem J.gd {s0 sh : Sh} {h : List (Deed × Sh)} (s : S0 s0) (j : J s0 h sh) (hz : h.length ≤ 100) : Gd h sh := ⟨(j.ok s).1, hz, by have := (j.ok s).2; omega, j.da⟩
end K74

/-! F20 -/
set_option Elab.async false
set_option linter.all false
set_option maxRecDepth 100000
set_option maxHeartbeats 4000000
namespace K74
open PySem PySem.Spec PyProof.Rows L2
open Evl hiding tCut pss_cut
open LamX (ExtN Tabs TabS)
/-- a def by its body, its code object told -/
theorem FB.ofC {P : Program} {w : World} {K : Frag} {mg : Str → Option Value} {base : Heap} {k : Nat} {f : Addr} {ps : List Str} {sp : Sp} {x qual : Str} {params : Arguments} {body : List Stmt} {scope : Scope} {N : List Str} (F : ∃ fd, FunD K x qual params body scope [] [] f fd) (S : FnScope N ps scope)
    (hb : ∀ (kV doc pm : Value) (an : Option Addr) (cdv ct : Value) (us : List Value), us.length = ps.length → bindArgs (PySem.W.fnOf x qual params body scope .none kV doc pm an cdv ct) ⟨us, []⟩ = pure (ps.zip us))
    (len : ∀ vs H Q E, sp vs H Q E → vs.length = ps.length)
    (hbody : ∀ (c : Addr) (A : Around) (outer : List Env) (s : Shared) (H : Hp) (vs : List V) (Q : VK) (E : XK), (∃ oc od osl fd, K.lookup f = some ⟨oc, od, .func fd, osl⟩ ∧ fd.code = .ref c) → Room k (A.deeper (envOfC qual scope s.heap.objs.size f (.ref c))) → sp vs H Q E →
      ∃ t, PSs (cxOf (L2.CX P w) P w K mg base N qual scope f (.ref c) A outer s H E) body t ∧ t { nx := fun _ H' => Q .non H', rt := Q } (start N vs) H) : FB P w K mg base (k + 1) f ps sp := by
  obtain ⟨fd, F⟩ := F
  have hb' := F.bindsN hb
  obtain ⟨oc, od, dV, kV, doc, pm, an, cdv, ct, osl, rfl, lk, hcd, _, _⟩ := F.ex
  obtain ⟨c, rfl⟩ := He.codeIn_ref hcd
  exact ⟨⟨_, ⟨len, fun A outer s H args us vs Q E hr e0 hbd r hsp => LamX.run_ofS lk hcd S hr e0 hbd r (len _ _ _ _ hsp) fun hr' => hbody c A outer s H vs Q E ⟨_, _, _, _, lk, rfl⟩ hr' hsp⟩, hb'⟩, F.kp⟩
section
variable {P : Program} [hPT : PT P] {w : World} {K : Frag} {mg : Str → Option Value} {base : Heap}
theorem ewt_and {σ : L2.St} {d : Addr} {l : Addr × Addr} {Z : Hp} {t u : TT} {a : Bool} (h1 : EvT t σ Z a) (h2 : EvWT d l u σ Z (fun _ _ => True)) : EvWT d l (tAnd t u) σ Z (fun v _ => v = true → a = true) := fun H dz Q q => h1 H dz.z _ fun H2 e2 => by
  have g := Gr.of dz.z e2
  cases a with
  | true => rw [if_pos rfl]; exact h2 H2 (dz.gr g) Q fun v Z2 H3 m z _ => q v Z2 H3 ((Mv.gr g).trans m) z fun _ => rfl
  | false => rw [if_neg Bool.false_ne_true]; exact q false Z H2 (Mv.gr g) (dz.gr g) fun z => nomatch z
/-- past + [(later, acts + [act])] -/
theorem eg_past {σ : L2.St} {Z : Hp} {tp tl tc ta : TE} {pa la aa : Addr} {xs axs : List V} {av : V} {hist : List (Deed × Sh)} {sh sh' : Sh} {dd : Deed} (hp : Ev tp σ Z (.ref pa)) (zp : Z pa = some (.lst xs)) (ent : EntAll K Z xs (pastL hist sh)) (hz : xs.length ≤ 10000)
    (hl : Ev tl σ Z (.ref la)) (hsh : SheetAt K Z (.ref la) sh') (hc : Ev tc σ Z (.ref aa)) (za : Z aa = some (.lst axs)) (da : DpAll K Z axs ((dsOf hist).map dDeed)) (hza : axs.length ≤ 10000) (ha : Ev ta σ Z av) (dav : Dp K Z av (dDeed dd)) :
    EvG (tOp rCat tp (tLst (tCons (tTup (tCons tl (tCons (tOp rCat tc (tLst (tCons ta tNil))) tNil))) tNil))) σ Z (fun x Z2 => PastAt K Z2 x ((dd, sh) :: hist) sh') := fun H1 e Q q => hp H1 e _ fun H2 e2 => hl H2 (e.trans e2) _ fun H3 e3 =>
  eg_cat1 (K := K) hc za da ha dav hza H3 ((e.trans e2).trans e3) _ fun v Z4 H4 g4 hv => ⟨Nat.le_of_ble_eq_true rfl, fun p hp' => ⟨Nat.le_of_ble_eq_true rfl, fun b hb => by
    have g : Gr Z H1 Z4 H4 := (Gr.of e (e2.trans e3)).trans g4
    have g5 := g.trans (Gr.newZ (o := .tup [.ref la, v]) g.h hp')
    have g6 : Gr Z H1 _ (upd (upd H4 p (.tup [.ref la, v])) b (.lst [.ref p])) := g5.trans (Gr.new g5.h hb)
    refine ⟨pa, b, xs, [.ref p], rfl, rfl, g6.h _ _ (g6.z _ _ zp), upd_same, sz_of (by show xs.length + 1 ≤ 100000; omega), fun r hr => ?_⟩
    have z4 : Z4 p = none := Same.free g.h hp'
    have e5 : Ex Z4 (upd Z4 p (.tup [.ref la, v])) := K74.same_new z4
    have z6 := Same.free g6.h hr
    have e6 : Ex (upd Z4 p (.tup [.ref la, v])) (upd (upd Z4 p (.tup [.ref la, v])) r (.lst (xs ++ [.ref p]))) := K74.same_new z6
    refine q _ _ _ (g6.trans (Gr.newZ g6.h hr)) ⟨r, _, rfl, upd_same, (ent.n (ExtN.of (g6.z.trans e6))).app ⟨⟨p, .ref la, v, rfl, st_of (e6 _ _ upd_same), (hsh.mv g6.z).mv e6, ?_⟩, trivial⟩⟩
    show LsD K _ v ((dsOf ((dd, sh) :: hist)).map dDeed)
    rw [dsOf_cons, List.map_append]
    exact (hv.mv e5).mv e6⟩⟩
theorem kit_dd : PySem.W.kitOne K (.type "dict") (.type "dict") = some true := kit_ty (by decide +kernel)
theorem kit_td : PySem.W.kitOne K (.type "tuple") (.type "dict") = some false := kit_ty (by decide +kernel)
instance ptLam {X : Cx} [h : PT X.prog] {A : Around} {outer : List Env} {s : Shared} {H : Hp} {E : XK} {sc : Scope} {f c : Addr} : PT (LamX.lamCx X A outer s H E sc f c).prog := h
/-! _law_moved -/
def tP (K : Frag) : Addr := (He.cT K ("_law_moved", none)).2
def tbs (K : Frag) : List (Addr × Str) := [(tP K, (("_law_moved" : Str) ++ ".<locals>.") ++ "<lambda>")]
abbrev SM (d : Addr) (l : Addr × Addr) (a : Addr) : Addr → Prop := fun b => DS d l b ∨ b = a
def sp_law_moved (K : Frag) : Sp := fun vs H Q _ => ∃ (d : Addr) (l : Addr × Addr) (a : Addr) (o m pv : V) (hist : List (Deed × Sh)) (sh s0 : Sh) (Z : Hp), vs = [.ref d, .ref a, pv] ∧ DZ Z H d l ∧ SesH K H a o m ∧ Z a = none ∧ MomAt K Z hist m sh ∧ S0 s0 ∧ J s0 hist sh ∧ hist.length ≤ 60 ∧ PastAt K Z pv hist sh ∧ Tabs (tbs K) H ∧
  ∀ x m' hist' sh' Z' H', MvN (SM d l a) Z H Z' H' → DZ Z' H' d l → SesH K H' a o m' → Z' a = none → MomAt K Z' hist' m' sh' → J s0 hist' sh' → hist'.length ≤ hist.length + 1 → PastAt K Z' x hist' sh' → Tabs (tbs K) H' → Q x H'
theorem sc_law_moved : FnScope ["_law_draw", "_law_bench", "_law_past", "_law_act_here", "_law_later", "_law_found", "_law_bad", "_law_sheet_here", "_law_acts"] ["_law_draw", "_law_bench", "_law_past"] (defScope s_law_moved) := ⟨rfl, rfl, rfl, by decide +kernel, rfl, by decide +kernel, by decide +kernel⟩
theorem ok_law_moved (T : Txt w K mg) (TB : LamX.TabB base mg (He.codeOf K ("_law_moved", none)) (tP K)) : FB P w K mg base 14 (He.ga K "_law_moved") ["_law_draw", "_law_bench", "_law_past"] (sp_law_moved K) := by
  obtain ⟨fdc, FC⟩ := T.F_law_caught
  have kpc := FC.kp
  have bc := FC.bindsN (ps := ["_law_work"]) (fun _ _ _ _ _ _ us hl => match us, hl with | [_], _ => rfl)
  obtain ⟨oc, od, dV, kV, doc, pm, an, cdc, ct, osl, rfl, lkc, hcc, _, _⟩ := FC.ex
  refine FB.ofC T.F_law_moved sc_law_moved (fun _ _ _ _ _ _ us hl => match us, hl with | [_, _, _], _ => rfl) (by rintro vs H Q E ⟨_, _, _, _, _, _, _, _, _, _, rfl, _⟩; rfl) (fun c A outer s H vs Q E hcode hr h => ?_)
  obtain ⟨oc2, od2, osl2, fd2, lk2, e2⟩ := hcode
  have ec : He.codeOf K ("_law_moved", none) = c := He.codeOf_eq lk2 e2
  subst ec
  refine ⟨_, (pss_cons (ps_if (PW.pt (pw_and (pt_cmpR op_gt (pe_callB call_len_seq (by rfl) T.f_len (by decide +kernel) (pa_cons (pv 2) pa_nil)) pe_int (nomark _)) (pw_and1 (pt_cmpR op_eq (pe_callF (ok_law_take T) (hr.mono (by decide)) (by rfl) T.g_law_take passL (pa_cons (pv 0) (pa_cons pe_int pa_nil))) pe_int (nomark _)))))
    (pss_cons (ps_expr (pe_methF (pv 1) T.c_Session T.m_Session_do (ok_Session_do T) (hr.mono (by decide)) passL (pa_cons (pe_tup (pa_cons pe_str pa_nil)) pa_nil)))
    (pss_one (ps_ret (pe_slice sl_list (pv 2) po_none (po_some (pe_un un_neg pe_int))))))
    pss_nil)
    (pss_cons (ps_asg (pe_ix ix_list (pv 2) (pe_un un_neg pe_int) (fun _ _ => rfl)) (pg_tup rfl (pgs_cons (pg_name (i := 7) sc_law_moved.nd rfl (Or.inl rfl)) (pgs_cons (pg_name (i := 8) sc_law_moved.nd rfl (Or.inl rfl)) pgs_nil))))
    (pss_cons (ps_set (i := 3) sc_law_moved.nd rfl (Or.inr rfl) (pe_callF (ok_law_act T) (hr.mono (by decide)) (by rfl) T.g_law_act passL (pa_cons (pv 0) (pa_cons (pv 7) pa_nil))))
    (pss_cons (ps_set (i := 4) sc_law_moved.nd rfl (Or.inl rfl) (pe_callF (ok_law_done T) (hr.mono (by decide)) (by rfl) T.g_law_done passL (pa_cons (pv 7) (pa_cons (pv 3) pa_nil))))
    (Evl.pss_cut (ps_set (i := 5) sc_law_moved.nd rfl (Or.inl rfl) (LamX.pe_lamcall (T := tbs K) (a := "_law_work") (k := 11) (t := fun E => tMeth (He.ga K "Session") "do" (sp_Session_do K) [] E (tVar 1) (tCons (tVar 3) tNil)) (by rfl) T.g_law_caught kpc lkc hcc bc sc_law_caught rfl (.inl rfl) (caught_gives T) TB rfl List.mem_cons_self (fun p hp _ => by rw [List.mem_singleton.mp hp]; rfl) (hr.mono (by decide)) (LamX.lamS_by (sc := defScope s_law_moved) (by decide +kernel)) rfl (fun _ _ _ _ _ => rfl) (fun A outer s H E f c' hr2 => pe_methF (pv 1) T.c_Session T.m_Session_do (ok_Session_do T) hr2 (passes_call (takes_of rfl rfl rfl rfl) (fun _ _ _ _ z => z)) (pa_cons (pv 3) pa_nil))))
    (pss_cons (ps_if (pt_val (pe_callB call_isi (by rfl) T.f_isinstance (by decide +kernel) (pa_cons (pv 4) (pa_cons (pe_bltn (by rfl) T.f_dict (by decide +kernel) (v := .ty "dict") rfl) pa_nil))))
    (pss_one (ps_ret (pe_op op_cat (pv 2) (pe_lst (pa_cons (pe_tup (pa_cons (pv 4) (pa_cons (pe_op op_cat (pv 8) (pe_lst (pa_cons (pv 3) pa_nil))) pa_nil))) pa_nil)))))
    pss_nil)
    (pss_cons (ps_set (i := 6) sc_law_moved.nd rfl (Or.inl rfl) (pe_callTy call_dictD (by rfl) T.f_dict (by decide +kernel) (pa_cons (pv 7) pa_nil)))
    (pss_cons (ps_dput (hu_of hr) (pv 6) pe_str (pe_lst (pa_cons pe_non pa_nil)) rfl)
    (pss_one (ps_ret (pe_ifExp (pt_cmpR (op_eqD hr.units) (pv 5) (pv 4) (nomark _)) (pv 2) (pe_op op_cat (pv 2) (pe_lst (pa_cons (pe_tup (pa_cons (pv 6) (pa_cons (pv 8) pa_nil))) pa_nil)))))))))))))), ?_⟩
  obtain ⟨d, l, a, o, m, pv, hist, sh, s0, Z, rfl, dz, hs, za, hm, hS, hj, hz, hpast, tb, k⟩ := h
  have gd := hj.gd hS (by omega)
  have ok := gd.ok
  have cz := gd.cz
  obtain ⟨pa, xs, rfl, zp, ent⟩ := id hpast
  have hxl : xs.length = hist.length + 1 := by rw [ent.len, pastL_len]
  refine q_whenW (Ψ := fun b _ => b = true → decide ((xs.length : Int) > 1) = true) (ewt_and (et_test (ev_I (ev_len (ev_var rfl) (sq_of zp)) ev_c)) (ewt_eq (ew_takeC (P := fun _ => True) rfl ⟨by decide, by decide⟩ fun _ _ _ => trivial))) dz (fun Z1 H1 m1 dz1 hb => ?_) (fun Z1 H1 m1 dz1 _ => ?_)
  · obtain ⟨d0, s1, h0, rfl⟩ : ∃ d0 s1 h0, hist = (d0, s1) :: h0 := by
      cases hist with
      | nil =>
        have h1 : (1 : Int) < (xs.length : Int) := of_decide_eq_true (hb rfl)
        rw [List.length_nil] at hxl
        omega
      | cons x r => exact ⟨x.1, x.2, r, rfl⟩
    have hs1 := hs.dr dz m1
    have za1 := hs.zn za m1
    obtain ⟨dx1, hs1x⟩ := id hs1
    have ent2 : EntAll K Z xs (pastL h0 s1 ++ [(sh, dsOf ((d0, s1) :: h0))]) := ent
    obtain ⟨ys, y, exs, entys, _⟩ := ent2.snoc
    refine meth_go (ev_var rfl) hs1x rfl fun H2 e2 => ⟨Nat.le_of_ble_eq_true rfl, fun p hp => ?_⟩
    have g2 : Gr Z1 H1 Z1 H2 := Gr.of dz1.z e2
    have g3 := g2.trans (Gr.newZ (o := .tup [.str "undo"]) g2.h hp)
    have hs3 := hs1.mv g3.same
    refine ⟨a, .ref p, o, m, _, sh, upd Z1 p (.tup [.str "undo"]), rfl, g3.h, hs3, g3.n _ _ hs1x za1, MomAt.mv (m1.z.trans g3.z) hm, ok, by omega, .inr ⟨Dp.newT (.cons (.str _) .nil) (Same.free g2.h hp), d0, s1, h0, rfl, fun m' Z4 H4 mv4 hs4 z4 hm4 => ?_⟩⟩
    have dz4 := (dz1.gr g3).se hs3 mv4
    have zp4 : H4 pa = some (.lst xs) := dz4.z _ _ (mv4.z _ _ (g3.z _ _ (m1.z _ _ zp)))
    refine s_retL (xs := ys) (by
      have h := el_sl (K := K) (te := tVar 2) (ev_var rfl) eo_none (eo_some (ev_negI (ev_c (v := .int 1)))) (sq_of zp4) (σ := [some (.ref d), some (.ref a), some (.ref pa), none, none, none, none, none, none])
      rw [cut_but, exs, List.dropLast_concat] at h
      exact h) fun q H5 hq e5 lq => ?_
    have gq : Gr Z4 H4 (upd Z4 q (.lst ys)) H5 := Gr.mk1 dz4.z hq e5 lq
    have mA : Mv (SM d l a) Z H _ _ := (m1.mono fun _ s => .inl s).trans (Mv.gr g3)
    have mB : Mv (SM d l a) Z H _ _ := (mA.trans (mv4.mono fun _ s => .inr s)).trans (Mv.gr gq)
    have tb3 : Tabs (tbs K) _ := (tabs_d tb dz m1).ext g3.same
    refine k (.ref q) m' h0 s1 _ H5 (MvN.of mB) (dz4.gr gq) (hs4.mv e5) (gq.n _ _ (hs4.choose_spec) z4) (MomAt.mv gq.z hm4) hj.tail.1 (by rw [List.length_cons]; omega) ⟨q, ys, rfl, upd_same, entys.n (ExtN.of mB.z)⟩ ((tabs_s tb3 hs3 mv4).ext e5)
  · obtain ⟨es, hes⟩ := pastL_last hist sh
    have ent' := ent
    rw [hes] at ent'
    obtain ⟨ys, y, exs, entys, ye⟩ := ent'.snoc
    obtain ⟨yp, sv, av, rfl, sqy, hsv, hav⟩ := id ye
    have zp1 := m1.z _ _ zp
    refine q_unp2 (a := yp) (ev_op (ev_var rfl) (ev_negI ev_c) (rv_ixL (sq_of (dz1.z _ _ zp1)) (by rw [exs]; exact L2.atI_last ys (.ref yp)))) (ex_t (m1.z.trans dz1.z) sqy) fun H2 e2 => ?_
    have g2 : Gr Z1 H1 Z1 H2 := Gr.of dz1.z e2
    have dz2 := dz1.gr g2
    refine q_asgW (ew_callA (ea_cons (ev_var rfl) (ea_cons (ev_var rfl) ea_nil)) (w_law_act (hsv.mv m1.z) ok) deedW_mono) dz2 fun av2 Z3 H3 m3 dz3 ⟨dd, ddp, oa⟩ => ?_
    refine q_asgG (eg_call (ea_cons (ev_var rfl) (ea_cons (ev_var rfl) ea_nil)) (g_law_done (hsv.mv (m1.z.trans m3.z)) ok (show sh.cv.length ≤ 1000 by omega) ddp oa) doneW_mono) dz3.z fun lv Z4 H4 g4 hlv => ?_
    have dz4 := dz3.gr g4
    have m14 : Mv (DS d l) Z H Z4 H4 := ((m1.trans (Mv.gr g2)).trans m3).trans (Mv.gr g4)
    have hs4 := hs.dr dz m14
    have za4 := hs.zn za m14
    refine q_cut (M := fun σ' H' => ∃ (q : Addr) (m' : V) (Z' : Hp), σ' = [some (.ref d), some (.ref a), some (.ref pa), some av2, some lv, some (.ref q), none, some sv, some av] ∧ MvN (SM d l a) Z H Z' H' ∧ DZ Z' H' d l ∧ SesH K H' a o m' ∧ Z' a = none ∧ Tabs (tbs K) H' ∧ ExtN Z4 Z' ∧
      ((∃ sh', doneL sh dd = some sh' ∧ MomAt K Z' ((dd, sh) :: hist) m' sh') ∨ (doneL sh dd = none ∧ MomAt K Z' hist m' sh ∧ Dp K H' (.ref q) (errD dd)))) ⟨tabs_d tb dz m14, fun H5 eN tb5 K' hK => ?_⟩ fun σ' H8 ⟨q, m', Z8, eσ, x8, dz8, hs8, za8, tb8, eZ8, alt⟩ => ?_
    -- the lambda, called
    · have z5 : Ex (dropT Z4) H5 := dropT_in dz4.z eN
      have eZ : ExtN Z4 (dropT Z4) := dropT_ext
      have eZ0 : ExtN Z (dropT Z4) := (ExtN.of m14.z).trans eZ
      have hs5 : SesH K H5 a o m := ses_n hs4 eN
      have za5 : dropT Z4 a = none := dropT_none za4
      have hm5 := mom_n eZ0 hm
      have dz5 : DZ (dropT Z4) H5 d l := by
        obtain ⟨r, t, mm, ls, cs, q⟩ := id dz4.dr
        exact ⟨z5, ⟨r, t, mm, ls, cs, eN _ _ q.dd (fun _ z => nomatch z), eN _ _ q.ll (fun _ z => nomatch z), eN _ _ q.cc (fun _ z => nomatch z), q.m0, q.m1, q.lz, q.cz, q.cl⟩, dropT_none dz4.zd, dropT_none dz4.zl⟩
      have x5 : MvN (SM d l a) Z H (dropT Z4) H5 := ⟨eZ0, fun b u q r n => eN _ _ (m14.k b u q (fun s => r (.inl s))) n, fun b u q _ z => dropT_none (m14.n _ _ q z), fun b u q n => by
        by_cases hb : DS d l b
        · obtain ⟨r, t, mm, ls, cs, w⟩ := id dz5.dr
          rcases hb with hb | hb
          · exact ⟨_, by rw [hb]; exact w.dd⟩
          · exact ⟨_, by rw [hb]; exact w.ll⟩
        · exact ⟨u, eN _ _ (m14.k b u q hb) n⟩⟩
      have ddp5 : Dp K (dropT Z4) av2 (dDeed dd) := dp_n (ddp.mv g4.z) eZ
      obtain ⟨dx5, hs5x⟩ := id hs5
      refine meth_go (ev_var rfl) hs5x rfl fun H6 e6 => cons_go (ev_var rfl) fun H7 e7 => ?_
      have e57 := e6.trans e7
      have g7 : Gr (dropT Z4) H5 (dropT Z4) H7 := Gr.of z5 e57
      refine ⟨a, av2, o, m, hist, sh, dropT Z4, rfl, g7.h, hs5.mv e57, za5, hm5, ok, by omega, .inl ⟨dd, ddp5, oa.dd, fun sh' hsh m' Z8 H8 mv8 hs8 z8 hm8 => ?_, fun hn => ?_⟩⟩
      · refine hK _ H8 fun q hq => ?_
        have mvA : Mv (fun b => b = a) (dropT Z4) H5 Z8 H8 := (Mv.gr g7).trans mv8
        have dz8 := dz5.se hs5 mvA
        have e9 : Ex H8 (upd H8 q (.tup [.str "value", .int sh'.st.1])) := Ex.new hq
        have gq : Gr Z8 H8 Z8 (upd H8 q (.tup [.str "value", .int sh'.st.1])) := Gr.new dz8.z hq
        exact ⟨q, m', Z8, rfl, (x5.then (mvA.mono fun _ s => .inr s)).then (Mv.gr gq), dz8.gr gq, hs8.mv e9, z8, (tabs_s tb5 hs5 mvA).ext e9, eZ.trans (ExtN.of mv8.z), .inl ⟨sh', hsh, hm8⟩⟩
      · have fin : ∀ (q : Addr) (H8 : Hp) (ws : List V) (ds : List PyData), Ex H5 H8 → H8 q = none → (∀ Z, DpAll K Z ws ds) → errD dd = .tuple ds → ∃ (q' : Addr) (m' : V) (Z' : Hp), (([some (.ref d), some (.ref a), some (.ref pa), some av2, some lv, some (.ref q), none, some sv, some av] : L2.St) = [some (.ref d), some (.ref a), some (.ref pa), some av2, some lv, some (.ref q'), none, some sv, some av]) ∧ MvN (SM d l a) Z H Z' (upd H8 q (.tup ws)) ∧ DZ Z' (upd H8 q (.tup ws)) d l ∧ SesH K (upd H8 q (.tup ws)) a o m' ∧ Z' a = none ∧ Tabs (tbs K) (upd H8 q (.tup ws)) ∧ ExtN Z4 Z' ∧
            ((∃ sh', doneL sh dd = some sh' ∧ MomAt K Z' ((dd, sh) :: hist) m' sh') ∨ (doneL sh dd = none ∧ MomAt K Z' hist m' sh ∧ Dp K (upd H8 q (.tup ws)) (.ref q') (errD dd))) := by
          intro q H8 ws ds e8 hq hws he
          have e9 : Ex H5 (upd H8 q (.tup ws)) := e8.trans (Ex.new hq)
          have gq : Gr (dropT Z4) H5 (dropT Z4) (upd H8 q (.tup ws)) := Gr.of z5 e9
          refine ⟨q, m, dropT Z4, rfl, x5.then (Mv.gr gq), dz5.gr gq, hs5.mv e9, za5, tb5.ext e9, eZ, .inr ⟨hn, hm5, ?_⟩⟩
          rw [he]
          exact Dp.newT (hws _) hq
        have br : errD dd = .tuple [.str "rule", .str "parts"] → Bad K H7 (EC K fun v H9 => ∃ (q' : Addr) (m' : V) (Z' : Hp), (([some (.ref d), some (.ref a), some (.ref pa), some av2, some lv, some v, none, some sv, some av] : L2.St) = [some (.ref d), some (.ref a), some (.ref pa), some av2, some lv, some (.ref q'), none, some sv, some av]) ∧ MvN (SM d l a) Z H Z' H9 ∧ DZ Z' H9 d l ∧ SesH K H9 a o m' ∧ Z' a = none ∧ Tabs (tbs K) H9 ∧ ExtN Z4 Z' ∧
            ((∃ sh', doneL sh dd = some sh' ∧ MomAt K Z' ((dd, sh) :: hist) m' sh') ∨ (doneL sh dd = none ∧ MomAt K Z' hist m' sh ∧ Dp K H9 (.ref q') (errD dd)))) := fun he H8 x e8 hx => .inl ⟨rfl, x, _, .str "parts", rfl, upd_same, rfl, fun q hq => fin q _ [.str "rule", .str "parts"] [.str "rule", .str "parts"] ((e57.trans e8).trans (Ex.new hx)) hq (fun _ => .cons (.str _) (.cons (.str _) .nil)) he⟩
        cases dd with
        | load x => exact br rfl
        | fail x => exact fun H8 e8 => .inr ⟨rfl, fun q hq => fin q _ [.str "number"] [.str "number"] (e57.trans e8) hq (fun _ => .cons (.str _) .nil) rfl⟩
        | part x => exact br rfl
        | raise x => exact br rfl
    -- behind it
    · subst eσ
      have eZ8' : ExtN Z Z8 := (ExtN.of m14.z).trans eZ8
      have ent8 : EntAll K Z8 xs (pastL hist sh) := ent.n eZ8'
      have zp8 : Z8 pa = some (.lst xs) := eZ8' _ _ zp (fun _ z => nomatch z)
      obtain ⟨aa, axs, eav, za2, da⟩ := lsD_n hav eZ8'
      subst eav
      have haz : axs.length ≤ 10000 := by rw [da.len, List.length_map, dsOf_len]; omega
      have ddp8 : Dp K Z8 av2 (dDeed dd) := dp_n (ddp.mv g4.z) eZ8
      have hsv8 : SheetAt K Z8 sv sh := sheet_n hsv eZ8'
      unfold DoneW at hlv
      rcases alt with ⟨sh', hsh, hm8⟩ | ⟨hn, hm8, hq8⟩
      · rw [hsh] at hlv
        have hl8 := sheet_n hlv eZ8
        obtain ⟨la, lc, ls, lcl, rfl, ll, _⟩ := id hl8
        refine q_when (b := true) (et_B (ev_isi (ev_var rfl) (fun H9 e9 => .base (.dK (e9 _ _ (dz8.z _ _ ll)))) kit_dd)) (fun _ H9 e9 => ?_) (fun h => nomatch h)
        have g9 : Gr Z8 H8 Z8 H9 := Gr.of dz8.z e9
        refine s_retG (eg_past (K := K) (ev_var rfl) zp8 ent8 (by omega) (ev_var rfl) hl8 (ev_var rfl) za2 da haz (ev_var rfl) ddp8) g9.h fun x Z10 H10 g10 hp10 => ?_
        have g810 := g9.trans g10
        exact k x m' _ sh' Z10 H10 (x8.then (Mv.gr g810)) (dz8.gr g810) (hs8.mv g810.same) (g810.n _ _ hs8.choose_spec za8) (MomAt.mv g810.z hm8) (hj.snoc oa hsh) (Nat.le_refl _) hp10 (tb8.ext g810.same)
      · rw [hn] at hlv
        have hl8 : Dp K Z8 lv (errD dd) := dp_n hlv eZ8
        obtain ⟨eds, he⟩ : ∃ eds, errD dd = .tuple eds := by cases dd <;> exact ⟨_, rfl⟩
        have hl8' := hl8
        rw [he] at hl8'
        obtain ⟨la, lxs, rfl, sql, _⟩ := Dp.tupI hl8'
        refine q_when (b := false) (et_B (ev_isi (ev_var rfl) (tyx_seq (sqT_mv sql dz8.z)) kit_td)) (fun h => nomatch h) fun _ H9 e9 => ?_
        obtain ⟨sa, sc', ss, scl, rfl, ssv, _⟩ := id hsv8
        refine ⟨_, rfl, sa, _, rfl, .inl (e9 _ _ (dz8.z _ _ ssv)), fun bp hbp => ⟨Nat.le_of_ble_eq_true rfl, fun b2 hb2 => Ev.to (ev_var rfl) fun H10 e10 => ⟨bp, _, rfl, DPut.k (k := .inr "curve") (e10 _ _ (by rw [upd_ne (fun z => by rw [z] at hbp; rw [← z, upd_same] at hb2; cases hb2)]; exact upd_same)) (sz_lt (Nat.le_of_ble_eq_true rfl)), ?_⟩⟩⟩
        have e11 : Ex H8 (upd H10 bp (.dK (putK (skv sc' ss scl) (.inr "curve") (.ref b2)))) := Ex.mut (e9.trans ((Ex.new hbp).trans ((Ex.new hb2).trans e10))) (fresh_back e9 hbp)
        have g11 : Gr Z8 H8 Z8 (upd H10 bp (.dK (putK (skv sc' ss scl) (.inr "curve") (.ref b2)))) := Gr.of dz8.z e11
        have hsp : SeqAt.shaped (errD dd) = true ∧ PyData.eqv (errD dd) (errD dd) = true := by
          have h1 : SeqAt.shaped (.tuple [.str "number"]) = true ∧ PyData.eqv (.tuple [.str "number"]) (.tuple [.str "number"]) = true := ⟨by decide +kernel, by decide +kernel⟩
          have h2 : SeqAt.shaped (.tuple [.str "rule", .str "parts"]) = true ∧ PyData.eqv (.tuple [.str "rule", .str "parts"]) (.tuple [.str "rule", .str "parts"]) = true := ⟨by decide +kernel, by decide +kernel⟩
          cases dd with
          | fail x => exact h1
          | load x => exact h2
          | part x => exact h2
          | raise x => exact h2
        refine if_go (b := true) (et_is (et_test (ev_eqD (ev_var rfl) (ev_var rfl) (hq8.mv e11) (hl8.mv g11.h) hsp.1 hsp.1)) hsp.2) (fun _ H12 e12 => ?_) (fun h => nomatch h)
        refine Ev.to (ev_var rfl) fun H13 e13 => ?_
        have g13 : Gr Z8 H8 Z8 H13 := g11.trans (Gr.of g11.h (e12.trans e13))
        exact k (.ref pa) m' hist sh Z8 H13 (x8.then (Mv.gr g13)) (dz8.gr g13) (hs8.mv g13.same) za8 hm8 hj (Nat.le_succ _) ⟨pa, xs, rfl, zp8, ent8⟩ (tb8.ext g13.same)
end
end K74

/-! F21 -/
set_option Elab.async false
set_option linter.all false
set_option maxRecDepth 100000
set_option maxHeartbeats 4000000
namespace K74
open PySem PySem.Spec PyProof.Rows L2
open Evl hiding tCut pss_cut
open LamX (ExtN Tabs TabS)
/-- a live session -/
structure Live (K : Frag) (Z H : Hp) (a : Addr) (o m : V) (hist : List (Deed × Sh)) (sh : Sh) : Prop where
  hs : SesH K H a o m
  za : Z a = none
  hm : MomAt K Z hist m sh
section
variable {K : Frag} {Z H Z1 H1 : Hp} {a : Addr} {o m : V} {hist : List (Deed × Sh)} {sh : Sh} {d : Addr} {l : Addr × Addr}
theorem Live.dr (L : Live K Z H a o m hist sh) (dz : DZ Z H d l) (mv : Mv (DS d l) Z H Z1 H1) : Live K Z1 H1 a o m hist sh := ⟨L.hs.dr dz mv, L.hs.zn L.za mv, MomAt.mv mv.z L.hm⟩
theorem Live.se (L : Live K Z H a o m hist sh) {b : Addr} (n : a ≠ b) (mv : Mv (fun c => c = b) Z H Z1 H1) : Live K Z1 H1 a o m hist sh := ⟨L.hs.se n mv, L.hs.zn L.za mv, MomAt.mv mv.z L.hm⟩
theorem Live.gr (L : Live K Z H a o m hist sh) (g : Gr Z H Z1 H1) : Live K Z1 H1 a o m hist sh := ⟨L.hs.mv g.same, L.hs.zn L.za g, MomAt.mv g.z L.hm⟩
theorem Live.ex (L : Live K Z H a o m hist sh) (e : Ex H H1) : Live K Z H1 a o m hist sh := ⟨L.hs.mv e, L.za, L.hm⟩
theorem Live.mvn (L : Live K Z H a o m hist sh) {S : Addr → Prop} (n : ¬ S a) (x : MvN S Z H Z1 H1) : Live K Z1 H1 a o m hist sh := by
  obtain ⟨dx, q⟩ := L.hs
  exact ⟨⟨dx, x.k _ _ q n fun _ z => nomatch z⟩, x.n _ _ q (fun _ z => nomatch z) L.za, mom_n x.z L.hm⟩
end
section
variable {P : Program} [hPT : PT P] {w : World} {K : Frag} {mg : Str → Option Value} {base : Heap}
/-- x.do((name, thing)) that can be done -/
theorem do_act {σ : L2.St} {Z H : Hp} {tx ty : TE} {a : Addr} {o m y : V} {hist : List (Deed × Sh)} {sh sh' : Sh} {nm : Str} {ed : PyData} {dd : Deed} {Q : VK} {E : XK} (hZ : Ex Z H) (L : Live K Z H a o m hist sh) (hx : Ev tx σ H (.ref a)) (hy : Ev ty σ H y) (dy : Dp K Z y ed) (e : dDeed dd = .tuple [.str nm, ed])
    (ok : OkSh sh) (od : okDd dd) (cz : sh.cv.length ≤ 1000) (hsh : doneL sh dd = some sh') (k : ∀ m' Z' H', Mv (fun b => b = a) Z H Z' H' → Live K Z' H' a o m' ((dd, sh) :: hist) sh' → Q (.int sh'.st.1) H') :
    tMeth (He.ga K "Session") "do" (sp_Session_do K) [] E tx (tCons (tTup (tCons (tC (.str nm)) (tCons ty tNil))) tNil) σ H Q := by
  obtain ⟨dx, hs⟩ := L.hs
  refine meth_go hx hs rfl fun H1 e1 => hy H1 e1 _ fun H2 e2 => ⟨Nat.le_of_ble_eq_true rfl, fun p hp => ?_⟩
  have g2 : Gr Z H Z H2 := Gr.of hZ (e1.trans e2)
  have g3 := g2.trans (Gr.newZ (o := .tup [.str nm, y]) g2.h hp)
  have L3 := L.gr g3
  refine ⟨a, .ref p, o, m, hist, sh, upd Z p (.tup [.str nm, y]), rfl, g3.h, L3.hs, L3.za, L3.hm, ok, cz, .inl ⟨dd, ?_, od, fun sh2 h2 m' Z' H' mv hs' za' hm' => ?_, fun hn => by rw [hsh] at hn; cases hn⟩⟩
  · rw [e]
    exact Dp.newT (.cons (.str _) (.cons dy .nil)) (Same.free g2.h hp)
  · rw [hsh] at h2
    cases h2
    exact k m' Z' H' ((Mv.gr g3).trans mv) ⟨hs', za', hm'⟩
theorem ld_deed (x : Ld) : dDeed (.load x) = .tuple [.str "load", dLd x] := rfl
theorem Mv.snd {S S' : Addr → Prop} {Z0 H0 Z H Z1 H1 : Hp} (x : Mv S' Z0 H0 Z H) (y : Mv S Z H Z1 H1) (h : ∀ b, S b → S' b) : Mv S' Z0 H0 Z1 H1 := x.trans (y.mono h)
/-! _law_goes_on -/
def shL (sh : Sh) (ls : List Ld) : Sh := { sh with st := endL sh.r sh.st ls, cv := sh.cv ++ ls }
theorem shL_nil (sh : Sh) : shL sh [] = sh := by
  unfold shL
  rw [List.append_nil]
  rfl
theorem shL_snoc (sh : Sh) (ls : List Ld) (x : Ld) : doneL (shL sh ls) (.load x) = some (shL sh (ls ++ [x])) := by
  show some { shL sh ls with st := tickL (shL sh ls).r (shL sh ls).st x, cv := (shL sh ls).cv ++ [x] } = _
  unfold shL
  rw [endL_app, List.append_assoc]
theorem shL_ok {sh : Sh} {ls : List Ld} (o : OkSh sh) (h : ∀ x ∈ ls, okLd x) : OkSh (shL sh ls) := ⟨o.r, endL_ok o.r ls sh.st o.s, fun x hx => (List.mem_append.mp hx).elim (o.c x) (h x)⟩
theorem rv_neS {x y : V} {s : Stt} {H : Hp} (p : Dp K H x (dSt s)) (q : Dp K H y (dSt s)) : RV (rNeD K) x y H (.bl false) := fun H3 e3 Q q3 => ⟨_, _, p.mv e3, q.mv e3, shp_st _, shp_st _, by rw [eqv_dSt, decide_eq_true rfl]; exact q3 H3 (Ex.refl _)⟩
def sp_law_goes_on (K : Frag) : Sp := fun vs H Q _ => ∃ (d : Addr) (l : Addr × Addr) (a : Addr) (o m sv av : V) (hist : List (Deed × Sh)) (sh : Sh) (r : Rl) (n : Int) (Z : Hp), vs = [.ref d, .ref a, sv, av] ∧ DZ Z H d l ∧ Live K Z H a o m hist sh ∧ Gd hist sh ∧ SheetAt K Z sv sh ∧ LsD K Z av ((dsOf hist).map dDeed) ∧ ScalerAt K Z o r n ∧ okR r ∧ (r.least ≤ n ∧ n ≤ r.most) ∧
  ∀ Z' H', Mv (DS d l) Z H Z' H' → DZ Z' H' d l → Q (.bl true) H'
theorem sc_law_goes_on : FnScope ["_law_draw", "_law_bench", "_law_sheet_here", "_law_acts", "_law_one", "_law_other", "_law_stand"] ["_law_draw", "_law_bench", "_law_sheet_here", "_law_acts"] (defScope s_law_goes_on) := ⟨rfl, rfl, rfl, by decide +kernel, rfl, by decide +kernel, by decide +kernel⟩
theorem ok_law_goes_on (T : Txt w K mg) : GB P w K mg base 14 (He.ga K "_law_goes_on") ["_law_draw", "_law_bench", "_law_sheet_here", "_law_acts"] (sp_law_goes_on K) := by
  refine GB.of T.F_law_goes_on sc_law_goes_on (fun _ _ _ _ _ _ us hl => match us, hl with | [_, _, _, _], _ => rfl) (by rintro vs H Q E ⟨_, _, _, _, _, _, _, _, _, _, _, _, rfl, _⟩; rfl) (fun cdv A outer s H vs Q E hgd hr h => ?_)
  refine ⟨_, (pss_cons (ps_par rfl sc_law_goes_on.nd (i := 5) (j := 6) rfl rfl (by decide) rfl rfl (pa_cons (pe_meth0F (pv 1) T.c_Session T.m_Session_twin (ok_Session_twin T) (hr.mono (by decide)) passL) (pa_cons (pe_propF (pv 1) T.c_Session (T.p_Session_state).2 (ok_Session_state T) (hr.mono (by decide))) pa_nil)) (by rfl))
    (pss_cons (ps_for (passes_of rfl) rfl (pi_list (pe_callF (ok_law_curve T) (hr.mono (by decide)) (by rfl) T.g_law_curve passL (pa_cons (pv 0) (pa_cons (pe_dget (hu_of hr) (pv 2) pe_str (fun _ _ => rfl)) (pa_cons (pe_callF (ok_law_take T) (hr.mono (by decide)) (by rfl) T.g_law_take passL (pa_cons (pv 0) (pa_cons pe_int pa_nil))) pa_nil))))) (pg_name (i := 4) sc_law_goes_on.nd rfl (Or.inl rfl))
    (pss_cons (ps_set (i := 6) sc_law_goes_on.nd rfl (Or.inl rfl) (pe_callF (ok_tick T) (hr.mono (by decide)) (by rfl) T.g_tick passL (pa_cons (pe_propF (pv 1) T.c_Session (T.p_Session_rule).2 (ok_Session_rule T) (hr.mono (by decide))) (pa_cons (pv 6) (pa_cons (pv 4) pa_nil)))))
    (pss_one (ps_if (PW.pt (pw_or (pt_cmpR op_ne (pe_methF (pv 5) T.c_Session T.m_Session_do (ok_Session_do T) (hr.mono (by decide)) passL (pa_cons (pe_tup (pa_cons pe_str (pa_cons (pv 4) pa_nil))) pa_nil)) (pe_ix ix_tup (pv 6) pe_int (fun _ _ => rfl)) (nomark _)) (pw_or1 (pt_cmpR (op_neD hr.units) (pe_propF (pv 5) T.c_Session (T.p_Session_state).2 (ok_Session_state T) (hr.mono (by decide))) (pv 6) (nomark _)))))
    (pss_one (ps_ret pe_bl))
    pss_nil))))
    (pss_one (ps_ret (pe_callG (ok_law_stands T) hgd (hr.mono (by decide)) (by rfl) T.g_law_stands passL (pa_cons (pv 1) (pa_cons (pv 2) (pa_cons (pv 3) pa_nil)))))))), ?_⟩
  obtain ⟨d, l, a, o, m, sv, av, hist, sh, r, n, Z, rfl, dz, L, gd, hsv, hav, hsc, okr, hn, k⟩ := h
  have ok := gd.ok
  have hz := gd.hz
  have cz := gd.cz
  obtain ⟨dv, mb, hd⟩ := L.hm.hd
  obtain ⟨dx, hsx⟩ := L.hs
  obtain ⟨sa, c, ss, cl, rfl, s1, s2, _⟩ := id hsv
  -- other, stand
  refine meth_go (ev_var rfl) hsx rfl fun H1 e1 => ⟨a, o, m, r, n, Z, rfl, L.hs.mv e1, dz.z.trans e1, hsc, okr, hn, fun x Z2 H2 sc g2 hx hs2 z2 hsc2 => ?_⟩
  have g02 : Gr Z H Z2 H2 := (Gr.of dz.z e1).trans g2
  have hx0 : H x = none := fresh_back e1 hx
  have L2' := L.gr g02
  have hxa : x ≠ a := fun e => by rw [e, hsx] at hx0; cases hx0
  refine (ep_Session_state (Z := Z2) (ev_var rfl) L2'.hs g02.h (hd.mv g02.z)) H2 (Ex.refl _) _ fun st H3 e3 dst => ⟨_, _, rfl, ?_⟩
  have g03 := g02.trans (Gr.of g02.h e3)
  have dz3 := dz.gr g03
  -- the loads
  refine ew_callW (Z := Z2) (Φ := fun v Z => ∃ n, n ≤ 10 ∧ CurveW K n v Z) (ewa_cons (Φ := fun u _ => u = .ref d) (ew_g (eg_ev (ev_var rfl) rfl)) (fun _ _ _ _ p => p) (ewa_cons (Φ := fun u _ => u = c) (ew_g (eg_ev (ev_dget (ev_var rfl) (g02.z _ _ s1) rfl) rfl)) (fun _ _ _ _ p => p) (ewa_cons (ew_takeC (P := fun i => 0 ≤ i ∧ i ≤ 10) rfl ⟨by decide, by decide⟩ fun r r0 r1 => ⟨r0, by omega⟩) pi_mono ewa_nil fun _ _ _ _ p => p) (fun v Z Z' e ⟨x, r, h1, ⟨i, h2⟩, h3⟩ => ⟨x, r, h1, ⟨i, h2⟩, h3⟩)) (fun v Z Z' e p => p))
    (fun vs Z3 e3 ⟨x1, r1, h1, h2, x2, r2, h3, h4, x3, r3, h5, ⟨i, h6, h7⟩, h8⟩ => by
      subst h1 h2 h3 h4 h5 h6 h8
      exact fun H dz Q q E => w_law_curve (s2.mv (g02.z.trans e3)) ok.r (by omega) H dz Q (fun v Z' H' m dz p => q v Z' H' m dz ⟨_, by omega, p⟩) E) H3 dz3 _ fun lv Z4 H4 m4 dz4 ⟨cn, hcn, ls, ⟨pa, xs, elv, zp, dxs⟩, okl, hll⟩ => ?_
  subst elv
  have hxl : xs.length = ls.length := by rw [dxs.len, List.length_map]
  have g03' : Mv (fun b => DS d l b ∨ b = x) Z H Z4 H4 := (Mv.gr g03).trans (m4.mono fun _ s => .inl s)
  have L4 : Live K Z4 H4 a o m hist sh := (L.gr g03).dr dz3 m4
  have X4 : Live K Z4 H4 x sc m hist sh := (show Live K Z2 H3 x sc m hist sh from ⟨hs2.mv e3, z2, MomAt.mv g02.z L.hm⟩).dr dz3 m4
  refine ⟨pa, rfl, ⟨xs, sq_of (dz4.z _ _ zp)⟩, for_list (xs := xs) (fun i σ' H' => ∃ (o4 : Option V) (st : V) (m' : V) (hi : List (Deed × Sh)) (Zi : Hp), σ' = [some (.ref d), some (.ref a), some (.ref sa), some av, o4, some (.ref x), some st] ∧ Mv (fun b => DS d l b ∨ b = x) Z H Zi H' ∧ Ex Z4 Zi ∧ DZ Zi H' d l ∧ Live K Zi H' a o m hist sh ∧ Live K Zi H' x sc m' hi (shL sh (ls.take i)) ∧ Dp K Zi st (dSt (shL sh (ls.take i)).st))
    ⟨_, st, m, hist, Z4, rfl, g03', Ex.refl _, dz4, L4, by rw [List.take_zero, shL_nil]; exact X4, by rw [List.take_zero, shL_nil]; exact dst.mv m4.z⟩ (fun i σ' H' _ ⟨_, _, _, _, Zi, _, _, e, dzi, _⟩ => sq_of (dzi.z _ _ (e _ _ zp))) (fun i y σ' H' hy ⟨o4, st, m', hi, Zi, es, mv, e4, dzi, Li, Xi, dsi⟩ => ?_) (fun σ' H' ⟨o4, st, m', hi, Zi, es, mv, e4, dzi, Li, Xi, dsi⟩ => ?_)⟩
  · subst es
    obtain ⟨y', ey, dy⟩ := DpAll.get dxs hy
    have oy := okl y' (List.mem_of_getElem? ey)
    have hil : i < ls.length := (List.getElem?_eq_some_iff.mp ey).1
    have oki : OkSh (shL sh (ls.take i)) := shL_ok ok fun z hz => okl z (List.mem_of_mem_take hz)
    have etk : ls.take (i + 1) = ls.take i ++ [y'] := by rw [List.take_add_one, ey]; rfl
    have czi : (shL sh (ls.take i)).cv.length ≤ 1000 := by
      show (sh.cv ++ ls.take i).length ≤ 1000
      rw [List.length_append, List.length_take]
      omega
    have dyi : Dp K Zi y (dLd y') := dy.mv e4
    obtain ⟨dv2, mb2, hd2⟩ := Li.hm.hd
    -- stand
    refine (ep_Session_rule (Z := Zi) (ev_var rfl) Li.hs dzi.z hd2) H' (Ex.refl _) _ fun ru H5 e5 hru => Ev.to (ev_var rfl) fun H6 e6 => Ev.to (ev_var rfl) fun H7 e7 => ?_
    have e57 := (e5.trans e6).trans e7
    have g7 : Gr Zi H' Zi H7 := Gr.of dzi.z e57
    refine g_ticked hru ok.r dsi oki.s (LdZ.of dyi oy) H7 g7.h _ (fun st2 Z8 H8 g8 dst2 => ?_) E0
    have g78 := g7.trans g8
    have X8 := Xi.gr g78
    have dz8 := dzi.gr g78
    have L8 := Li.gr g78
    have hsh := shL_snoc sh (ls.take i) y'
    rw [← etk] at hsh
    have etick : tickL sh.r (shL sh (ls.take i)).st y' = (shL sh (ls.take (i + 1))).st := by
      rw [etk]
      show _ = endL sh.r sh.st (ls.take i ++ [y'])
      rw [endL_app]
      rfl
    rw [etick] at dst2
    refine do_act dz8.z X8 (ev_var rfl) (ev_var rfl) (dyi.mv g78.z) (ld_deed y') oki oy czi hsh fun m9 Z9 H9 mv9 X9 => ?_
    have dz9 := dz8.se X8.hs mv9
    have L9 := L8.se (Ne.symm hxa) mv9
    have dst9 := dst2.mv mv9.z
    obtain ⟨sta, stb, rfl, sqs, _⟩ := st_at (dst9.mv dz9.z)
    refine Ev.to (ev_ixT (ev_var rfl) sqs rfl) fun H10 e10 => ⟨rfl, _, rfl, ?_⟩
    rw [decide_eq_true rfl]
    dsimp only
    rw [if_neg (show ¬ (!true) = true by decide)]
    have X10 := X9.ex e10
    have dz10 := dz9.gr (Gr.of dz9.z e10)
    obtain ⟨dv3, mb3, hd3⟩ := X10.hm.hd
    refine EvT.to (b := false) (et_test (ev_opP2 (ep_Session_state (Z := Z9) (ev_var rfl) X10.hs dz10.z hd3) (ep_ev (ev_var rfl)) fun p q hp hq => rv_neS (hp.mv dz10.z) (by rw [hq]; exact dst9.mv dz10.z))) fun H11 e11 => ?_
    rw [if_neg Bool.false_ne_true]
    have g911 : Gr Z9 H9 Z9 H11 := Gr.of dz9.z (e10.trans e11)
    exact ⟨_, _, m9, _, Z9, rfl, (((mv.trans (Mv.gr g78)).trans (mv9.mono fun _ s => .inr s)).trans (Mv.gr g911)), (e4.trans g78.z).trans mv9.z, dz9.gr g911, L9.gr g911, X9.gr g911, dst9⟩
  · subst es
    refine call_go (ea_cons (ev_var rfl) (ea_cons (ev_var rfl) (ea_cons (ev_var rfl) ea_nil))) fun H5 e5 => ?_
    have L5 := Li.ex e5
    have z5 := dzi.z.trans e5
    have eZ : Ex Z Zi := mv.z
    refine ⟨a, o, m, .ref sa, av, hist, sh, rfl, L5.hs, MomAt.mv z5 L5.hm, gd, (hsv.mv eZ).mv z5, (hav.mv eZ).mv z5, fun H6 e6 => ?_⟩
    have g6 : Gr Zi H' Zi H6 := Gr.of dzi.z (e5.trans e6)
    exact k Zi H6 ((mv.trans (Mv.gr g6)).cut fun b s => s.imp id fun e => by rw [e]; exact hx0) (dzi.gr g6)
end
end K74

/-! F22 -/
set_option Elab.async false
set_option linter.all false
set_option maxRecDepth 100000
set_option maxHeartbeats 4000000
namespace K74
open PySem PySem.Spec PyProof.Rows L2
open Evl hiding tCut pss_cut
theorem FB.toR {P : Program} {w : World} {K : Frag} {mg : Str → Option Value} {base : Heap} {k : Nat} {f : Addr} {ps : List Str} {sp : Sp} (F : FB P w K mg base k f ps sp) : FnR P w K mg base (L2.CX P w) k f sp := fun A outer s H us vs Q E hr e0 r hs => by
  obtain ⟨⟨fd, F, hb⟩, _⟩ := F
  have KX : K.In s.heap := e0.mod.kin.keeps fun b o e => (e0.bs b o e).1
  have hl := F.len _ _ _ _ hs
  have b := hb s us KX (by rw [List.length_append, ← r.length, hl]; simp)
  rw [List.append_nil] at b
  exact F.run A outer s H ⟨us, []⟩ us vs Q E hr e0 b r hs
/-! ### what lies between the entry and now: the draw, new things -/
structure Ctx (d : Addr) (l : Addr × Addr) (Z0 H0 Z H : Hp) : Prop where
  dz : DZ Z H d l
  mv : Mv (fun b => DS d l b ∨ H0 b = none) Z0 H0 Z H
section
variable {K : Frag} {d a b : Addr} {l : Addr × Addr} {Z0 H0 Z H Z1 H1 : Hp} {o m o' m' : V} {hist hist' : List (Deed × Sh)} {sh sh' : Sh}
theorem Ctx.start (dz : DZ Z H d l) : Ctx d l Z H Z H := ⟨dz, Mv.refl dz.z⟩
theorem Ctx.gr (C : Ctx d l Z0 H0 Z H) (g : Gr Z H Z1 H1) : Ctx d l Z0 H0 Z1 H1 := ⟨C.dz.gr g, C.mv.trans (Mv.gr g)⟩
theorem Ctx.ex (C : Ctx d l Z0 H0 Z H) (e : Ex H H1) : Ctx d l Z0 H0 Z H1 := C.gr (Gr.of C.dz.z e)
theorem Ctx.dr (C : Ctx d l Z0 H0 Z H) (mv : Mv (DS d l) Z H Z1 H1) (dz1 : DZ Z1 H1 d l) : Ctx d l Z0 H0 Z1 H1 := ⟨dz1, C.mv.trans (mv.mono fun _ s => .inl s)⟩
theorem Ctx.se (C : Ctx d l Z0 H0 Z H) (hs : SesH K H a o m) (h0 : H0 a = none) (mv : Mv (fun b => b = a) Z H Z1 H1) : Ctx d l Z0 H0 Z1 H1 := ⟨C.dz.se hs mv, C.mv.trans (mv.mono fun b s => .inr (by rw [s]; exact h0))⟩
theorem Ctx.fin (C : Ctx d l Z0 H0 Z H) : Mv (DS d l) Z0 H0 Z H := C.mv.cut fun b s => s
theorem Ctx.new (C : Ctx d l Z0 H0 Z H) (h : H a = none) : H0 a = none := C.mv.free h
theorem Live.ne (A : Live K Z H a o m hist sh) (h : H b = none) : a ≠ b := fun e => by
  obtain ⟨dx, q⟩ := A.hs
  rw [e, h] at q
  cases q
end
section
variable {P : Program} [hPT : PT P] {w : World} {K : Frag} {mg : Str → Option Value} {base : Heap}
theorem sess_go {σ : L2.St} {Z H : Hp} {ta : TA} {r : Rl} {n : Int} {E : XK} {Q : VK} (hZ : Ex Z H) (h : EvGA ta σ Z (fun vs Z2 => ∃ rv, vs = [rv, .int n] ∧ RuleAt K Z2 rv r)) (o : okR r) (hn : r.least ≤ n ∧ n ≤ r.most)
    (k : ∀ x Z' H' sc m, Gr Z H Z' H' → H x = none → Live K Z' H' x sc m [] ⟨r, first r n, []⟩ → ScalerAt K Z' sc r n → Q (.ref x) H') : tMake (He.ga K "Session") (sp_Session_init K) [] E ta σ H Q :=
  h H hZ _ fun vs Z1 H1 g0 ⟨rv, ev, hr⟩ x dx hx hd hne => by
    subst ev
    have g2 := g0.trans (Gr.inst (o := .own x) (o' := .ins (He.ga K "Session") dx []) g0.h hx hd hne)
    have zx := Same.free g0.h hx
    have hx0 : H x = none := fresh_back g0.same hx
    exact ⟨x, dx, rv, r, n, Z1, rfl, g2.h, upd_same, zx, hr, o, hn, fun fs Z' H' mv hx' zx' ⟨sc, m, ef, hs, hm⟩ => ⟨rfl, by
      subst ef
      exact k x Z' H' sc m (((Mv.gr g2).trans mv).toGr fun b hb => by rw [hb]; exact hx0) hx0 ⟨⟨dx, hx'⟩, zx', hm⟩ hs⟩⟩
theorem ega_v {σ : L2.St} {Z : Hp} {t1 t2 : TE} {x y : V} {r : Rl} (h1 : Ev t1 σ Z x) (h2 : Ev t2 σ Z y) (p : RuleAt K Z x r) : EvGA (tCons t1 (tCons t2 tNil)) σ Z (fun vs Z2 => ∃ rv, vs = [rv, y] ∧ RuleAt K Z2 rv r) := fun H1 e Q q => (ea_cons h1 (ea_cons h2 ea_nil)) H1 e _ fun H2 e2 => q _ Z H2 (Gr.of e e2) ⟨x, rfl, p⟩
theorem ega_g {σ : L2.St} {Z : Hp} {t1 : TE} {y : V} {r : Rl} (h1 : EvG t1 σ Z (fun x Z2 => RuleAt K Z2 x r)) : EvGA (tCons t1 (tCons (tC y) tNil)) σ Z (fun vs Z2 => ∃ rv, vs = [rv, y] ∧ RuleAt K Z2 rv r) := fun H1 e Q q => h1 H1 e _ fun v Z2 H2 g p => q [v, y] Z2 H2 g ⟨v, rfl, p⟩
theorem k11 : (1 : Int) ≤ 1 := by decide
theorem k18 : (1 : Int) ≤ 8 := by decide
theorem k88 : (8 : Int) ≤ 8 := by decide
theorem k13 : (1 : Int) ≤ 3 := by decide
/-- Rule([..]) -/
theorem eg_Rule1 {σ : L2.St} {Z : Hp} {t : TA} {ps : List Part} {E : XK} (h : EvDA K t σ Z (ps.map dPart)) (hz : ps.length ≤ 4) (ok : okPs ps = true) :
    EvG (tMake (He.ga K "Rule") (sp_Rule_init K) [.int 1, .int 8, .non, .non, .int 1, .int 1] E (tCons (tLst t) tNil)) σ Z (fun x Z2 => RuleAt K Z2 x ⟨ps, 1, 8, none, none, 1, 1⟩) := fun H1 e Q q => h H1 e _ fun vs Z2 H2 g p => ⟨sz_of (by rw [p.len, List.length_map]; omega), fun a ha x dx hx hd hne => by
  have g' := g.trans (Gr.newZ (o := .lst vs) g.h ha)
  have e2 : Ex Z2 (upd Z2 a (.lst vs)) := K74.same_new (Same.free g.h ha)
  exact init_run (r := ⟨ps, 1, 8, none, none, 1, 1⟩) g'.h ⟨a, vs, rfl, .inl upd_same, p.mv e2⟩ (by show ps.length ≤ 1000; omega) ⟨⟨k11, k18, k88⟩, rfl, rfl, ⟨k11, k13⟩, ⟨k11, k13⟩⟩ hx hd hne (fun _ Z' H' g3 hr' => q _ Z' H' (g'.trans g3) hr') (fun h => by rw [ok] at h; cases h)⟩
theorem okR1 {ps : List Part} (ok : okPs ps = true) : okR ⟨ps, 1, 8, none, none, 1, 1⟩ := ⟨ok, k11, k18, k88, fun i e => (nomatch e), fun i e => (nomatch e), k11, k13, k11, k13⟩
theorem do_actG {σ : L2.St} {Z H : Hp} {tx ty : TE} {a : Addr} {o m : V} {hist : List (Deed × Sh)} {sh sh' : Sh} {nm : Str} {ed : PyData} {dd : Deed} {Q : VK} {E : XK} (hZ : Ex Z H) (L : Live K Z H a o m hist sh) (hx : Ev tx σ H (.ref a)) (hy : EvD K ty σ Z ed) (e : dDeed dd = .tuple [.str nm, ed])
    (ok : OkSh sh) (od : okDd dd) (cz : sh.cv.length ≤ 1000) (hsh : doneL sh dd = some sh') (k : ∀ m' Z' H', Mv (fun b => b = a) Z H Z' H' → Live K Z' H' a o m' ((dd, sh) :: hist) sh' → Q (.int sh'.st.1) H') :
    tMeth (He.ga K "Session") "do" (sp_Session_do K) [] E tx (tCons (tTup (tCons (tC (.str nm)) (tCons ty tNil))) tNil) σ H Q := by
  obtain ⟨dx, hs⟩ := L.hs
  refine meth_go hx hs rfl fun H1 e1 => hy H1 (hZ.trans e1) _ fun y Z2 H2 g0 dy => ⟨Nat.le_of_ble_eq_true rfl, fun p hp => ?_⟩
  have g2 : Gr Z H Z2 H2 := (Gr.of hZ e1).trans g0
  have g3 := g2.trans (Gr.newZ (o := .tup [.str nm, y]) g2.h hp)
  have L3 := L.gr g3
  refine ⟨a, .ref p, o, m, hist, sh, upd Z2 p (.tup [.str nm, y]), rfl, g3.h, L3.hs, L3.za, L3.hm, ok, cz, .inl ⟨dd, ?_, od, fun sh2 h2 m' Z' H' mv hs' za' hm' => ?_, fun hn => by rw [hsh] at hn; cases hn⟩⟩
  · rw [e]
    exact Dp.newT (.cons (.str _) (.cons dy .nil)) (Same.free g2.h hp)
  · rw [hsh] at h2
    cases h2
    exact k m' Z' H' ((Mv.gr g3).trans mv) ⟨hs', za', hm'⟩
section
variable {σ : L2.St} {Z H : Hp} {ta tb : TE} {a b : Addr} {o m o' m' : V} {hist hist' : List (Deed × Sh)} {sh sh' : Sh}
theorem v_Session_eq (hZ : Ex Z H) (A : Live K Z H a o m hist sh) (B : Live K Z H b o' m' hist' sh') (hz : hist.length ≤ 1000) (hz' : hist'.length ≤ 1000) : SpV (sp_Session_eq K) [.ref a, .ref b] H (.bl (eqS hist sh hist' sh')) := fun H1 e Q q E => ⟨a, o, m, .ref b, hist, sh, rfl, A.hs.mv e, MomAt.mv (hZ.trans e) A.hm, hz, .inr ⟨b, o', m', hist', sh', rfl, B.hs.mv e, MomAt.mv (hZ.trans e) B.hm, hz', q⟩⟩
theorem ev_neSes (hZ : Ex Z H) (ha : Ev ta σ H (.ref a)) (hb : Ev tb σ H (.ref b)) (A : Live K Z H a o m hist sh) (B : Live K Z H b o' m' hist' sh') (hz : hist.length ≤ 1000) (hz' : hist'.length ≤ 1000) : Ev (tOp (rOwn K (He.ga K "Session") (sp_Session_eq K) true) ta tb) σ H (.bl (!eqS hist sh hist' sh')) := by
  obtain ⟨dx, hA⟩ := A.hs
  obtain ⟨dx', hB⟩ := B.hs
  exact ev_neO ha hb hA (fun H1 e => .inr ⟨b, _, _, _, rfl, e _ _ hB, nf_self⟩) (v_Session_eq hZ A B hz hz')
theorem ev_eqSes (hZ : Ex Z H) (ha : Ev ta σ H (.ref a)) (hb : Ev tb σ H (.ref b)) (A : Live K Z H a o m hist sh) (B : Live K Z H b o' m' hist' sh') (hz : hist.length ≤ 1000) (hz' : hist'.length ≤ 1000) : Ev (tOp (rOwn K (He.ga K "Session") (sp_Session_eq K) false) ta tb) σ H (.bl (eqS hist sh hist' sh')) := by
  obtain ⟨dx, hA⟩ := A.hs
  obtain ⟨dx', hB⟩ := B.hs
  exact ev_eqO ha hb hA (fun H1 e => .inr ⟨b, _, _, _, rfl, e _ _ hB, nf_self⟩) (v_Session_eq hZ A B hz hz')
end
theorem eqS_self (h h' : List (Deed × Sh)) (s : Sh) (e : dsOf h = dsOf h') : eqS h s h' s = true := by
  unfold eqS
  rw [decide_eq_true rfl, decide_eq_true rfl, decide_eq_true rfl, decide_eq_true e]
  rfl
theorem eqS_ds {h h' : List (Deed × Sh)} {s s' : Sh} (e : dsOf h ≠ dsOf h') : eqS h s h' s' = false := by
  unfold eqS
  rw [decide_eq_false e, Bool.and_false]
theorem eqS_st {h h' : List (Deed × Sh)} {s s' : Sh} (e : s.st ≠ s'.st) : eqS h s h' s' = false := by
  unfold eqS
  rw [decide_eq_false e, Bool.false_and, Bool.and_false, Bool.false_and]
theorem eqS_r {h h' : List (Deed × Sh)} {s s' : Sh} (e : s.r ≠ s'.r) : eqS h s h' s' = false := by
  unfold eqS
  rw [decide_eq_false e, Bool.false_and, Bool.false_and]
theorem upP0 (p : Part) : upP 0 p = p := by cases p <;> simp [upP]
theorem upR0 (r : Rl) : upR 0 r = r := by
  unfold upR
  rw [show r.parts.map (upP 0) = r.parts from by rw [show (upP 0) = id from funext upP0, List.map_id]]
theorem raise0 {sh : Sh} (o : okR sh.r) : doneL sh (.raise 0) = some sh := by
  show (if okPs (sh.r.parts.map (upP 0)) then some { sh with r := upR 0 sh.r } else none) = some sh
  rw [show sh.r.parts.map (upP 0) = sh.r.parts from by rw [show (upP 0) = id from funext upP0, List.map_id], o.ps, upR0]
  rfl
end
end K74

/-! F23 -/
set_option Elab.async false
set_option linter.all false
set_option maxRecDepth 100000
set_option maxHeartbeats 4000000
namespace K74
open PySem PySem.Spec PyProof.Rows L2
open Evl hiding tCut pss_cut
section
variable {P : Program} [hPT : PT P] {w : World} {K : Frag} {mg : Str → Option Value} {base : Heap}
theorem eg_lstL {σ : L2.St} {Z : Hp} {te : TE} {xs : List V} {ds : List PyData} (h : EvL te σ Z xs) (d : DpAll K Z xs ds) : EvD K te σ Z (.list ds) := fun H1 e Q q => h H1 e _ fun p H2 hp e2 l => q (.ref p) (upd Z p (.lst xs)) H2 (Gr.mk1 e hp e2 l) (.lst (SqL.of upd_same) (d.mv (K74.same_new (Same.free e hp))))
/-- t[-1:] of a new list of ints -/
theorem eg_last {σ : L2.St} {Z : Hp} {te : TE} {ns : List Int} (h : EvG te σ Z (fun v Z2 => LsD K Z2 v (ns.map PyData.int))) (hn : 1 ≤ ns.length) : EvD K (tSl (rSlL K) te (tPart (tUn (rU fun i => .int (-i)) (tC (.int 1)))) tNoPart) σ Z (.list ((ns.drop (ns.length - 1)).map PyData.int)) := fun H0 e Q q => h H0 e _ fun v Z1 H1 g ⟨a, xs, ev, za, dx⟩ => by
  subst ev
  have ex := DpAll.intsI dx
  subst ex
  refine el_sl (K := K) (te := tC (.ref a)) (tl := tPart (tUn (rU fun i => .int (-i)) (tC (.int 1)))) (th := tNoPart) (σ := σ) ev_c (eo_some (ev_negI ev_c)) eo_none (sq_of (g.h _ _ za)) H1 (Ex.refl _) _ fun p H2 hp e2 l => ?_
  rw [cut_neg (show (1 : Int) ≤ 1 by decide) (by rw [List.length_map]; omega), List.length_map] at l
  have g2 := g.trans (Gr.mk1 g.h hp e2 l)
  refine q (.ref p) _ H2 g2 (.lst (SqL.of upd_same) ?_)
  rw [show (1 : Int).toNat = 1 from rfl, ← List.map_drop]
  exact DpAll.ints _
/-- Scaler(rule, servers)(flow) -/
theorem eg_run {X : Cx} {σ : L2.St} {Z : Hp} {ta : TA} {E E' : XK} {rv : V} {r : Rl} {n : Int} {j : Nat} {fa : Addr} {xs : List V} {ls : List Ld} (h : EvA ta σ Z [rv, .int n]) (h1 : RuleAt K Z rv r) (o : okR r) (hn : r.least ≤ n ∧ n ≤ r.most) (hj : σ[j]? = some (some (.ref fa))) (zf : Z fa = some (.lst xs)) (dx : DpAll K Z xs (ls.map dLd)) (ok : ∀ x ∈ ls, okLd x) (hz : ls.length ≤ 1000) :
    EvG (StX.tCallO X (He.ga K "Scaler") (sp_Scaler_call K) E (tMake (He.ga K "Scaler") (sp_Scaler_init K) [] E' ta) (tCons (tVar j) tNil)) σ Z (fun v Z2 => LsD K Z2 v ((runL r (first r n) ls).map PyData.int)) := fun H0 e Q q => eg_Scaler h h1 o hn H0 e _ fun y Z1 H1 g sc => by
  obtain ⟨a, dx', f, ru, rfl, s1, _⟩ := id sc
  exact ⟨a, rfl, _, hj, .inr ⟨_, _, g.h _ _ s1⟩, .ref a, r, n, fa, xs, ls, Z1, rfl, g.h, sc, o, hn, g.z _ _ zf, dx.mv g.z, ok, hz, fun x Z' H' g2 l => q x Z' H' (g.trans g2) l⟩
/-! the rules that the law itself names -/
def R3 : Rl := ⟨[.over 3 1], 1, 8, none, none, 1, 1⟩
def R4 : Rl := ⟨[.over 4 1], 1, 8, none, none, 1, 1⟩
def R5 : Rl := ⟨[.aim 10 10 10], 1, 8, none, none, 1, 1⟩
theorem okR3 : okR R3 := okR1 (ps := [.over 3 1]) (by decide +kernel)
theorem okR4 : okR R4 := okR1 (ps := [.over 4 1]) (by decide +kernel)
theorem okR5 : okR R5 := okR1 (ps := [.aim 10 10 10]) (by decide +kernel)
theorem eg_R3 {σ : L2.St} {Z : Hp} {E : XK} : EvG (tMake (He.ga K "Rule") (sp_Rule_init K) [.int 1, .int 8, .non, .non, .int 1, .int 1] E (tCons (tLst (tCons (tTup (tCons (tC (.str "over")) (tCons (tC (.int 3)) (tCons (tC (.int 1)) tNil)))) tNil)) tNil)) σ Z (fun x Z2 => RuleAt K Z2 x R3) :=
  eg_Rule1 (K := K) (ps := [.over 3 1]) (show EvDA K _ σ Z [.tuple [.str "over", .int 3, .int 1]] from eda_cons (ed_tup (eda_cons (ed_ev ev_c (.str _)) (eda_cons (ed_int ev_c) (eda_cons (ed_int ev_c) eda_nil))) (Nat.le_of_ble_eq_true rfl)) eda_nil) (by decide) (by decide +kernel)
theorem eg_R4 {σ : L2.St} {Z : Hp} {E : XK} : EvG (tMake (He.ga K "Rule") (sp_Rule_init K) [.int 1, .int 8, .non, .non, .int 1, .int 1] E (tCons (tLst (tCons (tTup (tCons (tC (.str "over")) (tCons (tC (.int 4)) (tCons (tC (.int 1)) tNil)))) tNil)) tNil)) σ Z (fun x Z2 => RuleAt K Z2 x R4) :=
  eg_Rule1 (K := K) (ps := [.over 4 1]) (show EvDA K _ σ Z [.tuple [.str "over", .int 4, .int 1]] from eda_cons (ed_tup (eda_cons (ed_ev ev_c (.str _)) (eda_cons (ed_int ev_c) (eda_cons (ed_int ev_c) eda_nil))) (Nat.le_of_ble_eq_true rfl)) eda_nil) (by decide) (by decide +kernel)
theorem eg_R5 {σ : L2.St} {Z : Hp} {E : XK} : EvG (tMake (He.ga K "Rule") (sp_Rule_init K) [.int 1, .int 8, .non, .non, .int 1, .int 1] E (tCons (tLst (tCons (tTup (tCons (tC (.str "aim")) (tCons (tC (.int 10)) (tCons (tC (.int 10)) (tCons (tC (.int 10)) tNil))))) tNil)) tNil)) σ Z (fun x Z2 => RuleAt K Z2 x R5) :=
  eg_Rule1 (K := K) (ps := [.aim 10 10 10]) (show EvDA K _ σ Z [.tuple [.str "aim", .int 10, .int 10, .int 10]] from eda_cons (ed_tup (eda_cons (ed_ev ev_c (.str _)) (eda_cons (ed_int ev_c) (eda_cons (ed_int ev_c) (eda_cons (ed_int ev_c) eda_nil)))) (Nat.le_of_ble_eq_true rfl)) eda_nil) (by decide) (by decide +kernel)
theorem okSh_first {r : Rl} {n : Int} (o : okR r) (h : r.least ≤ n ∧ n ≤ r.most) : OkSh ⟨r, first r n, []⟩ := ⟨o, first_ok h, fun x hx => nomatch hx⟩
theorem raise4 : doneL ⟨R4, first R4 2, []⟩ (.raise (-1)) = some ⟨R3, first R3 2, []⟩ := rfl
theorem tick51 : tickL R5 (first R5 1) (25, 1) = (3, []) := by decide +kernel
theorem tick53 : tickL R5 (first R5 3) (25, 1) = (3, []) := by decide +kernel
theorem load51 : doneL ⟨R5, first R5 1, []⟩ (.load (25, 1)) = some ⟨R5, (3, []), [(25, 1)]⟩ := by
  show some (⟨R5, tickL R5 (first R5 1) (25, 1), [(25, 1)]⟩ : Sh) = _
  rw [tick51]
theorem load53 : doneL ⟨R5, first R5 3, []⟩ (.load (25, 1)) = some ⟨R5, (3, []), [(25, 1)]⟩ := by
  show some (⟨R5, tickL R5 (first R5 3) (25, 1), [(25, 1)]⟩ : Sh) = _
  rw [tick53]
theorem okL25 : okLd (25, 1) := ⟨by decide, by decide, by decide, by decide, by decide⟩
theorem ev_tmpEq {σ : L2.St} {H : Hp} {E E' E1 E2 : XK} : Ev (tOp (rOwn K (He.ga K "Session") (sp_Session_eq K) false)
    (tMake (He.ga K "Session") (sp_Session_init K) [] E (tCons (tMake (He.ga K "Rule") (sp_Rule_init K) [.int 1, .int 8, .non, .non, .int 1, .int 1] E1 (tCons (tLst (tCons (tTup (tCons (tC (.str "over")) (tCons (tC (.int 3)) (tCons (tC (.int 1)) tNil)))) tNil)) tNil)) (tCons (tC (.int 2)) tNil)))
    (tMake (He.ga K "Session") (sp_Session_init K) [] E' (tCons (tMake (He.ga K "Rule") (sp_Rule_init K) [.int 1, .int 8, .non, .non, .int 1, .int 1] E2 (tCons (tLst (tCons (tTup (tCons (tC (.str "over")) (tCons (tC (.int 4)) (tCons (tC (.int 1)) tNil)))) tNil)) tNil)) (tCons (tC (.int 2)) tNil)))) σ H (.bl false) := fun H1 e Q q =>
  sess_go e (ega_g eg_R3) okR3 ⟨by decide, by decide⟩ fun x Z2 H2 sc m g2 hx L _ => sess_go g2.h (ega_g eg_R4) okR4 ⟨by decide, by decide⟩ fun y Z3 H3 sc' m' g3 hy L' _ => by
    have L3 := L.gr g3
    obtain ⟨dx, hsx⟩ := L3.hs
    obtain ⟨dy, hsy⟩ := L'.hs
    refine ⟨x, dx, _, rfl, hsx, .inr ⟨y, _, _, _, rfl, hsy, nf_self⟩, v_Session_eq g3.h L3 L' (Nat.zero_le _) (Nat.zero_le _) H3 (Ex.refl _) _ (fun H4 e4 => ⟨_, rfl, ?_⟩) E0⟩
    rw [eqS_r (by decide)]
    exact q H4 ((g2.trans (Gr.of g2.h g3.same)).same.trans e4)
theorem eqv_one (i : Int) : PyData.eqv (.list [.int i]) (.list [.int i]) = true := by
  rw [eqv_lst, show [PyData.int i] = [i].map PyData.int from rfl, eqv_ints, decide_eq_true rfl]
theorem dsOf_ne {h : List (Deed × Sh)} {d : Deed} {s : Sh} : dsOf h ≠ dsOf ((d, s) :: h) := fun e => by
  have := congrArg List.length e
  rw [dsOf_len, dsOf_len, List.length_cons] at this
  omega
theorem par2_go {σ : L2.St} {H : Hp} {i j : Nat} {t1 t2 : TE} {D : Ends} {tz : TS} (h : t1 σ H fun v H1 => t2 σ H1 fun u H2 => ∃ a b, [v, u] = [a, b] ∧ tz D ((σ.set i (some a)).set j (some b)) H2) : tSeq (tPar i j (tCons t1 (tCons t2 tNil))) tz D σ H := h
/-! _law_equal_right -/
def sp_law_equal_right (K : Frag) : Sp := fun vs H Q _ => ∃ (d : Addr) (l : Addr × Addr) (cv : V) (r : Rl) (n : Int) (Z : Hp), vs = [.ref d, cv, .int n] ∧ DZ Z H d l ∧ CaseAt K Z cv r ∧ okR r ∧ (r.least ≤ n ∧ n ≤ r.most) ∧ ∀ Z' H', Mv (DS d l) Z H Z' H' → DZ Z' H' d l → Q (.bl true) H'
theorem sc_law_equal_right : FnScope ["_law_draw", "_law_case_here", "_law_hosts", "_law_load_here", "_law_made", "_law_flow", "_law_one", "_law_other", "_law_third", "_law_fourth", "_law_low", "_law_high"] ["_law_draw", "_law_case_here", "_law_hosts"] (defScope s_law_equal_right) := ⟨rfl, rfl, rfl, by decide +kernel, rfl, by decide +kernel, by decide +kernel⟩
theorem ok_law_equal_right (T : Txt w K mg) : FB P w K mg base 15 (He.ga K "_law_equal_right") ["_law_draw", "_law_case_here", "_law_hosts"] (sp_law_equal_right K) := by
  obtain ⟨fdR, FR, kbR, dsR, hdR, bdR⟩ := ok_Rule_init (P := P) (base := base) T
  refine FB.of T.F_law_equal_right sc_law_equal_right (fun _ _ _ _ _ _ us hl => match us, hl with | [_, _, _], _ => rfl) (by rintro vs H Q E ⟨_, _, _, _, _, _, rfl, _⟩; rfl) (fun cdv A outer s H vs Q E hr h => ?_)
  refine ⟨_, (pss_cons (ps_par rfl sc_law_equal_right.nd (i := 4) (j := 5) rfl rfl (by decide) rfl rfl (pa_cons (pe_callF (ok_law_rule T) (hr.mono (by decide)) (by rfl) T.g_law_rule passL (pa_cons (pv 1) pa_nil)) (pa_cons (pe_callF (ok_law_curve T) (hr.mono (by decide)) (by rfl) T.g_law_curve passL (pa_cons (pv 0) (pa_cons (pv 1) (pa_cons pe_int pa_nil)))) pa_nil)) (by rfl))
    (pss_cons (ps_par rfl sc_law_equal_right.nd (i := 6) (j := 7) rfl rfl (by decide) rfl rfl (pa_cons (pe_makeF T.mk_Session (ok_Session_init T) (hr.mono (by decide)) (by rfl) T.g_Session passL (pa_cons (pv 4) (pa_cons (pv 2) pa_nil))) (pa_cons (pe_makeF T.mk_Session (ok_Session_init T) (hr.mono (by decide)) (by rfl) T.g_Session passL (pa_cons (pv 4) (pa_cons (pv 2) pa_nil))) pa_nil)) (by rfl))
    (pss_cons (ps_for (passes_of rfl) rfl (pi_list (pv 5)) (pg_name (i := 3) sc_law_equal_right.nd rfl (Or.inl rfl))
    (pss_cons (ps_expr (pe_methF (pv 6) T.c_Session T.m_Session_do (ok_Session_do T) (hr.mono (by decide)) passL (pa_cons (pe_tup (pa_cons pe_str (pa_cons (pv 3) pa_nil))) pa_nil)))
    (pss_one (ps_expr (pe_methF (pv 7) T.c_Session T.m_Session_do (ok_Session_do T) (hr.mono (by decide)) passL (pa_cons (pe_tup (pa_cons pe_str (pa_cons (pv 3) pa_nil))) pa_nil))))))
    (pss_cons (ps_if (PW.pt (pw_or (pt_cmpR (op_neO (eqc_Session T) (ok_Session_eq T) (hr.mono (by decide))) (pv 6) (pv 7) (nomark _)) (pw_or1 (pt_cmpR (op_neD hr.units) (pe_lst (pa_cons (pe_propF (pv 6) T.c_Session (T.p_Session_servers).2 (ok_Session_servers T) (hr.mono (by decide))) pa_nil)) (pe_slice sl_list (StX.pe_callO (pe_makeF T.mk_Scaler (ok_Scaler_init T) (hr.mono (by decide)) (by rfl) T.g_Scaler passL (pa_cons (pv 4) (pa_cons (pv 2) pa_nil))) ⟨T.m_Scaler_call.at_, T.m_Scaler_call.fn, T.o_fic⟩ (FB.toR (ok_Scaler_call T)) (hr.mono (by decide)) passL (pa_cons (pv 5) pa_nil)) (po_some (pe_un un_neg pe_int)) po_none) (nomark _)))))
    (pss_one (ps_ret pe_bl))
    pss_nil)
    (pss_cons (ps_expr (pe_methF (pv 7) T.c_Session T.m_Session_do (ok_Session_do T) (hr.mono (by decide)) passL (pa_cons (pe_tup (pa_cons pe_str (pa_cons pe_int pa_nil))) pa_nil)))
    (pss_cons (ps_if (pt_cmpR (op_eqO (eqc_Session T) (ok_Session_eq T) (hr.mono (by decide))) (pv 6) (pv 7) (nomark _))
    (pss_one (ps_ret pe_bl))
    pss_nil)
    (pss_cons (ps_expr (pe_methF (pv 6) T.c_Session T.m_Session_do (ok_Session_do T) (hr.mono (by decide)) passL (pa_cons (pe_tup (pa_cons pe_str (pa_cons pe_int pa_nil))) pa_nil)))
    (pss_cons (ps_par rfl sc_law_equal_right.nd (i := 8) (j := 9) rfl rfl (by decide) rfl rfl (pa_cons (pe_makeF T.mk_Session (ok_Session_init T) (hr.mono (by decide)) (by rfl) T.g_Session passL (pa_cons (pe_make T.mk_Rule FR (hr.mono (by decide)) (by rfl) T.g_Rule bdR hdR passL (pa_cons (pe_lst (pa_cons (pe_tup (pa_cons pe_str (pa_cons pe_int (pa_cons pe_int pa_nil)))) pa_nil)) pa_nil)) (pa_cons pe_int pa_nil))) (pa_cons (pe_makeF T.mk_Session (ok_Session_init T) (hr.mono (by decide)) (by rfl) T.g_Session passL (pa_cons (pe_make T.mk_Rule FR (hr.mono (by decide)) (by rfl) T.g_Rule bdR hdR passL (pa_cons (pe_lst (pa_cons (pe_tup (pa_cons pe_str (pa_cons pe_int (pa_cons pe_int pa_nil)))) pa_nil)) pa_nil)) (pa_cons pe_int pa_nil))) pa_nil)) (by rfl))
    (pss_cons (ps_expr (pe_methF (pv 8) T.c_Session T.m_Session_do (ok_Session_do T) (hr.mono (by decide)) passL (pa_cons (pe_tup (pa_cons pe_str (pa_cons pe_int pa_nil))) pa_nil)))
    (pss_cons (ps_expr (pe_methF (pv 9) T.c_Session T.m_Session_do (ok_Session_do T) (hr.mono (by decide)) passL (pa_cons (pe_tup (pa_cons pe_str (pa_cons (pe_un un_neg pe_int) pa_nil))) pa_nil)))
    (pss_cons (ps_if (PW.pt (pw_or (pt_cmpR (op_neO (eqc_Session T) (ok_Session_eq T) (hr.mono (by decide))) (pv 6) (pv 7) (nomark _)) (pw_or (pt_cmpR (op_eqO (eqc_Session T) (ok_Session_eq T) (hr.mono (by decide))) (pv 8) (pv 9) (nomark _)) (pw_or (pt_cmpR (op_neO (eqc_Rule T) (ok_Rule_eq T) (hr.mono (by decide))) (pe_propF (pv 8) T.c_Session (T.p_Session_rule).2 (ok_Session_rule T) (hr.mono (by decide))) (pe_propF (pv 9) T.c_Session (T.p_Session_rule).2 (ok_Session_rule T) (hr.mono (by decide))) (nomark _)) (pw_or1 (pt_cmpR (op_neD hr.units) (pe_propF (pv 8) T.c_Session (T.p_Session_state).2 (ok_Session_state T) (hr.mono (by decide))) (pe_propF (pv 9) T.c_Session (T.p_Session_state).2 (ok_Session_state T) (hr.mono (by decide))) (nomark _)))))))
    (pss_one (ps_ret pe_bl))
    pss_nil)
    (pss_cons (ps_set (i := 4) sc_law_equal_right.nd rfl (Or.inl rfl) (pe_make T.mk_Rule FR (hr.mono (by decide)) (by rfl) T.g_Rule bdR hdR passL (pa_cons (pe_lst (pa_cons (pe_tup (pa_cons pe_str (pa_cons pe_int (pa_cons pe_int (pa_cons pe_int pa_nil))))) pa_nil)) pa_nil)))
    (pss_cons (ps_par rfl sc_law_equal_right.nd (i := 10) (j := 11) rfl rfl (by decide) rfl rfl (pa_cons (pe_makeF T.mk_Session (ok_Session_init T) (hr.mono (by decide)) (by rfl) T.g_Session passL (pa_cons (pv 4) (pa_cons pe_int pa_nil))) (pa_cons (pe_makeF T.mk_Session (ok_Session_init T) (hr.mono (by decide)) (by rfl) T.g_Session passL (pa_cons (pv 4) (pa_cons pe_int pa_nil))) pa_nil)) (by rfl))
    (pss_cons (ps_if (PW.pt (pw_or (pt_cmpR (op_eqO (eqc_Session T) (ok_Session_eq T) (hr.mono (by decide))) (pv 10) (pv 11) (nomark _)) (pw_or1 (pt_cmpR (op_eqO (eqc_Session T) (ok_Session_eq T) (hr.mono (by decide))) (pe_makeF T.mk_Session (ok_Session_init T) (hr.mono (by decide)) (by rfl) T.g_Session passL (pa_cons (pe_make T.mk_Rule FR (hr.mono (by decide)) (by rfl) T.g_Rule bdR hdR passL (pa_cons (pe_lst (pa_cons (pe_tup (pa_cons pe_str (pa_cons pe_int (pa_cons pe_int pa_nil)))) pa_nil)) pa_nil)) (pa_cons pe_int pa_nil))) (pe_makeF T.mk_Session (ok_Session_init T) (hr.mono (by decide)) (by rfl) T.g_Session passL (pa_cons (pe_make T.mk_Rule FR (hr.mono (by decide)) (by rfl) T.g_Rule bdR hdR passL (pa_cons (pe_lst (pa_cons (pe_tup (pa_cons pe_str (pa_cons pe_int (pa_cons pe_int pa_nil)))) pa_nil)) pa_nil)) (pa_cons pe_int pa_nil))) (nomark _)))))
    (pss_one (ps_ret pe_bl))
    pss_nil)
    (pss_cons (ps_expr (pe_methF (pv 10) T.c_Session T.m_Session_do (ok_Session_do T) (hr.mono (by decide)) passL (pa_cons (pe_tup (pa_cons pe_str (pa_cons (pe_tup (pa_cons pe_int (pa_cons pe_int pa_nil))) pa_nil))) pa_nil)))
    (pss_cons (ps_expr (pe_methF (pv 11) T.c_Session T.m_Session_do (ok_Session_do T) (hr.mono (by decide)) passL (pa_cons (pe_tup (pa_cons pe_str (pa_cons (pe_tup (pa_cons pe_int (pa_cons pe_int pa_nil))) pa_nil))) pa_nil)))
    (pss_one (ps_ret (pe_and (pe_cmpR (op_eqO (eqc_Session T) (ok_Session_eq T) (hr.mono (by decide))) (pv 10) (pv 11) (nomark _)) (pe_one (pe_cmpR (op_neO (eqc_Scaler T) (ok_Scaler_eq T) (hr.mono (by decide))) (pe_propF (pv 10) T.c_Session (T.p_Session_origin).2 (ok_Session_origin T) (hr.mono (by decide))) (pe_propF (pv 11) T.c_Session (T.p_Session_origin).2 (ok_Session_origin T) (hr.mono (by decide))) (nomark _)))))))))))))))))))))), ?_⟩
  obtain ⟨d, l, cv, r, n, Z, rfl, dz, hc, o, hn, k⟩ := h
  refine q_parW (ew_g (eg_call (ea_cons (ev_var rfl) ea_nil) (gr_law_rule hc o) rule_mono)) rule_mono (ew_callA (ea_cons (ev_var rfl) (ea_cons (ev_var rfl) (ea_cons ev_c ea_nil))) (w_law_curve (n := 6) hc o ⟨by decide, by decide⟩) curveW_mono) curveW_mono dz fun rv fv Z1 H1 m1 dz1 hr1 ⟨ls, ⟨fa, xs, efv, zf, dx⟩, okl, hll⟩ => ?_
  subst efv
  have C1 := (Ctx.start dz).dr m1 dz1
  have hll6 : ls.length = 6 := hll
  have hxl : xs.length = 6 := by rw [dx.len, List.length_map, hll6]
  -- one, other
  refine par2_go ?_
  refine sess_go C1.dz.z (ega_v (ev_var rfl) (ev_var rfl) hr1) o hn fun one Z2 H2 sc1 m1' g2 h1x L1 S1 => ?_
  refine sess_go g2.h (ega_v (ev_var rfl) (ev_var rfl) (hr1.mv g2.z)) o hn fun oth Z3 H3 sc2 m2' g3 h2x L2' S2 => ?_
  refine ⟨_, _, rfl, ?_⟩
  have n12 : one ≠ oth := L1.ne h2x
  have C3 := (C1.gr g2).gr g3
  have one0 := C1.new h1x
  have oth0 := (C1.gr g2).new h2x
  have ok0 := okSh_first o hn
  have zf3 := g3.z _ _ (g2.z _ _ zf)
  have hr3 := (hr1.mv g2.z).mv g3.z
  have dx3 := (dx.mv g2.z).mv g3.z
  refine q_forL (xs := xs) (ev_var rfl) (sq_of (g3.h _ _ zf3)) (fun i σ' H' => ∃ (o3 : Option V) (ma mb : V) (hi : List (Deed × Sh)) (Zi : Hp), σ' = [some (.ref d), some cv, some (.int n), o3, some rv, some (.ref fa), some (.ref one), some (.ref oth), none, none, none, none] ∧ Ctx d l Z H Zi H' ∧ Ex Z3 Zi ∧ Live K Zi H' one sc1 ma hi (shL ⟨r, first r n, []⟩ (ls.take i)) ∧ Live K Zi H' oth sc2 mb hi (shL ⟨r, first r n, []⟩ (ls.take i)) ∧ hi.length = i)
    (fun H4 e4 => ⟨_, m1', m2', [], Z3, rfl, C3.ex e4, Ex.refl _, by rw [List.take_zero, shL_nil]; exact (L1.gr g3).ex e4, by rw [List.take_zero, shL_nil]; exact L2'.ex e4, rfl⟩) (fun i σ' H' _ ⟨_, _, _, _, Zi, _, C, e, _⟩ => sq_of (C.dz.z _ _ (e _ _ zf3))) (fun i y σ' H' hy ⟨o3, ma, mb, hi, Zi, es, C, eZ, La, Lb, hhi⟩ => ?_) (fun σ' H' ⟨o3, ma, mb, hi, Zi, es, C, eZ, La, Lb, hhi⟩ => ?_)
  · subst es
    obtain ⟨y', ey, dy⟩ := DpAll.get dx3 hy
    have oy := okl y' (List.mem_of_getElem? ey)
    have hil : i < ls.length := (List.getElem?_eq_some_iff.mp ey).1
    have oki : OkSh (shL ⟨r, first r n, []⟩ (ls.take i)) := shL_ok ok0 fun z hz => okl z (List.mem_of_mem_take hz)
    have etk : ls.take (i + 1) = ls.take i ++ [y'] := by rw [List.take_add_one, ey]; rfl
    have czi : (shL ⟨r, first r n, []⟩ (ls.take i)).cv.length ≤ 1000 := by
      show ([] ++ ls.take i).length ≤ 1000
      rw [List.nil_append, List.length_take]
      omega
    have hsh := shL_snoc ⟨r, first r n, []⟩ (ls.take i) y'
    rw [← etk] at hsh
    refine do_actG C.dz.z La (ev_var rfl) (ed_ev (ev_var rfl) (dy.mv eZ)) (ld_deed y') oki oy czi hsh fun ma2 Z5 H5 mv5 La5 => ?_
    have C5 := C.se La.hs one0 mv5
    have Lb5 := Lb.se (Ne.symm n12) mv5
    refine do_actG C5.dz.z Lb5 (ev_var rfl) (ed_ev (ev_var rfl) ((dy.mv eZ).mv mv5.z)) (ld_deed y') oki oy czi hsh fun mb2 Z6 H6 mv6 Lb6 => ?_
    exact ⟨_, ma2, mb2, _, Z6, rfl, C5.se Lb5.hs oth0 mv6, (eZ.trans mv5.z).trans mv6.z, La5.se n12 mv6, Lb6, by rw [List.length_cons, hhi]⟩
  · subst es
    rw [hxl] at La Lb
    have ettk : ls.take 6 = ls := by rw [← hll6, List.take_length]
    rw [ettk] at La Lb
    generalize hsF : shL ⟨r, first r n, []⟩ ls = sF at La Lb
    have okF : OkSh sF := by rw [← hsF]; exact shL_ok ok0 okl
    have czF : sF.cv.length ≤ 1000 := by
      rw [← hsF]
      show ([] ++ ls).length ≤ 1000
      rw [List.nil_append]
      omega
    have hsv : sF.st.1 = (endL r (first r n) ls).1 := by rw [← hsF]; rfl
    have hz : hi.length ≤ 1000 := by omega
    have hls : ls ≠ [] := fun e => by rw [e] at hll6; cases hll6
    have hrl : 1 ≤ (runL r (first r n) ls).length := by
      cases ls with
      | nil => cases hll6
      | cons x t => show 1 ≤ (_ :: _ : List Int).length; rw [List.length_cons]; omega
    obtain ⟨dva, mba, hda⟩ := La.hm.hd
    have hrH := (hr3.mv eZ).mv C.dz.z
    refine q_when (b := false) (et_is (et_or (et_test (ev_neSes C.dz.z (ev_var rfl) (ev_var rfl) La Lb hz hz)) fun _ => et_test (ev_opGG (z := .bl false) (eg_lstL (K := K) (ds := [.int sF.st.1]) (el_lst (ea_cons (ev_Session_servers (ev_var rfl) La.hs (hda.mv C.dz.z)) ea_nil) (Nat.le_of_ble_eq_true rfl)) (.cons (.int _) .nil)) (fun _ _ _ e p => p.mv e)
      (eg_last (eg_run (ea_cons (ev_var rfl) (ea_cons (ev_var rfl) ea_nil)) hrH o hn rfl (C.dz.z _ _ (eZ _ _ zf3)) ((dx3.mv eZ).mv C.dz.z) okl (by omega)) hrl) (fun _ _ _ e p => p.mv e) fun x y H4 px py => fun H5 e5 Q q5 => ⟨_, _, px.mv e5, py.mv e5, shp_ilist [sF.st.1], shp_ilist _, by
        rw [runL_last r _ ls hls, hsv, show [(endL r (first r n) ls).1].map PyData.int = [PyData.int (endL r (first r n) ls).1] from rfl, eqv_one]
        exact q5 H5 (Ex.refl _)⟩)) (by rw [eqS_self _ _ _ rfl]; rfl)) (fun h => nomatch h) fun _ H4 e4 => ?_
    have C4 := C.ex e4
    have La4 := La.ex e4
    have Lb4 := Lb.ex e4
    -- other: raise by 0
    refine do_actG C4.dz.z Lb4 (ev_var rfl) (ed_int ev_c) (dd := .raise 0) rfl okF trivial czF (raise0 okF.r) fun mb5 Z5 H5 mv5 Lb5 => ?_
    have C5 := C4.se Lb4.hs oth0 mv5
    have La5 := La4.se n12 mv5
    refine q_when (b := false) (et_is (et_test (ev_eqSes C5.dz.z (ev_var rfl) (ev_var rfl) La5 Lb5 hz (by rw [List.length_cons]; omega))) (eqS_ds dsOf_ne)) (fun h => nomatch h) fun _ H6 e6 => ?_
    have C6 := C5.ex e6
    refine do_actG C6.dz.z (La5.ex e6) (ev_var rfl) (ed_int ev_c) (dd := .raise 0) rfl okF trivial czF (raise0 okF.r) fun ma7 Z7 H7 mv7 La7 => ?_
    have C7 := C6.se (La5.ex e6).hs one0 mv7
    have Lb7 := (Lb5.ex e6).se (Ne.symm n12) mv7
    -- third, fourth
    dsimp only
    refine par2_go ?_
    refine sess_go C7.dz.z (ega_g eg_R3) okR3 ⟨by decide, by decide⟩ fun thd Z8 H8 sc3 m3' g8 h8 L3 S3 => ?_
    refine sess_go g8.h (ega_g eg_R4) okR4 ⟨by decide, by decide⟩ fun fth Z9 H9 sc4 m4' g9 h9 L4 S4 => ?_
    refine ⟨_, _, rfl, ?_⟩
    have C8 := C7.gr g8
    have C9 := C8.gr g9
    have thd0 := C7.new h8
    have fth0 := C8.new h9
    have n34 := L3.ne h9
    have nat := La7.ne h8
    have nbt := Lb7.ne h8
    have naf := (La7.gr g8).ne h9
    have nbf := (Lb7.gr g8).ne h9
    refine do_actG C9.dz.z (L3.gr g9) (ev_var rfl) (ed_int ev_c) (dd := .raise 0) rfl (okSh_first okR3 ⟨by decide, by decide⟩) trivial (Nat.zero_le _) (raise0 okR3) fun mt10 Z10 H10 mv10 L3a => ?_
    have C10 := C9.se (L3.gr g9).hs thd0 mv10
    refine do_actG C10.dz.z (L4.se (Ne.symm n34) mv10) (ev_var rfl) (ed_int (ev_negI ev_c)) (dd := .raise (-1)) rfl (okSh_first okR4 ⟨by decide, by decide⟩) trivial (Nat.zero_le _) raise4 fun mf11 Z11 H11 mv11 L4a => ?_
    have C11 := C10.se (L4.se (Ne.symm n34) mv10).hs fth0 mv11
    have L3b := L3a.se n34 mv11
    have LaX := (((La7.gr g8).gr g9).se nat mv10).se naf mv11
    have LbX := (((Lb7.gr g8).gr g9).se nbt mv10).se nbf mv11
    obtain ⟨dv3, mb3, hd3⟩ := L3b.hm.hd
    obtain ⟨dv4, mb4, hd4⟩ := L4a.hm.hd
    have hz1 : ((Deed.raise 0, sF) :: hi).length ≤ 1000 := by rw [List.length_cons]; omega
    refine q_when (b := false) (et_is (et_or (et_test (ev_neSes C11.dz.z (ev_var rfl) (ev_var rfl) LaX LbX hz1 hz1)) fun _ => et_or (et_test (ev_eqSes C11.dz.z (ev_var rfl) (ev_var rfl) L3b L4a (Nat.le_of_ble_eq_true rfl) (Nat.le_of_ble_eq_true rfl))) fun _ =>
      et_or (et_test (ev_opGG (z := .bl (!decide (R3 = R3))) (eg_Session_rule (ev_var rfl) L3b.hs (hd3.mv C11.dz.z)) rule_mono (eg_Session_rule (ev_var rfl) L4a.hs (hd4.mv C11.dz.z)) rule_mono fun x y H2 p q => rv_ruleNe p q)) fun _ => et_test (ev_opGG (z := .bl false) (ed_Session_state (ev_var rfl) L3b.hs (hd3.mv C11.dz.z)) (fun _ _ _ e p => p.mv e) (ed_Session_state (ev_var rfl) L4a.hs (hd4.mv C11.dz.z)) (fun _ _ _ e p => p.mv e) fun x y H2 p q => rv_neS p q))
      (by rw [eqS_self _ _ _ rfl, eqS_ds (by decide), decide_eq_true rfl]; rfl)) (fun h => nomatch h) fun _ H12 e12 => ?_
    have C12 := C11.ex e12
    -- low, high
    refine q_asgG eg_R5 C12.dz.z fun rv5 Z13 H13 g13 hr5 => ?_
    have C13 := C12.gr g13
    refine par2_go ?_
    refine sess_go C13.dz.z (ega_v (ev_var rfl) ev_c hr5) okR5 ⟨by decide, by decide⟩ fun low Z14 H14 sc5 m5' g14 h14 L5 S5 => ?_
    refine sess_go g14.h (ega_v (ev_var rfl) ev_c (hr5.mv g14.z)) okR5 ⟨by decide, by decide⟩ fun hig Z15 H15 sc6 m6' g15 h15 L6 S6 => ?_
    refine ⟨_, _, rfl, ?_⟩
    have C14 := C13.gr g14
    have C15 := C14.gr g15
    have low0 := C13.new h14
    have hig0 := C14.new h15
    have n56 := L5.ne h15
    refine q_when (b := false) (et_is (et_or (et_test (ev_eqSes C15.dz.z (ev_var rfl) (ev_var rfl) (L5.gr g15) L6 (Nat.zero_le _) (Nat.zero_le _))) fun _ => et_test ev_tmpEq) (by rw [eqS_st (by decide)]; rfl)) (fun h => nomatch h) fun _ H16 e16 => ?_
    have C16 := C15.ex e16
    have eL : ∀ (σ : L2.St) (Z : Hp), EvD K (tTup (tCons (tC (.int 25)) (tCons (tC (.int 1)) tNil))) σ Z (.tuple [.int 25, .int 1]) := fun σ Z => ed_tup (eda_cons (ed_int ev_c) (eda_cons (ed_int ev_c) eda_nil)) (Nat.le_of_ble_eq_true rfl)
    refine do_actG C16.dz.z ((L5.gr g15).ex e16) (ev_var rfl) (eL _ _) (dd := .load (25, 1)) rfl (okSh_first okR5 ⟨by decide, by decide⟩) okL25 (Nat.zero_le _) load51 fun ml Z17 H17 mv17 L5a => ?_
    have C17 := C16.se ((L5.gr g15).ex e16).hs low0 mv17
    have L6a := (L6.ex e16).se (Ne.symm n56) mv17
    refine do_actG C17.dz.z L6a (ev_var rfl) (eL _ _) (dd := .load (25, 1)) rfl (okSh_first okR5 ⟨by decide, by decide⟩) okL25 (Nat.zero_le _) load53 fun mh Z18 H18 mv18 L6b => ?_
    have C18 := C17.se L6a.hs hig0 mv18
    have L5b := L5a.se n56 mv18
    have S5' := (((S5.mv g15.z).mv mv17.z).mv mv18.z).mv C18.dz.z
    have S6' := ((S6.mv mv17.z).mv mv18.z).mv C18.dz.z
    refine s_ret (v := .bl true) (ev_is (ev_andV (ev_eqSes C18.dz.z (ev_var rfl) (ev_var rfl) L5b L6b (Nat.le_of_ble_eq_true rfl) (Nat.le_of_ble_eq_true rfl)) fun _ => ev_ne_Scaler (ev_Session_origin (ev_var rfl) L5b.hs) (ev_Session_origin (ev_var rfl) L6b.hs) S5' S6') (by rw [eqS_self [(Deed.load (25, 1), ⟨R5, first R5 1, []⟩)] [(Deed.load (25, 1), ⟨R5, first R5 3, []⟩)] ⟨R5, (3, []), [(25, 1)]⟩ rfl, decide_eq_false (show first R5 1 ≠ first R5 3 by decide)]; rfl)) fun H19 e19 => ?_
    have C19 := C18.ex e19
    exact k Z18 H19 C19.fin C19.dz
end
end K74

/-! F24 -/
set_option Elab.async false
set_option linter.all false
set_option maxRecDepth 100000
set_option maxHeartbeats 4000000
namespace K74
open PySem PySem.Spec PyProof.Rows L2
open Evl hiding tCut pss_cut
open LamX (ExtN Tabs TabS)
/-! ### the law's state: the draw, the tables; a session with its past -/
structure Wd (K : Frag) (d : Addr) (l : Addr × Addr) (Z H : Hp) : Prop where
  dz : DZ Z H d l
  tb : Tabs (tbs K) H
structure Sn (K : Frag) (a : Addr) (sc pv : V) (r : Rl) (n : Int) (s0 : Sh) (m : V) (hist : List (Deed × Sh)) (sh : Sh) (Z H : Hp) : Prop where
  L : Live K Z H a sc m hist sh
  j : J s0 hist sh
  pa : PastAt K Z pv hist sh
  S : ScalerAt K Z sc r n
section
variable {K : Frag} {d a b : Addr} {l : Addr × Addr} {Z H Z1 H1 : Hp} {sc pv m o' m' : V} {r : Rl} {n : Int} {s0 sh sh' : Sh} {hist hist' : List (Deed × Sh)}
theorem Wd.gr (w : Wd K d l Z H) (g : Gr Z H Z1 H1) : Wd K d l Z1 H1 := ⟨w.dz.gr g, w.tb.ext g.same⟩
theorem Wd.ex (w : Wd K d l Z H) (e : Ex H H1) : Wd K d l Z H1 := w.gr (Gr.of w.dz.z e)
theorem Wd.dr (w : Wd K d l Z H) (mv : Mv (DS d l) Z H Z1 H1) (dz1 : DZ Z1 H1 d l) : Wd K d l Z1 H1 := ⟨dz1, tabs_d w.tb w.dz mv⟩
theorem Wd.se (w : Wd K d l Z H) (hs : SesH K H a sc m) (mv : Mv (fun c => c = a) Z H Z1 H1) : Wd K d l Z1 H1 := ⟨w.dz.se hs mv, tabs_s w.tb hs mv⟩
theorem Sn.gr (s : Sn K a sc pv r n s0 m hist sh Z H) (g : Gr Z H Z1 H1) : Sn K a sc pv r n s0 m hist sh Z1 H1 := ⟨s.L.gr g, s.j, s.pa.mv g.z, s.S.mv g.z⟩
theorem Sn.ex (s : Sn K a sc pv r n s0 m hist sh Z H) (e : Ex H H1) : Sn K a sc pv r n s0 m hist sh Z H1 := ⟨s.L.ex e, s.j, s.pa, s.S⟩
theorem Sn.dr (s : Sn K a sc pv r n s0 m hist sh Z H) (dz : DZ Z H d l) (mv : Mv (DS d l) Z H Z1 H1) : Sn K a sc pv r n s0 m hist sh Z1 H1 := ⟨s.L.dr dz mv, s.j, s.pa.mv mv.z, s.S.mv mv.z⟩
theorem Sn.se (s : Sn K a sc pv r n s0 m hist sh Z H) (ne : a ≠ b) (mv : Mv (fun c => c = b) Z H Z1 H1) : Sn K a sc pv r n s0 m hist sh Z1 H1 := ⟨s.L.se ne mv, s.j, s.pa.mv mv.z, s.S.mv mv.z⟩
theorem Sn.mvn (s : Sn K a sc pv r n s0 m hist sh Z H) (dz : DZ Z H d l) (ne : a ≠ b) (x : MvN (SM d l b) Z H Z1 H1) : Sn K a sc pv r n s0 m hist sh Z1 H1 := ⟨s.L.mvn (fun q => q.elim (dz.nes s.L.hs).1 ne) x, s.j, s.pa.n x.z, scaler_n s.S x.z⟩
end
theorem pastL_first {s0 : Sh} : ∀ {h : List (Deed × Sh)} {sh : Sh}, Chn s0 h sh → ∃ es, pastL h sh = (s0, []) :: es
  | [], sh, c => by
    cases (show sh = s0 from c)
    exact ⟨[], rfl⟩
  | (d, s1) :: h, sh, c => by
    obtain ⟨es, e⟩ := pastL_first c.2
    exact ⟨es ++ [(sh, dsOf ((d, s1) :: h))], by show pastL h s1 ++ _ = _; rw [e]; rfl⟩
/-- the past, walked back -/
def revL : List (Deed × Sh) → Sh → List (Sh × List Deed)
  | [], _ => []
  | (_, s1) :: h, _ => (s1, dsOf h) :: revL h s1
theorem revL_eq : ∀ (h : List (Deed × Sh)) (sh : Sh), (pastL h sh).dropLast.reverse = revL h sh
  | [], sh => rfl
  | (d, s1) :: h, sh => by
    show (pastL h s1 ++ [(sh, dsOf ((d, s1) :: h))]).dropLast.reverse = (s1, dsOf h) :: revL h s1
    rw [List.dropLast_concat]
    obtain ⟨es, e⟩ := pastL_last h s1
    have q := revL_eq h s1
    rw [e, List.dropLast_concat] at q
    rw [e, List.reverse_append, q]
    rfl
section
variable {K : Frag} {Z H : Hp}
theorem EntAll.rev : ∀ {xs : List V} {es : List (Sh × List Deed)}, EntAll K Z xs es → EntAll K Z xs.reverse es.reverse
  | [], [], _ => trivial
  | x :: xs, e :: es, h => by
    rw [List.reverse_cons, List.reverse_cons]
    exact (EntAll.rev h.2).app ⟨h.1, trivial⟩
  | [], _ :: _, h => h.elim
  | _ :: _, [], h => h.elim
theorem EntAll.dropLast {xs : List V} {es : List (Sh × List Deed)} (h : EntAll K Z xs es) (ne : es ≠ []) : EntAll K Z xs.dropLast es.dropLast := by
  have e := List.dropLast_concat_getLast ne
  rw [← e] at h
  obtain ⟨ys, y, rfl, h2, _⟩ := h.snoc
  rw [List.dropLast_concat]
  exact h2
abbrev ixE (K : Frag) (j i : Nat) : TE := tOp (rIxT K) (tOp (rIxL K) (tVar j) (tUn (rU fun i => .int (-i)) (tC (.int 1)))) (tC (.int (i : Int)))
/-- the last sheet, the last deeds -/
theorem past_last {pv : V} {hist : List (Deed × Sh)} {sh : Sh} (p : PastAt K Z pv hist sh) : ∃ sv av, SheetAt K Z sv sh ∧ LsD K Z av ((dsOf hist).map dDeed) ∧ ∀ (σ : L2.St) (H : Hp) (j : Nat), Ex Z H → σ[j]? = some (some pv) →
    Ev (tOp (rIxT K) (tOp (rIxL K) (tVar j) (tUn (rU fun i => .int (-i)) (tC (.int 1)))) (tC (.int 0))) σ H sv ∧ Ev (tOp (rIxT K) (tOp (rIxL K) (tVar j) (tUn (rU fun i => .int (-i)) (tC (.int 1)))) (tC (.int 1))) σ H av := by
  obtain ⟨a, xs, rfl, za, ent⟩ := p
  obtain ⟨es, e⟩ := pastL_last hist sh
  rw [e] at ent
  obtain ⟨ys, y, rfl, _, yp, sv, av, rfl, sq, h1, h2⟩ := ent.snoc
  refine ⟨sv, av, h1, h2, fun σ H j z hj => ?_⟩
  have q : Ev (tOp (rIxL K) (tVar j) (tUn (rU fun i => .int (-i)) (tC (.int 1)))) σ H (.ref yp) := ev_op (ev_var hj) (ev_negI ev_c) (rv_ixL (sq_of (z _ _ za)) (L2.atI_last ys (.ref yp)))
  exact ⟨ev_ixT q (ex_t z sq) rfl, ev_ixT q (ex_t z sq) rfl⟩
theorem past_first {pv : V} {s0 : Sh} {hist : List (Deed × Sh)} {sh : Sh} (p : PastAt K Z pv hist sh) (c : J s0 hist sh) : ∃ sv, SheetAt K Z sv s0 ∧ ∀ (σ : L2.St) (H : Hp) (j : Nat), Ex Z H → σ[j]? = some (some pv) → Ev (tOp (rIxT K) (tOp (rIxL K) (tVar j) (tC (.int 0))) (tC (.int 0))) σ H sv := by
  obtain ⟨a, xs, rfl, za, ent⟩ := p
  obtain ⟨es, e⟩ := pastL_first c.c
  rw [e] at ent
  cases xs with
  | nil => exact ent.elim
  | cons x xs =>
    obtain ⟨⟨yp, sv, av, rfl, sq, h1, h2⟩, _⟩ := ent
    exact ⟨sv, h1, fun σ H j z hj => ev_ixT (ev_ixL (ev_var hj) (sq_of (z _ _ za)) at0) (ex_t z sq) rfl⟩
end
section
variable {P : Program} [hPT : PT P] {w : World} {K : Frag} {mg : Str → Option Value} {base : Heap}
section
variable {σ : L2.St} {d a : Addr} {l : Addr × Addr} {Z H : Hp} {sc pv m : V} {r : Rl} {n : Int} {s0 sh : Sh} {hist : List (Deed × Sh)}
theorem moved_go {ta : TA} {E : XK} {Q : VK} (w : Wd K d l Z H) (s : Sn K a sc pv r n s0 m hist sh Z H) (hS : S0 s0) (hz : hist.length ≤ 60) (h : EvA ta σ H [.ref d, .ref a, pv])
    (k : ∀ x m' hist' sh' Z' H', MvN (SM d l a) Z H Z' H' → Wd K d l Z' H' → Sn K a sc x r n s0 m' hist' sh' Z' H' → hist'.length ≤ hist.length + 1 → Q x H') : tCall (sp_law_moved K) [] E ta σ H Q :=
  call_go h fun H1 e1 => by
    have g : Gr Z H Z H1 := Gr.of w.dz.z e1
    have w1 := w.gr g
    have s1 := s.gr g
    refine ⟨d, l, a, sc, m, pv, hist, sh, s0, Z, rfl, w1.dz, s1.L.hs, s1.L.za, s1.L.hm, hS, s1.j, hz, s1.pa, w1.tb, fun x m' hist' sh' Z' H' xm dz' hs' za' hm' j' len' pa' tb' => ?_⟩
    have xm' : MvN (SM d l a) Z H Z' H' := ⟨xm.z, fun b u q p => xm.k b u (e1 _ _ q) p, fun b u q => xm.n b u (e1 _ _ q), fun b u q => xm.e b u (e1 _ _ q)⟩
    exact k x m' hist' sh' Z' H' xm' ⟨dz', tb'⟩ ⟨⟨hs', za', hm'⟩, j', pa', scaler_n s.S xm.z⟩ len'
theorem v_stands {H : Hp} {sv av : V} (hZ : Ex Z H) (L : Live K Z H a sc m hist sh) (hS : S0 s0) (j : J s0 hist sh) (hz : hist.length ≤ 100) (h1 : SheetAt K Z sv sh) (h2 : LsD K Z av ((dsOf hist).map dDeed)) : SpV (sp_law_stands K) [.ref a, sv, av] H (.bl true) := fun H1 e Q q E =>
  ⟨a, sc, m, sv, av, hist, sh, rfl, L.hs.mv e, MomAt.mv (hZ.trans e) L.hm, j.gd hS hz, h1.mv (hZ.trans e), h2.mv (hZ.trans e), q⟩
/-- not stands(..) -/
theorem et_stands {ja jp : Nat} {E : XK} (hZ : Ex Z H) (s : Sn K a sc pv r n s0 m hist sh Z H) (hS : S0 s0) (hz : hist.length ≤ 100) (ha : σ[ja]? = some (some (.ref a))) (hp : σ[jp]? = some (some pv)) :
    EvT (tNot (tB (tCall (sp_law_stands K) [] E (tCons (tVar ja) (tCons (tOp (rIxT K) (tOp (rIxL K) (tVar jp) (tUn (rU fun i => .int (-i)) (tC (.int 1)))) (tC (.int 0))) (tCons (tOp (rIxT K) (tOp (rIxL K) (tVar jp) (tUn (rU fun i => .int (-i)) (tC (.int 1)))) (tC (.int 1))) tNil)))))) σ H false := by
  obtain ⟨sv, av, h1, h2, ev⟩ := past_last s.pa
  obtain ⟨e1, e2⟩ := ev σ H jp hZ hp
  exact et_is (et_not (et_B (ev_callS (ea_cons (ev_var ha) (ea_cons e1 (ea_cons e2 ea_nil))) (v_stands hZ s.L hS s.j hz h1 h2)))) rfl
/-- goes_on(..) -/
theorem goes_go {ja jp : Nat} {E : XK} {Q : VK} (w : Wd K d l Z H) (s : Sn K a sc pv r n s0 m hist sh Z H) (hS : S0 s0) (o : okR r) (hn : r.least ≤ n ∧ n ≤ r.most) (hz : hist.length ≤ 100) (h1 : σ[1]? = some (some (.ref d))) (ha : σ[ja]? = some (some (.ref a))) (hp : σ[jp]? = some (some pv))
    (k : ∀ Z' H', Mv (DS d l) Z H Z' H' → DZ Z' H' d l → Q (.bl true) H') : tCall (sp_law_goes_on K) [] E (tCons (tVar 1) (tCons (tVar ja) (tCons (tOp (rIxT K) (tOp (rIxL K) (tVar jp) (tUn (rU fun i => .int (-i)) (tC (.int 1)))) (tC (.int 0))) (tCons (tOp (rIxT K) (tOp (rIxL K) (tVar jp) (tUn (rU fun i => .int (-i)) (tC (.int 1)))) (tC (.int 1))) tNil)))) σ H Q := by
  obtain ⟨sv, av, q1, q2, ev⟩ := past_last s.pa
  obtain ⟨e1, e2⟩ := ev σ H jp w.dz.z hp
  refine call_go (ea_cons (ev_var h1) (ea_cons (ev_var ha) (ea_cons e1 (ea_cons e2 ea_nil)))) fun H1 e => ?_
  have g : Gr Z H Z H1 := Gr.of w.dz.z e
  exact ⟨d, l, a, sc, m, sv, av, hist, sh, r, n, Z, rfl, w.dz.gr g, s.L.gr g, s.j.gd hS hz, q1, q2, s.S, o, hn, fun Z' H' mv dz' => k Z' H' ((Mv.gr g).trans mv) dz'⟩
end
theorem asg_go {σ : L2.St} {H : Hp} {te : TE} {i : Nat} {D : Ends} {tz : TS} (h : te σ H fun v H1 => tz D (σ.set i (some v)) H1) : tSeq (tAsg te (gName i)) tz D σ H := h
theorem par3_go {σ : L2.St} {H : Hp} {i j k : Nat} {t1 t2 t3 : TE} {D : Ends} {tz : TS} (h : t1 σ H fun v H1 => t2 σ H1 fun u H2 => t3 σ H2 fun x H3 => ∃ a b c, [v, u, x] = [a, b, c] ∧ tz D (((σ.set i (some a)).set j (some b)).set k (some c)) H3) : tSeq (tPar3 i j k (tCons t1 (tCons t2 (tCons t3 tNil)))) tz D σ H := h
/-- for .. in range(n), n drawn -/
theorem q_forRW {σ : L2.St} {d : Addr} {l : Addr × Addr} {Z H : Hp} {ta : TE} {j : Nat} {D : Ends} {tu tz : TS} {B : Int} (hB : B ≤ 1000) (h : EvW d l ta σ Z (PI fun n => 0 ≤ n ∧ n ≤ B)) (dz : DZ Z H d l)
    (k : ∀ (n : Int) Z1 H1, Mv (DS d l) Z H Z1 H1 → DZ Z1 H1 d l → 0 ≤ n → n ≤ B → ∃ Pv : Nat → L2.St → Hp → Prop, Pv 0 σ H1 ∧ (∀ (i : Nat) σ' H', (i : Int) < n → Pv i σ' H' → tu { D with nx := Pv (i + 1), ct := Pv (i + 1), bk := tz D } (σ'.set j (some (.int (i : Int)))) H') ∧ ∀ σ' H', Pv n.toNat σ' H' → tz D σ' H') :
    tSeq (tFor (iRng1 (tCons ta tNil)) (gName j) tu) tz D σ H := h H dz _ fun v Z1 H1 m1 dz1 ⟨n, ev, n0, n1⟩ => by
  subst ev
  obtain ⟨Pv, h0, hs, hd⟩ := k n Z1 H1 m1 dz1 n0 n1
  exact ⟨n, rfl, by omega, by omega, for_range (lo := 0) (n := n.toNat) Pv h0 (fun i a b hi p => by
    have q := hs i a b (by omega) p
    rw [← Int.zero_add (i : Int)] at q
    exact q) hd⟩
end
end K74

/-! F25 -/
set_option Elab.async false
set_option linter.all false
set_option maxRecDepth 100000
set_option maxHeartbeats 4000000
namespace K74
open PySem PySem.Spec PyProof.Rows L2
open Evl hiding tCut pss_cut
open LamX (ExtN Tabs TabS)
section
variable {P : Program} [hPT : PT P] {w : World} {K : Frag} {mg : Str → Option Value} {base : Heap}
variable {σ : L2.St} {d a : Addr} {l : Addr × Addr} {Z H : Hp} {sc pv rv m : V} {r : Rl} {n : Int} {s0 sh : Sh} {hist : List (Deed × Sh)}
theorem j_start (s : Sh) : J s [] s := ⟨rfl, fun x hx => nomatch hx⟩
theorem s0_first {r : Rl} {n : Int} (o : okR r) (h : r.least ≤ n ∧ n ≤ r.most) : S0 ⟨r, first r n, []⟩ := ⟨okSh_first o h, rfl⟩
/-- [(sheet, [])] -/
theorem past0_go {E : XK} {Q : VK} (w : Wd K d l Z H) (h1 : σ[1]? = some (some (.ref d))) (k : ∀ pv r n Z' H', Wd K d l Z' H' → okR r → (r.least ≤ n ∧ n ≤ r.most) → PastAt K Z' pv [] ⟨r, first r n, []⟩ → Q pv H') :
    tLst (tCons (tTup (tCons (tCall (sp_law_sheet K) [] E (tCons (tVar 1) tNil)) (tCons (tLst tNil) tNil))) tNil) σ H Q :=
  ew_callA (Z := Z) (E := E) (ea_cons (ev_var h1) ea_nil) w_law_sheet sheetW_mono H w.dz _ fun sv Z1 H1 m1 dz1 ⟨r, n, hsv, o, hn⟩ => ⟨Nat.zero_le _, fun p hp => ⟨Nat.le_of_ble_eq_true rfl, fun q hq => ⟨Nat.le_of_ble_eq_true rfl, fun u hu => by
    have w1 := w.dr m1 dz1
    have g1 : Gr Z1 H1 _ _ := Gr.newZ (o := .lst []) dz1.z hp
    have g2 := g1.trans (Gr.newZ (o := .tup [sv, .ref p]) g1.h hq)
    have g3 := g2.trans (Gr.newZ (o := .lst [.ref q]) g2.h hu)
    have z1 : Ex _ (upd (upd Z1 p (.lst [])) q (.tup [sv, .ref p])) := K74.same_new (Same.free g1.h hq)
    have z2 : Ex _ (upd (upd (upd Z1 p (.lst [])) q (.tup [sv, .ref p])) u (.lst [.ref q])) := K74.same_new (Same.free g2.h hu)
    exact k (.ref u) r n _ _ (w1.gr g3) o hn ⟨u, [.ref q], rfl, upd_same, ⟨q, sv, .ref p, rfl, st_of (z2 _ _ upd_same), hsv.mv g3.z, ⟨p, [], rfl, z2 _ _ (z1 _ _ upd_same), .nil⟩⟩, trivial⟩⟩⟩⟩
theorem twin_go {j : Nat} {E : XK} {Q : VK} (w : Wd K d l Z H) (s : Sn K a sc pv r n s0 m hist sh Z H) (o : okR r) (hn : r.least ≤ n ∧ n ≤ r.most) (ha : σ[j]? = some (some (.ref a)))
    (k : ∀ x Z' H' sc', Gr Z H Z' H' → H x = none → Sn K x sc' pv r n s0 m hist sh Z' H' → Q (.ref x) H') : tMeth (He.ga K "Session") "twin" (sp_Session_twin K) [] E (tVar j) tNil σ H Q := by
  obtain ⟨dx, hs⟩ := s.L.hs
  refine meth_go (ev_var ha) hs rfl fun H1 e1 => ?_
  have g : Gr Z H Z H1 := Gr.of w.dz.z e1
  exact ⟨a, sc, m, r, n, Z, rfl, s.L.hs.mv e1, g.h, s.S, o, hn, fun x Z' H' sc' g2 hx hs' z' S' => k x Z' H' sc' (g.trans g2) (fresh_back e1 hx) ⟨⟨hs', z', MomAt.mv g2.z s.L.hm⟩, s.j, s.pa.mv g2.z, S'⟩⟩
/-- plain.do_all(all the deeds) -/
theorem doall_go {ja jp : Nat} {b : Addr} {sb mb : V} {E : XK} {Q : VK} (w : Wd K d l Z H) (L : Live K Z H b sb mb [] s0) (hS : S0 s0) (j : J s0 hist sh) (hz : hist.length ≤ 100) (pa : PastAt K Z pv hist sh) (hb : σ[ja]? = some (some (.ref b))) (hp : σ[jp]? = some (some pv))
    (k : ∀ x m' Z' H', Mv (fun c => c = b) Z H Z' H' → Live K Z' H' b sb m' hist sh → Q x H') :
    tMeth (He.ga K "Session") "do_all" (sp_Session_do_all K) [] E (tVar ja) (tCons (tOp (rIxT K) (tOp (rIxL K) (tVar jp) (tUn (rU fun i => .int (-i)) (tC (.int 1)))) (tC (.int 1))) tNil) σ H Q := by
  obtain ⟨dx, hs⟩ := L.hs
  obtain ⟨sv, av, q1, ⟨c, xs, rfl, zc, dd⟩, ev⟩ := past_last pa
  refine meth_go (ev_var hb) hs rfl fun H1 e1 => cons_go (ev σ H1 jp (w.dz.z.trans e1) hp).2 fun H2 e2 => ?_
  have g : Gr Z H Z H2 := Gr.of w.dz.z (e1.trans e2)
  have L2 := L.gr g
  refine ⟨b, c, sb, mb, xs, dsOf hist, [], hist, s0, sh, Z, rfl, g.h, L2.hs, L2.za, L2.hm, hS.ok, zc, dd, fun x hx => (j.da x hx).dd, by rw [hS.cv, dsOf_len]; show 0 + hist.length ≤ 1000; omega, Chn.run j.c, fun x m' Z' H' mv hs' z' hm' => k x m' Z' H' ((Mv.gr g).trans mv) ⟨hs', z', hm'⟩⟩
theorem eqv_dnil (ds : List Deed) : PyData.eqv (.list (ds.map dDeed)) (.list []) = decide (ds = []) := by
  rw [eqv_lst, show ([] : List PyData) = ([] : List Deed).map dDeed from rfl, eqv_map eqv_dDeed]
theorem sp_eq_ses {H : Hp} {a b : Addr} {o m o' m' : V} {h h' : List (Deed × Sh)} {s s' : Sh} (A : SesH K H a o m) (M : MomAt K H h m s) (B : SesH K H b o' m') (M' : MomAt K H h' m' s') (hz : h.length ≤ 1000) (hz' : h'.length ≤ 1000) : SpV (sp_Session_eq K) [.ref a, .ref b] H (.bl (eqS h s h' s')) := fun H1 e Q q E => ⟨a, o, m, .ref b, h, s, rfl, A.mv e, MomAt.mv e M, hz, .inr ⟨b, o', m', h', s', rfl, B.mv e, MomAt.mv e M', hz', q⟩⟩
/-- Session(origin, hosts) != bench -/
theorem ev_tmpNe {j6 j7 j4 : Nat} {E : XK} (hr : RuleAt K H rv r) (o : okR r) (hn : r.least ≤ n ∧ n ≤ r.most) (A : SesH K H a sc m) (M : MomAt K H hist m sh) (hz : hist.length ≤ 1000) (h6 : σ[j6]? = some (some rv)) (h7 : σ[j7]? = some (some (.int n))) (h4 : σ[j4]? = some (some (.ref a))) :
    Ev (tOp (rOwn K (He.ga K "Session") (sp_Session_eq K) true) (tMake (He.ga K "Session") (sp_Session_init K) [] E (tCons (tVar j6) (tCons (tVar j7) tNil))) (tVar j4)) σ H (.bl (!eqS [] ⟨r, first r n, []⟩ hist sh)) := fun H1 e Q q =>
  sess_go e (ega_v (ev_var h6) (ev_var h7) hr) o hn fun x Z2 H2 sc' m' g2 hx L _ => Ev.to (ev_var h4) fun H3 e3 => by
    obtain ⟨dx, hsx⟩ := (L.ex e3).hs
    have A3 := (A.mv e).mv (g2.same.trans e3)
    obtain ⟨da, hsa⟩ := id A3
    exact ⟨x, dx, _, rfl, hsx, .inr ⟨a, _, _, _, rfl, hsa, nf_self⟩, sp_eq_ses (L.ex e3).hs (MomAt.mv (g2.h.trans e3) L.hm) A3 (MomAt.mv (e.trans (g2.same.trans e3)) M) (Nat.zero_le _) hz H3 (Ex.refl _) _ (fun H4 e4 => ⟨_, rfl, q H4 ((g2.same.trans e3).trans e4)⟩) E0⟩
/-- bench == bench.rule, bench == None -/
theorem ev_eqRule {j : Nat} {E : XK} (T : Txt w K mg) (L : Live K Z H a sc m hist sh) (hZ : Ex Z H) (hz : hist.length ≤ 1000) (ha : σ[j]? = some (some (.ref a))) : Ev (tOp (rOwn K (He.ga K "Session") (sp_Session_eq K) false) (tVar j) (tProp (He.ga K "Session") (sp_Session_rule K) [] E (tVar j))) σ H (.bl false) := by
  obtain ⟨dv, mb, hd⟩ := L.hm.hd
  obtain ⟨dx, hs⟩ := L.hs
  refine ev_opP2 (ep_ev (ev_var ha)) (ep_Session_rule (Z := Z) (ev_var ha) L.hs hZ hd) fun x y ex hy => ?_
  subst ex
  obtain ⟨ra, rdx, rp, rb, rl, rfl, r1, _⟩ := id hy
  exact fun H1 e Q q => ⟨a, dx, _, rfl, e _ _ hs, .inr ⟨ra, _, _, _, rfl, e _ _ (hZ _ _ r1), nf_none T.o_srs⟩, a, sc, m, .ref ra, hist, sh, rfl, L.hs.mv e, MomAt.mv (hZ.trans e) L.hm, hz, .inl ⟨.inr ⟨_, hy.mv (hZ.trans e)⟩, fun H2 e2 => ⟨false, rfl, q H2 e2⟩⟩⟩
theorem ev_eqNone {j : Nat} (T : Txt w K mg) (L : Live K Z H a sc m hist sh) (hZ : Ex Z H) (hz : hist.length ≤ 1000) (ha : σ[j]? = some (some (.ref a))) : Ev (tOp (rOwn K (He.ga K "Session") (sp_Session_eq K) false) (tVar j) (tC .non)) σ H (.bl false) := by
  obtain ⟨dx, hs⟩ := L.hs
  exact ev_op (ev_var ha) ev_c fun H1 e Q q => ⟨a, dx, _, rfl, e _ _ hs, .inl ⟨rfl, nf_none T.o_snn⟩, a, sc, m, .non, hist, sh, rfl, L.hs.mv e, MomAt.mv (hZ.trans e) L.hm, hz, .inl ⟨.inl rfl, fun H2 e2 => ⟨false, rfl, q H2 e2⟩⟩⟩
/-- other.origin != Scaler(origin, hosts) -/
theorem ev_neOrig {j6 j7 j8 : Nat} {E E' : XK} (hr : RuleAt K H rv r) (o : okR r) (hn : r.least ≤ n ∧ n ≤ r.most) (hs : SesH K H a sc m) (hsc : ScalerAt K H sc r n) (h6 : σ[j6]? = some (some rv)) (h7 : σ[j7]? = some (some (.int n))) (h8 : σ[j8]? = some (some (.ref a))) :
    Ev (tOp (rOwn K (He.ga K "Scaler") (sp_Scaler_eq K) true) (tProp (He.ga K "Session") (sp_Session_origin K) [] E (tVar j8)) (tMake (He.ga K "Scaler") (sp_Scaler_init K) [] E' (tCons (tVar j6) (tCons (tVar j7) tNil)))) σ H (.bl false) :=
  ev_opGG (Φ := fun x Z => ScalerAt K Z x r n) (Ψ := fun x Z => ScalerAt K Z x r n) (eg_ev (ev_Session_origin (ev_var h8) hs) hsc) (fun _ _ _ e q => q.mv e) (eg_Scaler (ea_cons (ev_var h6) (ea_cons (ev_var h7) ea_nil)) hr o hn) (fun _ _ _ e q => q.mv e) fun x y H2 p q => by
    obtain ⟨a1, dx1, f1, ru1, rfl, p1, _⟩ := id p
    obtain ⟨a2, dx2, f2, ru2, rfl, p2, _⟩ := id q
    exact fun H3 e3 Q q3 => ⟨a1, _, _, rfl, e3 _ _ p1, .inr ⟨a2, _, _, _, rfl, e3 _ _ p2, nf_self⟩, _, _, r, n, r, n, rfl, p.mv e3, q.mv e3, fun H4 e4 => ⟨_, rfl, by rw [decide_eq_true rfl, decide_eq_true rfl]; exact q3 H4 e4⟩⟩
/-- past[:-1][::-1] -/
theorem rev_go {jp : Nat} {Q : VK} (hZ : Ex Z H) (pa : PastAt K Z pv hist sh) (hp : σ[jp]? = some (some pv)) {te : TE} (ht : te = tSl (rSlL K) (tVar jp) tNoPart (tPart (tUn (rU fun i => .int (-i)) (tC (.int 1)))))
    (k : ∀ q xs Z' H', Gr Z H Z' H' → Z' q = some (.lst xs) → EntAll K Z' xs (revL hist sh) → Q (.ref q) H') : te σ H fun v H1 => ∃ p xs, v = .ref p ∧ SqL K H1 p xs ∧ ∀ q, H1 q = none → Q (.ref q) (upd H1 q (.lst xs.reverse)) := by
  subst ht
  obtain ⟨a, xs, rfl, za, ent⟩ := pa
  refine el_sl (K := K) (ev_var hp) eo_none (eo_some (ev_negI ev_c)) (sq_of (hZ _ _ za)) H (Ex.refl _) _ fun p H1 hp1 e1 l1 => ?_
  rw [cut_but] at l1
  refine ⟨p, _, rfl, sq_of l1, fun q hq => ?_⟩
  have g1 : Gr Z H Z H1 := Gr.of hZ e1
  have g2 := g1.trans (Gr.newZ (o := .lst xs.dropLast.reverse) g1.h hq)
  have e2 : Ex Z (upd Z q (.lst xs.dropLast.reverse)) := g2.z
  refine k q _ _ _ g2 upd_same ?_
  rw [← revL_eq]
  have ne : pastL hist sh ≠ [] := fun e => by
    have := congrArg List.length e
    rw [pastL_len] at this
    cases this
  exact (EntAll.rev (ent.dropLast ne)).n (ExtN.of e2)
theorem tRev_go {jp : Nat} {Q : VK} (hZ : Ex Z H) (pa : PastAt K Z pv hist sh) (hp : σ[jp]? = some (some pv)) (k : ∀ q xs Z' H', Gr Z H Z' H' → Z' q = some (.lst xs) → EntAll K Z' xs (revL hist sh) → Q (.ref q) H') : tRevL K (tSl (rSlL K) (tVar jp) tNoPart (tPart (tUn (rU fun i => .int (-i)) (tC (.int 1))))) σ H Q := rev_go hZ pa hp rfl k
theorem forL_go {tl : TE} {g : TG} {D : Ends} {tu tz : TS} (h : ∀ Q : VK, (∀ q xs Z' H', Gr Z H Z' H' → Z' q = some (.lst xs) → EntAll K Z' xs (revL hist sh) → Q (.ref q) H') → tl σ H Q)
    (k : ∀ q ys Z' H', Gr Z H Z' H' → Z' q = some (.lst ys) → EntAll K Z' ys (revL hist sh) → ∃ Pv : Nat → L2.St → Hp → Prop, Pv 0 σ H' ∧ (∀ i σ' H', i ≤ ys.length → Pv i σ' H' → SqL K H' q ys) ∧ (∀ i x σ' H', ys[i]? = some x → Pv i σ' H' → g x σ' H' fun σ2 H2 => tu { D with nx := Pv (i + 1), ct := Pv (i + 1), bk := tz D } σ2 H2) ∧ ∀ σ' H', Pv ys.length σ' H' → tz D σ' H') :
    tSeq (tFor (iList K tl) g tu) tz D σ H := h _ fun q ys Z' H' g2 zq ent => by
  obtain ⟨Pv, h0, hl, hs, hd⟩ := k q ys Z' H' g2 zq ent
  exact ⟨q, rfl, ⟨ys, sq_of (g2.h _ _ zq)⟩, for_list (D := { D with nx := tz D }) Pv h0 hl hs hd⟩
theorem q_forRev {jp : Nat} {g : TG} {D : Ends} {tu tz : TS} (hZ : Ex Z H) (pa : PastAt K Z pv hist sh) (hp : σ[jp]? = some (some pv))
    (k : ∀ q ys Z' H', Gr Z H Z' H' → Z' q = some (.lst ys) → EntAll K Z' ys (revL hist sh) → ∃ Pv : Nat → L2.St → Hp → Prop, Pv 0 σ H' ∧ (∀ i σ' H', i ≤ ys.length → Pv i σ' H' → SqL K H' q ys) ∧ (∀ i x σ' H', ys[i]? = some x → Pv i σ' H' → g x σ' H' fun σ2 H2 => tu { D with nx := Pv (i + 1), ct := Pv (i + 1), bk := tz D } σ2 H2) ∧ ∀ σ' H', Pv ys.length σ' H' → tz D σ' H') :
    tSeq (tFor (iList K (tRevL K (tSl (rSlL K) (tVar jp) tNoPart (tPart (tUn (rU fun i => .int (-i)) (tC (.int 1))))))) g tu) tz D σ H :=
  forL_go (fun Q kq => tRev_go hZ pa hp kq) k
/-- bench.do(('undo',)) -/
theorem undo_go {tx : TE} {E : XK} {Q : VK} {dd : Deed} {s1 : Sh} {h0 : List (Deed × Sh)} (hZ : Ex Z H) (L : Live K Z H a sc m ((dd, s1) :: h0) sh) (ok : OkSh sh) (cz : sh.cv.length ≤ 1000) (hx : Ev tx σ H (.ref a))
    (k : ∀ x m' Z' H', Mv (fun b => b = a) Z H Z' H' → Live K Z' H' a sc m' h0 s1 → Q x H') : tMeth (He.ga K "Session") "do" (sp_Session_do K) [] E tx (tCons (tTup (tCons (tC (.str "undo")) tNil)) tNil) σ H Q := by
  obtain ⟨dx, hs⟩ := L.hs
  refine meth_go hx hs rfl fun H1 e1 => ⟨Nat.le_of_ble_eq_true rfl, fun p hp => ?_⟩
  have g2 : Gr Z H Z H1 := Gr.of hZ e1
  have g3 := g2.trans (Gr.newZ (o := .tup [.str "undo"]) g2.h hp)
  have L3 := L.gr g3
  exact ⟨a, .ref p, sc, m, _, sh, upd Z p (.tup [.str "undo"]), rfl, g3.h, L3.hs, L3.za, L3.hm, ok, cz, .inr ⟨Dp.newT (.cons (.str _) .nil) (Same.free g2.h hp), dd, s1, h0, rfl, fun m' Z4 H4 mv4 hs4 z4 hm4 => k _ m' Z4 H4 ((Mv.gr g3).trans mv4) ⟨hs4, z4, hm4⟩⟩⟩
end
end K74

/-! F26 -/
set_option Elab.async false
set_option linter.all false
set_option maxRecDepth 100000
set_option maxHeartbeats 8000000
namespace K74
open PySem PySem.Spec PyProof.Rows L2
open Evl hiding tCut pss_cut
open LamX (ExtN Tabs TabS)
section
variable {P : Program} [hPT : PT P] {w : World} {K : Frag} {mg : Str → Option Value} {base : Heap}
/-! law -/
def sp_law (K : Frag) : Sp := fun vs H Q _ => ∃ (a : Addr) (cells : List Int), vs = [.ref a] ∧ SqL K H a (cells.map V.int) ∧ cells.length ≤ 63 ∧ Tabs (tbs K) H ∧ ∀ H', Q (.bl true) H'
theorem sc_law : FnScope ["_law_script", "_law_draw", "_law_turn", "_law_past", "_law_bench", "_law_lap", "_law_origin", "_law_hosts", "_law_other", "_law_plain", "_law_apart", "_law_sheet_here", "_law_acts"] ["_law_script"] (defScope s_law) := ⟨rfl, rfl, rfl, by decide +kernel, rfl, by decide +kernel, by decide +kernel⟩
theorem ok_law (T : Txt w K mg) (TB : LamX.TabB base mg (He.codeOf K ("_law_moved", none)) (tP K)) : GB P w K mg base 17 (He.ga K "law") ["_law_script"] (sp_law K) := by
  refine GB.of T.F_law sc_law (fun _ _ _ _ _ _ us hl => match us, hl with | [_], _ => rfl) (by rintro vs H Q E ⟨_, _, rfl, _⟩; rfl) (fun cdv A outer s H vs Q E hgd hr h => ?_)
  refine ⟨_, (pss_cons (ps_set (i := 1) sc_law.nd rfl (Or.inl rfl) (pe_callF (ok_law_begin T) (hr.mono (by decide)) (by rfl) T.g_law_begin passL (pa_cons (pv 0) pa_nil)))
    (pss_cons (ps_for (passes_of rfl) rfl (pi_range1 (by rfl) T.f_range (pa_cons (pe_op op_add pe_int (pe_callB (call_min2 rfl) (by rfl) T.f_min (by decide +kernel) (pa_cons (pe_callB call_len_seq (by rfl) T.f_len (by decide +kernel) (pa_cons (pv 0) pa_nil)) (pa_cons pe_int pa_nil)))) pa_nil)) (pg_name (i := 2) sc_law.nd rfl (Or.inl rfl))
    (pss_cons (ps_set (i := 3) sc_law.nd rfl (Or.inl rfl) (pe_lst (pa_cons (pe_tup (pa_cons (pe_callF (ok_law_sheet T) (hr.mono (by decide)) (by rfl) T.g_law_sheet passL (pa_cons (pv 1) pa_nil)) (pa_cons (pe_lst pa_nil) pa_nil))) pa_nil)))
    (pss_cons (ps_par rfl sc_law.nd (i := 6) (j := 7) rfl rfl (by decide) rfl rfl (pa_cons (pe_callF (ok_law_rule T) (hr.mono (by decide)) (by rfl) T.g_law_rule passL (pa_cons (pe_dget (hu_of hr) (pe_ix ix_tup (pe_ix ix_list (pv 3) pe_int (fun _ _ => rfl)) pe_int (fun _ _ => rfl)) pe_str (fun _ _ => rfl)) pa_nil)) (pa_cons (pe_ix ix_tup (pe_dget (hu_of hr) (pe_ix ix_tup (pe_ix ix_list (pv 3) pe_int (fun _ _ => rfl)) pe_int (fun _ _ => rfl)) pe_str (fun _ _ => rfl)) pe_int (fun _ _ => rfl)) pa_nil)) (by rfl))
    (pss_cons (ps_set (i := 4) sc_law.nd rfl (Or.inl rfl) (pe_makeF T.mk_Session (ok_Session_init T) (hr.mono (by decide)) (by rfl) T.g_Session passL (pa_cons (pv 6) (pa_cons (pv 7) pa_nil))))
    (pss_cons (ps_for (passes_of rfl) rfl (pi_range1 (by rfl) T.f_range (pa_cons (pe_op op_add pe_int (pe_callF (ok_law_take T) (hr.mono (by decide)) (by rfl) T.g_law_take passL (pa_cons (pv 1) (pa_cons pe_int pa_nil)))) pa_nil)) (pg_name (i := 5) sc_law.nd rfl (Or.inl rfl))
    (pss_cons (ps_set (i := 3) sc_law.nd rfl (Or.inl rfl) (pe_callF (ok_law_moved T TB) (hr.mono (by decide)) (by rfl) T.g_law_moved passL (pa_cons (pv 1) (pa_cons (pv 4) (pa_cons (pv 3) pa_nil)))))
    (pss_one (ps_if (pt_not (pt_val (pe_callG (ok_law_stands T) hgd (hr.mono (by decide)) (by rfl) T.g_law_stands passL (pa_cons (pv 4) (pa_cons (pe_ix ix_tup (pe_ix ix_list (pv 3) (pe_un un_neg pe_int) (fun _ _ => rfl)) pe_int (fun _ _ => rfl)) (pa_cons (pe_ix ix_tup (pe_ix ix_list (pv 3) (pe_un un_neg pe_int) (fun _ _ => rfl)) pe_int (fun _ _ => rfl)) pa_nil))))))
    (pss_one (ps_ret pe_bl))
    pss_nil))))
    (pss_cons (ps_par3 rfl sc_law.nd (i := 8) (j := 9) (l := 10) rfl rfl rfl (by decide) (by decide) (by decide) rfl rfl rfl (pa_cons (pe_meth0F (pv 4) T.c_Session T.m_Session_twin (ok_Session_twin T) (hr.mono (by decide)) passL) (pa_cons (pe_makeF T.mk_Session (ok_Session_init T) (hr.mono (by decide)) (by rfl) T.g_Session passL (pa_cons (pv 6) (pa_cons (pv 7) pa_nil))) (pa_cons (pv 3) pa_nil))) (by rfl))
    (pss_cons (ps_expr (pe_methF (pv 9) T.c_Session T.m_Session_do_all (ok_Session_do_all T) (hr.mono (by decide)) passL (pa_cons (pe_ix ix_tup (pe_ix ix_list (pv 3) (pe_un un_neg pe_int) (fun _ _ => rfl)) pe_int (fun _ _ => rfl)) pa_nil)))
    (pss_cons (ps_if (PW.pt (pw_or (pt_cmpR (op_neO (eqc_Session T) (ok_Session_eq T) (hr.mono (by decide))) (pv 8) (pv 4) (nomark _)) (pw_or (pt_cmpR (op_neO (eqc_Session T) (ok_Session_eq T) (hr.mono (by decide))) (pv 9) (pv 4) (nomark _)) (pw_or1 (pt_cmpR op_ne (pe_cmpR (op_neD hr.units) (pe_ix ix_tup (pe_ix ix_list (pv 3) (pe_un un_neg pe_int) (fun _ _ => rfl)) pe_int (fun _ _ => rfl)) (pe_lst pa_nil) (nomark _)) (pe_cmpR (op_neO (eqc_Session T) (ok_Session_eq T) (hr.mono (by decide))) (pe_makeF T.mk_Session (ok_Session_init T) (hr.mono (by decide)) (by rfl) T.g_Session passL (pa_cons (pv 6) (pa_cons (pv 7) pa_nil))) (pv 4) (nomark _)) (nomark _))))))
    (pss_one (ps_ret pe_bl))
    pss_nil)
    (pss_cons (ps_for (passes_of rfl) rfl (pi_range1 (by rfl) T.f_range (pa_cons pe_int pa_nil)) (pg_name (i := 5) sc_law.nd rfl (Or.inl rfl))
    (pss_one (ps_set (i := 10) sc_law.nd rfl (Or.inl rfl) (pe_callF (ok_law_moved T TB) (hr.mono (by decide)) (by rfl) T.g_law_moved passL (pa_cons (pv 1) (pa_cons (pv 8) (pa_cons (pv 10) pa_nil)))))))
    (pss_cons (ps_if (PW.pt (pw_or (pt_not (pt_val (pe_callG (ok_law_goes_on T) hgd (hr.mono (by decide)) (by rfl) T.g_law_goes_on passL (pa_cons (pv 1) (pa_cons (pv 8) (pa_cons (pe_ix ix_tup (pe_ix ix_list (pv 10) (pe_un un_neg pe_int) (fun _ _ => rfl)) pe_int (fun _ _ => rfl)) (pa_cons (pe_ix ix_tup (pe_ix ix_list (pv 10) (pe_un un_neg pe_int) (fun _ _ => rfl)) pe_int (fun _ _ => rfl)) pa_nil))))))) (pw_or (pt_cmpR (op_eqO (eqc_Session T) (ok_Session_eq T) (hr.mono (by decide))) (pv 4) (pe_propF (pv 4) T.c_Session (T.p_Session_rule).2 (ok_Session_rule T) (hr.mono (by decide))) (nomark _)) (pw_or1 (pt_cmpR (op_eqO (eqc_Session T) (ok_Session_eq T) (hr.mono (by decide))) (pv 4) pe_non (nomark _))))))
    (pss_one (ps_ret pe_bl))
    pss_nil)
    (pss_cons (ps_if (pt_not (pt_val (pe_callG (ok_law_goes_on T) hgd (hr.mono (by decide)) (by rfl) T.g_law_goes_on passL (pa_cons (pv 1) (pa_cons (pv 4) (pa_cons (pe_ix ix_tup (pe_ix ix_list (pv 3) (pe_un un_neg pe_int) (fun _ _ => rfl)) pe_int (fun _ _ => rfl)) (pa_cons (pe_ix ix_tup (pe_ix ix_list (pv 3) (pe_un un_neg pe_int) (fun _ _ => rfl)) pe_int (fun _ _ => rfl)) pa_nil)))))))
    (pss_one (ps_ret pe_bl))
    pss_nil)
    (pss_cons (ps_for (passes_of rfl) rfl (pi_list (pe_revL (pe_slice sl_list (pv 3) po_none (po_some (pe_un un_neg pe_int))))) (pg_tup rfl (pgs_cons (pg_name (i := 11) sc_law.nd rfl (Or.inl rfl)) (pgs_cons (pg_name (i := 12) sc_law.nd rfl (Or.inl rfl)) pgs_nil)))
    (pss_cons (ps_expr (pe_methF (pv 4) T.c_Session T.m_Session_do (ok_Session_do T) (hr.mono (by decide)) passL (pa_cons (pe_tup (pa_cons pe_str pa_nil)) pa_nil)))
    (pss_one (ps_if (pt_not (pt_val (pe_callG (ok_law_stands T) hgd (hr.mono (by decide)) (by rfl) T.g_law_stands passL (pa_cons (pv 4) (pa_cons (pv 11) (pa_cons (pv 12) pa_nil))))))
    (pss_one (ps_ret pe_bl))
    pss_nil))))
    (pss_cons (ps_if (PW.pt (pw_or (pt_cmpR (op_neO (eqc_Scaler T) (ok_Scaler_eq T) (hr.mono (by decide))) (pe_propF (pv 8) T.c_Session (T.p_Session_origin).2 (ok_Session_origin T) (hr.mono (by decide))) (pe_makeF T.mk_Scaler (ok_Scaler_init T) (hr.mono (by decide)) (by rfl) T.g_Scaler passL (pa_cons (pv 6) (pa_cons (pv 7) pa_nil))) (nomark _)) (pw_or1 (pt_not (pt_val (pe_callG (ok_law_stands T) hgd (hr.mono (by decide)) (by rfl) T.g_law_stands passL (pa_cons (pv 8) (pa_cons (pe_ix ix_tup (pe_ix ix_list (pv 10) (pe_un un_neg pe_int) (fun _ _ => rfl)) pe_int (fun _ _ => rfl)) (pa_cons (pe_ix ix_tup (pe_ix ix_list (pv 10) (pe_un un_neg pe_int) (fun _ _ => rfl)) pe_int (fun _ _ => rfl)) pa_nil)))))))))
    (pss_one (ps_ret pe_bl))
    pss_nil)
    (pss_one (ps_if (pt_not (pt_val (pe_callF (ok_law_equal_right T) (hr.mono (by decide)) (by rfl) T.g_law_equal_right passL (pa_cons (pv 1) (pa_cons (pe_dget (hu_of hr) (pe_ix ix_tup (pe_ix ix_list (pv 3) pe_int (fun _ _ => rfl)) pe_int (fun _ _ => rfl)) pe_str (fun _ _ => rfl)) (pa_cons (pv 7) pa_nil))))))
    (pss_one (ps_ret pe_bl))
    pss_nil)))))))))))))))
    (pss_one (ps_ret pe_bl)))), ?_⟩
  obtain ⟨a, cells, rfl, sq, hcz, tb, k⟩ := h
  refine asg_go ?_
  refine call_go (ea_cons (ev_var rfl) ea_nil) fun H0 e0 => ⟨a, cells, fun _ => none, rfl, (fun b u q => nomatch q), ex_l e0 sq, hcz, fun d l H1 e1 hd hl1 dr => ?_⟩
  have w1 : Wd K d l (fun _ => none) H1 := ⟨⟨(fun b u q => nomatch q), dr, rfl, rfl⟩, tb.ext (e0.trans e1)⟩
  have sq1 := ex_l (e0.trans e1) sq
  refine q_forR1 (ea_cons (ev_I ev_c (ev_min2 (ev_len (ev_var rfl) sq1) ev_c)) ea_nil) ⟨by split <;> omega, by split <;> omega⟩ (fun t σ' H' => ∃ (o2 o3 o4 o5 o6 o7 o8 o9 o10 o11 o12 : Option V) (Zi : Hp), σ' = [some (.ref a), some (.ref d), o2, o3, o4, o5, o6, o7, o8, o9, o10, o11, o12] ∧ Wd K d l Zi H') (fun H2 e2 => ⟨_, _, _, _, _, _, _, _, _, _, _, _, rfl, w1.ex e2⟩) (fun t σ' H' ht ⟨o2, o3, o4, o5, o6, o7, o8, o9, o10, o11, o12, Zi, es, wi⟩ => ?_) (fun σ' H' ⟨o2, o3, o4, o5, o6, o7, o8, o9, o10, o11, o12, Zi, es, wi⟩ => ?_)
  · subst es
    refine asg_go ?_
    refine past0_go wi rfl fun pv0 r n Z1 H1 w1 o hn pa0 => ?_
    have hS := s0_first o hn
    obtain ⟨sv0, hsv0, ev0⟩ := past_first pa0 (j_start _)
    obtain ⟨sa, c, ss, cl, rfl, s1, s2, s3, s4⟩ := id hsv0
    refine par2_go ?_
    refine eg_call (Z := Z1) (ea_cons (ev_dget (ev0 _ _ 3 (Ex.refl _) rfl) s1 rfl) ea_nil) (gr_law_rule s2 o) rule_mono H1 w1.dz.z _ fun rv Z2 H2 g2 hr => ?_
    have w2 := w1.gr g2
    obtain ⟨sta, stb, rfl, sqs, _⟩ := st_at s3
    refine Ev.to (ev_ixT (ev_dget (ev0 _ _ 3 (g2.z.trans w2.dz.z) rfl) (w2.dz.z _ _ (g2.z _ _ s1)) rfl) (ex_t (g2.z.trans w2.dz.z) sqs) rfl) fun H3 e3 => ⟨_, _, rfl, ?_⟩
    have w3 := w2.ex e3
    refine asg_go ?_
    refine sess_go w3.dz.z (ega_v (ev_var rfl) (ev_var rfl) hr) o hn fun be Z4 H4 sc m4 g4 hbe L4 S4 => ?_
    have w4 := w3.gr g4
    have hr4 := hr.mv g4.z
    have sn4 : Sn K be sc pv0 r n ⟨r, first r n, []⟩ m4 [] ⟨r, first r n, []⟩ Z4 H4 := ⟨L4, j_start _, pa0.mv (g2.z.trans g4.z), S4⟩
    -- up to thirty deeds
    refine q_forRW (B := 30) (by decide) (ew_I (A := fun i => i = 1) (B := fun i => 0 ≤ i ∧ i < 30) (C := fun i => 0 ≤ i ∧ i ≤ 30) (ew_c rfl) (ew_takeC rfl ⟨by decide, by decide⟩ fun r r0 r1 => ⟨r0, r1⟩) fun i j hi hj => by omega) w4.dz fun nn Z5 H5 m5 dz5 nn0 nn1 => ⟨fun i σ' H' => ∃ (o5 : Option V) (pv m : V) (hist : List (Deed × Sh)) (sh : Sh) (Zi : Hp), σ' = [some (.ref a), some (.ref d), some (.int (t : Int)), some pv, some (.ref be), o5, some rv, some (.int n), o8, o9, o10, o11, o12] ∧ Wd K d l Zi H' ∧ Sn K be sc pv r n ⟨r, first r n, []⟩ m hist sh Zi H' ∧ RuleAt K Zi rv r ∧ hist.length ≤ i,
      ⟨_, pv0, m4, [], _, Z5, rfl, w4.dr m5 dz5, sn4.dr w4.dz m5, hr4.mv m5.z, Nat.le_refl _⟩, fun i σ' H' hi ⟨o5, pv, m, hist, sh, Zi, es, wi, si, ri, hz⟩ => ?_, fun σ' H' ⟨o5, pv, m, hist, sh, Z6, es, w6, s6, r6, hz⟩ => ?_⟩
    · subst es
      refine asg_go ?_
      refine moved_go wi si hS (by omega) (ea_cons (ev_var rfl) (ea_cons (ev_var rfl) (ea_cons (ev_var rfl) ea_nil))) fun x m' hist' sh' Z' H' xm w' s' len' => ?_
      refine s_when (b := false) (et_stands w'.dz.z s' hS (by omega) rfl rfl) (fun h => nomatch h) fun _ H'' e'' => ?_
      exact ⟨_, x, m', hist', sh', Z', rfl, w'.ex e'', s'.ex e'', rule_n ri xm.z, by omega⟩
    · subst es
      have hz30 : hist.length ≤ 30 := by omega
      -- a twin, a plain one
      refine par3_go ?_
      refine twin_go w6 s6 o hn rfl fun ot Z7 H7 sc7 g7 hot s7 => ?_
      have w7 := w6.gr g7
      have b7 := s6.gr g7
      have r7 := r6.mv g7.z
      refine sess_go w7.dz.z (ega_v (ev_var rfl) (ev_var rfl) r7) o hn fun pl Z8 H8 sc8 m8 g8 hpl L8 _ => ?_
      have w8 := w7.gr g8
      refine Ev.to (ev_var rfl) fun H9 e9 => ⟨_, _, _, rfl, ?_⟩
      have w9 := w8.ex e9
      have b9 := (b7.gr g8).ex e9
      have t9 := (s7.gr g8).ex e9
      have L9 := L8.ex e9
      have r9 := r7.mv g8.z
      have nbo : be ≠ ot := s6.L.ne hot
      have nbp : be ≠ pl := b7.L.ne hpl
      have nop : ot ≠ pl := s7.L.ne hpl
      refine doall_go w9 L9 hS b9.j (by omega) b9.pa rfl rfl fun x m10 Z10 H10 mv10 L10 => ?_
      have w10 := w9.se L9.hs mv10
      have b10 := b9.se nbp mv10
      have t10 := t9.se nop mv10
      have r10 := r9.mv mv10.z
      have rH := r10.mv w10.dz.z
      obtain ⟨sv, av, _, ⟨ca, cxs, rfl, zc, dd⟩, evl⟩ := past_last b10.pa
      have hev := evl [some (.ref a), some (.ref d), some (.int (t : Int)), some pv, some (.ref be), o5, some rv, some (.int n), some (.ref ot), some (.ref pl), some pv, o11, o12] H10 3 w10.dz.z rfl
      refine q_when (b := false) (et_is (et_or (et_test (ev_neSes w10.dz.z (ev_var rfl) (ev_var rfl) t10.L b10.L (by omega) (by omega))) fun _ => et_or (et_test (ev_neSes w10.dz.z (ev_var rfl) (ev_var rfl) L10 b10.L (by omega) (by omega))) fun _ =>
        et_test (ev_ne (x := .bl (!decide (dsOf hist = []))) (ev_opL hev.2 (el_lst ea_nil (Nat.zero_le _)) fun q H11 hq e11 H12 e12 Q k12 => ⟨_, _, .lst (sq_of (e12 _ _ (e11 _ _ (w10.dz.z _ _ zc)))) (dd.mv (w10.dz.z.trans (e11.trans e12))), .lst (sq_of (e12 _ _ hq)) .nil, shp_deeds _, shp_deeds [], by rw [eqv_dnil]; exact k12 _ (Ex.refl _)⟩)
          (ev_tmpNe rH o hn b10.L.hs (MomAt.mv w10.dz.z b10.L.hm) (by omega) rfl rfl rfl) rfl)) ?_) (fun h => nomatch h) fun _ H11 e11 => ?_
      · rw [eqS_self _ _ _ rfl]
        have same : (!decide (dsOf hist = [])) = !eqS [] ⟨r, first r n, []⟩ hist sh := by
          cases hist with
          | nil =>
            have e : sh = ⟨r, first r n, []⟩ := b10.j.c
            rw [e, eqS_self _ _ _ rfl]
            rfl
          | cons q h =>
            have ne : dsOf ([] : List (Deed × Sh)) ≠ dsOf (q :: h) := fun e => by
              have := congrArg List.length e
              rw [dsOf_len, dsOf_len] at this
              cases this
            rw [eqS_ds ne, decide_eq_false (fun e => ne e.symm)]
        rw [same, decide_eq_true rfl]
        rfl
      · have w11 := w10.ex e11
        have b11 := b10.ex e11
        have t11 := t10.ex e11
        -- the twin goes on by itself
        refine q_forR1 (ea_cons ev_c ea_nil) ⟨by decide, by decide⟩ (fun i σ' H' => ∃ (o5 : Option V) (apv m' : V) (hist' : List (Deed × Sh)) (sh' : Sh) (Zi : Hp), σ' = [some (.ref a), some (.ref d), some (.int (t : Int)), some pv, some (.ref be), o5, some rv, some (.int n), some (.ref ot), some (.ref pl), some apv, o11, o12] ∧ Wd K d l Zi H' ∧ Sn K be sc pv r n ⟨r, first r n, []⟩ m hist sh Zi H' ∧ Sn K ot sc7 apv r n ⟨r, first r n, []⟩ m' hist' sh' Zi H' ∧ RuleAt K Zi rv r ∧ hist'.length ≤ 30 + i)
          (fun H12 e12 => ⟨_, pv, m, hist, sh, Z10, rfl, w11.ex e12, b11.ex e12, t11.ex e12, r10, by omega⟩) (fun i σ' H' hi ⟨o5, apv, m', hist', sh', Zi, es, wi, bi, ti, ri, hz'⟩ => ?_) (fun σ' H' ⟨o5, apv, m', hist', sh', Z12, es, w12, b12, t12, r12, hz'⟩ => ?_)
        · subst es
          refine moved_go wi ti hS (by omega) (ea_cons (ev_var rfl) (ea_cons (ev_var rfl) (ea_cons (ev_var rfl) ea_nil))) fun x m2 hist2 sh2 Z' H' xm w' t' len' => ?_
          exact ⟨_, x, m2, hist2, sh2, Z', rfl, w', bi.mvn wi.dz nbo xm, t', rule_n ri xm.z, by omega⟩
        · subst es
          have hz33 : hist'.length ≤ 33 := hz'
          refine goes_go w12 t12 hS o hn (by omega) rfl rfl rfl fun Z13 H13 m13 dz13 => ⟨true, rfl, ?_⟩
          have w13 := w12.dr m13 dz13
          have b13 := b12.dr w12.dz m13
          have t13 := t12.dr w12.dz m13
          have r13 := r12.mv m13.z
          dsimp only
          rw [if_neg (show ¬ (!true) = true by decide)]
          refine EvT.to (b := false) (et_is (et_or (et_test (ev_eqRule T b13.L w13.dz.z (by omega) rfl)) fun _ => et_test (ev_eqNone T b13.L w13.dz.z (by omega) rfl)) rfl) fun H14 e14 => ?_
          rw [if_neg Bool.false_ne_true]
          have w14 := w13.ex e14
          have b14 := b13.ex e14
          have t14 := t13.ex e14
          refine goes_go w14 b14 hS o hn (by omega) rfl rfl rfl fun Z15 H15 m15 dz15 => ⟨true, rfl, ?_⟩
          dsimp only
          rw [if_neg (show ¬ (!true) = true by decide)]
          have w15 := w14.dr m15 dz15
          have b15 := b14.dr w14.dz m15
          have t15 := t14.dr w14.dz m15
          have r15 := r13.mv m15.z
          -- back to the beginning
          unfold L2.tNext
          dsimp only
          refine q_forRev w15.dz.z b15.pa rfl fun q ys Z16 H16 g16 zq entr => ?_
          have w16 := w15.gr g16
          have b16 := b15.gr g16
          have t16 := t15.gr g16
          refine ⟨fun i σ' H' => ∃ (o11 o12 : Option V) (m2 : V) (h2 : List (Deed × Sh)) (s2 : Sh) (Zi : Hp), σ' = [some (.ref a), some (.ref d), some (.int (t : Int)), some pv, some (.ref be), o5, some rv, some (.int n), some (.ref ot), some (.ref pl), some apv, o11, o12] ∧ Wd K d l Zi H' ∧ Live K Zi H' be sc m2 h2 s2 ∧ J ⟨r, first r n, []⟩ h2 s2 ∧ EntAll K Zi (ys.drop i) (revL h2 s2) ∧ h2.length ≤ 30 ∧ Sn K ot sc7 apv r n ⟨r, first r n, []⟩ m' hist' sh' Zi H' ∧ PastAt K Zi pv hist sh ∧ RuleAt K Zi rv r ∧ Zi q = some (.lst ys),
            ⟨_, _, m, hist, sh, Z16, rfl, w16, b16.L, b16.j, entr, hz30, t16, b16.pa, r15.mv g16.z, zq⟩, fun i σ' H' _ ⟨_, _, _, _, _, Zi, _, wi, _, _, _, _, _, _, _, zi⟩ => sq_of (wi.dz.z _ _ zi), fun i x σ' H' hx ⟨o11, o12, m2, h2, s2, Zi, es, wi, Li, ji, enti, hzi, ti, pai, ri, zi⟩ => ?_, fun σ' H' ⟨o11, o12, m2, h2, s2, Zi, es, wi, Li, ji, enti, hzi, ti, pai, ri, zi⟩ => ?_⟩
          · subst es
            have hil : i < ys.length := (List.getElem?_eq_some_iff.mp hx).1
            rw [List.drop_eq_getElem_cons hil, (List.getElem?_eq_some_iff.mp hx).2] at enti
            cases h2 with
            | nil => exact enti.elim
            | cons hd h0 =>
              obtain ⟨dd, s1⟩ := hd
              obtain ⟨⟨p, sv, av, rfl, sqp, hsv, hav⟩, entr2⟩ := (show EntAt K Zi x (s1, dsOf h0) ∧ EntAll K Zi (ys.drop (i + 1)) (revL h0 s1) from enti)
              refine ⟨p, _, rfl, sqT_mv sqp wi.dz.z, rfl, _, _, rfl, _, _, rfl, rfl, ?_⟩
              have gdi := ji.gd hS (by omega)
              refine undo_go wi.dz.z Li gdi.ok (by have := gdi.cz; omega) (ev_var rfl) fun x m3 Z' H' mv L' => ?_
              have w' := wi.se Li.hs mv
              have t' := ti.se (Ne.symm nbo) mv
              have hz0 : h0.length ≤ 30 := by rw [List.length_cons] at hzi; omega
              refine s_when (b := false) (et_is (et_not (et_B (ev_callS (ea_cons (ev_var rfl) (ea_cons (ev_var rfl) (ea_cons (ev_var rfl) ea_nil))) (v_stands w'.dz.z L' hS ji.tail.1 (by omega) (hsv.mv mv.z) (hav.mv mv.z))))) rfl) (fun h => nomatch h) fun _ H'' e'' => ?_
              exact ⟨_, _, m3, h0, s1, Z', rfl, w'.ex e'', L'.ex e'', ji.tail.1, entr2.n (ExtN.of mv.z), hz0, t'.ex e'', pai.mv mv.z, ri.mv mv.z, mv.z _ _ zi⟩
          · subst es
            have rHi := ri.mv wi.dz.z
            refine q_when (b := false) (et_is (et_or (et_test (ev_neOrig rHi o hn ti.L.hs (ti.S.mv wi.dz.z) rfl rfl rfl)) fun _ => et_stands wi.dz.z ti hS (by omega) rfl rfl) rfl) (fun h => nomatch h) fun _ H17 e17 => ?_
            have w17 := wi.ex e17
            obtain ⟨sv1, hsv1, ev1⟩ := past_first pai b16.j
            obtain ⟨sa1, c1, ss1, cl1, rfl, u1, u2, _⟩ := id hsv1
            refine call_go (ea_cons (ev_var rfl) (ea_cons (ev_dget (ev1 _ H17 3 w17.dz.z rfl) (w17.dz.z _ _ u1) rfl) (ea_cons (ev_var rfl) ea_nil))) fun H18 e18 => ?_
            have w18 := w17.ex e18
            refine ⟨d, l, c1, r, n, Zi, rfl, w18.dz, u2, o, hn, fun Z' H' mv dz' => ⟨true, rfl, ?_⟩⟩
            dsimp only
            rw [if_neg (show ¬ (!true) = true by decide)]
            exact ⟨_, _, _, _, _, _, _, _, _, _, _, Z', rfl, w18.dr mv dz'⟩
  · subst es
    exact s_ret ev_c fun H2 e2 => k H2
end
end K74

/-! L1 -/
set_option Elab.async false
set_option linter.all false
set_option maxRecDepth 100000
set_option maxHeartbeats 4000000
namespace K74
open PySem PySem.Spec PyProof.Rows L2
/-! ### the end: a def whose body shows values (GB), one table of code objects -/
section
variable {P : Program} {w : World} {K : Frag} {mg mb : Str → Option Value} {k : Nat} {fa a c tp : Addr} {x : Str} {sp : Sp} {s : Shared} {vs : List Value} {ns : List Int}
/-- what is tracked at the start: the table; the script, if no fact tells it -/
def startH (K : Frag) (a tp : Addr) (vs : List Value) (ns : List Int) : Hp := fun b => if b = tp then some (.tbl #[]) else if b = a ∧ K.lookup a = none then some (.frz { cls := .type "list", data := .seq vs.toArray } (.lst (ns.map V.int))) else none
theorem startH_tp : startH K a tp vs ns tp = some (.tbl #[]) := if_pos rfl
theorem startH_cases {b : Addr} {u : HO} (h : startH K a tp vs ns b = some u) : (b = tp ∧ u = .tbl #[]) ∨ (b ≠ tp ∧ b = a ∧ K.lookup a = none ∧ u = .frz { cls := .type "list", data := .seq vs.toArray } (.lst (ns.map V.int))) := by
  unfold startH at h
  split at h
  · rename_i e; exact .inl ⟨e, (Option.some.inj h).symm⟩
  · rename_i n
    split at h
    · rename_i e; exact .inr ⟨n, e.1, e.2, (Option.some.inj h).symm⟩
    · cases h
theorem startH_none {b : Addr} (h1 : b ≠ tp) (h2 : ¬ (b = a ∧ K.lookup a = none)) : startH K a tp vs ns b = none := by
  unfold startH
  rw [if_neg h1, if_neg h2]
theorem law_end (KX : K.In s.heap) (hns : s.heap.Ns mainGlobals mg) (hb : s.heap.Ns builtinsNs mb) (hbb : ∀ y : Str, y ≠ "__name__" → mb y = bootBuiltins y) (hlim : s.heap.NoLimit) (hg : s.gens = #[])
    (hT : s.heap.get? tp = some { cls := .none, data := .fields #[] }) (nT : K.lookup tp = none) (C : PySem.W.codeHdIn K c tp = true)
    (hbm : ∃ (bm : Addr) (ob : Obj), mg "__builtins__" = some (.ref bm) ∧ bm ≠ builtinsNs ∧ s.heap.get? bm = some ob ∧ ob.cls = .type "module" ∧ ob.dict = some builtinsNs ∧ ob.data = .plain)
    (ha : s.heap.get? a = some { cls := .type "list", data := .seq vs.toArray }) (hi : IntsAre vs ns) (hl : ns.length ≤ sizeLine) (hr : Room k callerA)
    (F : ∀ base : Heap, K.In base → base.Ns mainGlobals mg → LamX.TabB base mg c tp → GB P w K mg base k fa [x] sp)
    (hsp : ∀ H : Hp, H tp = some (.tbl #[]) → SqL K H a (ns.map V.int) → sp [.ref a] H (fun v _ => v = .bl true) fun _ _ _ => False) :
    codeAny (model P w) callerA (.call (.ref fa) ⟨[.ref a], []⟩) (fun r s' => r = .ok (.ret (.bool true)) ∧ OldK s.heap s'.heap ∧ s'.os = s.os ∧ AllBare s'.gens) s := by
  have rv := vals_ints hi
  have lv : vs.length = ns.length := hi.length
  have nta : tp ≠ a := fun e => by rw [e, ha] at hT; cases hT
  have szv : (ns.map V.int).length ≤ sizeLine := by rw [List.length_map]; exact hl
  generalize hH : startH K a tp vs ns = H
  have tpH : H tp = some (.tbl #[]) := by rw [← hH]; exact startH_tp
  have casesH : ∀ {b u}, H b = some u → (b = tp ∧ u = .tbl #[]) ∨ (b ≠ tp ∧ b = a ∧ K.lookup a = none ∧ u = .frz { cls := .type "list", data := .seq vs.toArray } (.lst (ns.map V.int))) := fun {b u} e => startH_cases (by rw [hH]; exact e)
  have seqH : SqL K H a (ns.map V.int) := by
    cases q : K.lookup a with
    | none =>
      refine .inl (.inr ⟨{ cls := .type "list", data := .seq vs.toArray }, ?_⟩)
      rw [← hH]
      unfold startH
      rw [if_neg (Ne.symm nta), if_pos ⟨rfl, q⟩]
    | some o =>
      have e := KX a o q
      rw [ha] at e
      cases e
      exact .inr ⟨_, vs.toArray, _, q, rfl, rfl, rfl, by rw [List.size_toArray, lv]; exact hl, by simpa using rv⟩
  have okH : HOk P w H s.heap := fun b u e => by
    rcases casesH e with ⟨rfl, rfl⟩ | ⟨_, rfl, _, rfl⟩
    · exact hT
    · exact ⟨ha, szv, vs, _, rv, ha⟩
  -- what is not tracked stays in the base
  have offH : ∀ {b : Addr} {o : Obj}, s.heap.get? b = some o → (∀ its n, o.data ≠ .seq its n) → o.data ≠ .fields #[] → H b = none := fun {b o} e h1 h2 => by
    cases q : H b with
    | none => rfl
    | some u =>
      rcases casesH q with ⟨rfl, _⟩ | ⟨_, rfl, _, _⟩
      · rw [hT] at e; cases e; exact absurd rfl h2
      · rw [ha] at e; cases e; exact absurd rfl (h1 _ _)
  have nsB : ∀ {b : Addr} {m : Str → Option Value}, s.heap.Ns b m → (hidT s.heap H).Ns b m := fun {b m} ⟨o, es, ep, e, dd, r⟩ => ⟨o, es, ep, hidT_get e (offH e (fun its n z => by rw [dd] at z; cases z) (fun z => by rw [dd] at z; cases z)), dd, r⟩
  have kB : K.In (hidT s.heap H) := fun b o e => hidT_get (KX b o e) (by
    cases q : H b with
    | none => rfl
    | some u =>
      rcases casesH q with ⟨rfl, _⟩ | ⟨_, rfl, z, _⟩
      · rw [nT] at e; cases e
      · rw [z] at e; cases e)
  have gtp : mainGlobals ≠ tp := fun z => by
    obtain ⟨o, es, ep, e, dd, _⟩ := hns
    rw [z, hT] at e
    cases e
    cases dd
  have tb : LamX.TabB (hidT s.heap H) mg c tp := by
    refine ⟨PySem.W.codeHd_of_K kB C, ?_, gtp⟩
    obtain ⟨bm, ob, b1, b2, b3, b4, b5, b6⟩ := hbm
    refine ⟨bm, ob, b1, b2, fun q => ?_, fun q => ?_, hidT_get b3 (offH b3 (fun its n z => by rw [b6] at z; cases z) (fun z => by rw [b6] at z; cases z)), b4, b5, b6⟩
    · obtain ⟨o, es, ep, e, dd, _⟩ := hns
      rw [q, e] at b3
      cases b3
      rw [dd] at b6
      cases b6
    · rw [q, hT] at b3
      cases b3
      cases b6
  have e0 : Env0 P w K mg (hidT s.heap H) callerA [] s H := ⟨rfl, ⟨kB, nsB hns, ⟨mb, nsB hb, hbb⟩, (let ⟨mc, h1, h2⟩ := hlim; ⟨mc, nsB h1, h2⟩)⟩, fun b o e => of_hidT e, Nat.le_of_eq (hidT_size _ _), trivial, fun b hb => (nomatch (show b ∈ ([] : List Addr) from hb)), okH, .of_eq hg⟩
  obtain ⟨fd, bind, run⟩ := (F _ kB (nsB hns) tb).run
  have hbt := bind s [.ref a] KX rfl
  rw [List.append_nil] at hbt
  refine codeAny_mono (run callerA [] s H ⟨[.ref a], []⟩ [.ref a] [.ref a] _ _ rfl hr e0 hbt (.cons rfl .nil) (hsp H tpH seqH)) fun r s' z => ?_
  cases r with
  | error e =>
    obtain ⟨_, _, _, _, _, _, _, _, _, _, _, _, no⟩ := z
    exact no.elim
  | ok fl =>
    cases fl with
    | ret u =>
      obtain ⟨v, H', os, bare, un, ok', rel, q⟩ := z
      obtain rfl : v = .bl true := q
      obtain rfl : u = Value.bool true := rel
      obtain ⟨more, grown⟩ := un.tbls tp #[] tpH
      have tp' : s'.heap.get? tp = some { cls := .none, data := .fields (#[] ++ more) } := ok' tp _ grown
      have stay : ∀ b o, b ≠ tp → s.heap.get? b = some o → s'.heap.get? b = some o := fun b o nb e => by
        cases q : H b with
        | none => exact un.keep b o e q (fun z => nomatch (show b ∈ ([] : List Addr) from z)) (fun z => nomatch (show b ∈ ([] : List Addr) from z))
        | some u =>
          rcases casesH q with ⟨z, _⟩ | ⟨_, rfl, _, rfl⟩
          · exact absurd z nb
          · have e1 := (ok' b _ (un.frzs b _ _ q)).1
            rw [ha] at e
            cases e
            exact e1
      refine ⟨rfl, ⟨fun b o e => ?_, fun b o e => ?_⟩, os, bare⟩
      · by_cases hb : b = tp
        · subst hb
          rw [hT] at e
          cases e
          exact .inr (.inl ⟨((PySem.W.codeHd_of_K KX C).tab hT).isCodeTable, rfl, #[], more, rfl, tp'⟩)
        · exact .inl (stay b o hb e)
      · by_cases hb : b = tp
        · subst hb; exact ⟨_, tp'⟩
        · exact ⟨o, stay b o hb e⟩
    | _ => exact z.elim
end
end K74

/-! L2 -/
set_option Elab.async false
set_option linter.all false
set_option maxRecDepth 100000
set_option maxHeartbeats 0
namespace K74
open PySem PySem.Spec PyProof.Rows L2
instance ptRow : PT rwl.prog := ⟨by kernel_rfl, by kernel_rfl⟩
theorem room17 : Room 17 callerA := ⟨rfl, by decide, by decide⟩
theorem sp_start {K : Frag} {H : Hp} {a : Addr} {ns : List Int} (hl : ns.length ≤ 63) (hH : H (tP K) = some (.tbl #[])) (hS : SqL K H a (ns.map V.int)) : sp_law K [.ref a] H (fun v _ => v = .bl true) fun _ _ _ => False :=
  ⟨a, ns, rfl, hS, hl, fun p hp => by rw [List.mem_singleton.mp hp]; exact LamX.TabS.nil hH, fun _ => rfl⟩
theorem txt_of {w : World} {K : Frag} {h : Heap} {mg : Str → Option Value} (X : K.In h) (G : h.Ns mainGlobals mg) (c : SaysY w h K) : Txt w K mg := ⟨⟨h, X, G⟩, c.tab 0 rfl, c.tab 1 rfl, c.d, c.more, c.bb, c.br, c.g⟩
end K74
open PySem PySem.W PySem.Calls PyProof.Rows
theorem PySem.Challenge.cw_allloads_k74_whole_sessions_and_new_scal_holds : PySem.Challenge.rw_allloads_k74_whole_sessions_and_new_scal.Holds := by
  w_on; o_law
  refine HandSHeadRun.head_any (r := K74.R) (q := K74.qv) (H := K74.hookY) (ob := K74.ob) (M := 9000) (loose := K74.names) (d := HandSHeadRun.topDef K74.R.prog 77) (kwd := []) K74.ob_eq
    (by kernel_rfl) (fun s => by kernel_rfl) K74.run (by kernel_rfl) (by kernel_rfl) (by kernel_rfl) (by rfl) (by first | assumption | decide +kernel) (by decide +kernel) ⟨rfl, rfl, rfl, rfl, rfl, by decide +kernel⟩ ?hw ?hc
  case hw => w_witness2
  case hc =>
    refine Att.attach_callB (l := PySem.Challenge.rw_allloads_k74_whole_sessions_and_new_scal) (n := 63) rfl (by kernel_rfl) fun w s0 s1 mg mb fa o pm cd doc a vs ns G Y ho hd hcd hmg hobj hints hlen hbits hg => ?_
    obtain ⟨K, KX, c⟩ := Y
    have T := K74.txt_of KX G.T.g c
    have e : (HandSHeadRun.topDef K74.R.prog 77).name = ("law" : PySem.Str) := by kernel_rfl
    rw [e, T.g_law] at hmg
    cases hmg
    exact K74.law_end (k := 17) KX G.T.g G.T.b G.T.builtins G.T.nolimit hg (c.empty ("_law_moved", none) List.mem_cons_self) (c.out ("_law_moved", none) List.mem_cons_self) (c.hd ("_law_moved", none) List.mem_cons_self) G.T.bmain hobj hints (Nat.le_trans hlen (by decide)) K74.room17
      (fun base hK hG TB => K74.ok_law T TB) (fun H hH hS => K74.sp_start hlen hH hS)

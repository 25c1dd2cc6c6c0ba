import PyProof.Rows.All
import Wide.All
import OpenK.AllK
import Wide.FinOn
import HandS.ForMost
import HandS.ForExc
import HandS.Defaults
import PySem.Challenge.RW_duetimes_k19_whole_rule_and_orders
import HandS.HeadHook4
import HandS.Head2
import HandS.HeadWalk
import HandS.MakeKwOnly
import HandS.Walk
import HandS.IsInst
import HandS.Lambda
import HandS.Conv
import KE.DataMinMax
import KE.GoesMore
import KE.GoesEnum
import HandS.Iter
import HandS.Set
import HandS.Strs
import HandS.SetFor
import PyProof.Rows.SortStr
import HandS.Sort
import HandS.Exc
import HandS.Keys
import KE.KSortKey
import KE.SortKeyHeap
import HandS.TupLe
import HandS.Zip
import HandS.Text
import HandS.TupAny
import HandS.Dict
import HandS.Deep
import HandS.Records
import PyProof.Rows.StrMeet
import HandS.SetKeys
set_option Elab.async false
set_option linter.all false
set_option maxRecDepth 100000
set_option maxHeartbeats 4000000
/-! Printed by gen.py: where the defs stand. -/
namespace K19
open PySem L2
def topS (i : Nat) : Stmt := PySem.Challenge.pw_duetimes_k19_whole_rule_and_orders.main.body.getD i (.Pass ⟨0, 0, 0, 0⟩)
abbrev s_pIsWhole : Stmt := topS 16
abbrev s_pIsWithin : Stmt := topS 17
abbrev s_pIsName : Stmt := topS 19
abbrev s_pIsHold : Stmt := topS 20
abbrev s_pAreHolds : Stmt := topS 21
abbrev s_pTaskInit : Stmt := inClass (topS 22) 0
abbrev s_pDoorInit : Stmt := inClass (topS 23) 0
abbrev s_pIsMember : Stmt := topS 24
abbrev s_pCostOf : Stmt := topS 25
abbrev s_pDueOf : Stmt := topS 26
abbrev s_pHoldsOf : Stmt := topS 27
abbrev s_pToolLevels : Stmt := topS 33
abbrev s_pCrewInit : Stmt := inClass (topS 34) 0
abbrev s_pCrewNames : Stmt := inClass (topS 34) 5
abbrev s_pCrewNamed : Stmt := inClass (topS 34) 7
abbrev s_pCheckCrew : Stmt := topS 35
abbrev s_pRankOf : Stmt := topS 38
abbrev s_pToolsAt : Stmt := topS 39
abbrev s_pIsHeldUp : Stmt := topS 40
abbrev s_pIsWork : Stmt := topS 41
abbrev s_pCheckWorks : Stmt := topS 42
abbrev s_pServed : Stmt := topS 43
abbrev s_lCell : Stmt := topS 45
abbrev s_lPurse : Stmt := topS 46
abbrev s_lTake : Stmt := topS 47
abbrev s_lWords : Stmt := topS 48
abbrev s_lHolds : Stmt := topS 49
abbrev s_lTask : Stmt := topS 50
abbrev s_lDoor : Stmt := topS 51
abbrev s_lRows : Stmt := topS 52
abbrev s_lMember : Stmt := topS 53
abbrev s_lCrew : Stmt := topS 54
abbrev s_lDue : Stmt := topS 55
abbrev s_lLevel : Stmt := topS 56
abbrev s_lHeld : Stmt := topS 57
abbrev s_lRowOf : Stmt := topS 58
abbrev s_lComings : Stmt := topS 59
abbrev s_lInTurn : Stmt := topS 60
abbrev s_lKey : Stmt := topS 61
abbrev s_lIsHeldUp : Stmt := topS 62
abbrev s_lChosen : Stmt := topS 63
abbrev s_lNew : Stmt := topS 64
abbrev s_lEnds : Stmt := topS 65
abbrev s_lCome : Stmt := topS 66
abbrev s_lPortions : Stmt := topS 67
abbrev s_lServe : Stmt := topS 68
abbrev s_lIsOver : Stmt := topS 69
abbrev s_lRun : Stmt := topS 70
abbrev s_lTurned : Stmt := topS 71
abbrev s_lRenamed : Stmt := topS 72
abbrev s_lNamedBy : Stmt := topS 73
abbrev s_lFits : Stmt := topS 74
abbrev s_lRight : Stmt := topS 75
abbrev s_lLaw : Stmt := topS 76
abbrev n_pIsWhole : List Str := ["thing"]
abbrev a_pIsWhole : List Str := ["thing"]
theorem sc_pIsWhole : FnScope n_pIsWhole a_pIsWhole (defScope s_pIsWhole) := ⟨rfl, rfl, rfl, by decide +kernel, rfl, by decide +kernel, by decide +kernel⟩
abbrev n_pIsWithin : List Str := ["thing", "least", "most"]
abbrev a_pIsWithin : List Str := ["thing", "least", "most"]
theorem sc_pIsWithin : FnScope n_pIsWithin a_pIsWithin (defScope s_pIsWithin) := ⟨rfl, rfl, rfl, by decide +kernel, rfl, by decide +kernel, by decide +kernel⟩
abbrev n_pIsName : List Str := ["thing", "sign"]
abbrev a_pIsName : List Str := ["thing"]
theorem sc_pIsName : FnScope n_pIsName a_pIsName (defScope s_pIsName) := ⟨rfl, rfl, rfl, by decide +kernel, rfl, by decide +kernel, by decide +kernel⟩
abbrev n_pIsHold : List Str := ["thing", "cost", "tool", "begin", "long"]
abbrev a_pIsHold : List Str := ["thing", "cost"]
theorem sc_pIsHold : FnScope n_pIsHold a_pIsHold (defScope s_pIsHold) := ⟨rfl, rfl, rfl, by decide +kernel, rfl, by decide +kernel, by decide +kernel⟩
abbrev n_pAreHolds : List Str := ["thing", "cost", "one", "other"]
abbrev a_pAreHolds : List Str := ["thing", "cost"]
theorem sc_pAreHolds : FnScope n_pAreHolds a_pAreHolds (defScope s_pAreHolds) := ⟨rfl, rfl, rfl, by decide +kernel, rfl, by decide +kernel, by decide +kernel⟩
abbrev n_pTaskInit : List Str := ["self", "name", "cost", "gap", "due", "holds"]
abbrev a_pTaskInit : List Str := ["self", "name", "cost", "gap", "due", "holds"]
theorem sc_pTaskInit : FnScope n_pTaskInit a_pTaskInit (defScope s_pTaskInit) := ⟨rfl, rfl, rfl, by decide +kernel, rfl, by decide +kernel, by decide +kernel⟩
abbrev n_pDoorInit : List Str := ["self", "name", "room", "gap"]
abbrev a_pDoorInit : List Str := ["self", "name", "room", "gap"]
theorem sc_pDoorInit : FnScope n_pDoorInit a_pDoorInit (defScope s_pDoorInit) := ⟨rfl, rfl, rfl, by decide +kernel, rfl, by decide +kernel, by decide +kernel⟩
abbrev n_pIsMember : List Str := ["thing"]
abbrev a_pIsMember : List Str := ["thing"]
theorem sc_pIsMember : FnScope n_pIsMember a_pIsMember (defScope s_pIsMember) := ⟨rfl, rfl, rfl, by decide +kernel, rfl, by decide +kernel, by decide +kernel⟩
abbrev n_pCostOf : List Str := ["member"]
abbrev a_pCostOf : List Str := ["member"]
theorem sc_pCostOf : FnScope n_pCostOf a_pCostOf (defScope s_pCostOf) := ⟨rfl, rfl, rfl, by decide +kernel, rfl, by decide +kernel, by decide +kernel⟩
abbrev n_pDueOf : List Str := ["member"]
abbrev a_pDueOf : List Str := ["member"]
theorem sc_pDueOf : FnScope n_pDueOf a_pDueOf (defScope s_pDueOf) := ⟨rfl, rfl, rfl, by decide +kernel, rfl, by decide +kernel, by decide +kernel⟩
abbrev n_pHoldsOf : List Str := ["member"]
abbrev a_pHoldsOf : List Str := ["member"]
theorem sc_pHoldsOf : FnScope n_pHoldsOf a_pHoldsOf (defScope s_pHoldsOf) := ⟨rfl, rfl, rfl, by decide +kernel, rfl, by decide +kernel, by decide +kernel⟩
abbrev n_pToolLevels : List Str := ["members", "found", "member", "tool", "begin", "long"]
abbrev a_pToolLevels : List Str := ["members"]
theorem sc_pToolLevels : FnScope n_pToolLevels a_pToolLevels (defScope s_pToolLevels) := ⟨rfl, rfl, rfl, by decide +kernel, rfl, by decide +kernel, by decide +kernel⟩
abbrev n_pCrewInit : List Str := ["self", "members", "member", "met"]
abbrev a_pCrewInit : List Str := ["self", "members"]
theorem sc_pCrewInit : FnScope n_pCrewInit a_pCrewInit (defScope s_pCrewInit) := ⟨rfl, rfl, rfl, by decide +kernel, rfl, by decide +kernel, by decide +kernel⟩
abbrev n_pCrewNames : List Str := ["self", "member"]
abbrev a_pCrewNames : List Str := ["self"]
theorem sc_pCrewNames : FnScope n_pCrewNames a_pCrewNames (defScope s_pCrewNames) := ⟨rfl, rfl, rfl, by decide +kernel, rfl, by decide +kernel, by decide +kernel⟩
abbrev n_pCrewNamed : List Str := ["self", "name", "member"]
abbrev a_pCrewNamed : List Str := ["self", "name"]
theorem sc_pCrewNamed : FnScope n_pCrewNamed a_pCrewNamed (defScope s_pCrewNamed) := ⟨rfl, rfl, rfl, by decide +kernel, rfl, by decide +kernel, by decide +kernel⟩
abbrev n_pCheckCrew : List Str := ["thing"]
abbrev a_pCheckCrew : List Str := ["thing"]
theorem sc_pCheckCrew : FnScope n_pCheckCrew a_pCheckCrew (defScope s_pCheckCrew) := ⟨rfl, rfl, rfl, by decide +kernel, rfl, by decide +kernel, by decide +kernel⟩
abbrev n_pRankOf : List Str := ["place", "due", "comes"]
abbrev a_pRankOf : List Str := ["place", "due", "comes"]
theorem sc_pRankOf : FnScope n_pRankOf a_pRankOf (defScope s_pRankOf) := ⟨rfl, rfl, rfl, by decide +kernel, rfl, by decide +kernel, by decide +kernel⟩
abbrev n_pToolsAt : List Str := ["member", "done", "tool", "begin", "size"]
abbrev a_pToolsAt : List Str := ["member", "done"]
theorem sc_pToolsAt : FnScope n_pToolsAt a_pToolsAt (defScope s_pToolsAt) := ⟨rfl, rfl, rfl, by decide +kernel, rfl, by decide +kernel, by decide +kernel⟩
abbrev n_pIsHeldUp : List Str := ["levels", "due", "tools", "tool"]
abbrev a_pIsHeldUp : List Str := ["levels", "due", "tools"]
theorem sc_pIsHeldUp : FnScope n_pIsHeldUp a_pIsHeldUp (defScope s_pIsHeldUp) := ⟨rfl, rfl, rfl, by decide +kernel, rfl, by decide +kernel, by decide +kernel⟩
abbrev n_pIsWork : List Str := ["crew", "thing", "name", "comes", "done"]
abbrev a_pIsWork : List Str := ["crew", "thing"]
theorem sc_pIsWork : FnScope n_pIsWork a_pIsWork (defScope s_pIsWork) := ⟨rfl, rfl, rfl, by decide +kernel, rfl, by decide +kernel, by decide +kernel⟩
abbrev n_pCheckWorks : List Str := ["crew", "things", "known", "number", "thing"]
abbrev a_pCheckWorks : List Str := ["crew", "things"]
theorem sc_pCheckWorks : FnScope n_pCheckWorks a_pCheckWorks (defScope s_pCheckWorks) := ⟨rfl, rfl, rfl, by decide +kernel, rfl, by decide +kernel, by decide +kernel⟩
abbrev n_pServed : List Str := ["crew", "works", "names", "ranks", "number", "name", "comes", "done", "ahead", "tools", "due", "begun", "rank"]
abbrev a_pServed : List Str := ["crew", "works"]
theorem sc_pServed : FnScope n_pServed a_pServed (defScope s_pServed) := ⟨rfl, rfl, rfl, by decide +kernel, rfl, by decide +kernel, by decide +kernel⟩
abbrev n_lCell : List Str := ["_law_script", "_law_k", "_law_state", "_law_cell_here"]
abbrev a_lCell : List Str := ["_law_script", "_law_k"]
theorem sc_lCell : FnScope n_lCell a_lCell (defScope s_lCell) := ⟨rfl, rfl, rfl, by decide +kernel, rfl, by decide +kernel, by decide +kernel⟩
abbrev n_lPurse : List Str := ["_law_cell_here", "_law_digits"]
abbrev a_lPurse : List Str := ["_law_cell_here"]
theorem sc_lPurse : FnScope n_lPurse a_lPurse (defScope s_lPurse) := ⟨rfl, rfl, rfl, by decide +kernel, rfl, by decide +kernel, by decide +kernel⟩
abbrev n_lTake : List Str := ["_law_purse_here", "_law_many", "_law_state", "_law_taken"]
abbrev a_lTake : List Str := ["_law_purse_here", "_law_many"]
theorem sc_lTake : FnScope n_lTake a_lTake (defScope s_lTake) := ⟨rfl, rfl, rfl, by decide +kernel, rfl, by decide +kernel, by decide +kernel⟩
abbrev n_lWords : List Str := ["_law_purse_here", "_law_many", "_law_own", "_law_spot", "_law_step", "_law_k", "_law_letters", "_law_stem", "_law_cut", "_law_begin"]
abbrev a_lWords : List Str := ["_law_purse_here", "_law_many"]
theorem sc_lWords : FnScope n_lWords a_lWords (defScope s_lWords) := ⟨rfl, rfl, rfl, by decide +kernel, rfl, by decide +kernel, by decide +kernel⟩
abbrev n_lHolds : List Str := ["_law_purse_here", "_law_cost", "_law_tools", "_law_found", "_law_tool", "_law_begin", "_law_size", "_law_rest"]
abbrev a_lHolds : List Str := ["_law_purse_here", "_law_cost", "_law_tools"]
theorem sc_lHolds : FnScope n_lHolds a_lHolds (defScope s_lHolds) := ⟨rfl, rfl, rfl, by decide +kernel, rfl, by decide +kernel, by decide +kernel⟩
abbrev n_lTask : List Str := ["_law_purse_here", "_law_name", "_law_many", "_law_tools", "_law_gap", "_law_top", "_law_cost", "_law_term", "_law_grips"]
abbrev a_lTask : List Str := ["_law_purse_here", "_law_name", "_law_many", "_law_tools"]
theorem sc_lTask : FnScope n_lTask a_lTask (defScope s_lTask) := ⟨rfl, rfl, rfl, by decide +kernel, rfl, by decide +kernel, by decide +kernel⟩
abbrev n_lDoor : List Str := ["_law_purse_here", "_law_name", "_law_many", "_law_gap", "_law_top"]
abbrev a_lDoor : List Str := ["_law_purse_here", "_law_name", "_law_many"]
theorem sc_lDoor : FnScope n_lDoor a_lDoor (defScope s_lDoor) := ⟨rfl, rfl, rfl, by decide +kernel, rfl, by decide +kernel, by decide +kernel⟩
abbrev n_lRows : List Str := ["_law_purse_here", "_law_least", "_law_top", "_law_tools", "_law_doors", "_law_many", "_law_called", "_law_own", "_law_found", "_law_k"]
abbrev a_lRows : List Str := ["_law_purse_here", "_law_least", "_law_top", "_law_tools", "_law_doors"]
theorem sc_lRows : FnScope n_lRows a_lRows (defScope s_lRows) := ⟨rfl, rfl, rfl, by decide +kernel, rfl, by decide +kernel, by decide +kernel⟩
abbrev n_lMember : List Str := ["_law_row"]
abbrev a_lMember : List Str := ["_law_row"]
theorem sc_lMember : FnScope n_lMember a_lMember (defScope s_lMember) := ⟨rfl, rfl, rfl, by decide +kernel, rfl, by decide +kernel, by decide +kernel⟩
abbrev n_lCrew : List Str := ["_law_rows_here", "_law_row"]
abbrev a_lCrew : List Str := ["_law_rows_here"]
theorem sc_lCrew : FnScope n_lCrew a_lCrew (defScope s_lCrew) := ⟨rfl, rfl, rfl, by decide +kernel, rfl, by decide +kernel, by decide +kernel⟩
abbrev n_lDue : List Str := ["_law_row"]
abbrev a_lDue : List Str := ["_law_row"]
theorem sc_lDue : FnScope n_lDue a_lDue (defScope s_lDue) := ⟨rfl, rfl, rfl, by decide +kernel, rfl, by decide +kernel, by decide +kernel⟩
abbrev n_lLevel : List Str := ["_law_rows_here", "_law_tool", "_law_row", "_law_hold"]
abbrev a_lLevel : List Str := ["_law_rows_here", "_law_tool"]
theorem sc_lLevel : FnScope n_lLevel a_lLevel (defScope s_lLevel) := ⟨rfl, rfl, rfl, by decide +kernel, rfl, by decide +kernel, by decide +kernel⟩
abbrev n_lHeld : List Str := ["_law_row", "_law_done", "_law_hold"]
abbrev a_lHeld : List Str := ["_law_row", "_law_done"]
theorem sc_lHeld : FnScope n_lHeld a_lHeld (defScope s_lHeld) := ⟨rfl, rfl, rfl, by decide +kernel, rfl, by decide +kernel, by decide +kernel⟩
abbrev n_lRowOf : List Str := ["_law_rows_here", "_law_name", "_law_row"]
abbrev a_lRowOf : List Str := ["_law_rows_here", "_law_name"]
theorem sc_lRowOf : FnScope n_lRowOf a_lRowOf (defScope s_lRowOf) := ⟨rfl, rfl, rfl, by decide +kernel, rfl, by decide +kernel, by decide +kernel⟩
abbrev n_lComings : List Str := ["_law_purse_here", "_law_rows_here", "_law_top", "_law_found", "_law_row", "_law_point", "_law_k", "_law_want", "_law_more"]
abbrev a_lComings : List Str := ["_law_purse_here", "_law_rows_here", "_law_top"]
theorem sc_lComings : FnScope n_lComings a_lComings (defScope s_lComings) := ⟨rfl, rfl, rfl, by decide +kernel, rfl, by decide +kernel, by decide +kernel⟩
abbrev n_lInTurn : List Str := ["_law_rows_here", "_law_comings_here", "_law_called", "_law_row", "_law_one"]
abbrev a_lInTurn : List Str := ["_law_rows_here", "_law_comings_here"]
theorem sc_lInTurn : FnScope n_lInTurn a_lInTurn (defScope s_lInTurn) := ⟨rfl, rfl, rfl, by decide +kernel, rfl, by decide +kernel, by decide +kernel⟩
abbrev n_lKey : List Str := ["_law_rows_here", "_law_work", "_law_row"]
abbrev a_lKey : List Str := ["_law_rows_here", "_law_work"]
theorem sc_lKey : FnScope n_lKey a_lKey (defScope s_lKey) := ⟨rfl, rfl, rfl, by decide +kernel, rfl, by decide +kernel, by decide +kernel⟩
abbrev n_lIsHeldUp : List Str := ["_law_rows_here", "_law_work", "_law_works", "_law_term", "_law_other", "_law_tools", "_law_levels", "_law_tool"]
abbrev a_lIsHeldUp : List Str := ["_law_rows_here", "_law_work", "_law_works"]
theorem sc_lIsHeldUp : FnScope n_lIsHeldUp a_lIsHeldUp (defScope s_lIsHeldUp) := ⟨rfl, rfl, rfl, by decide +kernel, rfl, by decide +kernel, by decide +kernel⟩
abbrev n_lChosen : List Str := ["_law_rows_here", "_law_works", "_law_ranked", "_law_work"]
abbrev a_lChosen : List Str := ["_law_rows_here", "_law_works"]
theorem sc_lChosen : FnScope n_lChosen a_lChosen (defScope s_lChosen) := ⟨rfl, rfl, rfl, by decide +kernel, rfl, by decide +kernel, by decide +kernel⟩
abbrev n_lNew : List Str := ["_law_state", "_law_name", "_law_point", "_law_term", "_law_want", "_law_number", "_law_work"]
abbrev a_lNew : List Str := ["_law_state", "_law_name", "_law_point", "_law_term", "_law_want"]
theorem sc_lNew : FnScope n_lNew a_lNew (defScope s_lNew) := ⟨rfl, rfl, rfl, by decide +kernel, rfl, by decide +kernel, by decide +kernel⟩
abbrev n_lEnds : List Str := ["_law_state", "_law_point", "_law_left", "_law_work"]
abbrev a_lEnds : List Str := ["_law_state", "_law_point"]
theorem sc_lEnds : FnScope n_lEnds a_lEnds (defScope s_lEnds) := ⟨rfl, rfl, rfl, by decide +kernel, rfl, by decide +kernel, by decide +kernel⟩
abbrev n_lCome : List Str := ["_law_state", "_law_rows_here", "_law_comings_here", "_law_point", "_law_name", "_law_moment", "_law_want", "_law_row", "_law_number", "_law_one"]
abbrev a_lCome : List Str := ["_law_state", "_law_rows_here", "_law_comings_here", "_law_point"]
theorem sc_lCome : FnScope n_lCome a_lCome (defScope s_lCome) := ⟨rfl, rfl, rfl, by decide +kernel, rfl, by decide +kernel, by decide +kernel⟩
abbrev n_lPortions : List Str := ["_law_state", "_law_rows_here", "_law_point", "_law_row", "_law_waits", "_law_work"]
abbrev a_lPortions : List Str := ["_law_state", "_law_rows_here", "_law_point"]
theorem sc_lPortions : FnScope n_lPortions a_lPortions (defScope s_lPortions) := ⟨rfl, rfl, rfl, by decide +kernel, rfl, by decide +kernel, by decide +kernel⟩
abbrev n_lServe : List Str := ["_law_state", "_law_rows_here", "_law_point", "_law_work", "_law_other", "_law_four", "_law_line", "_law_leaving", "_law_pieces"]
abbrev a_lServe : List Str := ["_law_state", "_law_rows_here", "_law_point"]
theorem sc_lServe : FnScope n_lServe a_lServe (defScope s_lServe) := ⟨rfl, rfl, rfl, by decide +kernel, rfl, by decide +kernel, by decide +kernel⟩
abbrev n_lIsOver : List Str := ["_law_state", "_law_comings_here", "_law_point", "_law_name", "_law_one"]
abbrev a_lIsOver : List Str := ["_law_state", "_law_comings_here", "_law_point"]
theorem sc_lIsOver : FnScope n_lIsOver a_lIsOver (defScope s_lIsOver) := ⟨rfl, rfl, rfl, by decide +kernel, rfl, by decide +kernel, by decide +kernel⟩
abbrev n_lRun : List Str := ["_law_rows_here", "_law_comings_here", "_law_stop", "_law_state", "_law_point"]
abbrev a_lRun : List Str := ["_law_rows_here", "_law_comings_here", "_law_stop"]
theorem sc_lRun : FnScope n_lRun a_lRun (defScope s_lRun) := ⟨rfl, rfl, rfl, by decide +kernel, rfl, by decide +kernel, by decide +kernel⟩
abbrev n_lTurned : List Str := ["_law_purse_here", "_law_some", "_law_left", "_law_found"]
abbrev a_lTurned : List Str := ["_law_purse_here", "_law_some"]
theorem sc_lTurned : FnScope n_lTurned a_lTurned (defScope s_lTurned) := ⟨rfl, rfl, rfl, by decide +kernel, rfl, by decide +kernel, by decide +kernel⟩
abbrev n_lRenamed : List Str := ["_law_rows_here", "_law_called", "_law_found", "_law_k", "_law_row"]
abbrev a_lRenamed : List Str := ["_law_rows_here", "_law_called"]
theorem sc_lRenamed : FnScope n_lRenamed a_lRenamed (defScope s_lRenamed) := ⟨rfl, rfl, rfl, by decide +kernel, rfl, by decide +kernel, by decide +kernel⟩
abbrev n_lNamedBy : List Str := ["_law_told", "_law_some", "_law_place"]
abbrev a_lNamedBy : List Str := ["_law_told", "_law_some"]
theorem sc_lNamedBy : FnScope n_lNamedBy a_lNamedBy (defScope s_lNamedBy) := ⟨rfl, rfl, rfl, by decide +kernel, rfl, by decide +kernel, by decide +kernel⟩
abbrev n_lFits : List Str := ["_law_told", "_law_some", "_law_rows_here", "_law_ends_here", "_law_one"]
abbrev a_lFits : List Str := ["_law_told", "_law_some", "_law_rows_here"]
theorem sc_lFits : FnScope n_lFits a_lFits (defScope s_lFits) := ⟨rfl, rfl, rfl, by decide +kernel, rfl, by decide +kernel, by decide +kernel⟩
abbrev n_lRight : List Str := ["_law_purse_here", "_law_rows_here", "_law_comings_here", "_law_state", "_law_some", "_law_work", "_law_crew_here", "_law_told", "_law_other", "_law_late", "_law_far", "_law_name", "_law_point", "_law_done", "_law_called", "_law_others", "_law_turned_here", "_law_row", "_law_one"]
abbrev a_lRight : List Str := ["_law_purse_here"]
theorem sc_lRight : FnScope n_lRight a_lRight (defScope s_lRight) := ⟨rfl, rfl, rfl, by decide +kernel, rfl, by decide +kernel, by decide +kernel⟩
abbrev n_lLaw : List Str := ["_law_script", "_law_many", "_law_k"]
abbrev a_lLaw : List Str := ["_law_script"]
theorem sc_lLaw : FnScope n_lLaw a_lLaw (defScope s_lLaw) := ⟨rfl, rfl, rfl, by decide +kernel, rfl, by decide +kernel, by decide +kernel⟩
end K19
namespace K19
open PySem L2
open PyProof.Rows (envOfC)
def loose0 : List Str := ["_wall", "TimeError", "NoTask", "NoDoor", "NoCrew", "NoNumber", "NoWorks", "LostError", "NoName", "LETTERS", "MOST_LETTERS", "MOST_COST", "MOST_GAP", "MOST_HOLDS", "is_whole", "is_within", "check_within", "is_name", "is_hold", "are_holds", "Task", "Door", "is_member", "cost_of", "due_of", "holds_of", "values_of", "row_of", "LIMIT", "MOST_MEMBERS"]
def loose1 : List Str := ["tool_levels", "Crew", "check_crew", "LAST_POINT", "rank_of", "tools_at", "is_held_up", "is_work", "check_works", "served", "_law_cell", "_law_purse", "_law_take", "_law_words", "_law_holds", "_law_task", "_law_door", "_law_rows", "_law_member", "_law_crew", "_law_due", "_law_level", "_law_held", "_law_row_of", "_law_comings", "_law_in_turn", "_law_key", "_law_is_held_up", "_law_chosen", "_law_new"]
def loose2 : List Str := ["_law_ends", "_law_come", "_law_portions", "_law_serve", "_law_is_over", "_law_run", "_law_turned", "_law_renamed", "_law_named_by", "_law_fits", "_law_right"]
def loose : List Str := loose0 ++ loose1 ++ loose2
def d_pIsWhole : He.DefD := ⟨("is_whole", none), "is_whole", "is_whole", defArgs s_pIsWhole, defBody s_pIsWhole, defScope s_pIsWhole, [], []⟩
def d_pIsWithin : He.DefD := ⟨("is_within", none), "is_within", "is_within", defArgs s_pIsWithin, defBody s_pIsWithin, defScope s_pIsWithin, [], []⟩
def d_pIsName : He.DefD := ⟨("is_name", none), "is_name", "is_name", defArgs s_pIsName, defBody s_pIsName, defScope s_pIsName, [], []⟩
def d_pIsHold : He.DefD := ⟨("is_hold", none), "is_hold", "is_hold", defArgs s_pIsHold, defBody s_pIsHold, defScope s_pIsHold, [], []⟩
def d_pAreHolds : He.DefD := ⟨("are_holds", none), "are_holds", "are_holds", defArgs s_pAreHolds, defBody s_pAreHolds, defScope s_pAreHolds, [], []⟩
def d_pTaskInit : He.DefD := ⟨("Task", some "__init__"), "__init__", "Task.__init__", defArgs s_pTaskInit, defBody s_pTaskInit, defScope s_pTaskInit, [], [("due", .non)]⟩
def d_pDoorInit : He.DefD := ⟨("Door", some "__init__"), "__init__", "Door.__init__", defArgs s_pDoorInit, defBody s_pDoorInit, defScope s_pDoorInit, [], []⟩
def d_pIsMember : He.DefD := ⟨("is_member", none), "is_member", "is_member", defArgs s_pIsMember, defBody s_pIsMember, defScope s_pIsMember, [], []⟩
def d_pCostOf : He.DefD := ⟨("cost_of", none), "cost_of", "cost_of", defArgs s_pCostOf, defBody s_pCostOf, defScope s_pCostOf, [], []⟩
def d_pDueOf : He.DefD := ⟨("due_of", none), "due_of", "due_of", defArgs s_pDueOf, defBody s_pDueOf, defScope s_pDueOf, [], []⟩
def d_pHoldsOf : He.DefD := ⟨("holds_of", none), "holds_of", "holds_of", defArgs s_pHoldsOf, defBody s_pHoldsOf, defScope s_pHoldsOf, [], []⟩
def d_pToolLevels : He.DefD := ⟨("tool_levels", none), "tool_levels", "tool_levels", defArgs s_pToolLevels, defBody s_pToolLevels, defScope s_pToolLevels, [], []⟩
def d_pCrewInit : He.DefD := ⟨("Crew", some "__init__"), "__init__", "Crew.__init__", defArgs s_pCrewInit, defBody s_pCrewInit, defScope s_pCrewInit, [.adr (He.dflAt ("Crew", some "__init__") 0)], []⟩
def d_pCrewNames : He.DefD := ⟨("Crew", some "names"), "names", "Crew.names", defArgs s_pCrewNames, defBody s_pCrewNames, defScope s_pCrewNames, [], []⟩
def d_pCrewNamed : He.DefD := ⟨("Crew", some "named"), "named", "Crew.named", defArgs s_pCrewNamed, defBody s_pCrewNamed, defScope s_pCrewNamed, [], []⟩
def d_pCheckCrew : He.DefD := ⟨("check_crew", none), "check_crew", "check_crew", defArgs s_pCheckCrew, defBody s_pCheckCrew, defScope s_pCheckCrew, [], []⟩
def d_pRankOf : He.DefD := ⟨("rank_of", none), "rank_of", "rank_of", defArgs s_pRankOf, defBody s_pRankOf, defScope s_pRankOf, [], []⟩
def d_pToolsAt : He.DefD := ⟨("tools_at", none), "tools_at", "tools_at", defArgs s_pToolsAt, defBody s_pToolsAt, defScope s_pToolsAt, [], []⟩
def d_pIsHeldUp : He.DefD := ⟨("is_held_up", none), "is_held_up", "is_held_up", defArgs s_pIsHeldUp, defBody s_pIsHeldUp, defScope s_pIsHeldUp, [], []⟩
def d_pIsWork : He.DefD := ⟨("is_work", none), "is_work", "is_work", defArgs s_pIsWork, defBody s_pIsWork, defScope s_pIsWork, [], []⟩
def d_pCheckWorks : He.DefD := ⟨("check_works", none), "check_works", "check_works", defArgs s_pCheckWorks, defBody s_pCheckWorks, defScope s_pCheckWorks, [], []⟩
def d_pServed : He.DefD := ⟨("served", none), "served", "served", defArgs s_pServed, defBody s_pServed, defScope s_pServed, [], []⟩
def d_lCell : He.DefD := ⟨("_law_cell", none), "_law_cell", "_law_cell", defArgs s_lCell, defBody s_lCell, defScope s_lCell, [], []⟩
def d_lPurse : He.DefD := ⟨("_law_purse", none), "_law_purse", "_law_purse", defArgs s_lPurse, defBody s_lPurse, defScope s_lPurse, [], []⟩
def d_lTake : He.DefD := ⟨("_law_take", none), "_law_take", "_law_take", defArgs s_lTake, defBody s_lTake, defScope s_lTake, [], []⟩
def d_lWords : He.DefD := ⟨("_law_words", none), "_law_words", "_law_words", defArgs s_lWords, defBody s_lWords, defScope s_lWords, [], []⟩
def d_lHolds : He.DefD := ⟨("_law_holds", none), "_law_holds", "_law_holds", defArgs s_lHolds, defBody s_lHolds, defScope s_lHolds, [], []⟩
def d_lTask : He.DefD := ⟨("_law_task", none), "_law_task", "_law_task", defArgs s_lTask, defBody s_lTask, defScope s_lTask, [], []⟩
def d_lDoor : He.DefD := ⟨("_law_door", none), "_law_door", "_law_door", defArgs s_lDoor, defBody s_lDoor, defScope s_lDoor, [], []⟩
def d_lRows : He.DefD := ⟨("_law_rows", none), "_law_rows", "_law_rows", defArgs s_lRows, defBody s_lRows, defScope s_lRows, [], []⟩
def d_lMember : He.DefD := ⟨("_law_member", none), "_law_member", "_law_member", defArgs s_lMember, defBody s_lMember, defScope s_lMember, [], []⟩
def d_lCrew : He.DefD := ⟨("_law_crew", none), "_law_crew", "_law_crew", defArgs s_lCrew, defBody s_lCrew, defScope s_lCrew, [], []⟩
def d_lDue : He.DefD := ⟨("_law_due", none), "_law_due", "_law_due", defArgs s_lDue, defBody s_lDue, defScope s_lDue, [], []⟩
def d_lLevel : He.DefD := ⟨("_law_level", none), "_law_level", "_law_level", defArgs s_lLevel, defBody s_lLevel, defScope s_lLevel, [], []⟩
def d_lHeld : He.DefD := ⟨("_law_held", none), "_law_held", "_law_held", defArgs s_lHeld, defBody s_lHeld, defScope s_lHeld, [], []⟩
def d_lRowOf : He.DefD := ⟨("_law_row_of", none), "_law_row_of", "_law_row_of", defArgs s_lRowOf, defBody s_lRowOf, defScope s_lRowOf, [], []⟩
def d_lComings : He.DefD := ⟨("_law_comings", none), "_law_comings", "_law_comings", defArgs s_lComings, defBody s_lComings, defScope s_lComings, [], []⟩
def d_lInTurn : He.DefD := ⟨("_law_in_turn", none), "_law_in_turn", "_law_in_turn", defArgs s_lInTurn, defBody s_lInTurn, defScope s_lInTurn, [], []⟩
def d_lKey : He.DefD := ⟨("_law_key", none), "_law_key", "_law_key", defArgs s_lKey, defBody s_lKey, defScope s_lKey, [], []⟩
def d_lIsHeldUp : He.DefD := ⟨("_law_is_held_up", none), "_law_is_held_up", "_law_is_held_up", defArgs s_lIsHeldUp, defBody s_lIsHeldUp, defScope s_lIsHeldUp, [], []⟩
def d_lChosen : He.DefD := ⟨("_law_chosen", none), "_law_chosen", "_law_chosen", defArgs s_lChosen, defBody s_lChosen, defScope s_lChosen, [], []⟩
def d_lNew : He.DefD := ⟨("_law_new", none), "_law_new", "_law_new", defArgs s_lNew, defBody s_lNew, defScope s_lNew, [], []⟩
def d_lEnds : He.DefD := ⟨("_law_ends", none), "_law_ends", "_law_ends", defArgs s_lEnds, defBody s_lEnds, defScope s_lEnds, [], []⟩
def d_lCome : He.DefD := ⟨("_law_come", none), "_law_come", "_law_come", defArgs s_lCome, defBody s_lCome, defScope s_lCome, [], []⟩
def d_lPortions : He.DefD := ⟨("_law_portions", none), "_law_portions", "_law_portions", defArgs s_lPortions, defBody s_lPortions, defScope s_lPortions, [], []⟩
def d_lServe : He.DefD := ⟨("_law_serve", none), "_law_serve", "_law_serve", defArgs s_lServe, defBody s_lServe, defScope s_lServe, [], []⟩
def d_lIsOver : He.DefD := ⟨("_law_is_over", none), "_law_is_over", "_law_is_over", defArgs s_lIsOver, defBody s_lIsOver, defScope s_lIsOver, [], []⟩
def d_lRun : He.DefD := ⟨("_law_run", none), "_law_run", "_law_run", defArgs s_lRun, defBody s_lRun, defScope s_lRun, [], []⟩
def d_lTurned : He.DefD := ⟨("_law_turned", none), "_law_turned", "_law_turned", defArgs s_lTurned, defBody s_lTurned, defScope s_lTurned, [], []⟩
def d_lRenamed : He.DefD := ⟨("_law_renamed", none), "_law_renamed", "_law_renamed", defArgs s_lRenamed, defBody s_lRenamed, defScope s_lRenamed, [], []⟩
def d_lNamedBy : He.DefD := ⟨("_law_named_by", none), "_law_named_by", "_law_named_by", defArgs s_lNamedBy, defBody s_lNamedBy, defScope s_lNamedBy, [], []⟩
def d_lFits : He.DefD := ⟨("_law_fits", none), "_law_fits", "_law_fits", defArgs s_lFits, defBody s_lFits, defScope s_lFits, [], []⟩
def d_lRight : He.DefD := ⟨("_law_right", none), "_law_right", "_law_right", defArgs s_lRight, defBody s_lRight, defScope s_lRight, [], []⟩
def d_lLaw : He.DefD := ⟨("law", none), "law", "law", defArgs s_lLaw, defBody s_lLaw, defScope s_lLaw, [], []⟩
def fn0 : List He.DefD := [d_pIsWhole, d_pIsWithin, d_pIsName, d_pIsHold, d_pAreHolds, d_pTaskInit, d_pDoorInit, d_pIsMember, d_pCostOf, d_pDueOf, d_pHoldsOf, d_pToolLevels, d_pCrewInit, d_pCrewNames, d_pCrewNamed, d_pCheckCrew, d_pRankOf, d_pToolsAt, d_pIsHeldUp, d_pIsWork, d_pCheckWorks, d_pServed, d_lCell, d_lPurse, d_lTake, d_lWords, d_lHolds, d_lTask, d_lDoor, d_lRows]
def fn1 : List He.DefD := [d_lMember, d_lCrew, d_lDue, d_lLevel, d_lHeld, d_lRowOf, d_lComings, d_lInTurn, d_lKey, d_lIsHeldUp, d_lChosen, d_lNew, d_lEnds, d_lCome, d_lPortions, d_lServe, d_lIsOver, d_lRun, d_lTurned, d_lRenamed, d_lNamedBy, d_lFits, d_lRight, d_lLaw]
def fn : List He.DefD := fn0 ++ fn1
def fa0 : List He.Fa := [.glo "is_whole", .glo "is_within", .glo "is_name", .glo "is_hold", .glo "are_holds", .glo "is_member", .glo "cost_of", .glo "due_of", .glo "holds_of", .glo "tool_levels", .glo "check_crew", .glo "rank_of", .glo "tools_at", .glo "is_held_up", .glo "is_work", .glo "check_works", .glo "served", .glo "_law_cell", .glo "_law_purse", .glo "_law_take", .glo "_law_words", .glo "_law_holds", .glo "_law_task", .glo "_law_door", .glo "_law_rows", .glo "_law_member", .glo "_law_crew", .glo "_law_due", .glo "_law_level", .glo "_law_held", .glo "_law_row_of", .glo "_law_comings", .glo "_law_in_turn", .glo "_law_key", .glo "_law_is_held_up", .glo "_law_chosen", .glo "_law_new", .glo "_law_ends", .glo "_law_come", .glo "_law_portions"]
def fa1 : List He.Fa := [.glo "_law_serve", .glo "_law_is_over", .glo "_law_run", .glo "_law_turned", .glo "_law_renamed", .glo "_law_named_by", .glo "_law_fits", .glo "_law_right", .glo "law", .glo "Task", .glo "Door", .glo "Crew", .free "len", .free "abs", .free "all", .free "any", .free "min", .free "max", .free "isinstance", .free "int", .free "bool", .free "str", .free "tuple", .free "list", .free "set", .free "sorted", .free "range", .free "zip", .free "enumerate", .int "MOST_LETTERS" 8, .int "MOST_COST" 99, .int "MOST_GAP" 600, .int "MOST_HOLDS" 4, .int "MOST_MEMBERS" 8, .int "LAST_POINT" 1000000000000, .str "LETTERS" "abcdefghijklmnopqrstuvwxyz", .cls "Task", .cls "Door", .cls "Crew", .noat "Task" "name"]
def fa2 : List He.Fa := [.noat "Task" "cost", .noat "Task" "gap", .noat "Task" "due", .noat "Task" "holds", .noat "Task" "spans", .noat "Door" "name", .noat "Door" "room", .noat "Door" "gap", .noat "Door" "spans", .noat "Crew" "members", .meth "Crew" "names", .meth "Crew" "named", .mkr "Task", .mkr "Door", .mkr "Crew"]
def fa : List He.Fa := fa0 ++ fa1 ++ fa2
def tf1 : He.Defn := ("_law_in_turn", none)
def tf2 : He.Defn := ("_law_chosen", none)
def tf : List He.Defn := [tf1, tf2]
def isiB (K : PySem.W.Frag) (C : Addr) : Bool := decide (PySem.W.findIn K (.ref C) "__class__" = some (some (.builtin "object.__class__"))) && (decide (PySem.W.specialIn K (.builtin "object.__class__") "__get__" = some (some (.builtin "getset_descriptor.__get__"))) && (decide (PySem.W.takesIn K (.builtin "object.__class__") = some true) && decide (PySem.W.mroIn K C (.type "object") = some true)))
def ex (K : PySem.W.Frag) : Bool := isiB K (He.ga K "Task") && (isiB K (He.ga K "Door") && (isiB K (He.ga K "Crew") && (decide (PySem.W.kitOne K (.ref (He.ga K "Task")) (.ref (He.ga K "Door")) = some false) && (decide (PySem.W.kitOne K (.ref (He.ga K "Door")) (.ref (He.ga K "Task")) = some false) && !decide ((He.cT K tf1).2 = (He.cT K tf2).2)))))
abbrev R : PySem.W.OpenRow := PySem.W.OpenLaw.row PySem.Challenge.rw_duetimes_k19_whole_rule_and_orders
abbrev hk : PySem.W.Hook := He.hookX 4 fa fn [] tf ex
def ob (s : PySem.W.SharedT) : He.AlX := He.obsX 4 fa fn [] tf ex (HandSHeadRun.getT s)
theorem ob_eq (s : PySem.W.SharedT) : ob s = hk.obs s.abs := He.obsX_eq (HandSHeadRun.getT_eq s)
theorem run (w : World) : HandSHeadRun.RunEq R (PySem.W.view R.prog [76]) hk ob 20000 loose w := by
  intro os
  kernel_rfl
end K19
/-! Own rules, small: defs of the module, calls, one step of a reading each. -/
namespace K19
open PySem L2
open PyProof.Rows (envOfC)
/-- a def of the module as the top leaves it -/
def Fx (K : PySem.W.Frag) (mg : Str → Option Value) (x : Str) (st : Stmt) (ps : List Str) : Prop :=
  ∃ f fd, FunD K x x (defArgs st) (defBody st) (defScope st) [] [] f fd ∧ mg x = some (.ref f) ∧ Binds K fd ps []
/-- a def that keeps its promise, as a caller sees it -/
structure Cal (P : Program) (w : World) (K : PySem.W.Frag) (mg : Str → Option Value) (base : Heap) (k : Nat) (x : Str) (ps : List Str) (sp : Sp) : Prop where
  ex : ∃ f fd, FnOk P w K mg base CX0 k f fd ps sp ∧ mg x = some (.ref f) ∧ PySem.W.keepIn K (.ref f) = true ∧ Binds K fd ps []
section
variable {P : Program} {w : World} {K : PySem.W.Frag} {mg : Str → Option Value} {base : Heap}
theorem Cal.mono {j k : Nat} {x : Str} {ps : List Str} {sp : Sp} (C : Cal P w K mg base j x ps sp) (h : j ≤ k) : Cal P w K mg base k x ps sp := by
  obtain ⟨f, fd, F, a, b, c⟩ := C.ex
  exact ⟨f, fd, F.mono h, a, b, c⟩
theorem cal_of {x : Str} {st : Stmt} {ps N : List Str} {k : Nat} {sp : Sp} (F : Fx K mg x st ps) (S : FnScope N ps (defScope st)) (len : ∀ vs H Q E, sp vs H Q E → vs.length = ps.length)
    (hbody : ∀ (f : Addr) (cdv : Value) (A : Around) (outer : List Env) (s : Shared) (H : Hp) (vs : List V) (Q : VK) (E : XK), Room k (A.deeper (envOfC x (defScope st) s.heap.objs.size f cdv)) → sp vs H Q E →
      ∃ t, PSs (cxOf CX0 P w K mg base N x (defScope st) f cdv A outer s H E).nox (defBody st) t ∧ t { nx := fun _ H' => Q .non H', rt := Q } (start N vs) H) :
    Cal P w K mg base (k + 1) x ps sp := by
  obtain ⟨f, fd, G, hm, hb⟩ := F
  refine ⟨f, fd, G.ok S len (fun cdv A outer s H vs Q E hr h => ?_), hm, G.kp, hb⟩
  obtain ⟨t, ht, q⟩ := hbody f cdv A outer s H vs Q E hr h
  exact ⟨t, ht.nox, q⟩
end
theorem pe_cal {X : Cx} {k : Nat} {x : Str} {ps : List Str} {sp : Sp} {e : Expr} {es : List Expr} {t : TA} {p pos : Pos} (C : Cal X.prog X.w X.K X.mg X.base k x ps sp) (hr : Room k X.A) (ha : PA X (e :: es) t) (hg : Gl X x := by rfl)
    (hdb : (x == ("__debug__" : Str)) = false := by decide) (he : starEach (e :: es) X.env = (false, eval e X.env) :: starEach es X.env := by rfl) (hpl : (backTo pos (starEach es X.env)).any (·.1) = false := by rfl) :
    PE X (.Call (.Name x p) (e :: es) [] pos) (tCall sp [] E0 t) := by
  obtain ⟨f, fd, F, hm, hk, hb⟩ := C.ex
  exact pe_call F hr hg hm hk hb .nil pass0 ha hdb he hpl
/-! ### one step of a reading each -/
theorem i_dec {c : Prop} {d : Decidable c} {A B : Prop} (h1 : c → A) (h2 : ¬ c → B) : if decide c = true then A else B := by
  by_cases h : c
  · rw [if_pos (decide_eq_true h)]
    exact h1 h
  · rw [if_neg (fun z => h (of_decide_eq_true z))]
    exact h2 h
theorem i_decN {c : Prop} {d : Decidable c} {A B : Prop} (h1 : ¬ c → A) (h2 : c → B) : if (!decide c) = true then A else B := by
  by_cases h : c
  · rw [if_neg (by simp [h])]
    exact h2 h
  · rw [if_pos (by simp [h])]
    exact h1 h
theorem i_boo {b : Bool} {A B : Prop} (h1 : b = true → A) (h2 : b = false → B) : if b = true then A else B := by
  cases b with
  | true => rw [if_pos rfl]; exact h1 rfl
  | false => rw [if_neg (by decide)]; exact h2 rfl
theorem at_ {t : TS} {D : Ends} {σ : L2.St} {H : Hp} (σ' : L2.St) (e : σ = σ') (q : t D σ' H) : t D σ H := by
  rw [e]
  exact q
theorem upd_ne2 {H : Hp} {a b : Addr} {o u : HO} (ne : b ≠ a) (hp : H b = some u) : upd H a o b = some u := (upd_ne ne).trans hp
section
variable {σ σ' : St} {H : Hp} {Q : VK} {D : Ends} {ta tb tc te : TE} {t u : TS} {tl : TA}
theorem i_var {i : Nat} {v : V} (h : σ[i]? = some (some v)) (q : Q v H) : tVar i σ H Q := ⟨v, h, q⟩
theorem i_c {v : V} (q : Q v H) : tC v σ H Q := q
theorem i_op {r : R2} (q : ta σ H fun x H1 => tb σ H1 fun y H2 => r x y H2 Q) : tOp r ta tb σ H Q := q
theorem i_un {r : V → Hp → VK → Prop} (q : ta σ H fun x H1 => r x H1 Q) : tUn r ta σ H Q := q
theorem i_rU {g : Int → V} {i : Int} (q : Q (g i) H) : rU g (.int i) H Q := ⟨i, rfl, q⟩
theorem i_i0 {g : Int → Int → V} {i j : Int} (q : Q (g i j) H) : rI0 g (.int i) (.int j) H Q := ⟨i, j, rfl, rfl, q⟩
theorem i_ic {C : Int → Int → Prop} {g : Int → Int → V} {i j : Int} (c : C i j) (q : Q (g i j) H) : rI C g (.int i) (.int j) H Q := ⟨i, j, rfl, rfl, c, q⟩
theorem i_nil {R : List V → Hp → Prop} (q : R [] H) : tNil σ H R := q
theorem i_cons {R : List V → Hp → Prop} (q : te σ H fun x H1 => tl σ H1 fun xs H2 => R (x :: xs) H2) : tCons te tl σ H R := q
theorem i_lst (q : tl σ H fun xs H1 => xs.length ≤ sizeLine ∧ ∀ p, H1 p = none → Q (.ref p) (upd H1 p (.lst xs))) : tLst tl σ H Q := q
theorem i_tup (q : tl σ H fun xs H1 => xs.length ≤ sizeLine ∧ ∀ p, H1 p = none → Q (.ref p) (upd H1 p (.tup xs))) : tTup tl σ H Q := q
theorem i_call {sp : Sp} {dvs : List V} {E : XK} (q : tl σ H fun vs H1 => sp (vs ++ dvs) H1 Q E) : tCall sp dvs E tl σ H Q := q
theorem i_cb {r : List V → Hp → VK → Prop} (q : tl σ H fun vs H1 => r vs H1 Q) : tCB r tl σ H Q := q
theorem i_seq (q : t { D with nx := u D } σ H) : tSeq t u D σ H := q
theorem i_next (q : D.nx σ H) : tNext D σ H := q
theorem i_ret (q : te σ H D.rt) : tRet te D σ H := q
theorem i_retN (q : D.rt .non H) : tRetN D σ H := q
theorem i_drop (q : te σ H fun _ H1 => D.nx σ H1) : tDrop te D σ H := q
theorem i_asg {g : TG} (q : te σ H fun x H1 => g x σ H1 D.nx) : tAsg te g D σ H := q
theorem i_name {i : Nat} {v : V} {R : St → Hp → Prop} (h : σ.set i (some v) = σ') (q : R σ' H) : gName i v σ H R := by
  subst h
  exact q
theorem i_sub {tset : TSet} {v : V} {R : St → Hp → Prop} (q : ta σ H fun o H1 => tb σ H1 fun i H2 => tset o i v H2 fun H3 => R σ H3) : gSub ta tb tset v σ H R := q
theorem i_ifs {c : TT} (q : c σ H fun b H1 => if b = true then t D σ H1 else u D σ H1) : tIfS c t u D σ H := q
theorem i_test {R : Bool → Hp → Prop} (q : te σ H fun x H' => ∃ k, x = .bl k ∧ R k H') : tTest te σ H R := q
theorem i_tb {R : Bool → Hp → Prop} (q : te σ H fun x H' => ∃ k, x = .bl k ∧ R k H') : tB te σ H R := q
theorem i_bl {b : Bool} {R : Bool → Prop} (q : R b) : ∃ k, V.bl b = .bl k ∧ R k := ⟨b, rfl, q⟩
theorem i_and {a b : TT} {R : Bool → Hp → Prop} (q : a σ H fun c H1 => if c = true then b σ H1 R else R false H1) : tAnd a b σ H R := q
theorem i_or {a b : TT} {R : Bool → Hp → Prop} (q : a σ H fun c H1 => if c = true then R true H1 else b σ H1 R) : tOr a b σ H R := q
theorem i_not {a : TT} {R : Bool → Hp → Prop} (q : a σ H fun c H1 => R (!c) H1) : tNot a σ H R := q
theorem i_andV (q : ta σ H fun x H1 => ∃ c, x = .bl c ∧ if c = true then tb σ H1 Q else Q (.bl false) H1) : tAndV ta tb σ H Q := q
theorem i_orV (q : ta σ H fun x H1 => ∃ c, x = .bl c ∧ if c = true then Q (.bl true) H1 else tb σ H1 Q) : tOrV ta tb σ H Q := q
theorem i_notV (q : ta σ H fun x H1 => ∃ c, x = .bl c ∧ Q (.bl (!c)) H1) : tNotV ta σ H Q := q
theorem i_if {c : TT} (q : c σ H fun b H1 => if b = true then ta σ H1 Q else tb σ H1 Q) : tIf c ta tb σ H Q := q
theorem i_chain {r r' : R2} (q : ta σ H fun x H1 => tb σ H1 fun y H2 => r x y H2 fun z H3 => ∃ k, z = .bl k ∧ (if k = true then tc σ H3 fun w' H4 => r' y w' H4 Q else Q (.bl false) H3)) : tChain r r' ta tb tc σ H Q := q
theorem i_par {i j : Nat} (q : tl σ H fun vs H1 => ∃ v w, vs = [v, w] ∧ D.nx ((σ.set i (some v)).set j (some w)) H1) : tPar i j tl D σ H := q
theorem i_two {v w : V} {R : V → V → Prop} (q : R v w) : ∃ a b, [v, w] = [a, b] ∧ R a b := ⟨v, w, rfl, q⟩
theorem i_fld {K : PySem.W.Frag} {f : Str} (q : ta σ H fun x H1 => ∃ a C dx fs v, x = .ref a ∧ H1 a = some (.ins C dx fs) ∧ Cls K C ∧ NoAttr K C f ∧ fs.lookup f = some v ∧ Q v H1) : tFld K ta f σ H Q := q
theorem i_sfld {K : PySem.W.Frag} {f : Str} (q : tb σ H fun y H1 => ta σ H1 fun x H2 => ∃ a C dx fs, x = .ref a ∧ H2 a = some (.ins C dx fs) ∧ Cls K C ∧ NoAttr K C f ∧ fs.length < 1000 ∧ D.nx σ (upd H2 a (.ins C dx (putF f y fs)))) : sFld K ta tb f D σ H := q
theorem i_sl {r : V → Option Int → Option Int → Hp → VK → Prop} {tl th : TO} (q : ta σ H fun x H1 => tl σ H1 fun l H2 => th σ H2 fun u H3 => r x l u H3 Q) : tSl r ta tl th σ H Q := q
theorem i_nop {R : Option Int → Hp → Prop} (q : R none H) : tNoPart σ H R := q
theorem i_part {R : Option Int → Hp → Prop} (q : te σ H fun x H1 => ∃ i, x = .int i ∧ R (some i) H1) : tPart te σ H R := q
theorem i_int {i : Int} {R : Int → Prop} (q : R i) : ∃ j, V.int i = .int j ∧ R j := ⟨i, rfl, q⟩
theorem i_bm {K : PySem.W.Frag} {T : String} {r : V → List V → Hp → VK → Prop} (q : te σ H fun x H1 => tyV K T x H1 ∧ tl σ H1 fun xs H2 => r x xs H2 Q) : tBM K T r te tl σ H Q := q
theorem i_ints1 {i : Int} {R : Int → Prop} (q : R i) : ∃ j, [V.int i] = [V.int j] ∧ R j := ⟨i, rfl, q⟩
theorem i_ints2 {i j : Int} {R : Int → Int → Prop} (q : R i j) : ∃ a b, [V.int i, V.int j] = [V.int a, V.int b] ∧ R a b := ⟨i, j, rfl, q⟩
theorem i_ref {a : Addr} {R : Addr → Prop} (q : R a) : ∃ b, V.ref a = .ref b ∧ R b := ⟨a, rfl, q⟩
/-- lists and tuples -/
theorem i_ixL {K : PySem.W.Frag} {p : Addr} {xs : List V} {i : Int} {v : V} (h : SqL K H p xs) (a : atI xs i = some v) (q : Q v H) : rIxL K (.ref p) (.int i) H Q := ⟨p, xs, i, v, rfl, rfl, h, a, q⟩
theorem i_ixT {K : PySem.W.Frag} {p : Addr} {xs : List V} {i : Int} {v : V} (h : SqT K H p xs) (a : atI xs i = some v) (q : Q v H) : rIxT K (.ref p) (.int i) H Q := ⟨p, xs, i, v, rfl, rfl, h, a, q⟩
theorem i_setL {p : Addr} {xs ys : List V} {k : Int} {j : Nat} {v : V} {R : Hp → Prop} (h : H p = some (.lst xs)) (a : ixN xs.length k = some j) (e : xs.set j v = ys) (q : R (upd H p (.lst ys))) : rSetL (.ref p) (.int k) v H R := ⟨p, xs, k, j, rfl, rfl, h, a, by rw [e]; exact q⟩
theorem i_len {K : PySem.W.Frag} {p : Addr} {ys : List V} {R : List V → Prop} (h : SqL K H p ys ∨ SqT K H p ys) (q : R ys) : ∃ p' ys', [V.ref p] = [V.ref p'] ∧ (SqL K H p' ys' ∨ SqT K H p' ys') ∧ R ys' := ⟨p, ys, rfl, h, q⟩
theorem i_slL {K : PySem.W.Frag} {a : Addr} {xs : List V} {lo hi : Option Int} (h : SqL K H a xs) (q : ∀ p, H p = none → Q (.ref p) (upd H p (.lst (cutV xs lo hi)))) : rSlL K (.ref a) lo hi H Q := ⟨a, xs, rfl, h, q⟩
theorem i_slT {K : PySem.W.Frag} {a : Addr} {xs : List V} {lo hi : Option Int} (h : SqT K H a xs) (n : ¬ (HT.sIx xs.length 0 lo = 0 ∧ HT.sIx xs.length xs.length hi = xs.length)) (q : ∀ p, H p = none → Q (.ref p) (upd H p (.tup (cutV xs lo hi)))) :
    rSlT K (.ref a) lo hi H Q := ⟨a, xs, rfl, h, n, q⟩
theorem i_eq {x y : V} (h : scal x y = true) (q : Q (.bl (decide (x = y))) H) : rEq x y H Q := ⟨h, q⟩
theorem i_ne {x y : V} (h : scal x y = true) (q : Q (.bl (!decide (x = y))) H) : rNe x y H Q := ⟨h, q⟩
theorem i_append {l : Addr} {xs : List V} {y : V} (h : H l = some (.lst xs)) (z : xs.length < sizeLine) (q : Q .non (upd H l (.lst (xs ++ [y])))) : rAppend (.ref l) [y] H Q := ⟨l, xs, y, rfl, rfl, h, z, q⟩
/-- iterables -/
theorem i_for {wi : TI} {g : TG} {tb : TS} (q : wi σ H fun J H1 => ∃ W : Nat → Nat → St → Hp → Prop, (∃ m, W 0 m σ H1) ∧ ∀ i m σ H, W i m σ H →
  (J.stop i H ∧ D.nx σ H) ∨ (J.go i H ∧ ∃ N : St → Hp → Prop, (∀ σ' H', N σ' H' → ∃ m', m' < m ∧ W (i + 1) m' σ' H') ∧ ∀ x H', J.yld i H x H' → g x σ H' fun σ2 H2 => tb { D with nx := N, ct := N, bk := D.nx } σ2 H2)) : tFor wi g tb D σ H := q
theorem i_il {K : PySem.W.Frag} {R : It → Hp → Prop} (q : te σ H fun x H1 => ∃ a, x = .ref a ∧ (∃ xs, SqL K H1 a xs) ∧ R (Itl K a) H1) : iList K te σ H R := q
theorem i_it {K : PySem.W.Frag} {R : It → Hp → Prop} (q : te σ H fun x H1 => ∃ a, x = .ref a ∧ (∃ xs, SqT K H1 a xs) ∧ R (Itt K a) H1) : iTup K te σ H R := q
end
/-! ### loops, the ends told one by one -/
section
variable {g : TG} {tb : TS} {nx : L2.St → Hp → Prop} {rt : VK} {σ : L2.St} {H : Hp}
theorem for_listD {K : PySem.W.Frag} {a : Addr} (xs : List V) (Pv : Nat → L2.St → Hp → Prop) (h0 : Pv 0 σ H) (hl : ∀ i σ H, i ≤ xs.length → Pv i σ H → SqL K H a xs)
    (hs : ∀ i x σ H, xs[i]? = some x → Pv i σ H → g x σ H fun σ2 H2 => tb { nx := Pv (i + 1), rt := rt, bk := nx, ct := Pv (i + 1) } σ2 H2) (hd : ∀ σ H, Pv xs.length σ H → nx σ H) :
    ∃ W : Nat → Nat → L2.St → Hp → Prop, (∃ m, W 0 m σ H) ∧ ∀ i m σ H, W i m σ H →
      ((Itl K a).stop i H ∧ nx σ H) ∨ ((Itl K a).go i H ∧ ∃ N : L2.St → Hp → Prop, (∀ σ' H', N σ' H' → ∃ m', m' < m ∧ W (i + 1) m' σ' H') ∧ ∀ x H', (Itl K a).yld i H x H' → g x σ H' fun σ2 H2 => tb { nx := N, rt := rt, bk := nx, ct := N } σ2 H2) :=
  for_list (K := K) (a := a) (xs := xs) (D := { nx := nx, rt := rt }) Pv h0 hl hs hd
theorem for_tupD {K : PySem.W.Frag} {a : Addr} (xs : List V) (Pv : Nat → L2.St → Hp → Prop) (h0 : Pv 0 σ H) (hl : ∀ i σ H, i ≤ xs.length → Pv i σ H → SqT K H a xs)
    (hs : ∀ i x σ H, xs[i]? = some x → Pv i σ H → g x σ H fun σ2 H2 => tb { nx := Pv (i + 1), rt := rt, bk := nx, ct := Pv (i + 1) } σ2 H2) (hd : ∀ σ H, Pv xs.length σ H → nx σ H) :
    ∃ W : Nat → Nat → L2.St → Hp → Prop, (∃ m, W 0 m σ H) ∧ ∀ i m σ H, W i m σ H →
      ((Itt K a).stop i H ∧ nx σ H) ∨ ((Itt K a).go i H ∧ ∃ N : L2.St → Hp → Prop, (∀ σ' H', N σ' H' → ∃ m', m' < m ∧ W (i + 1) m' σ' H') ∧ ∀ x H', (Itt K a).yld i H x H' → g x σ H' fun σ2 H2 => tb { nx := N, rt := rt, bk := nx, ct := N } σ2 H2) :=
  for_tup (K := K) (a := a) (xs := xs) (D := { nx := nx, rt := rt }) Pv h0 hl hs hd
theorem for_rangeD {lo : Int} {n : Nat} (Pv : Nat → L2.St → Hp → Prop) (h0 : Pv 0 σ H)
    (hs : ∀ i σ H, i < n → Pv i σ H → g (.int (lo + i)) σ H fun σ2 H2 => tb { nx := Pv (i + 1), rt := rt, bk := nx, ct := Pv (i + 1) } σ2 H2) (hd : ∀ σ H, Pv n σ H → nx σ H) :
    ∃ W : Nat → Nat → L2.St → Hp → Prop, (∃ m, W 0 m σ H) ∧ ∀ i m σ H, W i m σ H →
      ((Itr lo n).stop i H ∧ nx σ H) ∨ ((Itr lo n).go i H ∧ ∃ N : L2.St → Hp → Prop, (∀ σ' H', N σ' H' → ∃ m', m' < m ∧ W (i + 1) m' σ' H') ∧ ∀ x H', (Itr lo n).yld i H x H' → g x σ H' fun σ2 H2 => tb { nx := N, rt := rt, bk := nx, ct := N } σ2 H2) :=
  for_range (lo := lo) (n := n) (D := { nx := nx, rt := rt }) Pv h0 hs hd
end
/-! ### what the text's top has left -/
structure Txt (K : PySem.W.Frag) (mg : Str → Option Value) : Prop where
  len : mg "len" = none
  abs : mg "abs" = none
  all : mg "all" = none
  any : mg "any" = none
  min : mg "min" = none
  max : mg "max" = none
  isinstance : mg "isinstance" = none
  int : mg "int" = none
  bool : mg "bool" = none
  str : mg "str" = none
  tuple : mg "tuple" = none
  list : mg "list" = none
  set : mg "set" = none
  sorted : mg "sorted" = none
  range : mg "range" = none
  zip : mg "zip" = none
  enumerate : mg "enumerate" = none
  mostLetters : ∃ t, mg "MOST_LETTERS" = some (.int 8 t)
  mostCost : ∃ t, mg "MOST_COST" = some (.int 99 t)
  mostGap : ∃ t, mg "MOST_GAP" = some (.int 600 t)
  mostHolds : ∃ t, mg "MOST_HOLDS" = some (.int 4 t)
  mostMembers : ∃ t, mg "MOST_MEMBERS" = some (.int 8 t)
  lastPoint : ∃ t, mg "LAST_POINT" = some (.int 1000000000000 t)
  letters : ∃ t, mg "LETTERS" = some (.str "abcdefghijklmnopqrstuvwxyz" t)
end K19
section
/-! own lines of the walk: hp: what stands at an address; ne: two addresses differ; sq: a list or tuple to be read; at: an item; st: one step of a reading; go: steps as far as they lead -/
local macro_rules | `(tactic| walk_at "ne") => `(tactic| first | assumption | (refine Ne.symm ?_; assumption))
local macro_rules | `(tactic| walk_at "hp") => `(tactic| first | assumption | exact L2.upd_same | ((with_reducible apply K19.upd_ne2); (case ne => walk_at "ne"); (case hp => walk_at "hp")))
local macro_rules | `(tactic| walk_at "sq") => `(tactic| first | assumption | ((with_reducible apply L2.SqL.of); walk_at "hp") | ((with_reducible apply L2.SqT.of); walk_at "hp") | ((with_reducible apply Or.inl); walk_at "sq") | ((with_reducible apply Or.inr); walk_at "sq"))
local macro_rules | `(tactic| walk_at "ix") => `(tactic| first | exact (rfl : _ = some 0) | exact (rfl : _ = some 1) | exact (rfl : _ = some 2) | exact (rfl : _ = some 3) | exact (rfl : _ = some 4) | exact (rfl : _ = some 5) | exact (rfl : _ = some 6) | exact (rfl : _ = some 7) | assumption)
local macro_rules | `(tactic| walk_at "ls") => `(tactic| first | (simp only [List.set_cons_succ, List.set_cons_zero, List.set_nil]; done) | (simp only [List.set_cons_succ, List.set_cons_zero, List.set_nil]; exact rfl) | exact rfl)
local macro_rules | `(tactic| walk_at "at") => `(tactic| first | rfl | assumption)
local macro_rules | `(tactic| walk_at "cc") => `(tactic| first | (show (0 : Int) < _; omega) | (show L2.CDiv _ _; exact ⟨by omega, by omega⟩) | (show L2.CMul _ _; first | exact Or.inl ⟨by omega, by omega⟩ | exact Or.inr ⟨by omega, by omega⟩) | exact ⟨by decide, by decide, by decide⟩)
local macro_rules | `(tactic| walk_at "ty") => `(tactic| first | exact L2.TyX.base (L2.TyOf.int _) | exact L2.TyX.base (L2.TyOf.str _) | ((refine L2.TyX.base (L2.TyOf.tup (?_ : _ = some (L2.HO.tup _)))); walk_at "hp"))
local macro_rules | `(tactic| walk_at "kb") => `(tactic| first | exact K19.kb_ii | exact K19.kb_ib | exact K19.kb_ss | exact K19.kb_tt)
local macro_rules | `(tactic| walk_at "st") => `(tactic| first
  | ((with_reducible apply K19.i_var); (case h => exact rfl))
  | with_reducible refine K19.i_c ?_
  | with_reducible refine K19.i_op ?_
  | with_reducible refine K19.i_i0 ?_
  | ((with_reducible apply K19.i_ic); (case c => walk_at "cc"))
  | with_reducible refine K19.i_un ?_
  | with_reducible refine K19.i_rU ?_
  | with_reducible refine K19.i_seq ?_
  | with_reducible refine K19.i_asg ?_
  | ((with_reducible apply K19.i_name); (case h => walk_at "ls"))
  | with_reducible refine K19.i_sub ?_
  | with_reducible refine K19.i_ret ?_
  | with_reducible refine K19.i_retN ?_
  | with_reducible refine K19.i_next ?_
  | with_reducible refine K19.i_drop ?_
  | with_reducible refine K19.i_ifs ?_
  | with_reducible refine K19.i_test ?_
  | with_reducible refine K19.i_tb ?_
  | with_reducible refine K19.i_bl ?_
  | with_reducible refine K19.i_and ?_
  | with_reducible refine K19.i_or ?_
  | with_reducible refine K19.i_not ?_
  | with_reducible refine K19.i_andV ?_
  | with_reducible refine K19.i_orV ?_
  | with_reducible refine K19.i_notV ?_
  | with_reducible refine K19.i_if ?_
  | with_reducible refine K19.i_chain ?_
  | with_reducible refine K19.i_par ?_
  | with_reducible refine K19.i_two ?_
  | with_reducible refine K19.i_nil ?_
  | with_reducible refine K19.i_cons ?_
  | with_reducible refine K19.i_lst ?_
  | with_reducible refine K19.i_tup ?_
  | with_reducible refine K19.i_call ?_
  | with_reducible refine K19.i_cb ?_
  | with_reducible refine K19.i_fld ?_
  | with_reducible refine K19.i_sfld ?_
  | with_reducible refine K19.i_sl ?_
  | with_reducible refine K19.i_nop ?_
  | ((with_reducible apply K19.i_isiT); (case h => walk_at "hp"))
  | ((with_reducible apply K19.i_isiB); (case ty => walk_at "ty"); (case k => walk_at "kb"))
  | with_reducible refine K19.i_lc ?_
  | with_reducible refine K19.i_is ?_
  | with_reducible refine K19.i_then ?_
  | with_reducible refine K19.i_rng1 ?_
  | with_reducible refine K19.i_m1 ?_
  | with_reducible refine K19.i_yes ?_
  | ((with_reducible apply K19.i_gtup); (case h => walk_at "sq"); (case l => rfl))
  | with_reducible refine K19.i_gn ?_
  | with_reducible refine K19.i_strx ?_
  | with_reducible refine K19.i_gc ?_
  | with_reducible refine K19.i_part ?_
  | with_reducible refine K19.i_int ?_
  | with_reducible refine K19.i_bm ?_
  | with_reducible refine K19.i_ints1 ?_
  | with_reducible refine K19.i_ints2 ?_
  | with_reducible refine K19.i_ref ?_
  | with_reducible refine K19.i_for ?_
  | with_reducible refine K19.i_il ?_
  | with_reducible refine K19.i_it ?_
  | with_reducible refine L2.iteT ?_
  | with_reducible refine K19.i_nT ?_
  | with_reducible refine K19.i_nF ?_
  | with_reducible refine L2.iteF ?_
  | ((with_reducible apply K19.i_ixL); (case h => walk_at "sq"); (case a => walk_at "at"))
  | ((with_reducible apply K19.i_ixT); (case h => walk_at "sq"); (case a => walk_at "at"))
  | ((with_reducible apply K19.i_setL); (case h => walk_at "hp"); (case a => walk_at "ix"); (case e => walk_at "ls"))
  | ((with_reducible apply K19.i_len); (case h => walk_at "sq"))
  | ((with_reducible apply K19.i_slL); (case h => walk_at "sq"))
  | ((with_reducible apply K19.i_eq); (case h => rfl))
  | ((with_reducible apply K19.i_ne); (case h => rfl))
  | dsimp only)
local macro_rules | `(tactic| walk_at "go") => `(tactic| repeat walk_at "st")
namespace K19
open PySem L2
open PyProof.Rows (envOfC)
/-! comprehensions; heaps that grow; what the program's things are and how they lie -/
theorem le_sz {n : Nat} (h : n ≤ 4000000) : n ≤ sizeLine := by
  rw [PySem.sizeLine_eq]
  omega
theorem lt_sz {n : Nat} (h : n ≤ 4000000) : n < sizeLine := by
  rw [PySem.sizeLine_eq]
  omega
/-- len of a list or a tuple -/
abbrev rLen (K : PySem.W.Frag) : List V → Hp → VK → Prop := fun xs H Q => ∃ p ys, xs = [V.ref p] ∧ (SqL K H p ys ∨ SqT K H p ys) ∧ Q (V.int (ys.length : Nat)) H
/-- things that may be written: all but tuples, instances, frozen ones and what .ext tells -/
def mutO : HO → Bool
  | .tup _ => false
  | .ins _ _ _ => false
  | .frz _ _ => false
  | .ext _ => false
  | _ => true
/-- all that can't be written stays -/
def NL (H H' : Hp) : Prop := ∀ b o, mutO o = false → H b = some o → H' b = some o
theorem extN_same {H H' : Hp} (h : ∀ b o, H b = some o → H' b = some o) : LamX.ExtN H H' := fun b o e _ => h b o e
theorem same_nl {H H' : Hp} (h : Same H H') : NL H H' := fun b o _ e => h b o e
theorem extN_nl {H H' : Hp} (h : LamX.ExtN H H') : NL H H' := fun b o m e => h b o e fun ps z => by
  rw [z] at m
  cases m
theorem NL.trans {H H1 H2 : Hp} (a : NL H H1) (b : NL H1 H2) : NL H H2 := fun c o m e => b c o m (a c o m e)
theorem same_of_upd {H : Hp} {a : Addr} {o : HO} (h : H a = none) : Same H (upd H a o) := fun b u e => by
  rw [upd_ne (ne_of_none e h)]
  exact e
theorem same_in_upd {H H' : Hp} {a : Addr} {o : HO} (s : Same H H') (h : H a = none) : Same H (upd H' a o) := fun b u e => by
  rw [upd_ne (ne_of_none e h)]
  exact s b u e
theorem nl_upd {H : Hp} {D : Addr} {o o' : HO} (h : H D = some o) (m : mutO o = true) : NL H (upd H D o') := fun b u n e => by
  rw [upd_ne (fun z => by rw [z, h] at e; cases e; rw [m] at n; cases n)]
  exact e
theorem i_lc {wi : TI} {g : TG} {tt : TT} {te : TE} {vs : List Nat} {σ : L2.St} {H : Hp} {Q : VK} (q : wi σ H fun J H1 => ∀ D, H1 D = none → ∃ W : Nat → Nat → Hp → Prop, (∃ m, W 0 m (upd H1 D (.lst []))) ∧ ∀ i m H, W i m H →
    (J.stop i H ∧ Q (.ref D) H) ∨ (J.go i H ∧ ∃ Nx : Hp → Prop, (∀ H', Nx H' → ∃ m', m' < m ∧ W (i + 1) m' H') ∧ ∀ x H', J.yld i H x H' → g x (wipe σ vs) H' fun σ2 H2 => wipe σ2 vs = wipe σ vs ∧ tt σ2 H2 fun b H3 =>
      if b = true then te σ2 H3 fun y H4 => ∃ acc, H4 D = some (.lst acc) ∧ acc.length < sizeLine ∧ Nx (upd H4 D (.lst (acc ++ [y]))) else Nx H3)) : tLc wi g tt te vs σ H Q := q
section
variable {σ : L2.St} {H : Hp} {Q : VK} {K : PySem.W.Frag}
theorem i_decT {c : Prop} {d : Decidable c} {A B : Prop} (h : c) (q : A) : if decide c = true then A else B := by
  rw [if_pos (decide_eq_true h)]
  exact q
theorem i_decF {c : Prop} {d : Decidable c} {A B : Prop} (h : ¬ c) (q : B) : if decide c = true then A else B := by
  rw [if_neg (fun z => h (of_decide_eq_true z))]
  exact q
theorem i_booT {b : Bool} {A B : Prop} (h : b = true) (q : A) : if b = true then A else B := by
  rw [if_pos h]
  exact q
theorem i_booF {b : Bool} {A B : Prop} (h : b = false) (q : B) : if b = true then A else B := by
  rw [if_neg (by rw [h]; decide)]
  exact q
theorem i_nT {A B : Prop} (q : B) : if (!true) = true then A else B := by
  rw [if_neg (by decide)]
  exact q
theorem i_nF {A B : Prop} (q : A) : if (!false) = true then A else B := by
  rw [if_pos (by decide)]
  exact q
theorem i_nDecT {c : Prop} {d : Decidable c} {A B : Prop} (h : c) (q : B) : if (!decide c) = true then A else B := by
  rw [if_neg (by simp [h])]
  exact q
theorem i_nDecF {c : Prop} {d : Decidable c} {A B : Prop} (h : ¬ c) (q : A) : if (!decide c) = true then A else B := by
  rw [if_pos (by simp [h])]
  exact q
theorem i_nDec {c : Prop} {d : Decidable c} {A B : Prop} (h2 : c → B) (h1 : ¬ c → A) : if (!decide c) = true then A else B := by
  by_cases h : c
  · rw [if_neg (by simp [h])]
    exact h2 h
  · rw [if_pos (by simp [h])]
    exact h1 h
theorem i_allT {D : Addr} {xs : List V} (h : H D = some (.lst (xs.filterMap fun _ => some (V.bl true)))) (q : Q (.bl true) H) : rAll K [.ref D] H Q := by
  refine ⟨D, xs.map fun _ => true, rfl, ?_, ?_⟩
  · have e : (xs.filterMap fun _ => some (V.bl true)) = (xs.map fun _ => true).map V.bl := by
      rw [List.map_map, ← List.filterMap_eq_map]
      rfl
    rw [← e]
    exact SqL.of h
  · have e : (xs.map fun _ => true).all id = true := by simp
    rw [e]
    exact q
theorem q_bl {b c : Bool} (e : b = c) (q : Q (.bl c) H) : Q (.bl b) H := by
  rw [e]
  exact q
theorem kb_ii : kitB "int" "int" = some true := by decide +kernel
theorem kb_ib : kitB "int" "bool" = some false := by decide +kernel
theorem kb_ss : kitB "str" "str" = some true := by decide +kernel
theorem kb_tt : kitB "tuple" "tuple" = some true := by decide +kernel
theorem i_isiB {x : V} {n m : String} {b : Bool} (ty : TyX K H x (.type m)) (k : kitB m n = some b) (q : Q (.bl b) H) : rIsi K [x, .ty n] H Q := ⟨x, .ty n, .type m, .type n, b, rfl, .ty n, ty, kit_ty k, q⟩
theorem i_isiT {a : Addr} {xs : List V} (h : H a = some (.tup xs)) (q : Q (.bl true) H) : rIsi K [.ref a, .ty "tuple"] H Q := i_isiB (.base (.tup h)) kb_tt q
theorem i_then {ta : TE} {k : V → Hp → VK → Prop} (q : ta σ H fun x H1 => k x H1 Q) : tThen ta k σ H Q := q
theorem i_kTupL {p : Addr} {xs : List V} (h : SqL K H p xs) (q : ∀ q, H q = none → Q (.ref q) (upd H q (.tup xs))) : kTup K (.ref p) H Q := .inl ⟨p, xs, rfl, h, q⟩
theorem i_rng1 {ta : TA} {R : It → Hp → Prop} (q : ta σ H fun vs H1 => ∃ j : Int, vs = [.int j] ∧ -(2 ^ 62) ≤ j ∧ j < 2 ^ 62 ∧ R (Itr 0 j.toNat) H1) : iRng1 ta σ H R := q
theorem i_m1 {r : V → List V → Hp → VK → Prop} {to te : TE} (q : to σ H fun x H1 => (∃ a, x = .str a) ∧ te σ H1 fun y H2 => r x [y] H2 Q) : tM1 r to te σ H Q := q
theorem i_yes {R : Bool → Hp → Prop} (q : R true H) : tYes σ H R := q
theorem i_is {te : TE} {R : It → Hp → Prop} (q : te σ H fun v H1 => ∃ x, v = .str x ∧ R (Its x) H1) : iStr te σ H R := q
theorem i_strx {z : Str} {R : Str → Prop} (q : R z) : ∃ x, V.str z = .str x ∧ R x := ⟨z, rfl, q⟩
theorem i_gtup {a : Addr} {xs : List V} {n : Nat} {t : TGs} {R : L2.St → Hp → Prop} (h : SqT K H a xs) (l : xs.length = n) (q : t xs σ H R) : gTup K n t (.ref a) σ H R := ⟨a, xs, rfl, h, l, q⟩
theorem i_gn {R : L2.St → Hp → Prop} (q : R σ H) : gNil [] σ H R := ⟨rfl, q⟩
theorem i_gc {t : TG} {u : TGs} {v : V} {r : List V} {R : L2.St → Hp → Prop} (q : t v σ H fun σ' H' => u r σ' H' R) : gCons t u (v :: r) σ H R := ⟨v, r, rfl, q⟩
end
section
variable {J : It} {G : Hp → Prop} {Y : Nat → Hp → V → Hp → Prop} {g : TG} {tt : TT} {te : TE} {vs : List Nat} {σ σ0 : L2.St} {H1 : Hp} {D : Addr} {Qd : Hp → Prop} {xs : List V}
/-- a comprehension whose turns only lay new things: Jn tells what the new list's items are (of all but lists) -/
theorem lc_j (w : Walk J xs.length G Y) (hY : ∀ i H x H', i < xs.length → G H → Y i H x H' → H' = H ∧ xs[i]? = some x) (hn : xs.length < sizeLine) (hD : H1 D = none) (hσ : wipe σ vs = σ0) (Jn : Nat → List V → Hp → Prop)
    (jm : ∀ i acc H H', NL H H' → Jn i acc H → Jn i acc H') (j0 : Jn 0 [] H1) (hG : ∀ H, Same H1 H → G H)
    (hs : ∀ i x acc H (R : Option V → Hp → Prop), xs[i]? = some x → Same H1 H → Jn i acc H → (∀ o H', Same H H' → Jn (i + 1) (acc ++ o.toList) H' → R o H') → g x σ0 H fun σ2 H2 => wipe σ2 vs = σ0 ∧ tt σ2 H2 fun b H3 => if b = true then te σ2 H3 fun y H4 => R (some y) H4 else R none H3)
    (hd : ∀ acc H, Same H1 H → H D = some (.lst acc) → Jn xs.length acc H → acc.length ≤ xs.length → Qd H) :
    ∃ W : Nat → Nat → Hp → Prop, (∃ m, W 0 m (upd H1 D (.lst []))) ∧ ∀ i m H, W i m H →
      (J.stop i H ∧ Qd H) ∨ (J.go i H ∧ ∃ Nx : Hp → Prop, (∀ H', Nx H' → ∃ m', m' < m ∧ W (i + 1) m' H') ∧ ∀ x H', J.yld i H x H' → g x (wipe σ vs) H' fun σ2 H2 => wipe σ2 vs = wipe σ vs ∧ tt σ2 H2 fun b H3 =>
        if b = true then te σ2 H3 fun y H4 => ∃ acc, H4 D = some (.lst acc) ∧ acc.length < sizeLine ∧ Nx (upd H4 D (.lst (acc ++ [y]))) else Nx H3) := by
  refine lc_it w (fun i H => Same H1 H ∧ ∃ acc, H D = some (.lst acc) ∧ Jn i acc H ∧ acc.length ≤ i) ⟨same_of_upd hD, [], upd_same, jm _ _ _ _ (same_nl (same_of_upd hD)) j0, Nat.le_refl _⟩ (fun i H _ p => hG H p.1) ?_ (fun H ⟨s, acc, e, j, l⟩ => hd acc H s e j l)
  rintro i x H H' hi ⟨s, acc, e, j, l⟩ y
  obtain ⟨rfl, hx⟩ := hY i H x H' hi (hG H s) y
  rw [hσ]
  refine hs i x acc H' (fun o H4 => match o with
    | some y => ∃ acc, H4 D = some (.lst acc) ∧ acc.length < sizeLine ∧ Same H1 (upd H4 D (.lst (acc ++ [y]))) ∧ ∃ a2, upd H4 D (.lst (acc ++ [y])) D = some (.lst a2) ∧ Jn (i + 1) a2 (upd H4 D (.lst (acc ++ [y]))) ∧ a2.length ≤ i + 1
    | none => Same H1 H4 ∧ ∃ acc, H4 D = some (.lst acc) ∧ Jn (i + 1) acc H4 ∧ acc.length ≤ i + 1) hx s j ?_
  intro o H4 s4 j4
  cases o with
  | none => exact ⟨s.trans s4, acc, s4 _ _ e, by simpa using j4, by omega⟩
  | some y => exact ⟨acc, s4 _ _ e, by omega, same_in_upd (s.trans s4) hD, _, upd_same, jm _ _ _ _ (nl_upd (s4 _ _ e) rfl) (by simpa using j4), by simp; omega⟩
/-- a comprehension whose turns give plain values: f tells them, none is left out -/
theorem lc_x (w : Walk J xs.length G Y) (hY : ∀ i H x H', i < xs.length → G H → Y i H x H' → H' = H ∧ xs[i]? = some x) (hn : xs.length < sizeLine) (hD : H1 D = none) (hσ : wipe σ vs = σ0) (f : V → Option V) (hG : ∀ H, Same H1 H → G H)
    (hs : ∀ x H (R : Option V → Hp → Prop), x ∈ xs → Same H1 H → (∀ H', Same H H' → R (f x) H') → g x σ0 H fun σ2 H2 => wipe σ2 vs = σ0 ∧ tt σ2 H2 fun b H3 => if b = true then te σ2 H3 fun y H4 => R (some y) H4 else R none H3)
    (hd : ∀ H, Same H1 H → H D = some (.lst (xs.filterMap f)) → Qd H) :
    ∃ W : Nat → Nat → Hp → Prop, (∃ m, W 0 m (upd H1 D (.lst []))) ∧ ∀ i m H, W i m H →
      (J.stop i H ∧ Qd H) ∨ (J.go i H ∧ ∃ Nx : Hp → Prop, (∀ H', Nx H' → ∃ m', m' < m ∧ W (i + 1) m' H') ∧ ∀ x H', J.yld i H x H' → g x (wipe σ vs) H' fun σ2 H2 => wipe σ2 vs = wipe σ vs ∧ tt σ2 H2 fun b H3 =>
        if b = true then te σ2 H3 fun y H4 => ∃ acc, H4 D = some (.lst acc) ∧ acc.length < sizeLine ∧ Nx (upd H4 D (.lst (acc ++ [y]))) else Nx H3) := by
  refine lc_j w hY hn hD hσ (fun i acc _ => acc = (xs.take i).filterMap f) (fun _ _ _ _ _ j => j) (by simp) hG (fun i x acc H R hx s j k => ?_) fun acc H s e j _ => hd H s (by rw [e, j, List.take_length])
  refine hs x H R (List.mem_of_getElem? hx) s fun H' s' => k _ H' s' ?_
  rw [j, List.take_add_one, hx]
  rw [List.filterMap_append]
  have z : (f x).toList = List.filterMap f [x] := by
    rw [List.filterMap_cons, List.filterMap_nil]
    cases f x <;> rfl
  exact congrArg (List.filterMap f (List.take i xs) ++ ·) z
end
section
variable {K : PySem.W.Frag} {g : TG} {tt : TT} {te : TE} {vs : List Nat} {σ σ0 : L2.St} {H1 : Hp} {D a : Addr} {Qd : Hp → Prop} {xs : List V}
/-- the same, a list's or a tuple's items read -/
theorem same_tup {H H' : Hp} (e : Same H H') (h : SqT K H a xs) : SqT K H' a xs := by
  rcases h with h | h
  · rcases h with h | ⟨o, h⟩
    · exact .inl (.inl (e _ _ h))
    · exact .inl (.inr ⟨o, e _ _ h⟩)
  · exact .inr h
theorem lcx_l (sq : SqL K H1 a xs) (hD : H1 D = none) (hn : xs.length < sizeLine) (σ0 : L2.St) (hσ : wipe σ vs = σ0) (f : V → Option V)
    (hs : ∀ x H (R : Option V → Hp → Prop), x ∈ xs → Same H1 H → (∀ H', Same H H' → R (f x) H') → g x σ0 H fun σ2 H2 => wipe σ2 vs = σ0 ∧ tt σ2 H2 fun b H3 => if b = true then te σ2 H3 fun y H4 => R (some y) H4 else R none H3)
    (hd : ∀ H, Same H1 H → H D = some (.lst (xs.filterMap f)) → Qd H) :
    ∃ W : Nat → Nat → Hp → Prop, (∃ m, W 0 m (upd H1 D (.lst []))) ∧ ∀ i m H, W i m H →
      ((Itl K a).stop i H ∧ Qd H) ∨ ((Itl K a).go i H ∧ ∃ Nx : Hp → Prop, (∀ H', Nx H' → ∃ m', m' < m ∧ W (i + 1) m' H') ∧ ∀ x H', (Itl K a).yld i H x H' → g x (wipe σ vs) H' fun σ2 H2 => wipe σ2 vs = wipe σ vs ∧ tt σ2 H2 fun b H3 =>
        if b = true then te σ2 H3 fun y H4 => ∃ acc, H4 D = some (.lst acc) ∧ acc.length < sizeLine ∧ Nx (upd H4 D (.lst (acc ++ [y]))) else Nx H3) :=
  lc_x walk_list (fun _ _ _ _ _ _ y => y) hn hD hσ f (fun H s => s.seq sq) hs hd
theorem lcx_t (sq : SqT K H1 a xs) (hD : H1 D = none) (hn : xs.length < sizeLine) (σ0 : L2.St) (hσ : wipe σ vs = σ0) (f : V → Option V)
    (hs : ∀ x H (R : Option V → Hp → Prop), x ∈ xs → Same H1 H → (∀ H', Same H H' → R (f x) H') → g x σ0 H fun σ2 H2 => wipe σ2 vs = σ0 ∧ tt σ2 H2 fun b H3 => if b = true then te σ2 H3 fun y H4 => R (some y) H4 else R none H3)
    (hd : ∀ H, Same H1 H → H D = some (.lst (xs.filterMap f)) → Qd H) :
    ∃ W : Nat → Nat → Hp → Prop, (∃ m, W 0 m (upd H1 D (.lst []))) ∧ ∀ i m H, W i m H →
      ((Itt K a).stop i H ∧ Qd H) ∨ ((Itt K a).go i H ∧ ∃ Nx : Hp → Prop, (∀ H', Nx H' → ∃ m', m' < m ∧ W (i + 1) m' H') ∧ ∀ x H', (Itt K a).yld i H x H' → g x (wipe σ vs) H' fun σ2 H2 => wipe σ2 vs = wipe σ vs ∧ tt σ2 H2 fun b H3 =>
        if b = true then te σ2 H3 fun y H4 => ∃ acc, H4 D = some (.lst acc) ∧ acc.length < sizeLine ∧ Nx (upd H4 D (.lst (acc ++ [y]))) else Nx H3) :=
  lc_x walk_tup (fun _ _ _ _ _ _ y => y) hn hD hσ f (fun H s => same_tup s sq) hs hd
theorem lcx_s {z : Str} (hD : H1 D = none) (hn : z.length < sizeLine) (σ0 : L2.St) (hσ : wipe σ vs = σ0) (f : V → Option V)
    (hs : ∀ x H (R : Option V → Hp → Prop), x ∈ z.cps.toList.map (fun c => V.str ⟨#[c]⟩) → Same H1 H → (∀ H', Same H H' → R (f x) H') → g x σ0 H fun σ2 H2 => wipe σ2 vs = σ0 ∧ tt σ2 H2 fun b H3 => if b = true then te σ2 H3 fun y H4 => R (some y) H4 else R none H3)
    (hd : ∀ H, Same H1 H → H D = some (.lst ((z.cps.toList.map (fun c => V.str ⟨#[c]⟩)).filterMap f)) → Qd H) :
    ∃ W : Nat → Nat → Hp → Prop, (∃ m, W 0 m (upd H1 D (.lst []))) ∧ ∀ i m H, W i m H →
      ((Its z).stop i H ∧ Qd H) ∨ ((Its z).go i H ∧ ∃ Nx : Hp → Prop, (∀ H', Nx H' → ∃ m', m' < m ∧ W (i + 1) m' H') ∧ ∀ x H', (Its z).yld i H x H' → g x (wipe σ vs) H' fun σ2 H2 => wipe σ2 vs = wipe σ vs ∧ tt σ2 H2 fun b H3 =>
        if b = true then te σ2 H3 fun y H4 => ∃ acc, H4 D = some (.lst acc) ∧ acc.length < sizeLine ∧ Nx (upd H4 D (.lst (acc ++ [y]))) else Nx H3) := by
  have e : (z.cps.toList.map (fun c => V.str ⟨#[c]⟩)).length = z.cps.size := by simp
  refine lc_x (xs := z.cps.toList.map (fun c => V.str ⟨#[c]⟩)) (G := fun _ => True) (by rw [e]; exact walk_str) (fun i H x H' _ _ y => ?_) (by rw [e]; exact hn) hD hσ f (fun _ _ => trivial) hs hd
  obtain ⟨h, c, hc, rfl⟩ := y
  refine ⟨h, ?_⟩
  rw [List.getElem?_map, Array.getElem?_toList, hc]
  rfl
theorem lcx_r {lo : Int} {n : Nat} (hD : H1 D = none) (hn : n < sizeLine) (σ0 : L2.St) (hσ : wipe σ vs = σ0) (f : V → Option V)
    (hs : ∀ x H (R : Option V → Hp → Prop), x ∈ (List.range n).map (fun i => V.int (lo + (i : Nat))) → Same H1 H → (∀ H', Same H H' → R (f x) H') → g x σ0 H fun σ2 H2 => wipe σ2 vs = σ0 ∧ tt σ2 H2 fun b H3 => if b = true then te σ2 H3 fun y H4 => R (some y) H4 else R none H3)
    (hd : ∀ H, Same H1 H → H D = some (.lst (((List.range n).map (fun i => V.int (lo + (i : Nat)))).filterMap f)) → Qd H) :
    ∃ W : Nat → Nat → Hp → Prop, (∃ m, W 0 m (upd H1 D (.lst []))) ∧ ∀ i m H, W i m H →
      ((Itr lo n).stop i H ∧ Qd H) ∨ ((Itr lo n).go i H ∧ ∃ Nx : Hp → Prop, (∀ H', Nx H' → ∃ m', m' < m ∧ W (i + 1) m' H') ∧ ∀ x H', (Itr lo n).yld i H x H' → g x (wipe σ vs) H' fun σ2 H2 => wipe σ2 vs = wipe σ vs ∧ tt σ2 H2 fun b H3 =>
        if b = true then te σ2 H3 fun y H4 => ∃ acc, H4 D = some (.lst acc) ∧ acc.length < sizeLine ∧ Nx (upd H4 D (.lst (acc ++ [y]))) else Nx H3) := by
  have e : ((List.range n).map (fun i => V.int (lo + (i : Nat)))).length = n := by simp
  refine lc_x (xs := (List.range n).map (fun i => V.int (lo + (i : Nat)))) (G := fun _ => True) (Y := YFn fun i => .int (lo + i)) (by rw [e]; exact walk_range) (fun i H x H' hi _ y => ?_) (by rw [e]; exact hn) hD hσ f (fun _ _ => trivial) hs hd
  obtain ⟨h, rfl⟩ := y
  refine ⟨h, ?_⟩
  rw [e] at hi
  rw [List.getElem?_map, List.getElem?_range hi]
  rfl
/-- the same, told by what the items stand for -/
theorem lcm_ {β : Type} {ys : List β} {J : It} {G : Hp → Prop} {Y : Nat → Hp → V → Hp → Prop} (w : Walk J xs.length G Y) (hY : ∀ i H x H', i < xs.length → G H → Y i H x H' → H' = H ∧ xs[i]? = some x) (hG : ∀ H, Same H1 H → G H) (hD : H1 D = none) (hl : xs.length = ys.length) (hn : ys.length ≤ 4000000)
    (σ0 : L2.St) (hσ : wipe σ vs = σ0) (f : β → Option V)
    (hs : ∀ (i : Nat) x y H (R : Option V → Hp → Prop), xs[i]? = some x → ys[i]? = some y → Same H1 H → (∀ H', Same H H' → R (f y) H') → g x σ0 H fun σ2 H2 => wipe σ2 vs = σ0 ∧ tt σ2 H2 fun b H3 => if b = true then te σ2 H3 fun y H4 => R (some y) H4 else R none H3)
    (hd : ∀ H, Same H1 H → H D = some (.lst (ys.filterMap f)) → Qd H) :
    ∃ W : Nat → Nat → Hp → Prop, (∃ m, W 0 m (upd H1 D (.lst []))) ∧ ∀ i m H, W i m H →
      (J.stop i H ∧ Qd H) ∨ (J.go i H ∧ ∃ Nx : Hp → Prop, (∀ H', Nx H' → ∃ m', m' < m ∧ W (i + 1) m' H') ∧ ∀ x H', J.yld i H x H' → g x (wipe σ vs) H' fun σ2 H2 => wipe σ2 vs = wipe σ vs ∧ tt σ2 H2 fun b H3 =>
        if b = true then te σ2 H3 fun y H4 => ∃ acc, H4 D = some (.lst acc) ∧ acc.length < sizeLine ∧ Nx (upd H4 D (.lst (acc ++ [y]))) else Nx H3) := by
  refine lc_j w hY (lt_sz (by omega)) hD hσ (fun i acc _ => acc = (ys.take i).filterMap f) (fun _ _ _ _ _ j => j) (by simp) hG (fun i x acc H R hx s j k => ?_) fun acc H s e j _ => hd H s (by rw [e, j, hl, List.take_length])
  have li : i < ys.length := by rw [← hl]; exact (List.getElem?_eq_some_iff.mp hx).1
  refine hs i x ys[i] H R hx (List.getElem?_eq_getElem li) s fun H' s' => k _ H' s' ?_
  rw [j, List.take_add_one, List.getElem?_eq_getElem li]
  rw [List.filterMap_append]
  have z : (f ys[i]).toList = List.filterMap f [ys[i]] := by
    rw [List.filterMap_cons, List.filterMap_nil]
    cases f ys[i] <;> rfl
  exact congrArg (List.filterMap f (List.take i ys) ++ ·) z
theorem lcm_r {lo : Int} {n : Nat} (hD : H1 D = none) (hn : n ≤ 4000000) (σ0 : L2.St) (hσ : wipe σ vs = σ0) (f : Nat → Option V)
    (hs : ∀ (i : Nat) H (R : Option V → Hp → Prop), i < n → Same H1 H → (∀ H', Same H H' → R (f i) H') → g (.int (lo + (i : Nat))) σ0 H fun σ2 H2 => wipe σ2 vs = σ0 ∧ tt σ2 H2 fun b H3 => if b = true then te σ2 H3 fun y H4 => R (some y) H4 else R none H3)
    (hd : ∀ H, Same H1 H → H D = some (.lst ((List.range n).filterMap f)) → Qd H) :
    ∃ W : Nat → Nat → Hp → Prop, (∃ m, W 0 m (upd H1 D (.lst []))) ∧ ∀ i m H, W i m H →
      ((Itr lo n).stop i H ∧ Qd H) ∨ ((Itr lo n).go i H ∧ ∃ Nx : Hp → Prop, (∀ H', Nx H' → ∃ m', m' < m ∧ W (i + 1) m' H') ∧ ∀ x H', (Itr lo n).yld i H x H' → g x (wipe σ vs) H' fun σ2 H2 => wipe σ2 vs = wipe σ vs ∧ tt σ2 H2 fun b H3 =>
        if b = true then te σ2 H3 fun y H4 => ∃ acc, H4 D = some (.lst acc) ∧ acc.length < sizeLine ∧ Nx (upd H4 D (.lst (acc ++ [y]))) else Nx H3) := by
  have e : ((List.range n).map (fun i => V.int (lo + (i : Nat)))).length = n := by simp
  refine lcm_ (xs := (List.range n).map (fun i => V.int (lo + (i : Nat)))) (ys := List.range n) (G := fun _ => True) (Y := YFn fun i => .int (lo + i)) (by rw [e]; exact walk_range) (fun i H x H' hi _ y => ?_) (fun _ _ => trivial) hD (by simp) (by simpa using hn) σ0 hσ f (fun i x y H R hx hy s k => ?_) hd
  · obtain ⟨h, rfl⟩ := y
    refine ⟨h, ?_⟩
    rw [e] at hi
    rw [List.getElem?_map, List.getElem?_range hi]
    rfl
  · have li : i < n := by
      have := (List.getElem?_eq_some_iff.mp hy).1
      simpa using this
    rw [List.getElem?_range li] at hy
    rw [List.getElem?_map, List.getElem?_range li] at hx
    obtain rfl := Option.some.inj hy
    obtain rfl := Option.some.inj hx
    exact hs _ H R li s k
theorem lcm_t {β : Type} {ys : List β} (sq : SqT K H1 a xs) (hD : H1 D = none) (hl : xs.length = ys.length) (hn : ys.length ≤ 4000000) (σ0 : L2.St) (hσ : wipe σ vs = σ0) (f : β → Option V)
    (hs : ∀ (i : Nat) x y H (R : Option V → Hp → Prop), xs[i]? = some x → ys[i]? = some y → Same H1 H → (∀ H', Same H H' → R (f y) H') → g x σ0 H fun σ2 H2 => wipe σ2 vs = σ0 ∧ tt σ2 H2 fun b H3 => if b = true then te σ2 H3 fun y H4 => R (some y) H4 else R none H3)
    (hd : ∀ H, Same H1 H → H D = some (.lst (ys.filterMap f)) → Qd H) :
    ∃ W : Nat → Nat → Hp → Prop, (∃ m, W 0 m (upd H1 D (.lst []))) ∧ ∀ i m H, W i m H →
      ((Itt K a).stop i H ∧ Qd H) ∨ ((Itt K a).go i H ∧ ∃ Nx : Hp → Prop, (∀ H', Nx H' → ∃ m', m' < m ∧ W (i + 1) m' H') ∧ ∀ x H', (Itt K a).yld i H x H' → g x (wipe σ vs) H' fun σ2 H2 => wipe σ2 vs = wipe σ vs ∧ tt σ2 H2 fun b H3 =>
        if b = true then te σ2 H3 fun y H4 => ∃ acc, H4 D = some (.lst acc) ∧ acc.length < sizeLine ∧ Nx (upd H4 D (.lst (acc ++ [y]))) else Nx H3) :=
  lcm_ walk_tup (fun _ _ _ _ _ _ y => y) (fun H s => same_tup s sq) hD hl hn σ0 hσ f hs hd
theorem lcm_l {β : Type} {ys : List β} (sq : SqL K H1 a xs) (hD : H1 D = none) (hl : xs.length = ys.length) (hn : ys.length ≤ 4000000) (σ0 : L2.St) (hσ : wipe σ vs = σ0) (f : β → Option V)
    (hs : ∀ (i : Nat) x y H (R : Option V → Hp → Prop), xs[i]? = some x → ys[i]? = some y → Same H1 H → (∀ H', Same H H' → R (f y) H') → g x σ0 H fun σ2 H2 => wipe σ2 vs = σ0 ∧ tt σ2 H2 fun b H3 => if b = true then te σ2 H3 fun y H4 => R (some y) H4 else R none H3)
    (hd : ∀ H, Same H1 H → H D = some (.lst (ys.filterMap f)) → Qd H) :
    ∃ W : Nat → Nat → Hp → Prop, (∃ m, W 0 m (upd H1 D (.lst []))) ∧ ∀ i m H, W i m H →
      ((Itl K a).stop i H ∧ Qd H) ∨ ((Itl K a).go i H ∧ ∃ Nx : Hp → Prop, (∀ H', Nx H' → ∃ m', m' < m ∧ W (i + 1) m' H') ∧ ∀ x H', (Itl K a).yld i H x H' → g x (wipe σ vs) H' fun σ2 H2 => wipe σ2 vs = wipe σ vs ∧ tt σ2 H2 fun b H3 =>
        if b = true then te σ2 H3 fun y H4 => ∃ acc, H4 D = some (.lst acc) ∧ acc.length < sizeLine ∧ Nx (upd H4 D (.lst (acc ++ [y]))) else Nx H3) :=
  lcm_ walk_list (fun _ _ _ _ _ _ y => y) (fun H s => s.seq sq) hD hl hn σ0 hσ f hs hd
end
section
variable {J : It} {n : Nat} {G : Hp → Prop} {Y : Nat → Hp → V → Hp → Prop} {g : TG} {tb : TS} {nx : L2.St → Hp → Prop} {rt : VK} {σ : L2.St} {H : Hp}
theorem for_itD (w : Walk J n G Y) (Pv : Nat → L2.St → Hp → Prop) (h0 : Pv 0 σ H) (hG : ∀ i σ H, i ≤ n → Pv i σ H → G H)
    (hs : ∀ i x σ H H', i < n → Pv i σ H → Y i H x H' → g x σ H' fun σ2 H2 => tb { nx := Pv (i + 1), rt := rt, bk := nx, ct := Pv (i + 1) } σ2 H2) (hd : ∀ σ H, Pv n σ H → nx σ H) :
    ∃ W : Nat → Nat → L2.St → Hp → Prop, (∃ m, W 0 m σ H) ∧ ∀ i m σ H, W i m σ H →
      (J.stop i H ∧ nx σ H) ∨ (J.go i H ∧ ∃ N : L2.St → Hp → Prop, (∀ σ' H', N σ' H' → ∃ m', m' < m ∧ W (i + 1) m' σ' H') ∧ ∀ x H', J.yld i H x H' → g x σ H' fun σ2 H2 => tb { nx := N, rt := rt, bk := nx, ct := N } σ2 H2) :=
  for_it (D := { nx := nx, rt := rt }) w Pv h0 hG hs hd
end
theorem fm_some {α β : Type} (f : α → β) (l : List α) : (l.filterMap fun x => some (f x)) = l.map f := by
  rw [← List.filterMap_eq_map]
  rfl
theorem mem_letters {c : Nat} (h : 97 ≤ c ∧ c ≤ 122) : c ∈ (Str.ofString "abcdefghijklmnopqrstuvwxyz").cps.toList := by
  have e : (Str.ofString "abcdefghijklmnopqrstuvwxyz").cps.toList = List.range' 97 26 := by decide +kernel
  rw [e, List.mem_range'_1]
  omega
/-! ### the program's things -/
/-- x, as and bs in step -/
def All2 {α β : Type} (R : α → β → Prop) (xs : List α) (ys : List β) : Prop := xs.length = ys.length ∧ ∀ (i : Nat) x y, xs[i]? = some x → ys[i]? = some y → R x y
section
variable {α β γ : Type} {R R' : α → β → Prop} {xs : List α} {ys : List β}
theorem All2.nil : All2 R [] [] := ⟨rfl, fun i x y h => by simp at h⟩
theorem All2.snoc {x : α} {y : β} (h : All2 R xs ys) (r : R x y) : All2 R (xs ++ [x]) (ys ++ [y]) := by
  refine ⟨by simp [h.1], fun i a b h1 h2 => ?_⟩
  by_cases l : i < xs.length
  · rw [List.getElem?_append_left l] at h1
    rw [List.getElem?_append_left (by rw [← h.1]; exact l)] at h2
    exact h.2 i a b h1 h2
  · rw [List.getElem?_append_right (by omega)] at h1
    rw [List.getElem?_append_right (by rw [← h.1]; omega), ← h.1] at h2
    have e : i - xs.length = 0 := by
      have := (List.getElem?_eq_some_iff.mp h1).1
      simp at this
      omega
    rw [e] at h1 h2
    simp at h1 h2
    subst h1 h2
    exact r
theorem All2.mono (h : All2 R xs ys) (m : ∀ x y, x ∈ xs → y ∈ ys → R x y → R' x y) : All2 R' xs ys := ⟨h.1, fun i x y h1 h2 => m x y (List.mem_of_getElem? h1) (List.mem_of_getElem? h2) (h.2 i x y h1 h2)⟩
theorem All2.get (h : All2 R xs ys) {i : Nat} {x : α} (e : xs[i]? = some x) : ∃ y, ys[i]? = some y ∧ R x y := by
  have l : i < ys.length := by rw [← h.1]; exact (List.getElem?_eq_some_iff.mp e).1
  exact ⟨ys[i], List.getElem?_eq_getElem l, h.2 i x _ e (List.getElem?_eq_getElem l)⟩
theorem All2.get' (h : All2 R xs ys) {i : Nat} {y : β} (e : ys[i]? = some y) : ∃ x, xs[i]? = some x ∧ R x y := by
  have l : i < xs.length := by rw [h.1]; exact (List.getElem?_eq_some_iff.mp e).1
  exact ⟨xs[i], List.getElem?_eq_getElem l, h.2 i _ y (List.getElem?_eq_getElem l) e⟩
theorem All2.left (h : All2 R xs ys) {x : α} (m : x ∈ xs) : ∃ y ∈ ys, R x y := by
  obtain ⟨i, l, rfl⟩ := List.mem_iff_getElem.mp m
  obtain ⟨y, e, r⟩ := h.get (List.getElem?_eq_getElem l)
  exact ⟨y, List.mem_of_getElem? e, r⟩
theorem All2.right (h : All2 R xs ys) {y : β} (m : y ∈ ys) : ∃ x ∈ xs, R x y := by
  obtain ⟨i, l, rfl⟩ := List.mem_iff_getElem.mp m
  obtain ⟨x, e, r⟩ := h.get' (List.getElem?_eq_getElem l)
  exact ⟨x, List.mem_of_getElem? e, r⟩
theorem All2.fm {f : α → Option γ} {k : β → γ} (h : All2 R xs ys) (e : ∀ x y, x ∈ xs → y ∈ ys → R x y → f x = some (k y)) : xs.filterMap f = ys.map k := by
  induction xs generalizing ys with
  | nil =>
    cases ys with
    | nil => rfl
    | cons b r => exact absurd h.1 (by simp)
  | cons a r ih =>
    cases ys with
    | nil => exact absurd h.1 (by simp)
    | cons b s =>
      rw [List.filterMap_cons, e a b (by simp) (by simp) (h.2 0 a b rfl rfl)]
      rw [ih ⟨by simpa using h.1, fun i x y h1 h2 => h.2 (i + 1) x y (by simpa using h1) (by simpa using h2)⟩ fun x y m1 m2 => e x y (List.mem_cons_of_mem _ m1) (List.mem_cons_of_mem _ m2)]
      rfl
end
/-- a hold: its tool, begin and length -/
structure Hold where
  tool : Str
  begin_ : Int
  long : Int
/-- a member, a task or a door -/
structure Mem where
  name : Str
  door : Bool
  cost : Int
  gap : Int
  due : Int
  holds : List Hold
def IsName (x : Str) : Prop := 1 ≤ x.length ∧ x.length ≤ 8 ∧ ∀ c ∈ x.cps.toList, 97 ≤ c ∧ c ≤ 122
/-- one hold before the next -/
def HoldLt (a b : Hold) : Prop := a.tool.cps.toList < b.tool.cps.toList ∨ (a.tool = b.tool ∧ a.begin_ + a.long ≤ b.begin_)
structure HoldsOk (hs : List Hold) (cost : Int) : Prop where
  few : hs.length ≤ 4
  each : ∀ h ∈ hs, IsName h.tool ∧ 0 ≤ h.begin_ ∧ 1 ≤ h.long ∧ h.begin_ + h.long ≤ cost
  turn : ∀ (i : Nat) a b, hs[i]? = some a → hs[i + 1]? = some b → HoldLt a b
structure MemOk (m : Mem) : Prop where
  name : IsName m.name
  cost : 1 ≤ m.cost ∧ m.cost ≤ 99
  gap : 1 ≤ m.gap ∧ m.gap ≤ 600
  due : 1 ≤ m.due ∧ m.due ≤ m.gap
  holds : HoldsOk m.holds m.cost
  door : m.door = true → m.due = m.gap ∧ m.holds = []
def HoldAt (H : Hp) (v : V) (h : Hold) : Prop := ∃ t, v = .ref t ∧ H t = some (.tup [.str h.tool, .int h.begin_, .int h.long])
def HoldsAt (H : Hp) (g : Addr) (hs : List Hold) : Prop := ∃ ps, H g = some (.tup ps) ∧ All2 (HoldAt H) ps hs
def RowAt (H : Hp) (v : V) (m : Mem) : Prop := ∃ t, v = .ref t ∧ ((m.door = true ∧ m.due = m.gap ∧ m.holds = [] ∧ H t = some (.tup [.str "door", .str m.name, .int m.cost, .int m.gap])) ∨
  (m.door = false ∧ ∃ g, H t = some (.tup [.str "task", .str m.name, .int m.cost, .int m.gap, .int m.due, .ref g]) ∧ HoldsAt H g m.holds))
def RowsAt (H : Hp) (a : Addr) (ms : List Mem) : Prop := ∃ xs, H a = some (.lst xs) ∧ All2 (RowAt H) xs ms
theorem HoldAt.nl {H H' : Hp} (k : NL H H') {v : V} {h : Hold} (a : HoldAt H v h) : HoldAt H' v h := by
  obtain ⟨t, e, z⟩ := a
  exact ⟨t, e, k _ _ rfl z⟩
theorem HoldsAt.nl {H H' : Hp} (k : NL H H') {g : Addr} {hs : List Hold} (a : HoldsAt H g hs) : HoldsAt H' g hs := by
  obtain ⟨ps, e, z⟩ := a
  exact ⟨ps, k _ _ rfl e, z.mono fun _ _ _ _ => HoldAt.nl k⟩
theorem RowAt.nl {H H' : Hp} (k : NL H H') {v : V} {m : Mem} (a : RowAt H v m) : RowAt H' v m := by
  obtain ⟨t, e, z⟩ := a
  refine ⟨t, e, ?_⟩
  rcases z with ⟨d, d1, d2, q⟩ | ⟨d, g, q, hg⟩
  · exact .inl ⟨d, d1, d2, k _ _ rfl q⟩
  · exact .inr ⟨d, g, k _ _ rfl q, hg.nl k⟩
theorem RowsAt.same {H H' : Hp} (k : Same H H') {a : Addr} {ms : List Mem} (r : RowsAt H a ms) : RowsAt H' a ms := by
  obtain ⟨xs, e, z⟩ := r
  exact ⟨xs, k _ _ e, z.mono fun _ _ _ _ => RowAt.nl (same_nl k)⟩
end K19
end
/-! own lines of the walk: hp: what stands at an address; ne: two addresses differ; sq: a list or tuple to be read; at: an item; st: one step of a reading; go: steps as far as they lead -/
local macro_rules | `(tactic| walk_at "ne") => `(tactic| first | assumption | (refine Ne.symm ?_; assumption))
local macro_rules | `(tactic| walk_at "hp") => `(tactic| first | assumption | exact L2.upd_same | ((with_reducible apply K19.upd_ne2); (case ne => walk_at "ne"); (case hp => walk_at "hp")))
local macro_rules | `(tactic| walk_at "sq") => `(tactic| first | assumption | ((with_reducible apply L2.SqL.of); walk_at "hp") | ((with_reducible apply L2.SqT.of); walk_at "hp") | ((with_reducible apply Or.inl); walk_at "sq") | ((with_reducible apply Or.inr); walk_at "sq"))
local macro_rules | `(tactic| walk_at "ix") => `(tactic| first | exact (rfl : _ = some 0) | exact (rfl : _ = some 1) | exact (rfl : _ = some 2) | exact (rfl : _ = some 3) | exact (rfl : _ = some 4) | exact (rfl : _ = some 5) | exact (rfl : _ = some 6) | exact (rfl : _ = some 7) | assumption)
local macro_rules | `(tactic| walk_at "ls") => `(tactic| first | (simp only [List.set_cons_succ, List.set_cons_zero, List.set_nil]; done) | (simp only [List.set_cons_succ, List.set_cons_zero, List.set_nil]; exact rfl) | exact rfl)
local macro_rules | `(tactic| walk_at "at") => `(tactic| first | rfl | assumption)
local macro_rules | `(tactic| walk_at "cc") => `(tactic| first | (show (0 : Int) < _; omega) | (show L2.CDiv _ _; exact ⟨by omega, by omega⟩) | (show L2.CMul _ _; first | exact Or.inl ⟨by omega, by omega⟩ | exact Or.inr ⟨by omega, by omega⟩) | exact ⟨by decide, by decide, by decide⟩)
local macro_rules | `(tactic| walk_at "ty") => `(tactic| first | exact L2.TyX.base (L2.TyOf.int _) | exact L2.TyX.base (L2.TyOf.str _) | ((refine L2.TyX.base (L2.TyOf.tup (?_ : _ = some (L2.HO.tup _)))); walk_at "hp"))
local macro_rules | `(tactic| walk_at "kb") => `(tactic| first | exact K19.kb_ii | exact K19.kb_ib | exact K19.kb_ss | exact K19.kb_tt)
local macro_rules | `(tactic| walk_at "st") => `(tactic| first
  | ((with_reducible apply K19.i_var); (case h => exact rfl))
  | with_reducible refine K19.i_c ?_
  | with_reducible refine K19.i_op ?_
  | with_reducible refine K19.i_i0 ?_
  | ((with_reducible apply K19.i_ic); (case c => walk_at "cc"))
  | with_reducible refine K19.i_un ?_
  | with_reducible refine K19.i_rU ?_
  | with_reducible refine K19.i_seq ?_
  | with_reducible refine K19.i_asg ?_
  | ((with_reducible apply K19.i_name); (case h => walk_at "ls"))
  | with_reducible refine K19.i_sub ?_
  | with_reducible refine K19.i_ret ?_
  | with_reducible refine K19.i_retN ?_
  | with_reducible refine K19.i_next ?_
  | with_reducible refine K19.i_drop ?_
  | with_reducible refine K19.i_ifs ?_
  | with_reducible refine K19.i_test ?_
  | with_reducible refine K19.i_tb ?_
  | with_reducible refine K19.i_bl ?_
  | with_reducible refine K19.i_and ?_
  | with_reducible refine K19.i_or ?_
  | with_reducible refine K19.i_not ?_
  | with_reducible refine K19.i_andV ?_
  | with_reducible refine K19.i_orV ?_
  | with_reducible refine K19.i_notV ?_
  | with_reducible refine K19.i_if ?_
  | with_reducible refine K19.i_chain ?_
  | with_reducible refine K19.i_par ?_
  | with_reducible refine K19.i_two ?_
  | with_reducible refine K19.i_nil ?_
  | with_reducible refine K19.i_cons ?_
  | with_reducible refine K19.i_lst ?_
  | with_reducible refine K19.i_tup ?_
  | with_reducible refine K19.i_call ?_
  | with_reducible refine K19.i_cb ?_
  | with_reducible refine K19.i_fld ?_
  | with_reducible refine K19.i_sfld ?_
  | with_reducible refine K19.i_sl ?_
  | with_reducible refine K19.i_nop ?_
  | ((with_reducible apply K19.i_isiT); (case h => walk_at "hp"))
  | ((with_reducible apply K19.i_isiB); (case ty => walk_at "ty"); (case k => walk_at "kb"))
  | with_reducible refine K19.i_lc ?_
  | with_reducible refine K19.i_is ?_
  | with_reducible refine K19.i_then ?_
  | with_reducible refine K19.i_rng1 ?_
  | with_reducible refine K19.i_m1 ?_
  | with_reducible refine K19.i_yes ?_
  | ((with_reducible apply K19.i_gtup); (case h => walk_at "sq"); (case l => rfl))
  | with_reducible refine K19.i_gn ?_
  | with_reducible refine K19.i_strx ?_
  | with_reducible refine K19.i_gc ?_
  | with_reducible refine K19.i_part ?_
  | with_reducible refine K19.i_int ?_
  | with_reducible refine K19.i_bm ?_
  | with_reducible refine K19.i_ints1 ?_
  | with_reducible refine K19.i_ints2 ?_
  | with_reducible refine K19.i_ref ?_
  | with_reducible refine K19.i_for ?_
  | with_reducible refine K19.i_il ?_
  | with_reducible refine K19.i_it ?_
  | with_reducible refine L2.iteT ?_
  | with_reducible refine K19.i_nT ?_
  | with_reducible refine K19.i_nF ?_
  | with_reducible refine L2.iteF ?_
  | ((with_reducible apply K19.i_ixL); (case h => walk_at "sq"); (case a => walk_at "at"))
  | ((with_reducible apply K19.i_ixT); (case h => walk_at "sq"); (case a => walk_at "at"))
  | ((with_reducible apply K19.i_setL); (case h => walk_at "hp"); (case a => walk_at "ix"); (case e => walk_at "ls"))
  | ((with_reducible apply K19.i_len); (case h => walk_at "sq"))
  | ((with_reducible apply K19.i_slL); (case h => walk_at "sq"))
  | ((with_reducible apply K19.i_eq); (case h => rfl))
  | ((with_reducible apply K19.i_ne); (case h => rfl))
  | dsimp only)
local macro_rules | `(tactic| walk_at "go") => `(tactic| repeat walk_at "st")
namespace K19
open PySem L2
open PyProof.Rows (envOfC)
open PySem.SeqAt in
theorem isEmpty_vals {xs : List V} {its : List Value} (r : Vals xs its) : xs.isEmpty = its.isEmpty := by
  cases r <;> rfl
/-- x == [] -/
def rEqNil (K : PySem.W.Frag) : R2 := fun x y H Q => ∃ q, y = .ref q ∧ SqL K H q [] ∧ ((∃ p xs, x = .ref p ∧ SqL K H p xs ∧ Q (.bl xs.isEmpty) H) ∨ (x = .non ∧ Q (.bl false) H))
def rNeNil (K : PySem.W.Frag) : R2 := fun x y H Q => ∃ q p xs, y = .ref q ∧ SqL K H q [] ∧ x = .ref p ∧ SqL K H p xs ∧ Q (.bl (!xs.isEmpty)) H
/-- t == () -/
def rEqNilT (K : PySem.W.Frag) : R2 := fun x y H Q => ∃ q p xs, y = .ref q ∧ SqT K H q [] ∧ x = .ref p ∧ SqT K H p xs ∧ Q (.bl xs.isEmpty) H
theorem op_eqNil {X : Cx} (hu : X.A.units < cLine) : OpR X (compareOp .Eq) (rEqNil X.K) := by
  intro pins s σ H x y v u Q I rx ry h
  obtain ⟨q, rfl, hq, h⟩ := h
  obtain rfl : u = Value.ref q := ry
  obtain ⟨is2, r2, l2, z2⟩ := I.list hq
  cases r2
  rcases h with ⟨p, xs, rfl, hp, k⟩ | ⟨rfl, k⟩
  · obtain rfl : v = Value.ref p := rx
    obtain ⟨is1, r1, l1, z1⟩ := I.list hp
    have e := isEmpty_vals r1
    cases is1 with
    | nil =>
      refine PySem.SeqAt.eq_listAt (e := fun _ => false) l1.isList l2.isList rfl hu (fun j h1 h2 => absurd h1 (Nat.not_lt_zero j)) ?_
      rw [e] at k
      exact ⟨.bl true, H, I, rfl, k⟩
    | cons a r =>
      refine PySem.SeqAt.eq_list_lengthsAt l1.isList l2.isList rfl hu ?_
      rw [e] at k
      exact ⟨.bl false, H, I, rfl, k⟩
  · obtain rfl : v = Value.none := rx
    exact PySem.SeqAt.RcAt.none_list l2.isList hu _ _ _ _ ⟨.bl false, H, I, rfl, k⟩
theorem op_neNil {X : Cx} (hu : X.A.units < cLine) : OpR X (compareOp .NotEq) (rNeNil X.K) := by
  intro pins s σ H x y v u Q I rx ry h
  obtain ⟨q, p, xs, rfl, hq, rfl, hp, k⟩ := h
  obtain rfl : u = Value.ref q := ry
  obtain rfl : v = Value.ref p := rx
  obtain ⟨is2, r2, l2, z2⟩ := I.list hq
  cases r2
  obtain ⟨is1, r1, l1, z1⟩ := I.list hp
  have e := isEmpty_vals r1
  cases is1 with
  | nil =>
    rw [e] at k
    exact PySem.SeqAt.RcNeAt.lists (e := fun _ => false) l1.isList l2.isList rfl hu (fun j h1 h2 => absurd h1 (Nat.not_lt_zero j)) _ _ _ _ ⟨.bl false, H, I, rfl, k⟩
  | cons a r =>
    rw [e] at k
    exact PySem.SeqAt.RcNeAt.lists_lengths l1.isList l2.isList rfl hu _ _ _ _ ⟨.bl true, H, I, rfl, k⟩
theorem op_eqNilT {X : Cx} (hu : X.A.units < cLine) : OpR X (compareOp .Eq) (rEqNilT X.K) := by
  intro pins s σ H x y v u Q I rx ry h
  obtain ⟨q, p, xs, rfl, hq, rfl, hp, k⟩ := h
  obtain rfl : u = Value.ref q := ry
  obtain rfl : v = Value.ref p := rx
  obtain ⟨is2, r2, l2, z2⟩ := I.tuple hq
  cases r2
  obtain ⟨is1, r1, l1, z1⟩ := I.tuple hp
  have e := isEmpty_vals r1
  refine PySem.SeqAt.eq_tupleAt (e := fun _ => false) l1 l2 hu (fun j h1 h2 => absurd h2 (Nat.not_lt_zero j)) ?_
  cases is1 with
  | nil =>
    rw [e] at k
    exact ⟨.bl true, H, I, rfl, k⟩
  | cons a r =>
    rw [e] at k
    exact ⟨.bl false, H, I, rfl, k⟩
end K19
namespace K19
open PySem L2
open PyProof.Rows (envOfC)
/-! min of a list of ((int, int, int), int) -/
abbrev Z4 := Int × Int × Int × Int
def prK (z : Z4) : PyData := .tuple [.tuple [.int z.1, .int z.2.1, .int z.2.2.1], .int z.2.2.2]
/-- the bound of each number -/
abbrev BB : Int := 100000000000000
def Bd4 (z : Z4) : Prop := (0 ≤ z.1 ∧ z.1 < BB) ∧ (0 ≤ z.2.1 ∧ z.2.1 < BB) ∧ (0 ≤ z.2.2.1 ∧ z.2.2.1 < BB) ∧ (0 ≤ z.2.2.2 ∧ z.2.2.2 < BB)
def rk3 (a b c : Int) : Int := (a * BB + b) * BB + c
def rk4 (z : Z4) : Int := rk3 z.1 z.2.1 z.2.2.1 * BB + z.2.2.2
theorem eqv_int (a b : Int) : PyData.eqv (.int a) (.int b) = decide (a = b) := by
  simp [PyData.eqv]
  rfl
theorem alike_int (a b : Int) : PySem.W.alike (.int a) (.int b) = true := by simp [PySem.W.alike]
theorem dl_nil : PyProof.Rows.lexLt PyProof.Rows.itemOrd (PySem.W.keyToksAll []) (PySem.W.keyToksAll []) = false := by
  simp [PySem.W.keyToksAll, PyProof.Rows.lexLt, PyProof.Rows.itemOrd, PyProof.Rows.itemLt]
theorem dl_cons (a b : Int) (xs ys : List PyData) : PyProof.Rows.lexLt PyProof.Rows.itemOrd (PySem.W.keyToksAll (.int a :: xs)) (PySem.W.keyToksAll (.int b :: ys)) = if a = b then PyProof.Rows.lexLt PyProof.Rows.itemOrd (PySem.W.keyToksAll xs) (PySem.W.keyToksAll ys) else decide (a < b) := by
  by_cases e : a = b
  · rw [if_pos e]
    exact PySem.W.dataLt_all_yes (alike_int a b) (by rw [eqv_int]; exact decide_eq_true e)
  · rw [if_neg e, PySem.W.dataLt_all_no (alike_int a b) (by rw [eqv_int]; exact decide_eq_false e)]
    exact PySem.W.dataLt_int a b
theorem dl3 (a b c a' b' c' : Int) : PySem.W.dataLt (.tuple [.int a, .int b, .int c]) (.tuple [.int a', .int b', .int c']) = if a = a' then (if b = b' then (if c = c' then false else decide (c < c')) else decide (b < b')) else decide (a < a') := by
  rw [PySem.W.dataLt_tuple, dl_cons, dl_cons, dl_cons, dl_nil]
theorem alike3 (a b c a' b' c' : Int) : PySem.W.alike (.tuple [.int a, .int b, .int c]) (.tuple [.int a', .int b', .int c']) = true := by
  simp [PySem.W.alike, PySem.W.alikeAll]
theorem eqv3 (a b c a' b' c' : Int) : PyData.eqv (.tuple [.int a, .int b, .int c]) (.tuple [.int a', .int b', .int c']) = decide (a = a' ∧ b = b' ∧ c = c') := by
  simp [PyData.eqv, PyData.eqvAll]
  rfl
theorem alikeK (z w : Z4) : PySem.W.alike (prK z) (prK w) = true := by
  simp [prK, PySem.W.alike, PySem.W.alikeAll]
theorem dlK {z w : Z4} (hz : Bd4 z) (hw : Bd4 w) : PySem.W.dataLt (prK z) (prK w) = decide (rk4 z < rk4 w) := by
  obtain ⟨a, b, c, n⟩ := z
  obtain ⟨a', b', c', n'⟩ := w
  obtain ⟨⟨h1, h2⟩, ⟨h3, h4⟩, ⟨h5, h6⟩, ⟨h7, h8⟩⟩ := hz
  obtain ⟨⟨g1, g2⟩, ⟨g3, g4⟩, ⟨g5, g6⟩, ⟨g7, g8⟩⟩ := hw
  apply Bool.eq_iff_iff.mpr
  rw [decide_eq_true_eq]
  unfold prK
  rw [PySem.W.dataLt_tuple]
  simp only [rk4, rk3, BB] at *
  by_cases e : a = a' ∧ b = b' ∧ c = c'
  · rw [PySem.W.dataLt_all_yes (alike3 ..) (by rw [eqv3]; exact decide_eq_true e), dl_cons, dl_nil]
    obtain ⟨rfl, rfl, rfl⟩ := e
    by_cases en : n = n'
    · rw [if_pos en]
      constructor
      · intro h
        cases h
      · intro h
        omega
    · rw [if_neg en, decide_eq_true_eq]
      omega
  · rw [PySem.W.dataLt_all_no (alike3 ..) (by rw [eqv3]; exact decide_eq_false e), dl3]
    by_cases e1 : a = a'
    · rw [if_pos e1]
      by_cases e2 : b = b'
      · rw [if_pos e2]
        have e3 : ¬ c = c' := fun z => e ⟨e1, e2, z⟩
        rw [if_neg e3, decide_eq_true_eq]
        omega
      · rw [if_neg e2, decide_eq_true_eq]
        omega
    · rw [if_neg e1, decide_eq_true_eq]
      omega
theorem depthK (zs : List Z4) : PyData.depthAll (zs.map prK) ≤ 2 := by
  induction zs with
  | nil => simp [PyData.depthAll]
  | cons z zs ih =>
    have h1 : (prK z).depth = 2 := by simp [prK, PyData.depth, PyData.depthAll]
    rw [List.map_cons]
    simp only [PyData.depthAll, h1]
    omega
theorem argBest_le (bt : Nat → Nat → Bool) : ∀ k, PySem.argBest bt k ≤ k
  | 0 => Nat.le_refl _
  | k + 1 => by
    show (if bt (k + 1) (PySem.argBest bt k) = true then k + 1 else PySem.argBest bt k) ≤ k + 1
    have := argBest_le bt k
    split <;> omega
theorem argBest_congr {bt bt' : Nat → Nat → Bool} : ∀ k, (∀ i j, i ≤ k → j ≤ k → bt i j = bt' i j) → PySem.argBest bt k = PySem.argBest bt' k
  | 0, _ => rfl
  | k + 1, h => by
    show (if bt (k + 1) (PySem.argBest bt k) = true then k + 1 else PySem.argBest bt k) = (if bt' (k + 1) (PySem.argBest bt' k) = true then k + 1 else PySem.argBest bt' k)
    have ih := argBest_congr k fun i j hi hj => h i j (by omega) (by omega)
    have l := argBest_le bt' k
    rw [ih, h _ _ (Nat.le_refl _) (by omega)]
/-- min(xs) of such: the item whose rank is least -/
def rMinK (K : PySem.W.Frag) : List V → Hp → VK → Prop := fun vs H Q => ∃ (a : Addr) (xs : List V) (zs : List Z4), vs = [V.ref a] ∧ SqL K H a xs ∧ Dp K H (.ref a) (.list (zs.map prK)) ∧ (∀ z ∈ zs, Bd4 z) ∧ 0 < zs.length ∧
  ∀ (i : Nat) (v : V) (z : Z4), xs[i]? = some v → zs[i]? = some z → (∀ z' ∈ zs, rk4 z ≤ rk4 z') → Q v H
theorem cr_minK {X : Cx} (hc : X.calm = true) (hu : X.A.units + 10 < cLine) : CallR X (.builtin "min") (rMinK X.K) := by
  intro pins s σ H xs us Q I rx h
  obtain ⟨a, ys, zs, rfl, hs, hd, hB, h0, k⟩ := h
  obtain rfl := Vals.ref1 rx
  obtain ⟨its, r, l, hz⟩ := I.list hs
  obtain ⟨as, hr⟩ := Dp.reads I _ _ _ hd (show RelV (V.ref a) (Value.ref a) from rfl)
  cases hr with
  | list k1 k2 k3 k4 =>
    rename_i o vs n as1
    have hl : s.heap.IsList a vs := ⟨_, k1, k2, _, k3⟩
    have ev : vs = its.toArray := by
      obtain ⟨o2, n2, e2, c2, _, d2⟩ := l
      rw [k1] at e2
      cases e2
      rw [k3] at d2
      cases d2
      rfl
    have hn : vs.size = zs.length := by
      have q := PySem.W.readsAll_len k4
      rw [q, List.length_map]
    have ha : PySem.W.AlikeAll (zs.map prK) := by
      refine ⟨fun x hx y hy => ?_, fun x hx => ?_⟩
      · obtain ⟨z, _, rfl⟩ := List.mem_map.mp hx
        obtain ⟨w, _, rfl⟩ := List.mem_map.mp hy
        exact alikeK z w
      · obtain ⟨z, _, rfl⟩ := List.mem_map.mp hx
        intro e
        cases e
    refine PySem.call_min_walkH (PySem.W.iter_listW (A := X.A.in1) (I.ok.hd hc) hl fun s₂ e W st hfp hw hk => ?_)
    have hdep := depthK zs
    refine ⟨_, _, _, _, _, _, _, s.heap, _, rfl, W, st, hfp, by omega, hw, hk, PySem.W.cmpIn_lt (A := X.A.in1) k4 ha (by show X.A.units + 1 + _ < _; omega), fun v s' hP m => ?_⟩
    obtain ⟨h', tk, rfl, hk'⟩ := PySem.W.moved_old e rfl m
    have hb : ∀ i j, i ≤ vs.size - 1 → j ≤ vs.size - 1 → PySem.W.dataLt ((zs.map prK).getD i .none) ((zs.map prK).getD j .none) = decide (rk4 (zs.getD i (0, 0, 0, 0)) < rk4 (zs.getD j (0, 0, 0, 0))) := fun i j hi hj => by
      have li : i < zs.length := by omega
      have lj : j < zs.length := by omega
      have gi : (zs.map prK).getD i .none = prK zs[i] := by rw [List.getD_eq_getElem?_getD, List.getElem?_map, List.getElem?_eq_getElem li]; rfl
      have gj : (zs.map prK).getD j .none = prK zs[j] := by rw [List.getD_eq_getElem?_getD, List.getElem?_map, List.getElem?_eq_getElem lj]; rfl
      have ti : zs.getD i (0, 0, 0, 0) = zs[i] := by rw [List.getD_eq_getElem?_getD, List.getElem?_eq_getElem li]; rfl
      have tj : zs.getD j (0, 0, 0, 0) = zs[j] := by rw [List.getD_eq_getElem?_getD, List.getElem?_eq_getElem lj]; rfl
      rw [gi, gj, ti, tj]
      exact dlK (hB _ (List.getElem_mem li)) (hB _ (List.getElem_mem lj))
    rw [argBest_congr (vs.size - 1) hb] at hP
    obtain ⟨b1, b2⟩ := PySem.argBest_lt (fun i => rk4 (zs.getD i (0, 0, 0, 0))) (vs.size - 1)
    generalize hi : PySem.argBest (fun i j => decide (rk4 (zs.getD i (0, 0, 0, 0)) < rk4 (zs.getD j (0, 0, 0, 0)))) (vs.size - 1) = i0 at hP b1 b2
    have hP' : its[i0]? = some v := by
      rw [ev] at hP
      rw [← hP]
      simp
    have li0 : i0 < ys.length := by
      rw [r.length]
      exact (List.getElem?_eq_some_iff.mp hP').1
    obtain ⟨u, hu', ru⟩ := Vals.get r (List.getElem?_eq_getElem li0)
    rw [hP'] at hu'
    cases hu'
    have lz : i0 < zs.length := by omega
    refine ⟨ys[i0], H, I.kept hk', ru, k i0 _ zs[i0] (List.getElem?_eq_getElem li0) (List.getElem?_eq_getElem lz) fun z' hz' => ?_⟩
    obtain ⟨j, lj, rfl⟩ := List.mem_iff_getElem.mp hz'
    have q := b2 j (by omega)
    rw [List.getD_eq_getElem?_getD, List.getElem?_eq_getElem lz, List.getD_eq_getElem?_getD, List.getElem?_eq_getElem lj] at q
    exact q
end K19
namespace K19
open PySem L2
open PyProof.Rows (envOfC)
/-! enumerate(t) of a tuple t -/
open PySem.AutoSeq1 in
set_option maxHeartbeats 2000000 in
theorem enew {v : Value} {ob : Obj} {G : Heap → Prop} (B : Begins v ob G) :
    Meets (Builtin.«enumerate.__new__» ⟨[.type "enumerate", v], []⟩) (fun _ R z => G z.heap ∧
      R (.ok (.ret (.ref (z.heap.push ob).objs.size))) { z with heap := (z.heap.push ob).push { cls := .type "enumerate", data := .fields #[.none, .bool false, .ref z.heap.objs.size, rawInt 0, .none, .none] } }) :=
  .of_wp fun P0 w0 A0 R0 z hz => by
    obtain ⟨hp, gs, dr, tk, os⟩ := z
    obtain ⟨g1, g2⟩ := hz
    have sub0 := sub_enumerate
    have it0 : ∀ {A' : Around} {E Q : Value → Shared → Prop}, Q (.ref hp.objs.size) ⟨hp.push ob, gs, dr, tk, os⟩ → wpAny (model P0 w0) A' (pyIter v) Q E ⟨hp, gs, dr, tk, os⟩ := fun q => B.iter P0 w0 _ _ ⟨hp, gs, dr, tk, os⟩ _ g1 q
    wp_walk using it0
    refine wpAny_stack_any fun _ => wpAny_pure ?_
    split
    · rename_i c0 _ _ _ _ _
      cases (c0 == Value.type "enumerate") <;> (wp_walk using it0; exact ⟨_, rfl, g2⟩)
    · wp_walk using it0
      exact ⟨_, rfl, g2⟩
theorem ecall {P : Program} {w : World} {A : Around} {E : Value → Shared → Prop} {z : Shared} {v : Value} {ob : Obj} {G : Heap → Prop} {Q : Value → Shared → Prop} (B : Begins v ob G) (g : G z.heap)
    (k : ∀ h' : Heap, IsEnum h' (z.heap.objs.size + 1) z.heap.objs.size 0 .none → h'.get? z.heap.objs.size = some ob → (∀ b o, z.heap.get? b = some o → h'.get? b = some o) → Q (.ref (z.heap.objs.size + 1)) { z with heap := h' }) :
    wpAny (model P w) A (call (.type "enumerate") [v]) Q E z := by
  refine callType_new F.called_enumerate (by decide) (F.typeCall_enumerate_1 _) (F.newCall_enumerate_1 _) (fun o => F.args_object_init_2 o _) F.entry_enumerate_new (enew B) ⟨g, ?_⟩
  have sz : (z.heap.push ob).objs.size = z.heap.objs.size + 1 := Heap.size_push ..
  show _ ∧ _
  have ie := Heap.get?_push_size (z.heap.push ob) (o := { cls := .type "enumerate", data := .fields #[.none, .bool false, .ref z.heap.objs.size, rawInt 0, .none, .none] }) rfl
  rw [sz] at ie ⊢
  exact ⟨⟨_, ie, rfl⟩, k _ ie (Heap.get?_push_of_some _ (Heap.get?_push_size _ B.free)) fun b o q => Heap.get?_push_of_some _ (Heap.get?_push_of_some _ q)⟩
/-- the tuple at a, each item in a new pair -/
def ItN (K : PySem.W.Frag) (a : Addr) : It where
  go := fun i H => ∃ (xs : List V) (x : V), SqT K H a xs ∧ xs[i]? = some x
  yld := fun i H v H' => ∃ T x, v = .ref T ∧ H T = none ∧ H' = upd H T (.tup [.int (i : Nat), x]) ∧ ∀ xs, SqT K H a xs → xs[i]? = some x
  stop := fun i H => ∃ xs : List V, SqT K H a xs ∧ xs.length ≤ i
theorem other_cls {h : Heap} {a b : Addr} {x y : Obj} (e : h.get? a = some x) (f : h.get? b = some y) (n : x.cls ≠ y.cls) : a ≠ b := fun q => by
  rw [q, f] at e
  exact n (congrArg Obj.cls (Option.some.inj e)).symm
theorem turn_n {P : Program} {w : World} {K : PySem.W.Frag} {ts : List Expr} {kk : Nat} {tp : Pos} (a e it : Addr) :
    Turn P w K (.Tuple ts kk tp) (ItN K a) [e, it] e (fun i h => (∃ old, IsEnum h e it ((i : Nat) : Int) old) ∧ h.IsTupleIter it a i) := by
  have two : ∀ {b : Addr}, b ∈ [e, it] → b = e ∨ b = it := fun {b} hb => by simpa using hb
  refine { mem := List.mem_cons_self, obj := ?_, keep := ?_, item := ?_, done := ?_, self := ?_ }
  · rintro i h ⟨⟨old, he⟩, ⟨o, ho, hc, hd⟩⟩ b hb
    rcases two hb with rfl | rfl
    · exact ⟨_, he, fun v q => nomatch q⟩
    · exact ⟨o, ho, fun v q => by rw [hd] at q; cases q⟩
  · rintro i h h' ⟨⟨old, he⟩, ti⟩ k
    exact ⟨⟨old, k e List.mem_cons_self _ he⟩, ti.at fun o q => k it (List.mem_cons_of_mem _ List.mem_cons_self) o q⟩
  · intro X hP hw hK hc i pins s σ H E I fr st hg
    subst hP hw hK
    obtain ⟨⟨old, he⟩, ti⟩ := st
    obtain ⟨xs, x, sx, hx⟩ := hg
    obtain ⟨its, rv, tup, hz⟩ := I.tuple sx
    obtain ⟨oi, hoi, ci, di⟩ := id ti
    obtain ⟨oa, hoa, ca, _⟩ := id tup
    have n1 : a ≠ it := other_cls hoa hoi (by rw [ca, ci]; decide)
    have n2 : e ≠ it := other_cls he hoi (by rw [ci]; show Value.type "enumerate" ≠ _; decide)
    have n3 : e ≠ a := other_cls he hoa (by rw [ca]; show Value.type "enumerate" ≠ _; decide)
    have le : e < s.heap.objs.size := Heap.lt_size he
    have li : it < s.heap.objs.size := Heap.lt_size hoi
    have lt : i < its.toArray.size := by
      obtain ⟨u, hu, _⟩ := rv.get hx
      simpa using (List.getElem?_eq_some_iff.mp hu).1
    refine wpAny_pyNext_enum_itemD (Draws.tuple (A := X.A.in1) (I.ok.hd hc) it a n1 its.toArray) he ⟨ti, tup⟩ lt n2 (by simp [n2, n3]) fun u h' tk hu ho st' hT hs hk => ?_
    obtain ⟨x', hx', ru⟩ : ∃ x', xs[i]? = some x' ∧ RelV x' u := by
      have hu2 : its[i]? = some u := by simpa using hu
      obtain ⟨u', e1, r1⟩ := rv.get hx
      rw [hu2] at e1
      cases e1
      exact ⟨x, hx, r1⟩
    rw [hx] at hx'
    cases hx'
    refine ⟨_, rfl, wpAny_letOwnedTupleGo_enum (s := { s with heap := h', toks := tk + 1 }) ho fun h2 he2 sb => ?_⟩
    have big : s.heap.objs.size ≠ e := Nat.ne_of_gt le
    have hT2 := (sb.2 _ big).trans hT
    have new : ObjOk X.prog X.w (upd H s.heap.objs.size (.tup [.int (i : Nat), x])) h2 s.heap.objs.size (.tup [.int (i : Nat), x]) :=
      ⟨by rw [PySem.sizeLine_eq]; exact (by decide : 2 ≤ 16777216), [.int i tk, u], .cons ⟨_, rfl⟩ (.cons ru .nil), ⟨_, hT2, rfl, _, rfl⟩⟩
    have old2 : ∀ b ob, b ∉ [e, it] → s.heap.get? b = some ob → h2.get? b = some ob := fun b ob nb q => by
      have b1 : b ≠ e := fun z => nb (by simp [z])
      have b2 : b ≠ it := fun z => nb (by simp [z])
      exact (sb.2 b b1).trans (hk b ob b1 b2 q)
    have I2 := I.turnedNew (t' := tk + 1) old2 fr (Nat.le_refl _) new
    refine ⟨.ref s.heap.objs.size, _, I2, rfl, ⟨_, x, rfl, I.hok.fresh (Nat.le_refl _), rfl, fun ys hy => by rw [I.tuple_inj hy sx]; exact hx⟩, ⟨⟨u, ?_⟩, ?_⟩, fun b hb => ?_⟩
    · rw [show ((i + 1 : Nat) : Int) = (i : Int) + 1 by omega]
      exact he2
    · exact st'.1.at fun o q => (sb.2 it (Ne.symm n2)).trans q
    · have hb' : b < s.heap.objs.size := by
        rcases two hb with rfl | rfl <;> assumption
      rw [upd_ne (Nat.ne_of_lt hb')]
      exact (fr b hb).1
  · intro X hP hw hK hc i pins s σ H E I fr st hg
    subst hP hw hK
    obtain ⟨⟨old, he⟩, ti⟩ := st
    obtain ⟨xs, sx, hx⟩ := hg
    obtain ⟨its, rv, tup, hz⟩ := I.tuple sx
    obtain ⟨oi, hoi, ci, di⟩ := id ti
    obtain ⟨oa, hoa, ca, _⟩ := id tup
    have n1 : a ≠ it := other_cls hoa hoi (by rw [ca, ci]; decide)
    obtain ⟨f0, f1, f2, f3, f4, f5⟩ := fr it (List.mem_cons_of_mem _ List.mem_cons_self)
    have hl := rv.length
    have D : Draws X.prog X.w X.A.in1 it [it, a] i (fun _ _ => False) (fun j h => j = i ∧ h.IsTupleIter it a i ∧ h.IsTuple a its.toArray) :=
      { live := fun _ _ q => ⟨q.2.1.choose, q.2.1.choose_spec.1⟩
        frame := fun _ _ _ q k => ⟨q.1, q.2.1.at fun o z => k it (by simp) o z, q.2.2.at fun o z => k a (by simp) o z⟩
        item := fun j _ _ _ lt q _ => absurd q.1 (Nat.ne_of_lt lt)
        done := fun z _ _ q k => wpAny_nextOf_tuple_end (I.ok.hd hc) q.2.1 q.2.2 (by simp; omega) k }
    exact wpAny_pyNext_enum_endD D he ⟨rfl, ti, tup⟩ fun h' eb => ⟨rfl, I.turned (t' := s.toks) (fun b o hb q => eb b o hb q) f0 f1 f3 f4 f5⟩
  · rintro A i s Q E ⟨⟨old, he⟩, _⟩ q
    exact wpAny_pyIter_enum he q
def iEnN (K : PySem.W.Frag) (ta : TA) : TI := fun σ H R => ta σ H fun vs H1 => ∃ a xs, vs = [.ref a] ∧ SqT K H1 a xs ∧ R (ItN K a) H1
theorem pi_enumT {X : Cx} {e : Expr} {ta : TA} {p pos tp : Pos} {ts : List Expr} {kk : Nat} (hg : Gl X "enumerate") (hm : X.mg "enumerate" = none) (ha : PA X [e] ta) (hs : starEach [e] X.env = [(false, eval e X.env)] := by rfl) :
    PI X (.Tuple ts kk tp) (.Call (.Name "enumerate" p) [e] [] pos) (iEnN X.K ta) := by
  constructor
  intro pins s σ H R I h
  refine PyProof.Rows.Call_ (ld_blt I hg hm PyProof.Rows.boot_enumerate (PyProof.Rows.callWith_type1 (thn (ha.run pos pins s σ H _ I h) fun us s1 q1 => ?_) hs rfl))
  obtain ⟨vs, H1, I1, r1, a, xs, rfl, sx, q⟩ := q1
  obtain rfl := Vals.ref1 r1
  obtain ⟨its, rv, tup, hz⟩ := I1.tuple sx
  refine ecall (begins_tuple a its.toArray) tup fun h' ie gi old => wpAny_pyIter_enum ie ?_
  have I2 : Inv X pins σ H1 { s1 with heap := h' } := I1.kept (t' := s1.toks) old
  refine ⟨s1.heap.objs.size + 1, [s1.heap.objs.size + 1, s1.heap.objs.size], _, _, H1, rfl, I2, turn_n a (s1.heap.objs.size + 1) s1.heap.objs.size, ⟨⟨.none, ie⟩, ⟨_, gi, rfl, rfl⟩⟩, fun b hb => ?_, q⟩
  have hle : s1.heap.objs.size ≤ b := by
    have z : b = s1.heap.objs.size + 1 ∨ b = s1.heap.objs.size := by simpa using hb
    rcases z with rfl | rfl
    · exact Nat.le_succ _
    · exact Nat.le_refl _
  exact I1.fpOk hle (I1.hok.fresh hle)
/-- a loop over enumerate(t), t a tuple -/
theorem for_enumT {K : PySem.W.Frag} {a : Addr} {g : TG} {tb : TS} {nx : L2.St → Hp → Prop} {rt : VK} {σ : L2.St} {H : Hp} (xs : List V) (Pv : Nat → L2.St → Hp → Prop) (h0 : Pv 0 σ H) (hl : ∀ i σ H, i ≤ xs.length → Pv i σ H → SqT K H a xs)
    (hs : ∀ i x T σ H, xs[i]? = some x → Pv i σ H → H T = none → g (.ref T) σ (upd H T (.tup [.int (i : Nat), x])) fun σ2 H2 => tb { nx := Pv (i + 1), rt := rt, bk := nx, ct := Pv (i + 1) } σ2 H2) (hd : ∀ σ H, Pv xs.length σ H → nx σ H) :
    ∃ W : Nat → Nat → L2.St → Hp → Prop, (∃ m, W 0 m σ H) ∧ ∀ i m σ H, W i m σ H →
      ((ItN K a).stop i H ∧ nx σ H) ∨ ((ItN K a).go i H ∧ ∃ N : L2.St → Hp → Prop, (∀ σ' H', N σ' H' → ∃ m', m' < m ∧ W (i + 1) m' σ' H') ∧ ∀ x H', (ItN K a).yld i H x H' → g x σ H' fun σ2 H2 => tb { nx := N, rt := rt, bk := nx, ct := N } σ2 H2) := by
  refine ⟨fun i m σ H => i ≤ xs.length ∧ m = xs.length - i ∧ Pv i σ H, ⟨xs.length, Nat.zero_le _, rfl, h0⟩, ?_⟩
  rintro i m σ H ⟨li, rfl, hp⟩
  have sx := hl i σ H li hp
  by_cases lt : i < xs.length
  · refine .inr ⟨⟨xs, xs[i], sx, List.getElem?_eq_getElem lt⟩, Pv (i + 1), fun σ' H' q => ⟨xs.length - (i + 1), by omega, by omega, rfl, q⟩, ?_⟩
    rintro v H' ⟨T, x, rfl, hT, rfl, hx⟩
    exact hs i x T σ H (hx xs sx) hp hT
  · have ei : i = xs.length := by omega
    subst ei
    exact .inl ⟨⟨xs, sx, Nat.le_refl _⟩, hd σ H hp⟩
end K19
namespace K19
open PySem L2
open PyProof.Rows (envOfC)
open PySem.Spec PyProof.Rows
/-! sorted(set(xs)), xs a list of texts -/
section
variable {P : Program} {w : World} {κ : Type} [DecidableEq κ] {knd : PySem.KeyKind P w κ} {M : Value → Prop}
/-- a set stands at a: keys of one kind, each M, at most n of them; its table rises and is led -/
def SetG (knd : PySem.KeyKind P w κ) (M : Value → Prop) (h : Heap) (a : Addr) (n : Nat) : Prop :=
  ∃ o es ep t, h.get? a = some o ∧ o.ExactSet ∧ o.data = .set es ep t ∧ ElemsOf knd es.toList ∧ (∀ e ∈ es.toList, M e.2) ∧ es.size ≤ n ∧ n < scanBound ∧ t.fits es.size = true ∧ Ris t.place.toList ∧
    (w.params.followText "set-order" = true ∨ t.led = true)
theorem SetG.at {h h' : Heap} {a : Addr} {n : Nat} (g : SetG knd M h a n) (k : ∀ o, h.get? a = some o → h'.get? a = some o) : SetG knd M h' a n := by
  obtain ⟨o, es, ep, t, e, r⟩ := g
  exact ⟨o, es, ep, t, k o e, r⟩
theorem SetG.up {h : Heap} {a : Addr} {m n : Nat} (g : SetG knd M h a m) (l : m ≤ n) (b : n < scanBound) : SetG knd M h a n := by
  obtain ⟨o, es, ep, t, e1, e2, e3, e4, e5, e6, _, r⟩ := g
  exact ⟨o, es, ep, t, e1, e2, e3, e4, e5, Nat.le_trans e6 l, b, r⟩
variable {A : Around} {E : Value → Shared → Prop} {s : Shared} {a : Addr}
/-- the entries are stored, and laid anew where the table is too full -/
theorem setG_store {g : Bool → Sem Unit} {o : Obj} {es ys : Array (Int × Value)} {ep m : Nat} {t u : SetTable} {wd : Bool} {R : Option Bool → Shared → Prop}
    (free : ∀ (b : Bool) (z : Shared) (Q : Unit → Shared → Prop), Q () z → wpAny (model P w) A (g b) Q E z)
    (at_ : s.heap.get? a = some o) (ex : o.ExactSet) (da : o.data = .set es ep t) (el : ElemsOf knd ys.toList) (mm : ∀ e ∈ ys.toList, M e.2) (sz : ys.size ≤ m) (bd : m < scanBound)
    (fi : u.fits ys.size = true) (ri : Ris u.place.toList) (le : w.params.followText "set-order" = true ∨ u.led = true)
    (k : ∀ h', Heap.SameBut a s.heap h' → SetG knd M h' a m → R (some true) { s with heap := h' }) :
    wpAny (model P w) A (do
      storeSet a ys u
      if (!wd && u.tooFull) = true then do
        let z := relayAll u ys (SetTable.grown ys.size)
        g z.2.2
        storeSet a z.1 z.2.1
        pure (some true)
      else pure (some true)) R E s := by
  have b1 : ys.size < scanBound := Nat.lt_of_le_of_lt sz bd
  refine wpAny_bind (wpAny_storeSet_of at_ da ?_ (fits_of_scanBound b1))
  have at1 := store_at (es' := ys) (t' := u) at_ da
  have sb := Heap.SameBut.update s.heap a (Obj.putSet ys u)
  split
  · obtain ⟨p1, p2, p3, p4⟩ := And.intro (relayAll_perm u ys (SetTable.grown ys.size)) (And.intro (relayAll_fits u ys (SetTable.grown ys.size)) (And.intro (relayAll_ris u ys (SetTable.grown ys.size)) (relayAll_led u ys (SetTable.grown ys.size))))
    generalize relayAll u ys (SetTable.grown ys.size) = z at p1 p2 p3 p4 ⊢
    obtain ⟨zs, v, gv⟩ := z
    have same : zs.size = ys.size := by
      have q := p1.length_eq
      simpa using q
    have b2 : zs.size < scanBound := by rw [same]; exact b1
    refine wpAny_bind (free _ _ _ (wpAny_bind (wpAny_storeSet_of at1 rfl ?_ (fits_of_scanBound b2))))
    refine wpAny_pure (k _ (sb.trans (Heap.SameBut.update _ a _)) ⟨_, zs, _, v, store_at (es' := zs) (t' := v) at1 rfl, ex, rfl, el.perm p1, fun e he => mm e (p1.mem_iff.mp he), by rw [same]; exact sz, bd, p2, p3, ?_⟩)
    rcases le with q | q
    · exact .inl q
    · exact .inr (p4.trans q)
  · exact wpAny_pure (k _ sb ⟨_, ys, _, u, at1, ex, rfl, el, mm, sz, bd, fi, ri, le⟩)
theorem setG_add {n : Nat} {k : κ} {v : Value} {Q : Bool → Shared → Prop} (S : SetG knd M s.heap a n) (room : n + 1 < scanBound) (hk : knd.is k v = true) (hs : v.scannable = true) (hm : M v)
    (q : ∀ h' b, Heap.SameBut a s.heap h' → SetG knd M h' a (n + 1) → Q b { s with heap := h' }) : wpAny (model P w) A (setAddHashed a v (knd.hash k)) Q E s := by
  have S0 := S
  obtain ⟨o, es, ep, t, at_, ex, da, el, mm, sz, bd, fi, ri, le⟩ := S
  have b0 : es.size < scanBound := Nat.lt_of_le_of_lt sz bd
  unfold setAddHashed setAddHashedIn
  refine wpAny_holding (wpAny_bind (wpAny_setState_of at_ da fi ?_))
  dsimp only
  rw [byScan_of hs b0 el, if_pos rfl]
  unfold setAddByScan
  refine wpAny_bind (wpAny_bind (wpAny_rule (wpAny_bind (wpAny_setScan_of hk at_ da fi el ?_))))
  cases es.toList.findIdx? (fun e => knd.is k e.2) with
  | some j =>
    exact wpAny_pure (wpAny_pure (q s.heap _ (Heap.SameBut.refl a s.heap) (S0.up (Nat.le_succ _) room)))
  | none =>
    have p1 := layNew_perm t es (knd.hash k) v
    have p2 := layNew_fits t es (knd.hash k) v
    have p3 := layNew_ris t es (knd.hash k) v ri
    have p4 := layNew_led t es (knd.hash k) v
    dsimp only
    generalize layNew t es (knd.hash k) v = z at p1 p2 p3 p4 ⊢
    obtain ⟨ys, u, wd, gv⟩ := z
    dsimp only at p1 p2 p3 p4 ⊢
    rw [Array.toList_push] at p1
    have inn : ∀ e ∈ ys.toList, e ∈ es.toList ∨ e = (knd.hash k, v) := fun e he => by
      rcases List.mem_append.mp (p1.mem_iff.mp he) with z | z
      · exact .inl z
      · exact .inr (List.mem_singleton.mp z)
    have el1 : ElemsOf knd ys.toList := fun e he => by
      rcases inn e he with z | z
      · exact el e z
      · subst z
        exact ⟨⟨k, hk, rfl⟩, hs⟩
    have mm1 : ∀ e ∈ ys.toList, M e.2 := fun e he => by
      rcases inn e he with z | z
      · exact mm e z
      · subst z
        exact hm
    have sz1 : ys.size ≤ n + 1 := by
      have z := p1.length_eq
      simp at z
      omega
    have le1 : w.params.followText "set-order" = true ∨ u.led = true := by
      rcases le with z | z
      · exact .inl z
      · exact .inr (p4.trans z)
    have way : ∀ (b : Bool) (z : Shared) (Q' : Unit → Shared → Prop), Q' () z → wpAny (model P w) A (match b with
        | true => rule "set.scan.the-table-gave-way"
        | false => pure ()) Q' E z := fun b z Q' r => by
      cases b
      · exact wpAny_pure r
      · exact wpAny_rule r
    refine wpAny_bind (way gv _ _ ?_)
    split
    · rw [hashByValue_scannable 8 hs]
      refine wpAny_bind (wpAny_pure ?_)
      refine setG_store (knd := knd) (M := M) way at_ ex da el1 mm1 sz1 room ?_ ?_ ?_ (fun h' sb g => wpAny_pure (q h' true sb g))
      · split
        · exact p2
        · exact SetTable.fits_plain_off p2
      · split <;> exact p3
      · split <;> exact le1
    · refine wpAny_bind (wpAny_pure ?_)
      rw [if_pos rfl]
      exact setG_store (knd := knd) (M := M) way at_ ex da el1 mm1 sz1 room p2 p3 le1 (fun h' sb g => wpAny_pure (q h' true sb g))
end
/-- one of the texts xs -/
def IsTx (xs : List Str) (v : Value) : Prop := ∃ x t, v = Value.str x t ∧ x ∈ xs
section
variable {P : Program} {w : World} {A : Around} {I : Addr} {fp wr : List Addr} {G : Array GenState → Array GenState → Prop} {n : Nat} {Pv : Nat → Value → Prop} {St : Nat → Shared → Prop} {R : Result → Shared → Prop}
theorem setG_loop (xs : List Str) (W : WalksS P w A.in1 I fp wr G n Pv St) (a : Addr) (out : a ∉ fp) (room : n + 1 < scanBound) (val : ∀ i v, Pv i v → IsTx xs v) :
    ∀ (k i : Nat) (s : Shared), n - i = k → i ≤ n → St i s → SetG (strKind P w) (IsTx xs) s.heap a i →
      (∀ s', Moved (a :: wr) G s s' → SetG (strKind P w) (IsTx xs) s'.heap a n → R (.ok (.ret .none)) s') →
      codeAny (model P w) A (.builtin "set.update.loop" ⟨[.ref a, .ref I], []⟩) R s := by
  have nw : a ∉ wr := fun z => out (W.sub _ z)
  have sub : ∀ b ∈ wr, b ∈ a :: wr := fun b z => List.mem_cons_of_mem _ z
  intro k
  induction k with
  | zero =>
    intro i s ek le st S fin
    obtain rfl : i = n := by omega
    refine codeAny_builtin F.entry_set_update_loop ?_
    rw [Around.under_plainId F.plain_set_update_loop _]
    change wpAny _ A.in1 (pyNext (.ref I) >>= _) _ _ s
    refine wpAny_bind (W.done s _ _ st fun s1 mv => ?_)
    change wpAny _ A.in1 (ret Value.none) _ _ s1
    exact wpAny_pure (fin s1 (mv.mono sub) (S.at fun o e => mv.heap a o nw e))
  | succ k ih =>
    intro i s ek le st S fin
    have lt : i < n := by omega
    refine codeAny_builtin F.entry_set_update_loop ?_
    rw [Around.under_plainId F.plain_set_update_loop _]
    change wpAny _ A.in1 (pyNext (.ref I) >>= _) _ _ s
    refine wpAny_bind (W.item i s _ _ lt st fun v s1 pv st1 mv => ?_)
    have m := val i v pv
    obtain ⟨x, t, rfl, hx⟩ := id m
    have S1 : SetG (strKind P w) (IsTx xs) s1.heap a i := S.at fun o e => mv.heap a o nw e
    change wpAny _ A.in1 (holding [Value.str x t] (setAdd a (.str x t)) >>= _) _ _ s1
    refine wpAny_bind (wpAny_holding ?_)
    unfold setAdd
    refine wpAny_holding (wpAny_bind ((strKind P w).pyHash (k := x) (strKind_is _ _ _ _) ?_))
    refine setG_add (s := { s1 with toks := s1.toks + 1 }) S1 (by omega) (strKind_is _ _ _ _) rfl m fun h' b sb S2 => ?_
    refine wpAny_pure ⟨plainId_quiet F.plain_set_update_loop _, ih (i + 1) _ (by omega) lt (W.frame _ s1 _ _ st1 (Nat.le_succ _) fun c hc o e => ?_) S2 fun s2 mv2 S3 => ?_⟩
    · exact (sb.2 c (fun z : c = a => out (z ▸ hc))).trans e
    · exact fin s2 (Moved.trans W.gtrans ((mv.mono sub).then_heap (Nat.le_succ _) fun c o hc e => (sb.2 c (fun z : c = a => hc (z ▸ List.mem_cons_self))).trans e) mv2) S3
end
section
variable {P : Program} {w : World} {A : Around} {E : Value → Shared → Prop} {s : Shared}
/-- a set as it is made -/
def bareSet (w : World) : Obj := { cls := .type "set", dict := none, data := .set #[] 0 (.fresh 0 0 (!w.params.followText "set-order")) }
theorem setG_new {h : Heap} {a : Addr} {M : Value → Prop} (e : h.get? a = some (bareSet w)) : SetG (strKind P w) M h a 0 :=
  ⟨_, #[], 0, _, e, ⟨rfl, rfl, rfl⟩, rfl, (fun e he => by simp at he), (fun e he => by simp at he), Nat.le_refl _, by decide, rfl, List.Pairwise.nil, by
    cases q : w.params.followText "set-order"
    · exact .inr (by simp [SetTable.fresh, q])
    · exact .inl rfl⟩
set_option maxHeartbeats 3200000 in
theorem set_of_list {l : Addr} {items : Array Value} (xs : List Str) {Q : Value → Shared → Prop} (calm : A.handled = none) (at_ : s.heap.IsList l items) (val : ∀ (i : Nat) (v : Value), items[i]? = some v → IsTx xs v) (room : items.size + 1 < scanBound)
    (q : ∀ (h' : Heap) (tk : Nat), SetG (strKind P w) (IsTx xs) h' s.heap.objs.size items.size → (∀ b o, s.heap.get? b = some o → h'.get? b = some o) → Q (.ref s.heap.objs.size) { s with heap := h', toks := tk }) :
    wpAny (model P w) A (call (.type "set") [.ref l]) Q E s := by
  obtain ⟨c, tl, g1⟩ := F.called_set.mro
  have g2 := F.called_set.made
  have g3 := F.called_set.sub
  refine wpAny_call (codeAny_of_tree ?_)
  change wpAny _ _ (callAny (.type "set") _) _ _ _
  refine wpAny_pure ⟨Code.quiet_builtin _ (by decide +kernel), codeAny_builtin F.entry_type_call ?_⟩
  rw [Around.under_plain (weight_type_call_type "set" [.ref l] []) rfl]
  have g4 := F.called_set.notType
  have g5 := F.called_set.canCreate
  have g6 := F.typeCall_set_1 (.ref l)
  repeat (any_goals (first | assumption | wp_step))
  refine codeAny_mono (code_set_led1 (.ref l) (E := E) (Q₁ := fun x z => x = .ref s.heap.objs.size ∧ z = { s with heap := s.heap.push (bareSet w) }) ⟨rfl, rfl⟩) fun r z hr => ?_
  cases r with
  | error e => exact hr
  | ok fl =>
    cases fl with
    | ret obj =>
      obtain ⟨rfl, rfl⟩ := hr
      have new : (s.heap.push (bareSet w)).get? s.heap.objs.size = some (bareSet w) := Heap.get?_push_size _ rfl
      have typ : Shared.TypeIs { s with heap := s.heap.push (bareSet w) } (.ref s.heap.objs.size) "set" := ⟨_, new, rfl⟩
      have g7 := F.called_set.init.lookup
      have g8 := F.called_set.init.bind (.ref s.heap.objs.size)
      repeat (any_goals (first | assumption | wp_step))
      refine codeAny_mono (codeAny_call_builtin (R := wants (fun r z => r = .none ∧ ∃ h' tk, z = { s with heap := h', toks := tk } ∧ SetG (strKind P w) (IsTx xs) h' s.heap.objs.size items.size ∧
          (∀ b o, s.heap.get? b = some o → h'.get? b = some o)) E) F.called_set.init.plain F.entry_set_init (check_set_init_1 typ ?_)) fun r z hz => ?_
      · obtain ⟨⟨oc, od, oq, os⟩, ho, hcl, nl, hdl⟩ := at_
        simp only at hcl hdl
        subst hcl hdl
        have at2 : (s.heap.push (bareSet w)).get? l = some { cls := .type "list", dict := od, data := .seq items nl, slots := os } := Heap.get?_push_of_some _ ho
        have g9 := F.sub_list_set
        have g10 := F.sub_list_frozenset
        have g11 : (Value.type "list" == Value.type "dict") = false := by decide
        have at3 : (s.heap.push (bareSet w)).IsList l items := ⟨_, at2, rfl, nl, rfl⟩
        have sz : (s.heap.push (bareSet w)).objs.size = s.heap.objs.size + 1 := Heap.size_push ..
        have lt : l < s.heap.objs.size := Heap.lt_size ho
        have ne1 : l ≠ (s.heap.push (bareSet w)).objs.size := by
          rw [sz]
          exact Nat.ne_of_lt (Nat.lt_succ_of_lt lt)
        have out : s.heap.objs.size ∉ [(s.heap.push (bareSet w)).objs.size, l] := by
          rw [sz]
          simp only [List.mem_cons, List.not_mem_nil, or_false, not_or]
          exact ⟨Nat.ne_of_lt (Nat.lt_succ_self _), Nat.ne_of_gt lt⟩
        have calm3 : A.in1.in1.in1.handled = none := by simp [calm]
        unfold Builtin.«set.__init__» noKeywords Builtin.Frozenset.updateFrom
        generalize hPI : pyIter = PI
        wp_walk
        subst hPI
        refine wpAny_pyIter_list at3 ?_
        refine wpAny_bind (wpAny_runValue ?_)
        refine setG_loop xs ((Walks.list calm3 _ l ne1 items).toS) s.heap.objs.size out room val (items.size - 0) 0 _ (by omega) (Nat.zero_le _) ⟨⟨_, Heap.get?_push_size _ rfl, rfl, rfl⟩, (at3.push _)⟩ (setG_new (Heap.get?_push_of_some _ new)) ?_
        intro s1 mv S
        obtain ⟨h', g', d', tk', os'⟩ := s1
        obtain rfl : g' = s.gens := mv.gens
        obtain rfl : d' = s.drawn := mv.drawn
        obtain rfl : os' = s.os := mv.os
        change wpAny _ _ _ _ _ _
        refine wpAny_pure ?_
        change wpAny _ _ (ret Value.none) _ _ _
        refine wpAny_pure ⟨rfl, h', tk', rfl, S, fun b o e => ?_⟩
        have hb : b < s.heap.objs.size := Heap.lt_size e
        refine mv.heap b o ?_ (Heap.get?_push_of_some _ (Heap.get?_push_of_some _ e))
        rw [sz]
        simp only [List.mem_cons, List.not_mem_nil, or_false, not_or]
        exact ⟨Nat.ne_of_lt hb, Nat.ne_of_lt (Nat.lt_succ_of_lt hb)⟩
      · cases r with
        | error e => exact hz
        | ok fl =>
          cases fl with
          | ret r =>
            obtain ⟨rfl, h', tk, rfl, S, kp⟩ := hz
            repeat (any_goals (first | assumption | wp_step))
            exact q _ _ S kp
          | _ => exact hz.elim
    | _ => exact hr.elim
theorem sorted_setG {a : Addr} {xs : List Str} {n : Nat} {Q : Value → Shared → Prop} (S : SetG (strKind P w) (IsTx xs) s.heap a n) (calm : A.handled = none) (few : n < 64)
    (q : ∀ s' p (out : Array Value) (c : Nat) (ys : List Str), (∀ b o, s.heap.get? b = some o → s'.heap.get? b = some o) → s'.gens = s.gens → s'.os = s.os → s.heap.objs.size ≤ p →
      s'.heap.get? p = some (seqObj "list" out c) → StrsAre out.toList ys → (∀ y ∈ ys, y ∈ xs) → ys.length ≤ n → Q (.ref p) s') :
    wpAny (model P w) A (call (.builtin "sorted") [.ref a]) Q E s := by
  obtain ⟨o, es, ep, t, at_, ex, da, el, mm, sz, bd, fi, ri, le⟩ := S
  refine Calls.call_function_entry kind_sorted plain_sorted entry_sorted (args_sorted1 _) ?_
  unfold Builtin.«sorted»
  refine wpAny_bind (m := checkCount "sorted" 1 1 _) (wpAny_pure ?_)
  refine wpAny_bind (collect_set (A := A.in1) calm ⟨o, at_, ex.1, da⟩ fi (Nat.lt_of_le_of_lt sz bd) ri le fun s1 vs k1 z1 g1 o1 pm => ?_)
  have lv : vs.length ≤ n := by rw [pm.length_eq, List.length_map, Array.length_toList]; exact sz
  have each : ∀ v ∈ vs, IsTx xs v := fun v hv => by
    obtain ⟨e, he, r⟩ := List.mem_map.mp (pm.mem_iff.mp hv)
    rw [← r]
    exact mm e he
  have txs : ∃ ys, StrsAre vs ys ∧ ∀ y ∈ ys, y ∈ xs := by
    clear pm lv
    induction vs with
    | nil => exact ⟨[], .nil, fun y hy => by cases hy⟩
    | cons v r ih =>
      obtain ⟨x, tk, rfl, hx⟩ := each v List.mem_cons_self
      obtain ⟨ys, h1, h2⟩ := ih fun u hu => each u (List.mem_cons_of_mem _ hu)
      refine ⟨x :: ys, .cons x tk h1, fun y hy => ?_⟩
      rcases List.mem_cons.mp hy with z | z
      · rw [z]; exact hx
      · exact h2 y z
  obtain ⟨ys, hy, hin⟩ := txs
  refine wpAny_bind (wpAny_newList ?_ (by rw [sizeLine_eq]; omega))
  have hoL : (s1.heap.push (seqObj "list" vs.toArray 0)).get? s1.heap.objs.size = some (seqObj "list" vs.toArray 0) := Heap.get?_push_size _ rfl
  refine wpAny_bind (wpAny_holding (wpAny_call_entry slot_list_sort ⟨_, hoL, rfl⟩ entry_list_sort (list_sort_treeK strKind_oneLt hoL hy.keysOf (fun v₁ v₂ rest e => keyKind_strs (by rw [← e]; exact hy)) (by omega) fun st hp hs => ⟨_, rfl, ?_⟩) (args_list_sort _)))
  obtain ⟨zs, b1, b2, _⟩ := sorted_out_str hy hp hs
  generalize (arrOf st).map (·.2) = out at b1 ⊢
  obtain ⟨c, hc⟩ := sortedHeap_at (vs := vs) (out := out) hoL
  refine wpAny_pure ⟨_, rfl, q _ s1.heap.objs.size out c zs (fun b u e => ?_) g1 o1 z1 hc b1 (fun y h => hin y (b2.mem_iff.mp h)) (by rw [b2.length_eq, ← hy.length]; exact lv)⟩
  have e1 := k1 b u e
  have lt := Heap.lt_size e1
  change (sortedHeap (s1.heap.push (seqObj "list" vs.toArray 0)) s1.heap.objs.size vs out).get? b = some u
  rw [sortedHeap_old (Nat.ne_of_lt lt) (by rw [size_push']; exact Nat.lt_succ_of_lt lt)]
  exact Heap.get?_push_of_some _ e1
end
/-- the set of texts at a, each among xs, at most n -/
def SetX (P : Program) (w : World) (a : Addr) (xs : List Str) (n : Nat) : HO := .ext fun h => SetG (strKind P w) (IsTx xs) h a n
section
variable {X : Cx}
def rSetX (X : Cx) : List V → Hp → VK → Prop := fun vs H Q => ∃ (l : Addr) (xs : List Str), vs = [V.ref l] ∧ SqL X.K H l (xs.map V.str) ∧ xs.length < 64 ∧ ∀ p, H p = none → Q (.ref p) (upd H p (SetX X.prog X.w p xs xs.length))
theorem cr_setX (hc : X.calm = true) : CallR X (.type "set") (rSetX X) := by
  intro pins s σ H vs us Q I r h
  obtain ⟨l, xs, rfl, hs, few, q⟩ := h
  obtain ⟨its, rv, hl, _⟩ := I.list hs
  rw [Vals.ref1 r]
  have e1 := rv.strs
  have e2 : its.toArray.size = xs.length := by rw [List.size_toArray]; exact e1.length
  have val : ∀ (i : Nat) (v : Value), its.toArray[i]? = some v → IsTx xs v := by
    intro i v hv
    rw [List.getElem?_toArray] at hv
    have e3 : i < xs.length := by
      have z := (List.getElem?_eq_some_iff.mp hv).1
      rw [e1.length] at z
      exact z
    obtain ⟨t, rfl⟩ := SS.strs_at e1 i v hv
    rw [List.getD_eq_getElem?_getD, List.getElem?_eq_getElem e3]
    exact ⟨_, t, rfl, List.getElem_mem e3⟩
  refine set_of_list xs (I.ok.hd hc) hl.isList val (by rw [e2]; unfold scanBound; omega) fun h' tk S k => ?_
  rw [e2] at S
  have hn : H s.heap.objs.size = none := I.hok.fresh (Nat.le_refl _)
  have ob : ∃ o, h'.get? s.heap.objs.size = some o := by
    obtain ⟨o, _, _, _, ho, _⟩ := S
    exact ⟨o, ho⟩
  exact ⟨.ref _, upd H s.heap.objs.size (SetX X.prog X.w s.heap.objs.size xs xs.length), I.laid (t' := tk) k (Nat.le_refl _) ⟨S, ob, fun h1 h2 p k => p.at k⟩, rfl, q _ hn⟩
def rSortX (X : Cx) : List V → Hp → VK → Prop := fun vs H Q => ∃ (a : Addr) (xs : List Str) (n : Nat), vs = [V.ref a] ∧ H a = some (SetX X.prog X.w a xs n) ∧ n < 64 ∧
  ∀ (ys : List Str) (p : Addr), (∀ y ∈ ys, y ∈ xs) → ys.length ≤ n → H p = none → Q (.ref p) (upd H p (.lst (ys.map V.str)))
theorem cr_sortX (hc : X.calm = true) : CallR X (.builtin "sorted") (rSortX X) := by
  intro pins s σ H vs us Q I r h
  obtain ⟨a, xs, n, rfl, ha, few, q⟩ := h
  have S : SetG (strKind X.prog X.w) (IsTx xs) s.heap a n := (I.hok a _ ha).1
  rw [Vals.ref1 r]
  refine sorted_setG S (I.ok.hd hc) few fun s' p out c ys k g o hp hg hi hs hl => ?_
  have hn : H p = none := I.hok.fresh hp
  have J : Inv X pins σ (upd H p (.lst (ys.map V.str))) { s with heap := s'.heap, gens := s'.gens, drawn := s'.drawn, toks := s'.toks } :=
    I.call (ch := []) (Un.laid k hp hn) (I.hok.laid k hp ⟨by rw [List.length_map, sizeLine_eq]; omega, out.toList, c, vals_of_strs hi, hg⟩) (by rw [g]; exact I.bare) (fun _ z => nomatch z)
  have e : s' = { s with heap := s'.heap, gens := s'.gens, drawn := s'.drawn, toks := s'.toks } := by
    cases s'
    cases s
    cases o
    rfl
  rw [e]
  exact ⟨.ref p, _, J, rfl, q ys p hs hl hn⟩
end
end K19
namespace K19
open PySem L2
open PyProof.Rows (envOfC)
/-! sorted(xs, key=lambda p: body), the lambda's body read in the maker's own context -/
open PySem.Spec PyProof.Rows
/-- one parameter p, else captured names and globals -/
structure LamP (sc scope : Scope) (p : Str) : Prop where
  kind : scope.kind = .function
  co : scope.isCoroutine = false
  gen : scope.isGenerator = false
  par : scope.names.lookup p = some .local
  own : ∀ y ∈ scope.names, y.2 ≠ .cell ∧ (y.2 = .local → y.1 = p)
  free : ∀ y ∈ scope.names, y.2 = .free → sc.names.lookup y.1 = some .cell ∨ sc.names.lookup y.1 = some .free
def lamPB (sc scope : Scope) (p : Str) : Bool :=
  decide (scope.kind = .function) && !scope.isCoroutine && !scope.isGenerator && decide (scope.names.lookup p = some .local) && scope.names.all fun y => !decide (y.2 = .cell) && (!decide (y.2 = .local) || decide (y.1 = p)) && (!decide (y.2 = .free) || decide (sc.names.lookup y.1 = some .cell) || decide (sc.names.lookup y.1 = some .free))
theorem lamP_by {sc scope : Scope} {p : Str} (h : lamPB sc scope p = true) : LamP sc scope p := by
  unfold lamPB at h
  simp only [Bool.and_eq_true, Bool.or_eq_true, Bool.not_eq_true', decide_eq_true_eq, decide_eq_false_iff_not, List.all_eq_true] at h
  obtain ⟨⟨⟨⟨h1, h2⟩, h3⟩, h5⟩, h4⟩ := h
  refine ⟨h1, h2, h3, h5, fun y hy => ⟨(h4 y hy).1.1, fun e => ?_⟩, fun y hy e => ?_⟩
  · rcases (h4 y hy).1.2 with z | z
    · exact absurd e z
    · exact z
  · rcases (h4 y hy).2 with (z | z) | z
    · exact absurd e z
    · exact .inl z
    · exact .inr z
/-- the lambda's body, its slots named N1 -/
def lamC (X : Cx) (A : Around) (s : Shared) (H : Hp) (scope : Scope) (f c' : Addr) (N1 : List Str) : Cx :=
  { prog := X.prog, w := X.w, K := X.K, mg := X.mg, base := X.base, A := A.deeper (LamX.lamEnv X scope s.heap.objs.size f c'), N := N1, s_0 := s, H_0 := H, env := LamX.lamEnv X scope s.heap.objs.size f c',
    outer := X.stack, stack := LamX.lamEnv X scope s.heap.objs.size f c' :: X.stack, ex := [], fn := fun _ => false, calm := true, pn := [],
    xe := fun e z => wpAny (model X.prog X.w) (A.deeper (LamX.lamEnv X scope s.heap.objs.size f c')) (leaving (LamX.lamEnv X scope s.heap.objs.size f c') e) (fun _ _ => False) (fun _ _ => False) z }
/-- the slots of the lambda: its parameter's, and captured ones of the maker -/
def SlotsL (N : List Str) (σ : L2.St) (p : Str) (N1 : List Str) (σ1 : L2.St) (v : V) : Prop :=
  σ1.length = N1.length ∧ ∀ (i : Nat) (x : Str) (w : V), N1[i]? = some x → σ1[i]? = some (some w) → (x = p ∧ w = v) ∨ (x ≠ p ∧ ∃ j : Nat, N[j]? = some x ∧ σ[j]? = some (some w))
section
variable {X : Cx} {pins : List (Addr × Obj)} {σ σ1 : L2.St} {H : Hp} {s : Shared} {scope : Scope} {p : Str} {N1 : List Str} {v : V} {u : Value}
theorem lamP_start {A : Around} {f c' : Addr} {h1 : Heap} {tk : Nat} (I : Inv X pins σ H s) (L : LamP X.env.scope scope p) (hA : A.frames = some X.stack) (hd : A.handled = none) (rv : RelV v u) (sl : SlotsL X.N σ p N1 σ1 v)
    (ns : h1.Ns s.heap.objs.size fun y => [(p, u)].reverse.lookup y) (kp : ∀ b o, s.heap.get? b = some o → h1.get? b = some o) :
    Inv (lamC X A s H scope f c' N1) [] σ1 H { s with heap := h1, toks := tk } := by
  have has : ∀ y ∈ scope.names, y.2 = .free → ∃ c, X.env.cells.lookup y.1 = some c := fun y hy e => (L.free y hy e).elim (fun k => I.ok.has _ (.inl k)) (fun k => I.ok.has _ (.inr k))
  have back : ∀ {y c}, (cloFrom X.env.cells scope.names []).lookup y = some c → X.env.cells.lookup y = some c := fun {y c} e => by
    rcases cloFrom_mem (PySem.mem_of_lookup e) with z | ⟨z1, z2⟩
    · cases z
    · obtain ⟨c1, e1⟩ := has _ z1 rfl
      have e1 : X.env.cells.lookup y = some c1 := e1
      rw [e1] at z2
      rw [e1, z2]
      rfl
  have look : ∀ {y}, scope.names.lookup y = some .free → ∃ c, (cloFrom X.env.cells scope.names []).lookup y = some c := fun {y} z => by
    have hy : (y, NameKind.free) ∈ scope.names := PySem.mem_of_lookup z
    exact mem_lookup (cloFrom_has (cells := X.env.cells) (acc := []) hy)
  have cellK : ∀ {c : Addr} {x : Option Value}, s.heap.IsCell c x → h1.IsCell c x := fun {c x} ⟨o, e, d⟩ => ⟨o, kp _ _ e, d⟩
  have e0 := I.env0
  refine ⟨⟨e0.mod, L.kind, rfl, rfl, Nat.le_refl _, fun y z c e1 e2 => I.ok.inj y z c (back e1) (back e2), fun y hy => ?_, fun y c z _ => Bool.noConfusion (show false = true from z), fun _ => hd, Around.frames_deeper hA, .inr ⟨rfl, rfl⟩, fun b z => (nomatch (show b ∈ ([] : List Addr) from z)), e0.bs, e0.bsz,
      fun b _ _ z => (nomatch (show b ∈ ([] : List Addr) from z)), fun b z => (nomatch (show b ∈ ([] : List Addr) from z)), e0.funs, e0.frf⟩,
    rfl, e0.bare, Un.kept kp, ⟨_, ns, fun i y w e1 e2 e3 => ?_⟩, fun y c e => ?_, e0.hok.fresh (Nat.le_refl _), fun y c e => I.freeC y c (back e), fun q hq => absurd (show q ∈ ([] : List (Addr × Obj)) ++ [] from hq) (by simp), e0.hok.kept kp, sl.1⟩
  · have hy : scope.names.lookup y = some .cell ∨ scope.names.lookup y = some .free := hy
    rcases hy with hy | hy
    · exact absurd rfl (L.own _ (PySem.mem_of_lookup hy)).1
    · exact look hy
  · have e3 : Vis scope y := e3
    rcases sl.2 i y w e1 e2 with ⟨rfl, rfl⟩ | ⟨ne, j, n1, n2⟩
    · exact ⟨u, rv, .inl ⟨L.par, by simp⟩⟩
    · have k : scope.names.lookup y = some .free := by
        rcases e3 with k | k | k
        · exact absurd ((L.own _ (PySem.mem_of_lookup k)).2 rfl) ne
        · exact absurd rfl (L.own _ (PySem.mem_of_lookup k)).1
        · exact k
      obtain ⟨m, hn, hl⟩ := I.loc
      have fr := L.free _ (PySem.mem_of_lookup k) rfl
      obtain ⟨w', r, q⟩ := hl j y w n1 n2 (fr.elim (fun k => .inr (.inl k)) (fun k => .inr (.inr k)))
      obtain ⟨c2, h2⟩ := look k
      refine ⟨w', r, .inr ⟨.inr k, c2, h2, ?_⟩⟩
      rcases q with ⟨k', _⟩ | ⟨_, c3, e', z⟩
      · have k' : X.env.scope.names.lookup y = some .local := k'
        rcases fr with k2 | k2 <;> rw [show X.env.scope.names.lookup y = _ from k2] at k' <;> cases k'
      · rw [back h2] at e'
        cases e'
        exact cellK z
  · obtain ⟨w', z⟩ := I.cell y c (back e)
    exact ⟨w', cellK z⟩
variable {params : Arguments} {body : Expr} {f c' : Addr} {pm ctv : Value} {tb : TE} {k : Nat} {A : Around} {Q : VK}
theorem lamP_call (I : Inv X pins σ H s) (L : LamP X.env.scope scope p) (hf : s.heap.get? f = some (PySem.W.kla_obj "<lambda>" (X.env.qual ++ "<lambda>") params body scope (cloFrom X.env.cells scope.names []) pm c' ctv))
    (hc : H c' = some (LamX.CodeO c' (X.env.qual ++ "<lambda>"))) (hbind : bindArgs (PySem.W.kla_fn "<lambda>" (X.env.qual ++ "<lambda>") params body scope (cloFrom X.env.cells scope.names []) pm (.ref c') ctv) ⟨[u], []⟩ = pure [(p, u)])
    (hr : Room (k + 1) A) (hA : A.frames = some X.stack) (rv : RelV v u) (sl : SlotsL X.N σ p N1 σ1 v) (hbody : Room k (A.deeper (LamX.lamEnv X scope s.heap.objs.size f c')) → PE (lamC X A s H scope f c' N1) body tb) (ht : tb σ1 H Q) :
    wpAny (model X.prog X.w) A (call (.ref f) [u]) (CE X.stack X.prog X.w H s Q) (fun _ _ => False) s := by
  obtain ⟨⟨oc, vs, t, hoc, hdc, hvc⟩, _, _⟩ := I.hok c' _ hc
  refine wpAny_call ?_
  refine PySem.W.kla_callFunE hr.depth hf rfl L.co L.gen rfl ⟨c', oc, vs, t, rfl, hoc, hdc, hvc⟩ ?_
  rw [hbind]
  refine wpAny_pure (wpAny_newFunctionEnv (fun y hy => (L.own y hy).1) (fun y hy => ?_) (fun h1 hns hsb => ⟨I.nolimit.fresh _ hsb, ?_⟩) L.kind)
  · obtain rfl := List.mem_singleton.mp hy
    exact L.par
  · show codeAny _ _ (.expr body (LamX.lamEnv X scope s.heap.objs.size f c')) _ _
    have kp : ∀ b o, s.heap.get? b = some o → h1.get? b = some o := fun b o e => hsb.extBut b o (Nat.ne_of_lt (Heap.lt_size e)) (Heap.get?_push_of_some _ e)
    have J := lamP_start (tk := s.toks + ([(p, u)] : List (Str × Value)).length) (f := f) (c' := c') I L hA hr.hd rv sl hns kp
    refine PySem.W.kla_codeExpr (wpAny_mono ((hbody (hr.deeper _)).run [] _ _ H Q J ht) (fun v s' hq => ?_) fun e s' hq => hq)
    obtain ⟨w', H', J', rv, q⟩ := hq
    exact ⟨w', H', J'.os, J'.bare, J'.base, J'.hok, rv, q⟩
end
/-- a tuple of ints as data -/
def tupD (z : List Int) : PyData := .tuple (z.map PyData.int)
theorem alike_ints : ∀ (x y : List Int), PySem.W.alikeAll (x.map PyData.int) (y.map PyData.int) = true
  | [], _ => by simp [PySem.W.alikeAll]
  | _ :: _, [] => by simp [PySem.W.alikeAll]
  | a :: x, b :: y => by
    have ih := alike_ints x y
    simp [PySem.W.alikeAll, PySem.W.alike, ih]
theorem alike_tupD (x y : List Int) : PySem.W.alike (tupD x) (tupD y) = true := by
  unfold tupD
  simp only [PySem.W.alike]
  exact alike_ints x y
theorem depth_ints : ∀ z : List Int, PyData.depthAll (z.map PyData.int) ≤ 1
  | [] => by simp [PyData.depthAll]
  | a :: z => by
    have ih := depth_ints z
    simp [PyData.depthAll, PyData.depth]
    omega
theorem depth_tupD (z : List Int) : (tupD z).depth ≤ 3 := by
  have h := depth_ints z
  unfold tupD
  simp only [PyData.depth]
  omega
theorem each_reads {h : Heap} : ∀ {us : List Value} {ds : List PyData} {as : List Addr}, PySem.ReadsAll h us ds as → PySem.W.EachIs (fun v d => ∃ as, PySem.Reads h v d as) us ds
  | _, _, _, .nil => .nil
  | _, _, _, .cons r q => .cons ⟨_, r⟩ (each_reads q)
theorem vals_snoc {x : V} {u : Value} (r : RelV x u) : ∀ {xs : List V} {us : List Value}, Vals xs us → Vals (xs ++ [x]) (us ++ [u])
  | _, _, .nil => .cons r .nil
  | _, _, .cons a q => .cons a (vals_snoc r q)
theorem sortVals_perm {κ : PyProof.Rows.KeyKind} (b : Bool) {ks vs : List Value} (h : ks.length = vs.length) : (PySem.W.sortVals κ b ks vs).Perm vs := by
  unfold PySem.W.sortVals
  have e : (ks.zip vs).map Prod.snd = vs := List.map_snd_zip (by omega)
  exact ((List.mergeSort_perm _ _).map Prod.snd).trans (by rw [e])
section
variable {X : Cx} {pins : List (Addr × Obj)} {σ : L2.St} {H : Hp} {s : Shared} {scope : Scope} {p : Str} {N1 : List Str}
/-- what the loop over the items keeps -/
structure Sorting (X : Cx) (pins : List (Addr × Obj)) (σ : L2.St) (s0 : Shared) (a kS f c' : Addr) (e1 : Nat) (of' : Obj) (Pv : Nat → List V → Hp → Prop) (i : Nat) (s : Shared) : Prop where
  ex : ∃ (H : Hp) (ks : List V) (kA : Array Value) (e : Nat), Inv X pins σ H s ∧ s.heap.get? a = some (seqObj "list" #[] e1) ∧ s.heap.get? kS = some (seqObj "list" kA e) ∧ s.heap.get? f = some of' ∧ H a = none ∧ H kS = none ∧ H f = none ∧ kA.size = i ∧ Vals ks kA.toList ∧ Pv i ks H
/-- the spots that the sort itself uses -/
structure Spot (X : Cx) (pins : List (Addr × Obj)) (b : Addr) : Prop where
  fp : ∀ H : Hp, H b = none → FpOk X pins H b
  fr : b ∉ frs X.stack
theorem spot_of (I : Inv X pins σ H s) {b : Addr} (h : s.heap.objs.size ≤ b) : Spot X pins b := by
  refine ⟨fun H' n => I.fpOk h n, fun z => ?_⟩
  rcases List.mem_cons.mp (I.stkSub _ z) with e | e
  · have l := I.lt
    rw [← e] at l
    exact Nat.lt_irrefl _ (Nat.lt_of_lt_of_le l h)
  · exact I.nofs h e
variable {params : Arguments} {body : Expr} {f c' a kS : Addr} {pm ctv : Value} {tb : TE} {k e1 : Nat} {A : Around} {Pv : Nat → List V → Hp → Prop} {vs : List Value} {xs : List V} {P : PySem.Fin → Shared → Prop} {E : Value → Shared → Prop}
theorem sort_rest (L : LamP X.env.scope scope p) (hbind : ∀ u : Value, bindArgs (PySem.W.kla_fn "<lambda>" (X.env.qual ++ "<lambda>") params body scope (cloFrom X.env.cells scope.names []) pm (.ref c') ctv) ⟨[u], []⟩ = pure [(p, u)])
    (hr : Room (k + 1) A) (hA : A.frames = some X.stack) (hbody : ∀ (s : Shared) (H : Hp), Room k (A.deeper (LamX.lamEnv X scope s.heap.objs.size f c')) → PE (lamC X A s H scope f c' N1) body tb)
    (sa : Spot X pins a) (sk : Spot X pins kS) (ff : f ∉ frs X.stack) (ne : kS ≠ a) (nf : kS ≠ f) (rv : Vals xs vs) (hZ : vs.length ≤ sizeLine)
    (hcode : ∀ i ks H, Pv i ks H → H c' = some (LamX.CodeO c' (X.env.qual ++ "<lambda>")))
    (step : ∀ i ks y H, xs[i]? = some y → Pv i ks H → ∃ σ1, SlotsL X.N σ p N1 σ1 y ∧ tb σ1 H fun z H' => Pv (i + 1) (ks ++ [z]) H')
    (fin : ∀ ks H, Pv xs.length ks H → ∃ zs : List (List Int), (∀ z ∈ zs, z ≠ []) ∧ DpAll X.K H ks (zs.map tupD))
    (S : Sorting X pins σ s a kS f c' e1 (PySem.W.kla_obj "<lambda>" (X.env.qual ++ "<lambda>") params body scope (cloFrom X.env.cells scope.names []) pm c' ctv) Pv 0 s)
    (q : ∀ ks H s1 h' tk c out, Pv xs.length ks H → Inv X pins σ H s1 → H a = none → H kS = none → (∀ b o, b ≠ a → b ≠ kS → s1.heap.get? b = some o → h'.get? b = some o) → h'.get? a = some (seqObj "list" (List.toArray out) c) → out.Perm vs → P (.done (.ret .none)) { s1 with heap := h', toks := tk }) :
    wpAny (model X.prog X.w) A (PyProof.Rows.ksk_rest a (.ref f) false vs.toArray e1 (.ref kS)) P E s := by
  unfold PyProof.Rows.ksk_rest
  refine wpAny_bind (wpAny_rule ?_)
  first
    | rw [List.forIn_toArray]
    | (rw [← Array.forIn_toList]; simp only [List.toList_toArray])
    | rw [← Array.forIn_toList]
  refine wpAny_bind (PyProof.Rows.ksk_fold (fun i z => Sorting X pins σ s a kS f c' e1 (PySem.W.kla_obj "<lambda>" (X.env.qual ++ "<lambda>") params body scope (cloFrom X.env.cells scope.names []) pm c' ctv) Pv i z) vs 0 s S ?_ ?_)
  · intro j x z hx ⟨H, ks, kA, e, I, g1, g2, g3, n1, n2, n3, sz, rk, pv⟩
    simp only [Nat.zero_add] at sz pv ⊢
    have lj : j < vs.length := (List.getElem?_eq_some_iff.mp hx).1
    have lx : j < xs.length := by rw [rv.length]; exact lj
    obtain ⟨u, hu, ru⟩ := Vals.get rv (List.getElem?_eq_getElem lx)
    rw [hx] at hu
    cases hu
    obtain ⟨σ1, sl, ht⟩ := step j ks _ H (List.getElem?_eq_getElem lx) pv
    refine wpAny_bind (wpAny_attempt (wpAny_mono (lamP_call I L g3 (hcode _ _ _ pv) (hbind x) hr hA ru sl (hbody z H) ht) (fun v z1 he => ?_) fun _ _ w => w.elim))
    obtain ⟨kv, H1, os, bare, un, hok, r, pv1⟩ := he
    have I1 : Inv X pins σ H1 z1 := I.call' (ch := []) os un hok bare fun b w => absurd w (by simp)
    have g1' := un.keep a _ g1 n1 sa.fr (by simp)
    have g2' := un.keep kS _ g2 n2 sk.fr (by simp)
    have g3' := un.keep f _ g3 n3 ff (by simp)
    have n1' := un.free a _ g1 n1 (by simp)
    have n2' := un.free kS _ g2 n2 (by simp)
    have n3' := un.free f _ g3 n3 (by simp)
    try dsimp only
    have sb := Heap.SameBut.update z1.heap kS (Obj.mapSeq (·.push v))
    obtain ⟨c2, hc2⟩ : ∃ c2, (z1.heap.update kS (Obj.mapSeq (·.push v))).get? kS = some (seqObj "list" (kA.push v) c2) := ⟨_, get?_update_seq g2' (·.push v)⟩
    refine wpAny_bind (listUpdate_at g2' rfl ?_ (by omega) (by rw [Array.size_push]; omega))
    obtain ⟨f0, f1, _, f3, f4, f5⟩ := sk.fp H1 n2'
    refine wpAny_pure ⟨rfl, H1, ks ++ [kv], kA.push v, c2, I1.turned (t' := z1.toks) (fun b o hb e => (sb.2 b hb).trans e) f0 f1 f3 f4 f5, (sb.2 a ne.symm).trans g1', hc2, (sb.2 f nf.symm).trans g3', n1', n2', n3', by rw [Array.size_push, sz], ?_, pv1⟩
    have el : (kA.push v).toList = kA.toList ++ [v] := by simp
    rw [el]
    exact vals_snoc r rk
  · intro z ⟨H, ks, kA, e, I, g1, g2, g3, n1, n2, n3, sz, rk, pv⟩
    simp only [Nat.zero_add] at sz pv
    have el : xs.length = vs.length := rv.length
    rw [← el] at pv
    obtain ⟨zs, zne, dp⟩ := fin ks H pv
    try dsimp only
    refine wpAny_bind (listItems_at g2 rfl ?_)
    obtain ⟨as, rd⟩ := Dp.readsAll I _ _ _ dp rk
    obtain ⟨G, G1, G2⟩ := restrict z.heap fun b => decide (b ≠ kS)
    have kp : PySem.W.KeepsBut a G z.heap := fun b o hb e => by
      by_cases hk : b = kS
      · rw [hk, G2 kS (by simp)] at e
        cases e
      · rw [← G1 b (by simp [hk])]
        exact e
    refine PySem.W.keyH_end (κ := PySem.W.dataKind z.heap (zs.map tupD)) (h₁ := G) kp (G2 kS (by simp)) g2 g1 ne (PySem.W.SortsAt.data (each_reads rd) (fun d hd d' hd' => ?_) (.inl fun d hd => ?_) fun d hd => ?_) sz hZ fun h' tk c k3 g => q ks H z h' tk c _ pv I n1 n2 (fun b o h1 h2 e => k3 b o h1 (by rw [G1 b (by simp [h2])]; exact e)) g (sortVals_perm false (by rw [Array.length_toList, sz]))
    · obtain ⟨x, _, rfl⟩ := List.mem_map.mp hd
      obtain ⟨y, _, rfl⟩ := List.mem_map.mp hd'
      exact alike_tupD x y
    · obtain ⟨x, hx, rfl⟩ := List.mem_map.mp hd
      have hne := zne x hx
      cases x with
      | nil => exact absurd rfl hne
      | cons i r => exact ⟨.int i, r.map PyData.int, rfl⟩
    · obtain ⟨x, _, rfl⟩ := List.mem_map.mp hd
      have := depth_tupD x
      have := hr.units
      omega
end
/-- sorted(e, key=lambda p: ..): c', the lambda's code, stays known; Pv: what the keys drawn so far leave -/
def tSortL (K : PySem.W.Frag) (N : List Str) (T : List (Addr × Str)) (q p : Str) (N1 : List Str) (ta : TA) (tb : TE) : TE := fun σ H Q => ta σ H fun us H1 => LamX.Tabs T H1 ∧ ∀ H2 c', LamX.ExtN H1 H2 → LamX.Tabs T H2 → H2 c' = some (LamX.CodeO c' q) →
  ∃ (a : Addr) (xs : List V) (Pv : Nat → List V → Hp → Prop), us = [V.ref a] ∧ SqL K H2 a xs ∧ (∀ y ∈ xs, ∃ b, y = V.ref b) ∧ Pv 0 [] H2 ∧ (∀ i ks H, Pv i ks H → H c' = some (LamX.CodeO c' q)) ∧
    (∀ i ks y H, xs[i]? = some y → Pv i ks H → ∃ σ1, SlotsL N σ p N1 σ1 y ∧ tb σ1 H fun z H' => Pv (i + 1) (ks ++ [z]) H') ∧
    ∀ ks H, Pv xs.length ks H → (∃ zs : List (List Int), (∀ z ∈ zs, z ≠ []) ∧ DpAll K H ks (zs.map tupD)) ∧ ∀ ys d, ys.Perm xs → H d = none → Q (.ref d) (upd H d (.lst ys))
section
variable {X : Cx} {scope : Scope} {p : Str} {N1 : List Str} {params : Arguments} {body e : Expr} {ta : TA} {tb : TE} {k : Nat} {T : List (Addr × Str)} {c P : Addr} {p0 lpos kpos pos : Pos}
theorem pe_sortL (hg : Gl X "sorted") (hm : X.mg "sorted" = none) (ha : PA X [e] ta) (TB : LamX.TabB X.base X.mg c P) (hcode : X.env.code = .ref c) (hmT : (P, X.env.qual ++ "<lambda>") ∈ T) (hu : ∀ p ∈ T, p.1 = P → p.2 = X.env.qual ++ "<lambda>")
    (hr : Room (k + 3) X.A) (L : LamP X.env.scope scope p) (hdef : defaultsOf params X.env = ([], []))
    (hbind : ∀ (q : Str) (cl : List (Str × Addr)) (pm cv ctv u : Value), bindArgs (PySem.W.kla_fn "<lambda>" q params body scope cl pm cv ctv) ⟨[u], []⟩ = pure [(p, u)])
    (hbody : ∀ (A : Around) (f c' : Addr) (s : Shared) (H : Hp), Room k (A.deeper (LamX.lamEnv X scope s.heap.objs.size f c')) → PE (lamC X A s H scope f c' N1) body tb)
    (he : backTo pos (starEach [e] X.env) = (false, eval e X.env) :: backTo pos (starEach [] X.env) := by rfl) (hpl : (backTo pos (starEach [e] X.env)).any (·.1) = false := by rfl) :
    PE X (.Call (.Name "sorted" p0) [e] [⟨some "key", .Lambda params body scope lpos, kpos⟩] pos) (tSortL X.K X.N T (X.env.qual ++ "<lambda>") p N1 ta tb) := by
  refine ⟨fun pins s σ H Q I h => ?_⟩
  refine wpAny_Call_Name_kw (ld_blt I hg hm (show bootBuiltins "sorted" = some (.builtin "sorted") by rfl) ?_ (by decide) (by decide))
  refine PyProof.Rows.callWith_kw (thn (ha.run pos pins s σ H _ I h) fun us s1 ⟨xs0, H1, I1, r1, hT, h1⟩ => ?_) he hpl rfl rfl
  show wpAny _ _ (evalAll ((do let v ← eval (.Lambda params body scope lpos) X.env; standAt pos; pure v) :: [])) _ _ s1
  refine wpAny_evalAll_cons (wpAny_bind (LamX.lam_make2 I1 TB hcode hmT hu hT hdef (fun y hy z => (L.free y hy z).elim (fun k => I1.ok.has _ (.inl k)) (fun k => I1.ok.has _ (.inr k))) fun f c' pm ctv H2 s2 I2 eN T2 hf fn ff hco => ?_))
  refine wpAny_bind (wpAny_standAt (wpAny_pure (wpAny_evalAll_nil ?_)))
  obtain ⟨a, xs, Pv, rfl, hs, href, pv0, hcd, step, fin⟩ := h1 H2 c' eN T2 hco
  rw [Vals.ref1 r1]
  obtain ⟨its, rv, hl, hz⟩ := I2.list hs
  obtain ⟨eb, rb⟩ := refs_back rv href
  have hZ : its.length ≤ sizeLine := by rw [← rv.length]; exact hz
  show wpAny _ _ (call (.builtin "sorted") [.ref a] [(Str.ofString "key", .ref f)]) _ _ s2
  refine call_function_entry_kw kind_sorted plain_sorted entry_sorted (ksk_s1 _ _) ?_
  unfold Builtin.«sorted»
  refine wpAny_bind (m := checkCount "sorted" 1 1 _) (wpAny_pure ?_)
  refine wpAny_bind (collect_list hl.isList ?_ hZ)
  refine wpAny_bind (wpAny_newList ?_ hZ)
  have z1 : ((s2.heap.push (seqObj "list" #[] 0)).update s2.heap.objs.size (Obj.mapSeq (· ++ its.toArray))).objs.size = s2.heap.objs.size + 1 := by rw [Heap.size_update, size_push']
  generalize hG : (s2.heap.push (seqObj "list" #[] 0)).update s2.heap.objs.size (Obj.mapSeq (· ++ its.toArray)) = G at z1 ⊢
  have kG : ∀ b o, s2.heap.get? b = some o → G.get? b = some o := fun b o w => by
    rw [← hG, Heap.get?_update_ne _ _ _ _ (Nat.ne_of_lt (Heap.lt_size w))]
    exact Heap.get?_push_of_some _ w
  show wpAny _ _ _ _ _ { s2 with heap := G.push (seqObj "list" its.toArray 0) }
  have hoL : (G.push (seqObj "list" its.toArray 0)).get? (s2.heap.objs.size + 1) = some (seqObj "list" its.toArray 0) := by
    rw [← z1]
    exact Heap.get?_push_size _ rfl
  have hne : G.objs.size = s2.heap.objs.size + 1 := z1
  rw [hne]
  refine wpAny_bind (wpAny_holding (wpAny_call_entry_kw slot_list_sort ⟨_, hoL, rfl⟩ entry_list_sort ?_ (ksk_l1 _ _)))
  rw [ksk_t1]
  unfold ksk_tree
  obtain ⟨e1, ho1⟩ : ∃ e1, ((G.push (seqObj "list" its.toArray 0)).update (s2.heap.objs.size + 1) (Obj.mapSeq fun _ => (#[] : Array Value))).get? (s2.heap.objs.size + 1) = some (seqObj "list" #[] e1) := ⟨_, get?_update_seq hoL fun _ => #[]⟩
  have z2 : ((G.push (seqObj "list" its.toArray 0)).update (s2.heap.objs.size + 1) (Obj.mapSeq fun _ => (#[] : Array Value))).objs.size = s2.heap.objs.size + 2 := by rw [Heap.size_update, size_push', hne]
  have kL : ∀ b o, s2.heap.get? b = some o → ((G.push (seqObj "list" its.toArray 0)).update (s2.heap.objs.size + 1) (Obj.mapSeq fun _ => (#[] : Array Value))).get? b = some o := fun b o w => by
    rw [Heap.get?_update_ne _ _ _ _ (Nat.ne_of_lt (Nat.lt_succ_of_lt (Heap.lt_size w)))]
    exact Heap.get?_push_of_some _ (kG b o w)
  refine wpAny_bind (listItems_at hoL rfl ?_)
  refine wpAny_bind (listUpdate_at hoL rfl ?_ (by rw [List.size_toArray]; exact hZ) (Nat.zero_le _))
  generalize (G.push (seqObj "list" its.toArray 0)).update (s2.heap.objs.size + 1) (Obj.mapSeq fun _ => (#[] : Array Value)) = L1 at ho1 z2 kL ⊢
  refine wpAny_bind (seqEpoch_at ho1 rfl ?_)
  refine wpAny_bind (wpAny_newTuple ?_ (by show its.length ≤ _; exact hZ))
  refine wpAny_bind (wpAny_newList ?_ (Nat.zero_le _))
  refine wpAny_holding ?_
  have z3 : (L1.push { cls := .type "tuple", data := .seq its.toArray.toList.toArray }).objs.size = s2.heap.objs.size + 3 := by rw [Heap.size_push, z2]
  show wpAny _ _ (ksk_rest (s2.heap.objs.size + 1) (.ref f) false its.toArray e1 (.ref (L1.push { cls := .type "tuple", data := .seq its.toArray.toList.toArray }).objs.size)) _ _ { s2 with heap := (L1.push { cls := .type "tuple", data := .seq its.toArray.toList.toArray }).push { cls := .type "list", data := .seq #[] } }
  rw [z3]
  have l0 : s2.heap.objs.size ≤ s2.heap.objs.size + 1 := Nat.le_succ _
  have l3 : s2.heap.objs.size ≤ s2.heap.objs.size + 3 := Nat.le_add_right _ _
  have at3 : ((L1.push { cls := .type "tuple", data := .seq its.toArray.toList.toArray }).push { cls := .type "list", data := .seq #[] }).get? (s2.heap.objs.size + 3) = some (seqObj "list" #[] 0) := by
    rw [← z3]
    exact Heap.get?_push_size _ rfl
  have kA : ∀ b o, L1.get? b = some o → ((L1.push { cls := .type "tuple", data := .seq its.toArray.toList.toArray }).push { cls := .type "list", data := .seq #[] }).get? b = some o := fun b o w => Heap.get?_push_of_some _ (Heap.get?_push_of_some _ w)
  have I3 : Inv X pins σ H2 { s2 with heap := (L1.push { cls := .type "tuple", data := .seq its.toArray.toList.toArray }).push { cls := .type "list", data := .seq #[] } } := I2.kept (t' := s2.toks) fun b o w => kA b o (kL b o w)
  have lf : f < s2.heap.objs.size := Heap.lt_size hf
  refine sort_rest (kS := s2.heap.objs.size + 3) (f := f) (c' := c') (params := params) (body := body) (pm := pm) (ctv := ctv) (tb := tb) (N1 := N1) (Pv := Pv) (k := k) (σ := σ) (pins := pins) (xs := xs) L (fun u => hbind _ _ _ _ _ u) (hr.in1.in1) (by first | exact I2.env0.in1.in1.frames | exact I2.ok.frames) (fun s H h => hbody _ f c' s H h) (spot_of I2 l0) (spot_of I2 l3) ff
    (by intro w; exact absurd (Nat.add_left_cancel w) (by decide)) (Nat.ne_of_gt (Nat.lt_of_lt_of_le lf l3)) rv hZ hcd step (fun ks H w => (fin ks H w).1)
    ⟨H2, [], #[], 0, I3, kA _ _ ho1, at3, kA _ _ (kL _ _ hf), I2.hok.fresh l0, I2.hok.fresh l3, fn, rfl, .nil, pv0⟩ fun ks H s3 h' tk c out pv J na nk kp ga pm => ⟨_, rfl, wpAny_pure ⟨_, rfl, ?_⟩⟩
  have J1 : Inv X pins σ H { s3 with heap := h', toks := tk } := J.turnedL (ch := [s2.heap.objs.size + 1, s2.heap.objs.size + 3]) (fun b o hb w => kp b o (fun z => hb (by simp [z])) (fun z => hb (by simp [z])) w) fun b hb => by
    rcases List.mem_cons.mp hb with rfl | hb
    · exact (spot_of I2 l0).fp H na
    · obtain rfl := List.mem_singleton.mp hb
      exact (spot_of I2 l3).fp H nk
  have ro : ∀ u ∈ out, ∃ a, u = Value.ref a := fun u hu => rb u (pm.mem_iff.mp hu)
  have py : (out.map backV).Perm xs := by
    rw [eb]
    exact pm.map _
  have J2 : Inv X pins σ (upd H (s2.heap.objs.size + 1) (.lst (out.map backV))) { s3 with heap := h', toks := tk } :=
    J1.take (t' := tk) (fun b o _ w => w) ((spot_of I2 l0).fp H na) ⟨by rw [py.length_eq, rv.length]; exact hZ, out, c, vals_back ro, ga⟩
  exact ⟨.ref (s2.heap.objs.size + 1), _, J2, rfl, (fin ks H pv).2 _ _ py na⟩
end
end K19
namespace K19
open PySem L2
open PyProof.Rows (envOfC)
/-! an attribute as a target within a tuple; one hold >= the next; zip of tuples, the second shorter -/
open PySem.Spec PyProof.Rows
def gFld (K : PySem.W.Frag) (ta : TE) (f : Str) : TG := fun v σ H Q => ta σ H fun x H1 => ∃ a C dx fs, x = .ref a ∧ H1 a = some (.ins C dx fs) ∧ Cls K C ∧ NoAttr K C f ∧ fs.length < 1000 ∧ Q σ (upd H1 a (.ins C dx (putF f v fs)))
theorem pg_fld {X : Cx} {o : Expr} {ta : TE} {f : Str} {pos : Pos} (ho : PE X o ta)
    (hq : ∀ v, assign (.Attribute o f pos) X.env v = (do
      let ov ← holding [v] (eval o X.env)
      standAt pos.atName
      holding [v, ov] (setAttr ov f v)
      release [v, ov] []) := by intro _; rfl) : PG X (.Attribute o f pos) (gFld X.K ta f) := by
  refine ⟨fun pins s σ H v u Q I r h => ?_⟩
  rw [hq]
  refine wpAny_bind (wpAny_holding (thn (ho.run pins s σ H _ I h) fun ov s1 ⟨x, H1, I1, r1, a, C, dx, fs, e, ea, c, n, l, q⟩ => ?_))
  subst e
  obtain rfl : ov = Value.ref a := r1
  refine wpAny_bind (wpAny_standAt (wpAny_bind (wpAny_holding (setattr_ok I1 ea c n l r fun s3 I3 => ?_))))
  exact wpAny_release ⟨σ, _, I3, q⟩
/-- one >= other, two holds, the first before the other -/
def rGeH (K : PySem.W.Frag) : R2 := fun x y H Q => ∃ (a b : Hold), HoldAt H x a ∧ HoldAt H y b ∧ HoldLt a b ∧ 1 ≤ a.long ∧ Q (.bl false) H
theorem str_ge {A : Around} {s : Shared} (a b : Str) (t u : Tok) : Ob.RcOp .GtE A s (.str a t) (.str b u) (!decide (a.cps.toList < b.cps.toList)) := by
  intro prog w E Q h
  exact PySem.P.ge_str (by simpa using h)
theorem op_geH {X : Cx} (hu : X.A.units < cLine) : OpR X (compareOp .GtE) (rGeH X.K) := by
  intro pins s σ H x y v u Q I rx ry h
  obtain ⟨a, b, ⟨ta, rfl, ha⟩, ⟨tb, rfl, hb⟩, lt, la, q⟩ := h
  cases rx
  cases ry
  obtain ⟨its, r1, p1, _⟩ := I.tuple (SqT.of ha)
  obtain ⟨its2, r2, p2, _⟩ := I.tuple (SqT.of hb)
  obtain ⟨u1, u2, u3, rfl, ⟨t1, rfl⟩, ⟨t2, rfl⟩, ⟨t3, rfl⟩⟩ : ∃ u1 u2 u3, its = [u1, u2, u3] ∧ RelV (.str a.tool) u1 ∧ RelV (.int a.begin_) u2 ∧ RelV (.int a.long) u3 := by
    cases r1 with
    | cons p q =>
      cases q with
      | cons p' q' =>
        cases q' with
        | cons p'' q'' =>
          cases q''
          exact ⟨_, _, _, rfl, p, p', p''⟩
  obtain ⟨w1, w2, w3, rfl, ⟨z1, rfl⟩, ⟨z2, rfl⟩, ⟨z3, rfl⟩⟩ : ∃ u1 u2 u3, its2 = [u1, u2, u3] ∧ RelV (.str b.tool) u1 ∧ RelV (.int b.begin_) u2 ∧ RelV (.int b.long) u3 := by
    cases r2 with
    | cons p q =>
      cases q with
      | cons p' q' =>
        cases q' with
        | cons p'' q'' =>
          cases q''
          exact ⟨_, _, _, rfl, p, p', p''⟩
  have R := Ob.RcOp.tuples_ge (A := X.A) (s := s) (e := fun j => if j = 0 then a.tool == b.tool else if j = 1 then a.begin_ == b.begin_ else a.long == b.long)
    (r := fun j => if j = 0 then !decide (a.tool.cps.toList < b.tool.cps.toList) else if j = 1 then decide (b.begin_ ≤ a.begin_) else decide (b.long ≤ a.long)) p1 p2 hu (fun j h1 h2 => by
    have h3 : j < 3 := h1
    match j, h3 with
    | 0, _ => exact SeqAt.EqAt.str_str _ _ _ _
    | 1, _ => exact SeqAt.EqAt.int_int _ _ _ _
    | 2, _ => exact SeqAt.EqAt.int_int _ _ _ _) (fun j h1 h2 _ => by
    have h3 : j < 3 := h1
    match j, h3 with
    | 0, _ => exact str_ge _ _ _ _
    | 1, _ => exact Ob.RcOp.ge_int _ _ _ _
    | 2, _ => exact Ob.RcOp.ge_int _ _ _ _)
  have e : Ob.lexAt (fun j => if j = 0 then a.tool == b.tool else if j = 1 then a.begin_ == b.begin_ else a.long == b.long)
    (fun j => if j = 0 then !decide (a.tool.cps.toList < b.tool.cps.toList) else if j = 1 then decide (b.begin_ ≤ a.begin_) else decide (b.long ≤ a.long)) (decide ((3 : Nat) ≥ 3)) 0 3 = false := by
    rw [Ob.lexAt_succ]
    rcases lt with l | ⟨l1, l2⟩
    · have ne : a.tool ≠ b.tool := fun z => by
        rw [z] at l
        exact absurd l (List.lt_irrefl _)
      rw [if_neg (by simp [ne])]
      simp [l]
    · rw [if_pos (by simp [l1]), Ob.lexAt_succ, if_neg (by simp; omega)]
      simp
      omega
  have R1 : Ob.RcOp .GtE X.A s (.ref ta) (.ref tb) false := by
    rw [← e]
    exact R
  exact R1 X.prog X.w X.xe (EP X pins σ Q) ⟨.bl false, H, I, rfl, q⟩
section
variable {K : PySem.W.Frag} {a b : Addr} {xs ys : List V}
theorem walk_zipT {n : Nat} (hn : n = min xs.length ys.length) : Walk (RZ.ItzT K a b) n (fun H => SqT K H a xs ∧ SqT K H b ys) (YPair (fun i => xs[i]?) (fun i => ys[i]?)) := by
  subst hn
  refine ⟨fun i _ hi q => ?_, fun _ q => ⟨xs, ys, q.1, q.2, by omega⟩, fun i H v H' _ q y => ?_⟩
  · exact ⟨xs, ys, xs[i]'(by omega), ys[i]'(by omega), q.1, q.2, List.getElem?_eq_getElem _, List.getElem?_eq_getElem _⟩
  · obtain ⟨T, x, z, h1, h2, h3, h4, h5⟩ := y
    exact ⟨T, x, z, h1, h2, h3, h4 xs q.1, h5 ys q.2⟩
end
section
variable {K : PySem.W.Frag} {σ : L2.St} {H : Hp} {Q : VK} {a : Addr} {xs : List V} {lo hi : Option Int}
theorem i_zip {ta : TA} {R : It → Hp → Prop} (q : ta σ H fun vs H1 => ∃ a b xs ys, vs = [.ref a, .ref b] ∧ ((SqL K H1 a xs ∧ SqL K H1 b ys ∧ R (Itz K a b) H1) ∨ (SqT K H1 a xs ∧ SqT K H1 b ys ∧ R (RZ.ItzT K a b) H1))) : RZ.iZipA K ta σ H R := q
theorem i_slA (h : SqT K H a xs) (q : ∀ p H', Same H H' → SqT K H' p (cutV xs lo hi) → Q (.ref p) H') : rSlA K (.ref a) lo hi H Q := by
  refine ⟨a, xs, rfl, h, fun ⟨e1, e2⟩ => q a H (Same.refl H) ?_, fun _ p hp => q p _ (same_of_upd hp) (SqT.of upd_same)⟩
  have e : cutV xs lo hi = xs := by
    unfold cutV
    rw [e1, e2]
    simp
  rw [e]
  exact h
theorem cut_tail (xs : List V) : cutV xs (some 1) none = xs.drop 1 := by
  unfold cutV
  cases xs with
  | nil => simp
  | cons x r => simp [HT.sIx]
end
end K19
namespace K19
open PySem L2
open PyProof.Rows (envOfC)
/-! tuple(list) whose object is known to have no dict of its own; a method of such a tuple -/
open PySem.Spec PyProof.Rows
def kTupF (K : PySem.W.Frag) (x : V) (H : Hp) (Q : VK) : Prop := ∃ p xs, x = .ref p ∧ SqL K H p xs ∧ ∀ q ob, H q = none → ob.cls = .type "tuple" → ob.dict = none → Q (.ref q) (upd H q (.frz ob (.tup xs)))
def FzT (H : Hp) (t : Addr) (xs : List V) : Prop := ∃ ob, H t = some (.frz ob (.tup xs)) ∧ ob.cls = .type "tuple" ∧ ob.dict = none
theorem FzT.sq {K : PySem.W.Frag} {H : Hp} {t : Addr} {xs : List V} (f : FzT H t xs) : SqT K H t xs := by
  obtain ⟨ob, e, _⟩ := f
  exact .inl (.inr ⟨ob, e⟩)
theorem FzT.nl {H H' : Hp} (n : NL H H') {t : Addr} {xs : List V} (f : FzT H t xs) : FzT H' t xs := by
  obtain ⟨ob, e, r⟩ := f
  exact ⟨ob, n _ _ rfl e, r⟩
section
variable {X : Cx} {a : Expr} {ta : TE}
theorem pe_tupleF {p pos : Pos} (hg : Gl X "tuple") (hm : X.mg "tuple" = none) (ha : PE X a ta) (na : starEach [a] X.env = (false, eval a X.env) :: starEach [] X.env := by rfl) : PE X (.Call (.Name "tuple" p) [a] [] pos) (tThen ta (kTupF X.K)) := by
  refine ⟨fun pins s σ H Q I h => ?_⟩
  refine Call_ (ld_blt I hg hm boot_tuple (PyProof.Rows.callWith_type1 (one_arg ha I h (fun v s2 x H2 I2 r q => ?_) na) na))
  obtain ⟨l, xs, rfl, hs, k⟩ := q
  obtain rfl : v = .ref l := r
  obtain ⟨its, rv, pl, hz⟩ := I2.list hs
  refine call_tuple_list pl.isList (fun h' hk => ?_) (by rw [List.size_toArray, ← rv.length]; exact hz)
  have J : Inv X pins σ H2 { s2 with heap := h' } := I2.kept (t' := s2.toks) hk
  have J2 : Inv X pins σ (upd H2 h'.objs.size (.frz { cls := .type "tuple", data := .seq its.toArray } (.tup xs))) { s2 with heap := h'.push { cls := .type "tuple", data := .seq its.toArray } } :=
    J.laid (t' := s2.toks) (fun b o e => Heap.get?_push_of_some _ e) (Nat.le_refl _) ⟨Heap.get?_push_size _ rfl, hz, its, rv, IsTup.new _ _⟩
  exact ⟨.ref h'.objs.size, _, J2, rfl, k _ _ (J.hok.fresh (Nat.le_refl _)) rfl rfl⟩
variable {o e : Expr} {es : List Expr} {to : TE} {t : TA} {name : Str} {apos cpos : Pos} {id : String} {r : V → List V → Hp → VK → Prop}
def tBMF (r : V → List V → Hp → VK → Prop) (to : TE) (t : TA) : TE := fun σ H Q => to σ H fun x H1 => (∃ a xs, x = .ref a ∧ FzT H1 a xs) ∧ t σ H1 fun us H2 => r x us H2 Q
theorem pe_bmF (slot : Slot "tuple" name id) (hty : typeOf (.builtin id) = pure (.type "method_descriptor")) (hm : MtR X id r) (ho : PE X o to) (ha : PA X (e :: es) t) (hbase : attributeBase o name X.env (eval o X.env) = eval o X.env := by rfl)
    (hfew : ((backTo cpos (starEach (e :: es) X.env)).all (fun x => !x.1) && (backToKw cpos (keywordEach [] X.env)).all (fun x => x.1.isSome) && decide ((e :: es).length + ([] : List Keyword).length + (if ([] : List Keyword).isEmpty then 0 else 1) < 30)) = true := by rfl)
    (hline : (apos.endLine == cpos.line) = true := by rfl) (hs : starEach (e :: es) X.env = (false, eval e X.env) :: starEach es X.env := by rfl) (hplain : (backTo cpos (starEach es X.env)).any (·.1) = false := by rfl) :
    PE X (.Call (.Attribute o name apos) (e :: es) [] cpos) (tBMF r to t) := by
  refine ⟨fun pins s σ H Q I h => ?_⟩
  refine wpAny_Call_method_late hbase hfew hline rfl (thn (ho.run pins s σ H _ I h) fun v s1 ⟨x, H1, I1, r1, ⟨a, xs, ex, ob, ea, hc, hd⟩, q1⟩ => ?_)
  subst ex
  obtain rfl : v = .ref a := r1
  have at_ : s1.heap.get? a = some ob := (I1.hok a _ ea).1
  refine ⟨"tuple", id, PySem.F.plainAttrs_tuple, slot, hty, ⟨ob, at_, hc⟩, fun b eb => ?_, ?_⟩
  · cases eb
    exact ⟨ob, at_, hd⟩
  have hA := ha.run cpos pins s1 σ H1 _ I1 q1
  rw [hs] at hA ⊢
  refine Calls.callWith_builtin (by show (false || (backTo cpos (starEach es X.env)).any (·.1)) = false; rw [hplain] <;> rfl) (Calls.evalArgs_plain ?_)
  exact thn hA fun us s2 ⟨vs, H2, I2, r2, q2⟩ => hm pins s2 σ H2 (.ref a) vs (.ref a) us Q I2 rfl r2 q2
end
section
variable {K : PySem.W.Frag} {σ : L2.St} {H : Hp} {Q : VK}
theorem i_kTupF {p : Addr} {xs : List V} (h : SqL K H p xs) (q : ∀ q H', Same H H' → FzT H' q xs → Q (.ref q) H') : kTupF K (.ref p) H Q := ⟨p, xs, rfl, h, fun a ob ha hc hd => q a _ (same_of_upd ha) ⟨ob, upd_same, hc, hd⟩⟩
theorem i_bmF {to : TE} {t : TA} {r : V → List V → Hp → VK → Prop} (q : to σ H fun x H1 => (∃ a xs, x = .ref a ∧ FzT H1 a xs) ∧ t σ H1 fun us H2 => r x us H2 Q) : tBMF r to t σ H Q := q
end
end K19
namespace K19
open PySem L2
open PyProof.Rows (envOfC)
section
variable {P : Program} {w : World} {K : PySem.W.Frag} {mg : Str → Option Value} {base : Heap}
def spWhole : Sp := fun vs H Q _ => ∃ i, vs = [.int i] ∧ Q (.bl true) H
theorem ok_pIsWhole (F : Fx K mg "is_whole" s_pIsWhole a_pIsWhole) (T : Txt K mg) : Cal P w K mg base 1 "is_whole" a_pIsWhole spWhole := by
  refine cal_of F sc_pIsWhole (fun vs H Q E h => ?_) (fun f cdv A outer s H vs Q E hr h => ?_)
  · obtain ⟨i, rfl, _⟩ := h
    rfl
  · obtain ⟨i, rfl, k⟩ := h
    refine ⟨_, (pss_one (ps_ret (pe_and (pe_callB call_isi (by rfl) T.isinstance (by decide +kernel) (pa_cons (pv 0) (pa_cons (pe_bltn (v := .ty "int") (by rfl) T.int (by decide +kernel) rfl) pa_nil))) (pe_one (pe_not (pe_callB call_isi (by rfl) T.isinstance (by decide +kernel) (pa_cons (pv 0) (pa_cons (pe_bltn (v := .ty "bool") (by rfl) T.bool (by decide +kernel) rfl) pa_nil)))))))), ?_⟩
    try dsimp only [cxOf]
    refine at_ [some (.int i)] rfl ?_
    walk_at "go"
    exact k
def spWithin : Sp := fun vs H Q _ => ∃ i lo hi, vs = [.int i, .int lo, .int hi] ∧ lo ≤ i ∧ i ≤ hi ∧ Q (.bl true) H
theorem ok_pIsWithin (F : Fx K mg "is_within" s_pIsWithin a_pIsWithin) (T : Txt K mg) (C_pIsWhole : Cal P w K mg base 1 "is_whole" a_pIsWhole spWhole) : Cal P w K mg base 2 "is_within" a_pIsWithin spWithin := by
  refine cal_of F sc_pIsWithin (fun vs H Q E h => ?_) (fun f cdv A outer s H vs Q E hr h => ?_)
  · obtain ⟨i, lo, hi, rfl, _⟩ := h
    rfl
  · obtain ⟨i, lo, hi, rfl, h1, h2, k⟩ := h
    refine ⟨_, (pss_one (ps_ret (pe_and (pe_cal C_pIsWhole (hr.mono (by decide)) (pa_cons (pv 0) pa_nil)) (pe_one (pe_chain op_le op_le (pv 1) (pv 0) (pv 2)))))), ?_⟩
    try dsimp only [cxOf]
    refine at_ [some (.int i), some (.int lo), some (.int hi)] rfl ?_
    walk_at "go"
    refine ⟨i, rfl, _, rfl, ?_⟩
    walk_at "go"
    refine i_decT h1 ?_
    walk_at "go"
    rw [decide_eq_true h2]
    exact k
def spIsName : Sp := fun vs H Q _ => ∃ x, vs = [.str x] ∧ IsName x ∧ ∀ H', Same H H' → Q (.bl true) H'
theorem ok_pIsName (F : Fx K mg "is_name" s_pIsName a_pIsName) (T : Txt K mg) : Cal P w K mg base 1 "is_name" a_pIsName spIsName := by
  refine cal_of F sc_pIsName (fun vs H Q E h => ?_) (fun f cdv A outer s H vs Q E hr h => ?_)
  · obtain ⟨x, rfl, _⟩ := h
    rfl
  · obtain ⟨x, rfl, ⟨x1, x2, x3⟩, k⟩ := h
    refine ⟨_, (pss_cons (ps_if (PW.pt (pw_or (pt_not (pt_val (pe_callB call_isi (by rfl) T.isinstance (by decide +kernel) (pa_cons (pv 0) (pa_cons (pe_bltn (v := .ty "str") (by rfl) T.str (by decide +kernel) rfl) pa_nil))))) (pw_or1 (pt_not (pt_chain op_le op_le pe_int (pe_callB call_len_str (by rfl) T.len (by decide +kernel) (pa_cons (pv 0) pa_nil)) (pe_glob (v := .int 8) rfl T.mostLetters.choose_spec ⟨_, rfl⟩))))))
  (pss_one (ps_ret pe_bl))
  pss_nil)
  (pss_one (ps_ret (pe_callB (cr_all rfl) (by rfl) T.all (by decide +kernel) (pa_cons (pe_lc (own := [("sign", 1)]) (tt := tYes) (te := _) rfl sc_pIsName.nd (pi_str (pv 0)) (blkOk_by (N := n_pIsName) (sc := defScope s_pIsName) (by decide +kernel)) (fun _ _ _ _ _ => (pg_name (i := 1) sc_pIsName.nd rfl (Or.inl rfl))) (fun _ _ _ _ _ => pts_nil) (fun _ _ _ _ _ => (pe_cmpR op_in_sign (pv 1) (pe_glob (v := .str "abcdefghijklmnopqrstuvwxyz") rfl T.letters.choose_spec ⟨_, rfl⟩) rfl))) pa_nil))))), ?_⟩
    try dsimp only [cxOf]
    refine at_ [some (.str x), none] rfl ?_
    walk_at "go"
    refine ⟨x, rfl, by rw [PySem.sizeLine_eq]; omega, ?_⟩
    walk_at "go"
    refine i_decT (by omega) ?_
    walk_at "go"
    refine i_nDecT (by omega) ?_
    walk_at "go"
    intro D hD
    refine lcx_s hD (by rw [PySem.sizeLine_eq]; omega) [some (.str x), none] rfl (fun _ => some (.bl true)) (fun y H1 R hy s1 q => ?_) fun H1 s1 e => ?_
    · obtain ⟨c, hc, rfl⟩ := List.mem_map.mp hy
      walk_at "go"
      refine ⟨rfl, ?_⟩
      walk_at "go"
      refine ⟨c, _, rfl, rfl, ?_⟩
      rw [decide_eq_true (mem_letters (x3 c hc))]
      exact q H1 (Same.refl H1)
    · walk_at "go"
      exact i_allT e (k _ s1)
def spIsHold : Sp := fun vs H Q _ => ∃ v c h, vs = [v, .int c] ∧ HoldAt H v h ∧ IsName h.tool ∧ 0 ≤ h.begin_ ∧ 1 ≤ h.long ∧ h.begin_ + h.long ≤ c ∧ ∀ H', Same H H' → Q (.bl true) H'
theorem ok_pIsHold (F : Fx K mg "is_hold" s_pIsHold a_pIsHold) (T : Txt K mg) (C_pIsName : Cal P w K mg base 1 "is_name" a_pIsName spIsName) (C_pIsWithin : Cal P w K mg base 2 "is_within" a_pIsWithin spWithin) : Cal P w K mg base 3 "is_hold" a_pIsHold spIsHold := by
  refine cal_of F sc_pIsHold (fun vs H Q E h => ?_) (fun f cdv A outer s H vs Q E hr h => ?_)
  · obtain ⟨v, c, h, rfl, _⟩ := h
    rfl
  · obtain ⟨v, c, h, rfl, ⟨t, rfl, ht⟩, h1, h2, h3, h4, k⟩ := h
    refine ⟨_, (pss_cons (ps_if (PW.pt (pw_or (pt_not (pt_val (pe_callB call_isi (by rfl) T.isinstance (by decide +kernel) (pa_cons (pv 0) (pa_cons (pe_bltn (v := .ty "tuple") (by rfl) T.tuple (by decide +kernel) rfl) pa_nil))))) (pw_or1 (pt_cmpR op_ne (pe_callB call_len_seq (by rfl) T.len (by decide +kernel) (pa_cons (pv 0) pa_nil)) pe_int (nomark _)))))
  (pss_one (ps_ret pe_bl))
  pss_nil)
  (pss_cons (ps_asg (pv 0) (pg_tup rfl (pgs_cons (pg_name (i := 2) sc_pIsHold.nd rfl (Or.inl rfl)) (pgs_cons (pg_name (i := 3) sc_pIsHold.nd rfl (Or.inl rfl)) (pgs_cons (pg_name (i := 4) sc_pIsHold.nd rfl (Or.inl rfl)) pgs_nil)))))
  (pss_one (ps_ret (pe_and (pe_cal C_pIsName (hr.mono (by decide)) (pa_cons (pv 2) pa_nil)) (pe_and (pe_cal C_pIsWithin (hr.mono (by decide)) (pa_cons (pv 3) (pa_cons pe_int (pa_cons (pv 1) pa_nil)))) (pe_and (pe_cal C_pIsWithin (hr.mono (by decide)) (pa_cons (pv 4) (pa_cons pe_int (pa_cons (pv 1) pa_nil)))) (pe_one (pe_cmpR op_le (pe_op op_add (pv 3) (pv 4)) (pv 1) (nomark _)))))))))), ?_⟩
    try dsimp only [cxOf]
    refine at_ [some (.ref t), some (.int c), none, none, none] rfl ?_
    walk_at "go"
    refine i_nDecT rfl ?_
    walk_at "go"
    refine ⟨h.tool, rfl, h1, fun H1 s1 => ⟨true, rfl, ?_⟩⟩
    walk_at "go"
    refine ⟨_, _, _, rfl, h2, by omega, true, rfl, ?_⟩
    walk_at "go"
    refine ⟨_, _, _, rfl, h3, by omega, true, rfl, ?_⟩
    walk_at "go"
    rw [decide_eq_true h4]
    exact k _ s1
def spAreHolds : Sp := fun vs H Q _ => ∃ g c hs, vs = [.ref g, .int c] ∧ HoldsAt H g hs ∧ HoldsOk hs c ∧ ∀ H', Same H H' → Q (.bl true) H'
theorem ok_pAreHolds (F : Fx K mg "are_holds" s_pAreHolds a_pAreHolds) (T : Txt K mg) (C_pIsHold : Cal P w K mg base 3 "is_hold" a_pIsHold spIsHold) : Cal P w K mg base 4 "are_holds" a_pAreHolds spAreHolds := by
  refine cal_of F sc_pAreHolds (fun vs H Q E h => ?_) (fun f cdv A outer s H vs Q E hr h => ?_)
  · obtain ⟨g, c, hs, rfl, _⟩ := h
    rfl
  · obtain ⟨g, c, hs, rfl, ⟨ps, hg, al⟩, ok, k⟩ := h
    have hu := hr.units0
    refine ⟨_, (pss_cons (ps_if (PW.pt (pw_or (pt_not (pt_val (pe_callB call_isi (by rfl) T.isinstance (by decide +kernel) (pa_cons (pv 0) (pa_cons (pe_bltn (v := .ty "tuple") (by rfl) T.tuple (by decide +kernel) rfl) pa_nil))))) (pw_or (pt_cmpR op_gt (pe_callB call_len_seq (by rfl) T.len (by decide +kernel) (pa_cons (pv 0) pa_nil)) (pe_glob (v := .int 4) rfl T.mostHolds.choose_spec ⟨_, rfl⟩) (nomark _)) (pw_or1 (pt_not (pt_val (pe_callB (cr_all rfl) (by rfl) T.all (by decide +kernel) (pa_cons (pe_lc (own := [("one", 2)]) (tt := tYes) (te := _) rfl sc_pAreHolds.nd (pi_tup (pv 0)) (blkOk_by (N := n_pAreHolds) (sc := defScope s_pAreHolds) (by decide +kernel)) (fun _ _ _ _ _ => (pg_name (i := 2) sc_pAreHolds.nd rfl (Or.inl rfl))) (fun _ _ _ _ _ => pts_nil) (fun _ _ _ _ _ => (pe_cal C_pIsHold (hr.mono (by decide)) (pa_cons (pv 2) (pa_cons (pv 1) pa_nil))))) pa_nil))))))))
  (pss_one (ps_ret pe_bl))
  pss_nil)
  (pss_cons (ps_for PassesOwn.never rfl (RZ.pi_zipA rfl T.zip (pa_cons (pv 0) (pa_cons (pe_slice sl_tupA (pv 0) (po_some pe_int) po_none) pa_nil))) (pg_tup rfl (pgs_cons (pg_name (i := 2) sc_pAreHolds.nd rfl (Or.inl rfl)) (pgs_cons (pg_name (i := 3) sc_pAreHolds.nd rfl (Or.inl rfl)) pgs_nil)))
  (pss_one (ps_if (PW.pt (pw_or (pt_cmpR (op_geH hu) (pv 2) (pv 3) (nomark _)) (pw_or1 (PW.pt (pw_and (pt_cmpR op_eq (pe_ix ix_tup (pv 2) pe_int (fun _ _ => rfl)) (pe_ix ix_tup (pv 3) pe_int (fun _ _ => rfl)) (nomark _)) (pw_and1 (pt_cmpR op_gt (pe_op op_add (pe_ix ix_tup (pv 2) pe_int (fun _ _ => rfl)) (pe_ix ix_tup (pv 2) pe_int (fun _ _ => rfl))) (pe_ix ix_tup (pv 3) pe_int (fun _ _ => rfl)) (nomark _))))))))
  (pss_one (ps_ret pe_bl))
  pss_nil)))
  (pss_one (ps_ret pe_bl)))), ?_⟩
    try dsimp only [cxOf]
    refine at_ [some (.ref g), some (.int c), none, none] rfl ?_
    walk_at "go"
    have len : ps.length = hs.length := al.1
    have few := ok.few
    refine i_decF (by omega) ?_
    walk_at "go"
    refine ⟨⟨_, SqT.of hg⟩, fun D hD => lcx_t (SqT.of hg) hD (by rw [PySem.sizeLine_eq]; omega) [some (.ref g), some (.int c), none, none] rfl (fun _ => some (.bl true)) (fun y H1 R hy s1 q => ?_) fun H1 s1 e => ?_⟩
    · obtain ⟨h, hm, r⟩ := al.left hy
      obtain ⟨h1, h2, h3, h4⟩ := ok.each h hm
      walk_at "go"
      refine ⟨rfl, ?_⟩
      walk_at "go"
      exact ⟨y, c, h, rfl, r.nl (same_nl s1), h1, h2, h3, h4, q⟩
    · walk_at "go"
      refine i_allT e ?_
      walk_at "go"
      have hg1 := s1 _ _ hg
      have al1 : All2 (HoldAt H1) ps hs := al.mono fun _ _ _ _ => HoldAt.nl (same_nl s1)
      refine i_zip ?_
      walk_at "go"
      refine i_slA (SqT.of hg1) fun q H2 s2 hq => ?_
      rw [cut_tail] at hq
      walk_at "go"
      have s12 := s1.trans s2
      refine ⟨g, q, ps, ps.drop 1, rfl, .inr ⟨same_tup s2 (SqT.of hg1), hq, ?_⟩⟩
      have al2 : All2 (HoldAt H2) ps hs := al1.mono fun _ _ _ _ => HoldAt.nl (same_nl s2)
      refine for_itD (walk_zipT rfl) (fun i σ H3 => ∃ x y, σ = [some (.ref g), some (.int c), x, y] ∧ Same H2 H3) ⟨none, none, rfl, Same.refl H2⟩ (fun i σ H3 _ ⟨_, _, _, s3⟩ => ⟨same_tup (s2.trans s3) (SqT.of hg1), same_tup s3 hq⟩) ?_ ?_
      · rintro i z σ H3 H4 hi ⟨x, y, rfl, s3⟩ ⟨t, u, v, rfl, fr, rfl, hu, hv⟩
        have hv' : ps[i + 1]? = some v := by
          have z : (ps.drop 1)[i]? = some v := hv
          rw [List.getElem?_drop] at z
          rw [Nat.add_comm]
          exact z
        have s4 : Same H2 (upd H3 t (.tup [u, v])) := same_in_upd s3 (s3.free fr)
        obtain ⟨a, ha, ra⟩ := al2.get hu
        obtain ⟨b, hb, rb⟩ := al2.get hv'
        obtain ⟨h1, h2, h3, h4⟩ := ok.each a (List.mem_of_getElem? ha)
        have lt := ok.turn i a b ha hb
        have ra4 := ra.nl (same_nl s4)
        have rb4 := rb.nl (same_nl s4)
        obtain ⟨tu, rfl, hu4⟩ := id ra4
        obtain ⟨tv, rfl, hv4⟩ := id rb4
        walk_at "go"
        refine ⟨a, b, ra4, rb4, lt, h3, _, rfl, ?_⟩
        walk_at "go"
        refine i_dec (fun eq => ?_) (fun _ => ?_)
        · have e1 : a.tool = b.tool := V.str.inj eq
          have e2 : a.begin_ + a.long ≤ b.begin_ := by
            rcases lt with l | l
            · rw [e1] at l
              exact absurd l (List.lt_irrefl _)
            · exact l.2
          walk_at "go"
          refine i_decF (by omega) ?_
          walk_at "go"
          exact ⟨_, _, rfl, s4⟩
        · walk_at "go"
          exact ⟨_, _, rfl, s4⟩
      · rintro σ H3 ⟨x, y, rfl, s3⟩
        walk_at "go"
        exact k _ (s12.trans s3)
end
end K19
namespace K19
open PySem L2
open PyProof.Rows (envOfC)
/-- what isinstance asks of a class of our own -/
structure IsiC (K : PySem.W.Frag) (C : Addr) : Prop where
  ha : PySem.W.findIn K (.ref C) "__class__" = some (some (.builtin "object.__class__"))
  hn : PySem.W.specialIn K (.builtin "object.__class__") "__get__" = some (some (.builtin "getset_descriptor.__get__"))
  htk : PySem.W.takesIn K (.builtin "object.__class__") = some true
  hm : PySem.W.mroIn K C (.type "object") = some true
/-- the three classes -/
structure Kl (K : PySem.W.Frag) (mg : Str → Option Value) (gT gD gC : Addr) : Prop where
  mT : mg "Task" = some (.ref gT)
  mD : mg "Door" = some (.ref gD)
  mC : mg "Crew" = some (.ref gC)
  cT : Cls K gT
  cD : Cls K gD
  cC : Cls K gC
  iT : IsiC K gT
  iD : IsiC K gD
  iC : IsiC K gC
  tName : NoAttr K gT "name"
  tCost : NoAttr K gT "cost"
  tGap : NoAttr K gT "gap"
  tDue : NoAttr K gT "due"
  tHolds : NoAttr K gT "holds"
  tSpans : NoAttr K gT "spans"
  dName : NoAttr K gD "name"
  dRoom : NoAttr K gD "room"
  dGap : NoAttr K gD "gap"
  dSpans : NoAttr K gD "spans"
  cMembers : NoAttr K gC "members"
  TD : PySem.W.kitOne K (.ref gT) (.ref gD) = some false
  DT : PySem.W.kitOne K (.ref gD) (.ref gT) = some false
theorem kit_self {K : PySem.W.Frag} {C : Addr} : PySem.W.kitOne K (.ref C) (.ref C) = some true := by simp [PySem.W.kitOne]
/-- all but x stays -/
def KeepX (x : Addr) (H H' : Hp) : Prop := ∀ b o, b ≠ x → H b = some o → H' b = some o
/-- a field's value -/
def Fl (fs : List (Str × V)) (f : Str) (v : V) : Prop := fs.lookup f = some v
/-- a member as an object -/
def MemAt (gT gD : Addr) (H : Hp) (v : V) (m : Mem) : Prop := ∃ x dx fs, v = .ref x ∧ Fl fs "name" (.str m.name) ∧ Fl fs "gap" (.int m.gap) ∧
  ((m.door = true ∧ m.holds = [] ∧ m.due = m.gap ∧ H x = some (.ins gD dx fs) ∧ Fl fs "room" (.int m.cost)) ∨
   (m.door = false ∧ H x = some (.ins gT dx fs) ∧ Fl fs "cost" (.int m.cost) ∧ Fl fs "due" (.int m.due) ∧ ∃ g, Fl fs "holds" (.ref g) ∧ HoldsAt H g m.holds))
theorem MemAt.nl {gT gD : Addr} {H H' : Hp} (k : NL H H') {v : V} {m : Mem} (a : MemAt gT gD H v m) : MemAt gT gD H' v m := by
  obtain ⟨x, dx, fs, e, n, g, z⟩ := a
  refine ⟨x, dx, fs, e, n, g, ?_⟩
  rcases z with ⟨d, d1, d2, q, r⟩ | ⟨d, q, c, du, h, hl, hh⟩
  · exact .inl ⟨d, d1, d2, k _ _ rfl q, r⟩
  · exact .inr ⟨d, k _ _ rfl q, c, du, h, hl, hh.nl k⟩
section
variable {σ : L2.St} {H : Hp} {Q : VK} {K : PySem.W.Frag}
theorem put_lt {f : Str} {v : V} {n : Nat} : ∀ {fs : List (Str × V)}, fs.length < n → (putF f v fs).length < n + 1
  | [], h => by simpa [putF] using h
  | (g, x) :: r, h => by
    unfold putF
    split
    · simp at h ⊢
      omega
    · cases n with
      | zero => simp at h
      | succ n =>
        have ih := put_lt (f := f) (v := v) (n := n) (fs := r) (by simp at h; omega)
        simp
        omega
theorem i_gfld {ta : TE} {f : Str} {v : V} {R : L2.St → Hp → Prop} (q : ta σ H fun x H1 => ∃ a C dx fs, x = .ref a ∧ H1 a = some (.ins C dx fs) ∧ Cls K C ∧ NoAttr K C f ∧ fs.length < 1000 ∧ R σ (upd H1 a (.ins C dx (putF f v fs)))) : gFld K ta f v σ H R := q
theorem i_tuprg {te : L2.St → Hp → (Int → Int → Hp → Prop) → Prop} (q : te σ H fun a b H1 => RgOk a b ∧ ∀ q, H1 q = none → Q (.ref q) (upd H1 q (.tup (rgV a b)))) : tTupRg te σ H Q := q
theorem i_rg1 {ta : TE} {R : Int → Int → Hp → Prop} (q : ta σ H fun x H1 => ∃ n, x = .int n ∧ R 0 n H1) : tRg1 ta σ H R := q
theorem i_putx {x C dx : Addr} {fs : List (Str × V)} {f : Str} {R : Addr → Addr → Addr → List (Str × V) → Prop} (h : H x = some (.ins C dx fs)) (c : Cls K C) (n : NoAttr K C f) (l : fs.length < 1000) (q : R x C dx fs) :
    ∃ a C dx fs, V.ref x = .ref a ∧ H a = some (.ins C dx fs) ∧ Cls K C ∧ NoAttr K C f ∧ fs.length < 1000 ∧ R a C dx fs := ⟨x, C, dx, fs, rfl, h, c, n, l, q⟩
theorem i_getx {x C dx : Addr} {fs : List (Str × V)} {f : Str} {v : V} {R : V → Prop} (h : H x = some (.ins C dx fs)) (c : Cls K C) (n : NoAttr K C f) (l : fs.lookup f = some v) (q : R v) :
    ∃ a C dx fs v, V.ref x = .ref a ∧ H a = some (.ins C dx fs) ∧ Cls K C ∧ NoAttr K C f ∧ fs.lookup f = some v ∧ R v := ⟨x, C, dx, fs, v, rfl, h, c, n, l, q⟩
theorem i_isiO {x C D dx : Addr} {fs : List (Str × V)} {b : Bool} (h : H x = some (.ins C dx fs)) (c : Cls K C) (i : IsiC K C) (k : PySem.W.kitOne K (.ref C) (.ref D) = some b) (q : Q (.bl b) H) : rIsi K [.ref x, .ref D] H Q :=
  ⟨_, _, _, _, b, rfl, .own D, .base (.ins h c i.ha i.hn i.htk i.hm), k, q⟩
end
section
variable {P : Program} {w : World} {K : PySem.W.Frag} {mg : Str → Option Value} {base : Heap} {gT gD gC : Addr}
/-- Door.__init__ -/
def spDoorInit (gD : Addr) : Sp := fun vs H Q _ => ∃ (x dx : Addr) (n : Str) (c g : Int), vs = [.ref x, .str n, .int c, .int g] ∧ H x = some (.ins gD dx []) ∧ IsName n ∧ 1 ≤ c ∧ c ≤ 99 ∧ 1 ≤ g ∧ g ≤ 600 ∧
  ∀ H' fs, KeepX x H H' → H' x = some (.ins gD dx fs) → Fl fs "name" (.str n) → Fl fs "room" (.int c) → Fl fs "gap" (.int g) → Q .non H'
/-- a def of a class as the top leaves it -/
def Fm (K : PySem.W.Frag) (C : Addr) (x q : Str) (st : Stmt) (ps : List Str) (ds : List V) (ks : List (Str × V)) : Prop :=
  ∃ f fd, FunD K x q (defArgs st) (defBody st) (defScope st) ds ks f fd
theorem ok_pDoorInit {f : Addr} {fd : FuncData} (F : FunD K "__init__" "Door.__init__" (defArgs s_pDoorInit) (defBody s_pDoorInit) (defScope s_pDoorInit) [] [] f fd) (T : Txt K mg) (Z : Kl K mg gT gD gC)
    (C_pIsName : Cal P w K mg base 1 "is_name" a_pIsName spIsName) (C_pIsWithin : Cal P w K mg base 2 "is_within" a_pIsWithin spWithin) : FnOk P w K mg base CX0 3 f fd a_pDoorInit (spDoorInit gD) := by
  refine F.ok sc_pDoorInit (fun vs H Q E h => ?_) (fun cdv A outer s H vs Q E hr h => ?_)
  · obtain ⟨x, dx, n, c, g, rfl, _⟩ := h
    rfl
  · obtain ⟨x, dx, n, c, g, rfl, hx, hn, c1, c2, g1, g2, k⟩ := h
    suffices z : ∃ t, PSs (cxOf CX0 P w K mg base n_pDoorInit "Door.__init__" (defScope s_pDoorInit) f cdv A outer s H E).nox (defBody s_pDoorInit) t ∧ t { nx := fun _ H' => Q .non H', rt := Q } (start n_pDoorInit [.ref x, .str n, .int c, .int g]) H by
      obtain ⟨t, ht, q⟩ := z
      exact ⟨t, ht.nox, q⟩
    refine ⟨_, (pss_cons (ps_if (pt_not (pt_val (pe_cal C_pIsName (hr.mono (by decide)) (pa_cons (pv 1) pa_nil))))
  (pss_one ps_never)
  pss_nil)
  (pss_cons (ps_if (pt_not (pt_val (pe_cal C_pIsWithin (hr.mono (by decide)) (pa_cons (pv 2) (pa_cons pe_int (pa_cons (pe_glob (v := .int 99) rfl T.mostCost.choose_spec ⟨_, rfl⟩) pa_nil))))))
  (pss_one ps_never)
  pss_nil)
  (pss_cons (ps_if (pt_not (pt_val (pe_cal C_pIsWithin (hr.mono (by decide)) (pa_cons (pv 3) (pa_cons pe_int (pa_cons (pe_glob (v := .int 600) rfl T.mostGap.choose_spec ⟨_, rfl⟩) pa_nil))))))
  (pss_one ps_never)
  pss_nil)
  (pss_cons (ps_asg (pe_tup (pa_cons (pv 1) (pa_cons (pv 2) (pa_cons (pv 3) pa_nil)))) (pg_tup rfl (pgs_cons (pg_fld (pv 0)) (pgs_cons (pg_fld (pv 0)) (pgs_cons (pg_fld (pv 0)) pgs_nil)))))
  (pss_one (ps_fld (pv 0) (pe_tupRg rfl rfl T.tuple (prg_1 rfl T.range (pv 2))) rfl)))))), ?_⟩
    try dsimp only [cxOf]
    refine at_ [some (.ref x), some (.str n), some (.int c), some (.int g)] rfl ?_
    walk_at "go"
    refine ⟨n, rfl, hn, fun H1 s1 => ⟨true, rfl, ?_⟩⟩
    have hx1 := s1 _ _ hx
    walk_at "go"
    refine ⟨_, _, _, rfl, c1, c2, true, rfl, ?_⟩
    walk_at "go"
    refine ⟨_, _, _, rfl, g1, g2, true, rfl, ?_⟩
    walk_at "go"
    refine ⟨le_sz (by simp), fun p hp => ?_⟩
    walk_at "go"
    have xp : x ≠ p := ne_of_none hx1 hp
    have hxp : upd H1 p (.tup [.str n, .int c, .int g]) x = some (.ins gD dx []) := (upd_ne xp).trans hx1
    refine i_gfld ?_
    walk_at "go"
    refine i_putx hxp Z.cD Z.dName (by decide) ?_
    walk_at "go"
    refine i_gfld ?_
    walk_at "go"
    refine i_putx upd_same Z.cD Z.dRoom (put_lt (n := 999) (by decide)) ?_
    walk_at "go"
    refine i_gfld ?_
    walk_at "go"
    refine i_putx upd_same Z.cD Z.dGap (put_lt (n := 999) (put_lt (n := 998) (by decide))) ?_
    walk_at "go"
    refine i_tuprg (i_rg1 ?_)
    walk_at "go"
    refine ⟨RgOk.of_le (by omega) (by omega) (by omega) (by omega), fun q hq => ?_⟩
    walk_at "go"
    rw [upd_upd, upd_upd] at hq
    have xq : x ≠ q := ne_of_none (H := upd _ x _) upd_same hq
    refine i_putx (by rw [upd_upd, upd_upd]; exact (upd_ne xq).trans upd_same) Z.cD Z.dSpans (put_lt (n := 999) (put_lt (n := 998) (put_lt (n := 997) (by decide)))) ?_
    walk_at "go"
    refine k _ _ (fun b o hb e => ?_) upd_same rfl rfl rfl
    have e1 := s1 _ _ e
    rw [upd_ne hb, upd_ne (ne_of_none (H := upd (upd H1 p (.tup [.str n, .int c, .int g])) x _) ((upd_ne hb).trans ((upd_ne (ne_of_none e1 hp)).trans e1)) hq), upd_ne hb, upd_ne hb, upd_ne hb, upd_ne (ne_of_none e1 hp)]
    exact e1
/-- Task.__init__ -/
def spTaskInit (gT : Addr) : Sp := fun vs H Q _ => ∃ (x dx h : Addr) (n : Str) (c g d : Int) (hs : List Hold), vs = [.ref x, .str n, .int c, .int g, .int d, .ref h] ∧ H x = some (.ins gT dx []) ∧ IsName n ∧ 1 ≤ c ∧ c ≤ 99 ∧ 1 ≤ g ∧ g ≤ 600 ∧ 1 ≤ d ∧ d ≤ g ∧ HoldsAt H h hs ∧ HoldsOk hs c ∧
  ∀ H' fs, KeepX x H H' → H' x = some (.ins gT dx fs) → Fl fs "name" (.str n) → Fl fs "cost" (.int c) → Fl fs "gap" (.int g) → Fl fs "due" (.int d) → Fl fs "holds" (.ref h) → Q .non H'
theorem ok_pTaskInit {f : Addr} {fd : FuncData} {ks : List (Str × V)} (F : FunD K "__init__" "Task.__init__" (defArgs s_pTaskInit) (defBody s_pTaskInit) (defScope s_pTaskInit) [] ks f fd) (T : Txt K mg) (Z : Kl K mg gT gD gC)
    (C_pIsName : Cal P w K mg base 1 "is_name" a_pIsName spIsName) (C_pIsWithin : Cal P w K mg base 2 "is_within" a_pIsWithin spWithin) (C_pAreHolds : Cal P w K mg base 4 "are_holds" a_pAreHolds spAreHolds) : FnOk P w K mg base CX0 5 f fd a_pTaskInit (spTaskInit gT) := by
  refine F.ok sc_pTaskInit (fun vs H Q E h => ?_) (fun cdv A outer s H vs Q E hr h => ?_)
  · obtain ⟨x, dx, h, n, c, g, d, hs, rfl, _⟩ := h
    rfl
  · obtain ⟨x, dx, h, n, c, g, d, hs, rfl, hx, hn, c1, c2, g1, g2, d1, d2, hh, ho, k⟩ := h
    suffices z : ∃ t, PSs (cxOf CX0 P w K mg base n_pTaskInit "Task.__init__" (defScope s_pTaskInit) f cdv A outer s H E).nox (defBody s_pTaskInit) t ∧ t { nx := fun _ H' => Q .non H', rt := Q } (start n_pTaskInit [.ref x, .str n, .int c, .int g, .int d, .ref h]) H by
      obtain ⟨t, ht, q⟩ := z
      exact ⟨t, ht.nox, q⟩
    refine ⟨_, (pss_cons (ps_if (pt_not (pt_val (pe_cal C_pIsName (hr.mono (by decide)) (pa_cons (pv 1) pa_nil))))
  (pss_one ps_never)
  pss_nil)
  (pss_cons (ps_if (pt_not (pt_val (pe_cal C_pIsWithin (hr.mono (by decide)) (pa_cons (pv 2) (pa_cons pe_int (pa_cons (pe_glob (v := .int 99) rfl T.mostCost.choose_spec ⟨_, rfl⟩) pa_nil))))))
  (pss_one ps_never)
  pss_nil)
  (pss_cons (ps_if (pt_not (pt_val (pe_cal C_pIsWithin (hr.mono (by decide)) (pa_cons (pv 3) (pa_cons pe_int (pa_cons (pe_glob (v := .int 600) rfl T.mostGap.choose_spec ⟨_, rfl⟩) pa_nil))))))
  (pss_one ps_never)
  pss_nil)
  (pss_cons (ps_if (PW.pt (pw_and (pt_cmpR op_notN (pv 4) pe_non (nomark _)) (pw_and1 (pt_not (pt_val (pe_cal C_pIsWithin (hr.mono (by decide)) (pa_cons (pv 4) (pa_cons pe_int (pa_cons (pv 3) pa_nil)))))))))
  (pss_one ps_never)
  pss_nil)
  (pss_cons (ps_if (pt_not (pt_val (pe_cal C_pAreHolds (hr.mono (by decide)) (pa_cons (pv 5) (pa_cons (pv 2) pa_nil)))))
  (pss_one ps_never)
  pss_nil)
  (pss_cons (ps_asg (pe_tup (pa_cons (pv 1) (pa_cons (pv 2) (pa_cons (pv 3) pa_nil)))) (pg_tup rfl (pgs_cons (pg_fld (pv 0)) (pgs_cons (pg_fld (pv 0)) (pgs_cons (pg_fld (pv 0)) pgs_nil)))))
  (pss_cons (ps_fld (pv 0) (pe_ifExp (pt_cmpR op_isN (pv 4) pe_non (nomark _)) (pv 3) (pv 4)) rfl)
  (pss_cons (ps_fld (pv 0) (pv 5) rfl)
  (pss_one (ps_fld (pv 0) (pe_tupRg rfl rfl T.tuple (prg_1 rfl T.range (pv 2))) rfl)))))))))), ?_⟩
    try dsimp only [cxOf]
    refine at_ [some (.ref x), some (.str n), some (.int c), some (.int g), some (.int d), some (.ref h)] rfl ?_
    walk_at "go"
    refine ⟨n, rfl, hn, fun H1 s1 => ⟨true, rfl, ?_⟩⟩
    have hx1 := s1 _ _ hx
    walk_at "go"
    refine ⟨_, _, _, rfl, c1, c2, true, rfl, ?_⟩
    walk_at "go"
    refine ⟨_, _, _, rfl, g1, g2, true, rfl, ?_⟩
    walk_at "go"
    refine ⟨rfl, ?_⟩
    walk_at "go"
    refine i_nDecF (fun z => by cases z) ?_
    walk_at "go"
    refine ⟨_, _, _, rfl, d1, d2, true, rfl, ?_⟩
    walk_at "go"
    refine ⟨h, c, hs, rfl, hh.nl (same_nl s1), ho, fun H2 s2 => ⟨true, rfl, ?_⟩⟩
    have hx2 := s2 _ _ hx1
    walk_at "go"
    refine ⟨le_sz (by simp), fun p hp => ?_⟩
    have xp : x ≠ p := ne_of_none hx2 hp
    walk_at "go"
    refine i_gfld ?_
    walk_at "go"
    refine i_putx ((upd_ne xp).trans hx2) Z.cT Z.tName (by decide) ?_
    walk_at "go"
    refine i_gfld ?_
    walk_at "go"
    refine i_putx upd_same Z.cT Z.tCost (put_lt (n := 999) (by decide)) ?_
    walk_at "go"
    refine i_gfld ?_
    walk_at "go"
    refine i_putx upd_same Z.cT Z.tGap (put_lt (n := 999) (put_lt (n := 998) (by decide))) ?_
    walk_at "go"
    refine ⟨rfl, ?_⟩
    walk_at "go"
    refine i_decF (fun z => by cases z) ?_
    walk_at "go"
    refine i_putx upd_same Z.cT Z.tDue (put_lt (n := 999) (put_lt (n := 998) (put_lt (n := 997) (by decide)))) ?_
    walk_at "go"
    refine i_putx upd_same Z.cT Z.tHolds (put_lt (n := 999) (put_lt (n := 998) (put_lt (n := 997) (put_lt (n := 996) (by decide))))) ?_
    walk_at "go"
    refine i_tuprg (i_rg1 ?_)
    walk_at "go"
    refine ⟨RgOk.of_le (by omega) (by omega) (by omega) (by omega), fun q hq => ?_⟩
    walk_at "go"
    simp only [upd_upd] at hq ⊢
    have xq : x ≠ q := ne_of_none (H := upd _ x _) upd_same hq
    refine i_putx ((upd_ne xq).trans upd_same) Z.cT Z.tSpans (put_lt (n := 999) (put_lt (n := 998) (put_lt (n := 997) (put_lt (n := 996) (put_lt (n := 995) (by decide)))))) ?_
    walk_at "go"
    refine k _ _ (fun b o hb e => ?_) upd_same rfl rfl rfl rfl rfl
    have e1 := s2 _ _ (s1 _ _ e)
    have e2 : ∀ o1 o2, upd (upd H2 p o1) x o2 b = some o := fun _ _ => upd_ne2 hb (upd_ne2 (ne_of_none e1 hp) e1)
    exact upd_ne2 hb (upd_ne2 (ne_of_none (e2 _ _) hq) (e2 _ _))
end
end K19
namespace K19
open PySem L2
open PyProof.Rows (envOfC)
section
variable {P : Program} {w : World} {K : PySem.W.Frag} {mg : Str → Option Value} {base : Heap} {gT gD gC : Addr}
theorem MemAt.same {H H' : Hp} (k : Same H H') {v : V} {m : Mem} (a : MemAt gT gD H v m) : MemAt gT gD H' v m := a.nl (same_nl k)
/-- the members' tuple at t -/
def MemsAt (gT gD : Addr) (H : Hp) (t : Addr) (ms : List Mem) : Prop := ∃ xs, H t = some (.tup xs) ∧ All2 (MemAt gT gD H) xs ms
theorem MemsAt.nl {H H' : Hp} (k : NL H H') {t : Addr} {ms : List Mem} (a : MemsAt gT gD H t ms) : MemsAt gT gD H' t ms := by
  obtain ⟨xs, e, z⟩ := a
  exact ⟨xs, k _ _ rfl e, z.mono fun _ _ _ _ => MemAt.nl k⟩
/-- a crew's own fields -/
def crewF (t : Addr) : List (Str × V) := putF "members" (.ref t) []
theorem crewF_get (t : Addr) : Fl (crewF t) "members" (.ref t) := rfl
def CrewAt (gT gD gC : Addr) (H : Hp) (v : V) (ms : List Mem) : Prop := ∃ c dx t, v = .ref c ∧ H c = some (.ins gC dx (crewF t)) ∧ MemsAt gT gD H t ms
theorem CrewAt.nl {H H' : Hp} (k : NL H H') {v : V} {ms : List Mem} (a : CrewAt gT gD gC H v ms) : CrewAt gT gD gC H' v ms := by
  obtain ⟨c, dx, t, e, z, m⟩ := a
  exact ⟨c, dx, t, e, k _ _ rfl z, m.nl k⟩
theorem i_meth {σ : L2.St} {H : Hp} {Q : VK} {C : Addr} {m : Str} {sp : Sp} {dvs : List V} {E : XK} {ta : TE} {t : TA} (q : ta σ H fun x H1 => ∃ a dx fs, x = .ref a ∧ H1 a = some (.ins C dx fs) ∧ fs.lookup m = none ∧ t σ H1 fun vs H2 => sp (x :: (vs ++ dvs)) H2 Q E) : tMeth C m sp dvs E ta t σ H Q := q
def spIsMember (gT gD : Addr) : Sp := fun vs H Q _ => ∃ v m, vs = [v] ∧ MemAt gT gD H v m ∧ ∀ H', Same H H' → Q (.bl true) H'
theorem ok_pIsMember (F : Fx K mg "is_member" s_pIsMember a_pIsMember) (T : Txt K mg) (Z : Kl K mg gT gD gC) : Cal P w K mg base 1 "is_member" a_pIsMember (spIsMember gT gD) := by
  refine cal_of F sc_pIsMember (fun vs H Q E h => ?_) (fun f cdv A outer s H vs Q E hr h => ?_)
  · obtain ⟨v, m, rfl, _⟩ := h
    rfl
  · obtain ⟨v, m, rfl, ⟨x, dx, fs, rfl, n, g, z⟩, k⟩ := h
    refine ⟨_, (pss_one (ps_ret (pe_callB call_isiT (by rfl) T.isinstance (by decide +kernel) (pa_cons (pv 0) (pa_cons (pe_tup (pa_cons (pe_glob (v := .ref _) rfl Z.mT rfl) (pa_cons (pe_glob (v := .ref _) rfl Z.mD rfl) pa_nil))) pa_nil))))), ?_⟩
    try dsimp only [cxOf]
    refine at_ [some (.ref x)] rfl ?_
    walk_at "go"
    refine ⟨le_sz (by simp), fun p hp => ?_⟩
    have s1 : Same H (upd H p (.tup [.ref gT, .ref gD])) := same_of_upd hp
    walk_at "go"
    rcases z with ⟨_, _, _, hx, _⟩ | ⟨_, hx, _⟩
    · exact ⟨.ref x, p, _, _, _, true, rfl, upd_same, .cons (.own gT) (.cons (.own gD) .nil), .base (.ins (s1 _ _ hx) Z.cD Z.iD.ha Z.iD.hn Z.iD.htk Z.iD.hm), kitAny_cons Z.DT (fun _ => kitAny_cons kit_self (fun h => by cases h) fun _ => rfl) (fun h => by cases h), k _ s1⟩
    · exact ⟨.ref x, p, _, _, _, true, rfl, upd_same, .cons (.own gT) (.cons (.own gD) .nil), .base (.ins (s1 _ _ hx) Z.cT Z.iT.ha Z.iT.hn Z.iT.htk Z.iT.hm), kitAny_cons kit_self (fun h => by cases h) (fun _ => rfl), k _ s1⟩
def spCostOf (gT gD : Addr) : Sp := fun vs H Q _ => ∃ v m, vs = [v] ∧ MemAt gT gD H v m ∧ Q (.int m.cost) H
theorem ok_pCostOf (F : Fx K mg "cost_of" s_pCostOf a_pCostOf) (T : Txt K mg) (Z : Kl K mg gT gD gC) : Cal P w K mg base 1 "cost_of" a_pCostOf (spCostOf gT gD) := by
  refine cal_of F sc_pCostOf (fun vs H Q E h => ?_) (fun f cdv A outer s H vs Q E hr h => ?_)
  · obtain ⟨v, m, rfl, _⟩ := h
    rfl
  · obtain ⟨v, m, rfl, ⟨x, dx, fs, rfl, n, g, z⟩, k⟩ := h
    refine ⟨_, (pss_one (ps_ret (pe_ifExp (pt_val (pe_callB call_isi (by rfl) T.isinstance (by decide +kernel) (pa_cons (pv 0) (pa_cons (pe_glob (v := .ref _) rfl Z.mD rfl) pa_nil)))) (by exact pe_fld (pv 0) rfl) (by exact pe_fld (pv 0) rfl)))), ?_⟩
    try dsimp only [cxOf]
    refine at_ [some (.ref x)] rfl ?_
    walk_at "go"
    rcases z with ⟨_, _, _, hx, c⟩ | ⟨_, hx, c, _⟩
    · refine i_isiO hx Z.cD Z.iD kit_self ⟨true, rfl, ?_⟩
      walk_at "go"
      refine i_getx hx Z.cD Z.dRoom c ?_
      walk_at "go"
      exact k
    · refine i_isiO hx Z.cT Z.iT Z.TD ⟨false, rfl, ?_⟩
      walk_at "go"
      refine i_getx hx Z.cT Z.tCost c ?_
      walk_at "go"
      exact k
def spDueOf (gT gD : Addr) : Sp := fun vs H Q _ => ∃ v m, vs = [v] ∧ MemAt gT gD H v m ∧ Q (.int m.due) H
theorem ok_pDueOf (F : Fx K mg "due_of" s_pDueOf a_pDueOf) (T : Txt K mg) (Z : Kl K mg gT gD gC) : Cal P w K mg base 1 "due_of" a_pDueOf (spDueOf gT gD) := by
  refine cal_of F sc_pDueOf (fun vs H Q E h => ?_) (fun f cdv A outer s H vs Q E hr h => ?_)
  · obtain ⟨v, m, rfl, _⟩ := h
    rfl
  · obtain ⟨v, m, rfl, ⟨x, dx, fs, rfl, n, g, z⟩, k⟩ := h
    refine ⟨_, (pss_one (ps_ret (pe_ifExp (pt_val (pe_callB call_isi (by rfl) T.isinstance (by decide +kernel) (pa_cons (pv 0) (pa_cons (pe_glob (v := .ref _) rfl Z.mD rfl) pa_nil)))) (by exact pe_fld (pv 0) rfl) (by exact pe_fld (pv 0) rfl)))), ?_⟩
    try dsimp only [cxOf]
    refine at_ [some (.ref x)] rfl ?_
    walk_at "go"
    rcases z with ⟨_, _, d, hx, _⟩ | ⟨_, hx, _, d, _⟩
    · refine i_isiO hx Z.cD Z.iD kit_self ⟨true, rfl, ?_⟩
      walk_at "go"
      refine i_getx hx Z.cD Z.dGap g ?_
      walk_at "go"
      rw [← d]
      exact k
    · refine i_isiO hx Z.cT Z.iT Z.TD ⟨false, rfl, ?_⟩
      walk_at "go"
      refine i_getx hx Z.cT Z.tDue d ?_
      walk_at "go"
      exact k
def spHoldsOf (gT gD : Addr) : Sp := fun vs H Q _ => ∃ v m, vs = [v] ∧ MemAt gT gD H v m ∧ ∀ g H', Same H H' → HoldsAt H' g m.holds → Q (.ref g) H'
theorem ok_pHoldsOf (F : Fx K mg "holds_of" s_pHoldsOf a_pHoldsOf) (T : Txt K mg) (Z : Kl K mg gT gD gC) : Cal P w K mg base 1 "holds_of" a_pHoldsOf (spHoldsOf gT gD) := by
  refine cal_of F sc_pHoldsOf (fun vs H Q E h => ?_) (fun f cdv A outer s H vs Q E hr h => ?_)
  · obtain ⟨v, m, rfl, _⟩ := h
    rfl
  · obtain ⟨v, m, rfl, ⟨x, dx, fs, rfl, n, g, z⟩, k⟩ := h
    refine ⟨_, (pss_one (ps_ret (pe_ifExp (pt_val (pe_callB call_isi (by rfl) T.isinstance (by decide +kernel) (pa_cons (pv 0) (pa_cons (pe_glob (v := .ref _) rfl Z.mD rfl) pa_nil)))) (pe_tup pa_nil) (by exact pe_fld (pv 0) rfl)))), ?_⟩
    try dsimp only [cxOf]
    refine at_ [some (.ref x)] rfl ?_
    walk_at "go"
    rcases z with ⟨_, d, _, hx, _⟩ | ⟨_, hx, _, _, h, hl, hh⟩
    · refine i_isiO hx Z.cD Z.iD kit_self ⟨true, rfl, ?_⟩
      walk_at "go"
      refine ⟨le_sz (by simp), fun p hp => ?_⟩
      refine k p _ (same_of_upd hp) ⟨[], upd_same, ?_⟩
      rw [d]
      exact All2.nil
    · refine i_isiO hx Z.cT Z.iT Z.TD ⟨false, rfl, ?_⟩
      walk_at "go"
      refine i_getx hx Z.cT Z.tHolds hl ?_
      walk_at "go"
      exact k h H (Same.refl H) hh
def spCheckCrew (gC : Addr) : Sp := fun vs H Q _ => ∃ c dx fs, vs = [.ref c] ∧ H c = some (.ins gC dx fs) ∧ Q .non H
theorem ok_pCheckCrew (F : Fx K mg "check_crew" s_pCheckCrew a_pCheckCrew) (T : Txt K mg) (Z : Kl K mg gT gD gC) : Cal P w K mg base 1 "check_crew" a_pCheckCrew (spCheckCrew gC) := by
  refine cal_of F sc_pCheckCrew (fun vs H Q E h => ?_) (fun f cdv A outer s H vs Q E hr h => ?_)
  · obtain ⟨c, dx, fs, rfl, _⟩ := h
    rfl
  · obtain ⟨c, dx, fs, rfl, hc, k⟩ := h
    refine ⟨_, (pss_one (ps_if (pt_not (pt_val (pe_callB call_isi (by rfl) T.isinstance (by decide +kernel) (pa_cons (pv 0) (pa_cons (pe_glob (v := .ref _) rfl Z.mC rfl) pa_nil)))))
  (pss_one ps_never)
  pss_nil)), ?_⟩
    try dsimp only [cxOf]
    refine at_ [some (.ref c)] rfl ?_
    walk_at "go"
    refine i_isiO hc Z.cC Z.iC kit_self ⟨true, rfl, ?_⟩
    walk_at "go"
    exact k
end
end K19
namespace K19
open PySem L2
open PyProof.Rows (envOfC)
/-- a method of the crew's class that keeps its promise -/
structure CalM (P : Program) (w : World) (K : PySem.W.Frag) (mg : Str → Option Value) (base : Heap) (C : Addr) (k : Nat) (m : Str) (ps : List Str) (sp : Sp) : Prop where
  ex : ∃ f fd, FnOk P w K mg base CX0 k f fd ps sp ∧ Meth K C m f ∧ Binds K fd ps []
section
variable {X : Cx} {C : Addr} {k : Nat} {m : Str} {ps : List Str} {sp : Sp} {o e : Expr} {es : List Expr} {ta : TE} {t : TA} {apos pos : Pos} {pl : Sem Bool}
theorem pe_cam0 (M : CalM X.prog X.w X.K X.mg X.base C k m ps sp) (c : Cls X.K C) (hr : Room k X.A) (ho : PE X o ta)
    (ht : eval (.Call (.Attribute o m apos) [] [] pos) X.env = (do
      let ov ← eval o X.env
      standAt apos.atName
      let (f, first) ← holding [ov] (getMethod ov m pl)
      callWith pos f first (backTo pos (starEach [] X.env)) (backToKw pos (keywordEach [] X.env))) := by rfl) : PE X (.Call (.Attribute o m apos) [] [] pos) (tMeth C m sp [] E0 ta tNil) := by
  obtain ⟨f, fd, F, hm, hb⟩ := M.ex
  exact pe_meth0 (pl := pl) ho c hm F hr hb .nil pass0 ht
theorem pe_cam1 (M : CalM X.prog X.w X.K X.mg X.base C k m ps sp) (c : Cls X.K C) (hr : Room k X.A) (ho : PE X o ta) (ha : PA X (e :: es) t)
    (hst : starEach (e :: es) X.env = (false, eval e X.env) :: starEach es X.env := by rfl) (hpl : (backTo pos (starEach es X.env)).any (·.1) = false := by rfl)
    (ht : eval (.Call (.Attribute o m apos) (e :: es) [] pos) X.env = (do
      let ov ← eval o X.env
      standAt apos.atName
      let (f, first) ← holding [ov] (getMethod ov m pl)
      callWith pos f first (backTo pos (starEach (e :: es) X.env)) (backToKw pos (keywordEach [] X.env))) := by rfl) : PE X (.Call (.Attribute o m apos) (e :: es) [] pos) (tMeth C m sp [] E0 ta t) := by
  obtain ⟨f, fd, F, hm, hb⟩ := M.ex
  exact pe_meth (pl := pl) ho c hm F hr hb .nil pass0 ha hst hpl ht
end
section
variable {P : Program} {w : World} {K : PySem.W.Frag} {mg : Str → Option Value} {base : Heap} {gT gD gC : Addr}
theorem memName {H : Hp} {v : V} {m : Mem} (Z : Kl K mg gT gD gC) (a : MemAt gT gD H v m) {R : V → Prop} (q : R (.str m.name)) : ∃ a C dx fs u, v = .ref a ∧ H a = some (.ins C dx fs) ∧ Cls K C ∧ NoAttr K C "name" ∧ fs.lookup (Str.ofString "name") = some u ∧ R u := by
  obtain ⟨x, dx, fs, rfl, n, g, z⟩ := a
  rcases z with ⟨_, _, _, hx, _⟩ | ⟨_, hx, _⟩
  · exact ⟨x, gD, dx, fs, _, rfl, hx, Z.cD, Z.dName, n, q⟩
  · exact ⟨x, gT, dx, fs, _, rfl, hx, Z.cT, Z.tName, n, q⟩
def spNames (gT gD gC : Addr) : Sp := fun vs H Q _ => ∃ v ms, vs = [v] ∧ CrewAt gT gD gC H v ms ∧ ms.length ≤ 8 ∧ ∀ t H', Same H H' → FzT H' t ((ms.map Mem.name).map V.str) → Q (.ref t) H'
theorem ok_pCrewNames {f : Addr} {fd : FuncData} (F : FunD K "names" "Crew.names" (defArgs s_pCrewNames) (defBody s_pCrewNames) (defScope s_pCrewNames) [] [] f fd) (T : Txt K mg) (Z : Kl K mg gT gD gC) : FnOk P w K mg base CX0 1 f fd a_pCrewNames (spNames gT gD gC) := by
  refine F.ok sc_pCrewNames (fun vs H Q E h => ?_) (fun cdv A outer s H vs Q E hr h => ?_)
  · obtain ⟨v, ms, rfl, _⟩ := h
    rfl
  · obtain ⟨v, ms, rfl, ⟨c, dx, t, rfl, hc, xs, ht, al⟩, few, k⟩ := h
    suffices z : ∃ t, PSs (cxOf CX0 P w K mg base n_pCrewNames "Crew.names" (defScope s_pCrewNames) f cdv A outer s H E).nox (defBody s_pCrewNames) t ∧ t { nx := fun _ H' => Q .non H', rt := Q } (start n_pCrewNames [.ref c]) H by
      obtain ⟨t, ht, q⟩ := z
      exact ⟨t, ht.nox, q⟩
    refine ⟨_, (pss_one (ps_ret (pe_tupleF (by rfl) T.tuple (pe_lc (own := [("member", 1)]) (tt := tYes) (te := (tFld K _ "name")) rfl sc_pCrewNames.nd (pi_tup (by exact pe_fld (pv 0) rfl)) (blkOk_by (N := n_pCrewNames) (sc := defScope s_pCrewNames) (by decide +kernel)) (fun _ _ _ _ _ => (pg_name (i := 1) sc_pCrewNames.nd rfl (Or.inl rfl))) (fun _ _ _ _ _ => pts_nil) (fun _ _ _ _ _ => (by exact pe_fld (pv 1) rfl)))))), ?_⟩
    try dsimp only [cxOf]
    refine at_ [some (.ref c), none] rfl ?_
    walk_at "go"
    refine i_getx hc Z.cC Z.cMembers (crewF_get t) ?_
    walk_at "go"
    refine ⟨⟨_, SqT.of ht⟩, fun D hD => lcm_t (SqT.of ht) hD al.1 (by omega) [some (.ref c), none] rfl (fun m => some (.str m.name)) (fun i x m H1 R hx hm s1 q => ?_) fun H1 s1 e => ?_⟩
    · walk_at "go"
      refine ⟨rfl, ?_⟩
      walk_at "go"
      exact memName Z ((al.2 i x m hx hm).same s1) (q _ (Same.refl H1))
    · walk_at "go"
      rw [fm_some] at e
      refine i_kTupF (SqL.of e) fun q H2 s2 hf => ?_
      rw [show (ms.map fun m => V.str m.name) = (ms.map Mem.name).map V.str by rw [List.map_map]; rfl] at hf
      exact k q _ (s1.trans s2) hf
def NamesNd (ms : List Mem) : Prop := (ms.map Mem.name).Nodup
theorem name_one : ∀ {ms : List Mem} {m m' : Mem}, NamesNd ms → m ∈ ms → m' ∈ ms → m.name = m'.name → m = m'
  | [], _, _, _, h, _, _ => by cases h
  | a :: r, m, m', nd, h, h', e => by
    unfold NamesNd at nd
    rw [List.map_cons, List.nodup_cons] at nd
    rcases List.mem_cons.mp h with q | q <;> rcases List.mem_cons.mp h' with q' | q'
    · rw [q, q']
    · exact absurd (List.mem_map.mpr ⟨m', q', by rw [← e, q]⟩) nd.1
    · exact absurd (List.mem_map.mpr ⟨m, q, by rw [e, q']⟩) nd.1
    · exact name_one (ms := r) nd.2 q q' e
def spNamed (gT gD gC : Addr) : Sp := fun vs H Q _ => ∃ v n ms m, vs = [v, .str n] ∧ CrewAt gT gD gC H v ms ∧ NamesNd ms ∧ m ∈ ms ∧ m.name = n ∧ ∀ v, MemAt gT gD H v m → Q v H
theorem ok_pCrewNamed {f : Addr} {fd : FuncData} (F : FunD K "named" "Crew.named" (defArgs s_pCrewNamed) (defBody s_pCrewNamed) (defScope s_pCrewNamed) [] [] f fd) (T : Txt K mg) (Z : Kl K mg gT gD gC) : FnOk P w K mg base CX0 1 f fd a_pCrewNamed (spNamed gT gD gC) := by
  refine F.ok sc_pCrewNamed (fun vs H Q E h => ?_) (fun cdv A outer s H vs Q E hr h => ?_)
  · obtain ⟨v, n, ms, m, rfl, _⟩ := h
    rfl
  · obtain ⟨v, n, ms, m, rfl, ⟨c, dx, t, rfl, hc, xs, ht, al⟩, nd, hm, rfl, k⟩ := h
    suffices z : ∃ t, PSs (cxOf CX0 P w K mg base n_pCrewNamed "Crew.named" (defScope s_pCrewNamed) f cdv A outer s H E).nox (defBody s_pCrewNamed) t ∧ t { nx := fun _ H' => Q .non H', rt := Q } (start n_pCrewNamed [.ref c, .str m.name]) H by
      obtain ⟨t, ht, q⟩ := z
      exact ⟨t, ht.nox, q⟩
    refine ⟨_, (pss_cons (ps_for PassesOwn.never rfl (pi_tup (by exact pe_fld (pv 0) rfl)) (pg_name (i := 2) sc_pCrewNamed.nd rfl (Or.inl rfl))
  (pss_one (ps_if (pt_cmpR op_eq (by exact pe_fld (pv 2) rfl) (pv 1) (nomark _))
  (pss_one (ps_ret (pv 2)))
  pss_nil)))
  (pss_one ps_never)), ?_⟩
    try dsimp only [cxOf]
    refine at_ [some (.ref c), some (.str m.name), none] rfl ?_
    walk_at "go"
    refine i_getx hc Z.cC Z.cMembers (crewF_get t) ?_
    walk_at "go"
    refine ⟨⟨_, SqT.of ht⟩, for_itD walk_tup (fun j σ H' => ∃ u, σ = [some (.ref c), some (.str m.name), u] ∧ H' = H ∧ ∀ (j' : Nat) m', j' < j → ms[j']? = some m' → m'.name ≠ m.name) ⟨none, rfl, rfl, fun _ _ h => by omega⟩ (fun _ _ _ _ ⟨_, _, e, _⟩ => by rw [e]; exact SqT.of ht) ?_ ?_⟩
    · rintro j x σ H1 H2 hj ⟨u, rfl, rfl, no⟩ ⟨rfl, hx⟩
      obtain ⟨m1, hm1, r⟩ := al.get hx
      walk_at "go"
      refine memName Z r ?_
      walk_at "go"
      refine i_dec (fun e => ?_) (fun e => ?_)
      · walk_at "go"
        have := name_one nd (List.mem_of_getElem? hm1) hm (V.str.inj e)
        subst this
        exact k _ r
      · walk_at "go"
        refine ⟨_, rfl, rfl, fun j' m' hj' hm' z => ?_⟩
        by_cases q : j' = j
        · subst q
          rw [hm1] at hm'
          cases hm'
          exact e (by rw [z])
        · exact no j' m' (by omega) hm' z
    · rintro σ H1 ⟨u, rfl, rfl, no⟩
      obtain ⟨j, hj, e⟩ := List.mem_iff_getElem.mp hm
      exact absurd rfl (no j m (by rw [al.1]; exact hj) (by rw [List.getElem?_eq_getElem hj, e]))
end
end K19
namespace K19
open PySem L2
open PyProof.Rows (envOfC)
theorem inV_strs (n : Str) (l : List Str) : inV (.str n) (l.map V.str) = decide (n ∈ l) := by
  unfold inV
  induction l with
  | nil => rfl
  | cons a r ih =>
    rw [List.map_cons, List.any_cons, ih]
    by_cases e : a = n
    · subst e
      simp [eqV]
    · have e' : ¬ n = a := fun z => e z.symm
      simp [eqV, e, e']
theorem flat_strs (l : List Str) : (l.map V.str).all flatV = true := by
  rw [List.all_map]
  exact List.all_eq_true.mpr fun _ _ => rfl
section
variable {P : Program} {w : World} {K : PySem.W.Frag} {mg : Str → Option Value} {base : Heap} {gT gD gC : Addr}
def spCrewInit (gT gD gC : Addr) : Sp := fun vs H Q _ => ∃ x t dx ms, vs = [.ref x, .ref t] ∧ H x = some (.ins gC dx []) ∧ MemsAt gT gD H t ms ∧ ms.length ≤ 8 ∧ NamesNd ms ∧
  ∀ H', KeepX x H H' → H' x = some (.ins gC dx (crewF t)) → Q .non H'
theorem ok_pCrewInit {f : Addr} {fd : FuncData} {ds : List V} (F : FunD K "__init__" "Crew.__init__" (defArgs s_pCrewInit) (defBody s_pCrewInit) (defScope s_pCrewInit) ds [] f fd) (T : Txt K mg) (Z : Kl K mg gT gD gC) (C_pIsMember : Cal P w K mg base 1 "is_member" a_pIsMember (spIsMember gT gD)) :
    FnOk P w K mg base CX0 2 f fd a_pCrewInit (spCrewInit gT gD gC) := by
  refine F.ok sc_pCrewInit (fun vs H Q E h => ?_) (fun cdv A outer s H vs Q E hr h => ?_)
  · obtain ⟨x, t, dx, ms, rfl, _⟩ := h
    rfl
  · obtain ⟨x, t, dx, ms, rfl, hx, ⟨xs, ht, al⟩, few, nd, k⟩ := h
    suffices z : ∃ t', PSs (cxOf CX0 P w K mg base n_pCrewInit "Crew.__init__" (defScope s_pCrewInit) f cdv A outer s H E).nox (defBody s_pCrewInit) t' ∧ t' { nx := fun _ H' => Q .non H', rt := Q } (start n_pCrewInit [.ref x, .ref t]) H by
      obtain ⟨t, ht, q⟩ := z
      exact ⟨t, ht.nox, q⟩
    refine ⟨_, (pss_cons (ps_if (PW.pt (pw_or (pt_not (pt_val (pe_callB call_isi (by rfl) T.isinstance (by decide +kernel) (pa_cons (pv 1) (pa_cons (pe_bltn (v := .ty "tuple") (by rfl) T.tuple (by decide +kernel) rfl) pa_nil))))) (pw_or1 (pt_cmpR op_gt (pe_callB call_len_seq (by rfl) T.len (by decide +kernel) (pa_cons (pv 1) pa_nil)) (pe_glob (v := .int 8) rfl T.mostMembers.choose_spec ⟨_, rfl⟩) (nomark _)))))
  (pss_one ps_never)
  pss_nil)
  (pss_cons (ps_if (pt_not (pt_val (pe_callB (cr_all rfl) (by rfl) T.all (by decide +kernel) (pa_cons (pe_lc (own := [("member", 2)]) (tt := tYes) (te := _) rfl sc_pCrewInit.nd (pi_tup (pv 1)) (blkOk_by (N := n_pCrewInit) (sc := defScope s_pCrewInit) (by decide +kernel)) (fun _ _ _ _ _ => (pg_name (i := 2) sc_pCrewInit.nd rfl (Or.inl rfl))) (fun _ _ _ _ _ => pts_nil) (fun _ _ _ _ _ => (pe_cal C_pIsMember (hr.mono (by decide)) (pa_cons (pv 2) pa_nil)))) pa_nil))))
  (pss_one ps_never)
  pss_nil)
  (pss_cons (ps_set (i := 3) sc_pCrewInit.nd rfl (Or.inl rfl) (pe_lst pa_nil))
  (pss_cons (ps_for PassesOwn.never rfl (pi_tup (pv 1)) (pg_name (i := 2) sc_pCrewInit.nd rfl (Or.inl rfl))
  (pss_cons (ps_if (pt_cmpR op_in_seq (by exact pe_fld (pv 2) rfl) (pv 3) rfl)
  (pss_one ps_never)
  pss_nil)
  (pss_one (ps_expr (pe_bm PySem.F.plainAttrs_list PySem.F.slot_list_append PySem.F.type_list_append mt_append (pv 3) (pa_cons (by exact pe_fld (pv 2) rfl) pa_nil))))))
  (pss_one (ps_fld (pv 0) (pv 1) rfl)))))), ?_⟩
    try dsimp only [cxOf]
    refine at_ [some (.ref x), some (.ref t), none, none] rfl ?_
    walk_at "go"
    have len : xs.length = ms.length := al.1
    refine i_decF (by omega) ?_
    walk_at "go"
    refine ⟨⟨_, SqT.of ht⟩, fun D hD => lcm_t (SqT.of ht) hD al.1 (by omega) [some (.ref x), some (.ref t), none, none] rfl (fun _ => some (.bl true)) (fun i y m H1 R hy hm s1 q => ?_) fun H1 s1 e => ?_⟩
    · walk_at "go"
      refine ⟨rfl, ?_⟩
      walk_at "go"
      exact ⟨y, m, rfl, (al.2 i y m hy hm).same s1, q⟩
    · walk_at "go"
      rw [fm_some] at e
      have hb : H1 D = some (.lst (xs.filterMap fun _ => some (.bl true))) := by
        rw [e, fm_some]
        congr 2
        rw [List.map_const', List.map_const', al.1]
      refine i_allT hb ?_
      walk_at "go"
      refine ⟨le_sz (by simp), fun p hp => ?_⟩
      have s2 : Same H (upd H1 p (.lst [])) := same_in_upd s1 (s1.free hp)
      walk_at "go"
      refine ⟨⟨_, SqT.of (s2 _ _ ht)⟩, for_itD walk_tup (fun j σ H' => ∃ u, σ = [some (.ref x), some (.ref t), u, some (.ref p)] ∧ Same H H' ∧ H' p = some (.lst (((ms.take j).map Mem.name).map V.str))) ⟨none, rfl, s2, upd_same⟩ (fun _ _ _ _ ⟨_, _, s3, _⟩ => SqT.of (s3 _ _ ht)) ?_ ?_⟩
      · rintro j y σ H3 H4 hj ⟨u, rfl, s3, hp3⟩ ⟨rfl, hy⟩
        obtain ⟨m, hm, r⟩ := al.get hy
        have lj : j < ms.length := by omega
        have ej : (ms.take (j + 1)).map Mem.name = (ms.take j).map Mem.name ++ [m.name] := by
          rw [List.take_add_one, hm]
          simp
        have nin : ¬ m.name ∈ (ms.take j).map Mem.name := by
          intro z
          have nd1 : ((ms.take (j + 1)).map Mem.name).Nodup := by
            rw [List.map_take]
            exact nd.sublist (List.take_sublist _ _)
          rw [ej] at nd1
          exact (List.nodup_append.mp nd1).2.2 _ z _ (by simp) rfl
        walk_at "go"
        refine memName Z (r.same s3) ?_
        walk_at "go"
        refine ⟨p, _, rfl, .inl (SqL.of hp3), rfl, flat_strs _, ?_⟩
        rw [if_neg (by decide), inV_strs, decide_eq_false nin]
        walk_at "go"
        refine ⟨.inl ⟨rfl, _, SqL.of hp3⟩, ?_⟩
        walk_at "go"
        refine memName Z (r.same s3) ?_
        walk_at "go"
        refine i_append hp3 (lt_sz (by simp; omega)) ?_
        walk_at "go"
        refine ⟨_, rfl, same_in_upd s3 (s1.free hp), ?_⟩
        rw [ej, List.map_append]
        exact upd_same
      · rintro σ H3 ⟨u, rfl, s3, hp3⟩
        walk_at "go"
        refine i_putx (s3 _ _ hx) Z.cC Z.cMembers (by decide) ?_
        exact k _ (fun b o hb e => upd_ne2 hb (s3 _ _ e)) upd_same
end
end K19
namespace K19
open PySem L2
open PyProof.Rows (envOfC)
/-- each tool with the due of each that holds it -/
def pairs (ms : List Mem) : List (Str × Int) := ms.flatMap fun m => m.holds.map fun h => (h.tool, m.due)
/-- the dict tells each tool's least due -/
def Lv (ps : List (Str × Int)) (kvs : List (Key × V)) : Prop := ∀ t : Str, (valV kvs (.inr t) = none ∧ ∀ d, (t, d) ∉ ps) ∨ ∃ l, valV kvs (.inr t) = some (.int l) ∧ (t, l) ∈ ps ∧ ∀ d, (t, d) ∈ ps → l ≤ d
theorem Lv.put {ps : List (Str × Int)} {kvs : List (Key × V)} (h : Lv ps kvs) (t : Str) (d i : Int) (hi : (valV kvs (.inr t)).getD (.int d) = .int i) : Lv (ps ++ [(t, d)]) (putK kvs (.inr t) (.int (if d < i then d else i))) := by
  intro u
  rw [valV_put]
  by_cases e : u = t
  · subst e
    rw [if_pos rfl]
    right
    refine ⟨_, rfl, ?_⟩
    rcases h u with ⟨a, b⟩ | ⟨l, a, b, c⟩
    · rw [a] at hi
      have hd : d = i := V.int.inj hi
      subst hd
      refine ⟨by simp, fun x hx => ?_⟩
      rcases List.mem_append.mp hx with z | z
      · exact absurd z (b x)
      · simp at z
        subst z
        split <;> omega
    · rw [a] at hi
      have hd : l = i := V.int.inj hi
      subst hd
      refine ⟨?_, fun x hx => ?_⟩
      · split
        · simp
        · exact List.mem_append_left _ b
      · rcases List.mem_append.mp hx with z | z
        · have := c x z
          split <;> omega
        · simp at z
          subst z
          split <;> omega
  · have ne : ¬ (Sum.inr u : Key) = .inr t := fun z => e (Sum.inr.inj z)
    rw [if_neg ne]
    rcases h u with ⟨a, b⟩ | ⟨l, a, b, c⟩
    · refine .inl ⟨a, fun x hx => ?_⟩
      rcases List.mem_append.mp hx with z | z
      · exact b x z
      · simp at z
        exact e z.1
    · refine .inr ⟨l, a, List.mem_append_left _ b, fun x hx => ?_⟩
      rcases List.mem_append.mp hx with z | z
      · exact c x z
      · simp at z
        exact absurd z.1 e
theorem i_dnewK {H : Hp} {σ : L2.St} {Q : VK} (q : ∀ p, H p = none → Q (.ref p) (upd H p (.dK []))) : tDNewK σ H Q := q
theorem i_dput {td ty tv : TE} {D : Ends} {σ : L2.St} {H : Hp} (q : tv σ H fun v H1 => td σ H1 fun x H2 => ty σ H2 fun y H3 => ∃ a H4, x = .ref a ∧ DPut H3 a y v H4 ∧ D.nx σ H4) : sDPut td ty tv D σ H := q
theorem i_dget2 {td ty tx : TE} {σ : L2.St} {H : Hp} {Q : VK} (q : td σ H fun x H1 => ∃ a, x = .ref a ∧ IsD H1 a ∧ ty σ H1 fun y H2 => tx σ H2 fun z H3 => ∃ o, DGet H3 a y o ∧ Q (o.getD z) H3) : tDGet2 td ty tx σ H Q := q
theorem i_dget {td ty : TE} {σ : L2.St} {H : Hp} {Q : VK} (q : td σ H fun x H1 => ty σ H1 fun y H2 => ∃ a v, x = .ref a ∧ DGet H2 a y (some v) ∧ Q v H2) : tDGet td ty σ H Q := q
section
variable {P : Program} {w : World} {K : PySem.W.Frag} {mg : Str → Option Value} {base : Heap} {gT gD gC : Addr}
def spToolLevels (gT gD : Addr) : Sp := fun vs H Q _ => ∃ t ms, vs = [.ref t] ∧ MemsAt gT gD H t ms ∧ ms.length ≤ 8 ∧ (∀ m ∈ ms, m.holds.length ≤ 4) ∧ ∀ d kvs H', Same H H' → H' d = some (.dK kvs) → Lv (pairs ms) kvs → Q (.ref d) H'
theorem ok_pToolLevels (F : Fx K mg "tool_levels" s_pToolLevels a_pToolLevels) (T : Txt K mg) (C_pHoldsOf : Cal P w K mg base 1 "holds_of" a_pHoldsOf (spHoldsOf gT gD)) (C_pDueOf : Cal P w K mg base 1 "due_of" a_pDueOf (spDueOf gT gD)) :
    Cal P w K mg base 2 "tool_levels" a_pToolLevels (spToolLevels gT gD) := by
  refine cal_of F sc_pToolLevels (fun vs H Q E h => ?_) (fun f cdv A outer s H vs Q E hr h => ?_)
  · obtain ⟨t, ms, rfl, _⟩ := h
    rfl
  · obtain ⟨t, ms, rfl, ⟨xs, ht, al⟩, few, few4, k⟩ := h
    have hu : (A.deeper (envOfC "tool_levels" (defScope s_pToolLevels) s.heap.objs.size f cdv)).units + 1 < cLine := by
      have := hr.units
      omega
    refine ⟨_, (pss_cons (ps_set (i := 1) sc_pToolLevels.nd rfl (Or.inl rfl) pe_dnewK)
  (pss_cons (ps_for PassesOwn.never rfl (pi_tup (pv 0)) (pg_name (i := 2) sc_pToolLevels.nd rfl (Or.inl rfl))
  (pss_one (ps_for PassesOwn.never rfl (pi_tup (pe_cal C_pHoldsOf (hr.mono (by decide)) (pa_cons (pv 2) pa_nil))) (pg_tup rfl (pgs_cons (pg_name (i := 3) sc_pToolLevels.nd rfl (Or.inl rfl)) (pgs_cons (pg_name (i := 4) sc_pToolLevels.nd rfl (Or.inl rfl)) (pgs_cons (pg_name (i := 5) sc_pToolLevels.nd rfl (Or.inl rfl)) pgs_nil))))
  (pss_one (ps_dput hu (pv 1) (pv 3) (pe_callB (call_min2 rfl) (by rfl) T.min (by decide +kernel) (pa_cons (pe_dget2 hu (pv 1) (pv 3) (pe_cal C_pDueOf (hr.mono (by decide)) (pa_cons (pv 2) pa_nil)) ⟨rfl, rfl, rfl, rfl⟩) (pa_cons (pe_cal C_pDueOf (hr.mono (by decide)) (pa_cons (pv 2) pa_nil)) pa_nil))) rfl)))))
  (pss_one (ps_ret (pv 1))))), ?_⟩
    try dsimp only [cxOf]
    refine at_ [some (.ref t), none, none, none, none, none] rfl ?_
    walk_at "go"
    refine i_dnewK fun D hD => ?_
    walk_at "go"
    have s0 : Same H (upd H D (.dK [])) := same_of_upd hD
    refine ⟨⟨_, SqT.of (s0 _ _ ht)⟩, for_itD walk_tup (fun i σ H' => ∃ u1 u2 u3 u4, σ = [some (.ref t), some (.ref D), u1, u2, u3, u4] ∧ Same H H' ∧ ∃ kvs, H' D = some (.dK kvs) ∧ Lv (pairs (ms.take i)) kvs ∧ kvs.length ≤ 4 * i)
      ⟨none, none, none, none, rfl, s0, [], upd_same, fun u => .inl ⟨rfl, fun d z => by simp [pairs] at z⟩, Nat.le_refl _⟩ (fun _ _ _ _ ⟨_, _, _, _, _, s3, _⟩ => SqT.of (s3 _ _ ht)) ?_ ?_⟩
    · rintro i x σ H1 H2 hi ⟨u1, u2, u3, u4, rfl, s1, kvs, hd, lv, ln⟩ ⟨rfl, hx⟩
      obtain ⟨m, hm, r⟩ := al.get hx
      have lm : m.holds.length ≤ 4 := few4 m (List.mem_of_getElem? hm)
      have li : i < ms.length := (List.getElem?_eq_some_iff.mp hm).1
      walk_at "go"
      refine ⟨x, m, rfl, r.same s1, fun g H3 s3 hg => ?_⟩
      obtain ⟨hs, eg, ah⟩ := hg
      refine ⟨g, rfl, ⟨hs, SqT.of eg⟩, for_itD walk_tup (fun j σ H' => ∃ u2 u3 u4, σ = [some (.ref t), some (.ref D), some x, u2, u3, u4] ∧ NL H3 H' ∧ Same H H' ∧ ∃ kvs, H' D = some (.dK kvs) ∧ Lv (pairs (ms.take i) ++ (m.holds.take j).map fun h => (h.tool, m.due)) kvs ∧ kvs.length ≤ 4 * i + j)
        ⟨u2, u3, u4, rfl, fun _ _ _ e => e, s1.trans s3, kvs, s3 _ _ hd, by simpa using lv, by omega⟩ (fun _ _ _ _ ⟨_, _, _, _, n, _⟩ => SqT.of (n _ _ rfl eg)) ?_ ?_⟩
      · rintro j y σ H4 H5 hj ⟨v2, v3, v4, rfl, n4, s4, kv, hd4, lv4, ln4⟩ ⟨rfl, hy⟩
        obtain ⟨h, hh, rh⟩ := ah.get hy
        have lj : j < m.holds.length := (List.getElem?_eq_some_iff.mp hh).1
        obtain ⟨th, rfl, eth⟩ := rh.nl n4
        have rm : MemAt gT gD H5 x m := r.same s4
        walk_at "go"
        refine i_dput ?_
        walk_at "go"
        refine i_dget2 ?_
        walk_at "go"
        refine ⟨.inl ⟨kv, .inl hd4⟩, ?_⟩
        walk_at "go"
        refine ⟨x, m, rfl, rm, _, DGet.k (k := .inr h.tool) hd4, ?_⟩
        walk_at "go"
        refine ⟨x, m, rfl, rm, ?_⟩
        obtain ⟨l, el⟩ : ∃ l, (valV kv (.inr h.tool)).getD (.int m.due) = .int l := by
          rcases lv4 h.tool with ⟨z, _⟩ | ⟨l, z, _⟩
          · exact ⟨m.due, by rw [z]; rfl⟩
          · exact ⟨l, by rw [z]; rfl⟩
        rw [el]
        walk_at "go"
        refine ⟨D, _, rfl, DPut.k (k := .inr h.tool) hd4 (lt_sz (by omega)), ?_⟩
        refine ⟨_, _, _, rfl, n4.trans (nl_upd hd4 rfl), same_in_upd s4 hD, _, upd_same, ?_, ?_⟩
        · rw [List.take_add_one, hh, List.map_append, ← List.append_assoc]
          exact lv4.put h.tool m.due l el
        · have := length_putK kv (.inr h.tool) (.int (if m.due < l then m.due else l))
          omega
      · rintro σ H4 ⟨v2, v3, v4, rfl, n4, s4, kv, hd4, lv4, ln4⟩
        refine ⟨_, _, _, _, rfl, s4, kv, hd4, ?_, ?_⟩
        · rw [List.take_add_one, hm]
          have e : pairs (ms.take i ++ (some m).toList) = pairs (ms.take i) ++ m.holds.map fun h => (h.tool, m.due) := by simp [pairs]
          rw [e]
          have e2 : hs.length = m.holds.length := ah.1
          rw [e2, List.take_length] at lv4
          exact lv4
        · have e2 : hs.length = m.holds.length := ah.1
          omega
    · rintro σ H1 ⟨u1, u2, u3, u4, rfl, s1, kvs, hd, lv, ln⟩
      walk_at "go"
      rw [al.1, List.take_length] at lv
      exact k D kvs H1 s1 hd lv
end
end K19
namespace K19
open PySem L2
open PyProof.Rows (envOfC)
/-- a truth as a value -/
noncomputable def pd (p : Prop) : Bool := @decide p (Classical.propDecidable p)
theorem pd_iff {p : Prop} : pd p = true ↔ p := @decide_eq_true_iff p (Classical.propDecidable p)
def toolsAt (m : Mem) (d : Int) : List Str := m.holds.filterMap fun h => if h.begin_ < d ∧ d < h.begin_ + h.long then some h.tool else none
/-- one of the tools is wanted by one who is due no later -/
def HeldUp (ps : List (Str × Int)) (due : Int) (tools : List Str) : Prop := ∃ t ∈ tools, ∃ d, (t, d) ∈ ps ∧ d ≤ due
section
variable {P : Program} {w : World} {K : PySem.W.Frag} {mg : Str → Option Value} {base : Heap} {gT gD gC : Addr}
def spRank : Sp := fun vs H Q _ => ∃ p d c, vs = [.int p, .int d, .int c] ∧ ∀ t, H t = none → Q (.ref t) (upd H t (.tup [.int d, .int p, .int c]))
theorem ok_pRankOf (F : Fx K mg "rank_of" s_pRankOf a_pRankOf) : Cal P w K mg base 1 "rank_of" a_pRankOf spRank := by
  refine cal_of F sc_pRankOf (fun vs H Q E h => ?_) (fun f cdv A outer s H vs Q E hr h => ?_)
  · obtain ⟨p, d, c, rfl, _⟩ := h
    rfl
  · obtain ⟨p, d, c, rfl, k⟩ := h
    refine ⟨_, (pss_one (ps_ret (pe_tup (pa_cons (pv 1) (pa_cons (pv 0) (pa_cons (pv 2) pa_nil)))))), ?_⟩
    try dsimp only [cxOf]
    refine at_ [some (.int p), some (.int d), some (.int c)] rfl ?_
    walk_at "go"
    exact ⟨le_sz (by simp), fun t ht => k t ht⟩
def spToolsAt (gT gD : Addr) : Sp := fun vs H Q _ => ∃ v d m, vs = [v, .int d] ∧ MemAt gT gD H v m ∧ m.holds.length ≤ 4 ∧ ∀ D H', Same H H' → H' D = some (.lst ((toolsAt m d).map V.str)) → Q (.ref D) H'
theorem ok_pToolsAt (F : Fx K mg "tools_at" s_pToolsAt a_pToolsAt) (T : Txt K mg) (C_pHoldsOf : Cal P w K mg base 1 "holds_of" a_pHoldsOf (spHoldsOf gT gD)) : Cal P w K mg base 2 "tools_at" a_pToolsAt (spToolsAt gT gD) := by
  refine cal_of F sc_pToolsAt (fun vs H Q E h => ?_) (fun f cdv A outer s H vs Q E hr h => ?_)
  · obtain ⟨v, d, m, rfl, _⟩ := h
    rfl
  · obtain ⟨v, d, m, rfl, r, few, k⟩ := h
    refine ⟨_, (pss_one (ps_ret (pe_lc (own := [("tool", 2), ("begin", 3), ("size", 4)]) (g := gTup K 3 (gCons (gName 2) (gCons (gName 3) (gCons (gName 4) gNil)))) (tt := _) (te := _) rfl sc_pToolsAt.nd (pi_tup (pe_cal C_pHoldsOf (hr.mono (by decide)) (pa_cons (pv 0) pa_nil))) (blkOk_by (N := n_pToolsAt) (sc := defScope s_pToolsAt) (by decide +kernel)) (fun _ _ _ _ _ => (pg_tup rfl (pgs_cons (pg_name (i := 2) sc_pToolsAt.nd rfl (Or.inl rfl)) (pgs_cons (pg_name (i := 3) sc_pToolsAt.nd rfl (Or.inl rfl)) (pgs_cons (pg_name (i := 4) sc_pToolsAt.nd rfl (Or.inl rfl)) pgs_nil))))) (fun _ _ _ _ _ => pts_one (pt_chain op_lt op_lt (pv 3) (pv 1) (pe_op op_add (pv 3) (pv 4)))) (fun _ _ _ _ _ => (pv 2))))), ?_⟩
    try dsimp only [cxOf]
    refine at_ [some v, some (.int d), none, none, none] rfl ?_
    walk_at "go"
    refine ⟨v, m, rfl, r, fun g H1 s1 ⟨hs, eg, ah⟩ => ?_⟩
    refine ⟨g, rfl, ⟨hs, SqT.of eg⟩, fun D hD => lcm_t (SqT.of eg) hD ah.1 (by omega) [some v, some (.int d), none, none, none] rfl (fun h => if h.begin_ < d ∧ d < h.begin_ + h.long then some (V.str h.tool) else none) (fun i x h H2 R hx hh s2 q => ?_) fun H2 s2 e => ?_⟩
    · obtain ⟨t, rfl, et⟩ := (ah.2 i x h hx hh).nl (same_nl s2)
      have q1 := q _ (Same.refl H2)
      walk_at "go"
      refine ⟨rfl, ?_⟩
      walk_at "go"
      by_cases c1 : h.begin_ < d
      · refine i_decT c1 ?_
        walk_at "go"
        refine i_dec (fun c2 => ?_) (fun c2 => ?_)
        · walk_at "go"
          rw [if_pos ⟨c1, c2⟩] at q1
          exact q1
        · rw [if_neg (fun z => c2 z.2)] at q1
          exact q1
      · refine i_decF c1 ?_
        walk_at "go"
        rw [if_neg (fun z => c1 z.1)] at q1
        exact q1
    · have e2 : (m.holds.filterMap fun h => if h.begin_ < d ∧ d < h.begin_ + h.long then some (V.str h.tool) else none) = (toolsAt m d).map V.str := by
        unfold toolsAt
        rw [List.map_filterMap]
        congr 1
        funext h
        split <;> rfl
      rw [e2] at e
      exact k D H2 (s1.trans s2) e
def spIsHeldUp (K : PySem.W.Frag) : Sp := fun vs H Q _ => ∃ d due l kvs ps tools, vs = [.ref d, .int due, .ref l] ∧ H d = some (.dK kvs) ∧ Lv ps kvs ∧ SqL K H l (tools.map V.str) ∧ tools.length ≤ 4000000 ∧ (∀ t ∈ tools, ∃ x, (t, x) ∈ ps) ∧
  ∀ b H', Same H H' → (b = true ↔ HeldUp ps due tools) → Q (.bl b) H'
theorem ok_pIsHeldUp (F : Fx K mg "is_held_up" s_pIsHeldUp a_pIsHeldUp) (T : Txt K mg) : Cal P w K mg base 1 "is_held_up" a_pIsHeldUp (spIsHeldUp K) := by
  refine cal_of F sc_pIsHeldUp (fun vs H Q E h => ?_) (fun f cdv A outer s H vs Q E hr h => ?_)
  · obtain ⟨d, due, l, kvs, ps, tools, rfl, _⟩ := h
    rfl
  · obtain ⟨d, due, l, kvs, ps, tools, rfl, hd, lv, hl, few, has, k⟩ := h
    have hu : (A.deeper (envOfC "is_held_up" (defScope s_pIsHeldUp) s.heap.objs.size f cdv)).units + 1 < cLine := by
      have := hr.units
      omega
    refine ⟨_, (pss_one (ps_ret (pe_callB (cr_any rfl) (by rfl) T.any (by decide +kernel) (pa_cons (pe_lc (own := [("tool", 3)]) (tt := tYes) (te := _) rfl sc_pIsHeldUp.nd (pi_list (pv 2)) (blkOk_by (N := n_pIsHeldUp) (sc := defScope s_pIsHeldUp) (by decide +kernel)) (fun _ _ _ _ _ => (pg_name (i := 3) sc_pIsHeldUp.nd rfl (Or.inl rfl))) (fun _ _ _ _ _ => pts_nil) (fun _ _ _ _ _ => (pe_cmpR op_le (pe_dget hu (pv 0) (pv 3) (fun _ _ => rfl)) (pv 1) (nomark _)))) pa_nil)))), ?_⟩
    try dsimp only [cxOf]
    refine at_ [some (.ref d), some (.int due), some (.ref l), none] rfl ?_
    walk_at "go"
    refine ⟨⟨_, hl⟩, fun D hD => lcm_l (ys := tools) hl hD (by simp) few [some (.ref d), some (.int due), some (.ref l), none] rfl (fun t => some (V.bl (pd (∃ x, (t, x) ∈ ps ∧ x ≤ due)))) (fun i x t H2 R hx ht s2 q => ?_) fun H2 s2 e => ?_⟩
    · have ex : x = V.str t := by
        rw [List.getElem?_map, ht] at hx
        exact (Option.some.inj hx).symm
      subst ex
      have hd2 := s2 _ _ hd
      walk_at "go"
      refine ⟨rfl, ?_⟩
      walk_at "go"
      refine i_dget ?_
      walk_at "go"
      rcases lv t with ⟨_, no⟩ | ⟨x, e1, e2, e3⟩
      · obtain ⟨x, hx⟩ := has t (List.mem_of_getElem? ht)
        exact absurd hx (no x)
      · have g := DGet.k (k := .inr t) hd2
        rw [e1] at g
        refine ⟨d, _, rfl, g, ?_⟩
        walk_at "go"
        have q1 := q _ (Same.refl H2)
        have eb : decide (x ≤ due) = pd (∃ x, (t, x) ∈ ps ∧ x ≤ due) := by
          apply Bool.eq_iff_iff.mpr
          rw [decide_eq_true_iff, pd_iff]
          exact ⟨fun z => ⟨x, e2, z⟩, fun ⟨y, h1, h2⟩ => Int.le_trans (e3 y h1) h2⟩
        rw [eb]
        exact q1
    · rw [fm_some] at e
      have e' : H2 D = some (.lst ((tools.map fun t => pd (∃ x, (t, x) ∈ ps ∧ x ≤ due)).map V.bl)) := by
        rw [List.map_map]
        exact e
      refine ⟨D, _, rfl, SqL.of e', ?_⟩
      refine k _ _ s2 ?_
      rw [List.any_map, List.any_eq_true]
      constructor
      · rintro ⟨t, ht, z⟩
        obtain ⟨x, h1, h2⟩ := pd_iff.mp z
        exact ⟨t, ht, x, h1, h2⟩
      · rintro ⟨t, ht, x, h1, h2⟩
        exact ⟨t, ht, pd_iff.mpr ⟨x, h1, h2⟩⟩
end
end K19
namespace K19
open PySem L2
open PyProof.Rows (envOfC)
/-- a work as it is put to the rule: whose, when it came, how much of it is done -/
structure Wk where
  name : Str
  comes : Int
  done : Int
def WorkT (H : Hp) (v : V) (k : Wk) : Prop := ∃ t, v = .ref t ∧ H t = some (.tup [.str k.name, .int k.comes, .int k.done])
theorem WorkT.nl {H H' : Hp} (n : NL H H') {v : V} {k : Wk} (a : WorkT H v k) : WorkT H' v k := by
  obtain ⟨t, e, z⟩ := a
  exact ⟨t, e, n _ _ rfl z⟩
def WorksT (H : Hp) (t : Addr) (ws : List Wk) : Prop := ∃ xs, H t = some (.tup xs) ∧ All2 (WorkT H) xs ws
theorem WorksT.nl {H H' : Hp} (n : NL H H') {t : Addr} {ws : List Wk} (a : WorksT H t ws) : WorksT H' t ws := by
  obtain ⟨xs, e, z⟩ := a
  exact ⟨xs, n _ _ rfl e, z.mono fun _ _ _ _ => WorkT.nl n⟩
/-- a work of one of the members -/
def WkOk (ms : List Mem) (k : Wk) : Prop := (0 ≤ k.comes ∧ k.comes ≤ 1000000000000) ∧ 0 ≤ k.done ∧ ∃ m ∈ ms, m.name = k.name ∧ k.done < m.cost
structure CrewOk (ms : List Mem) : Prop where
  few : ms.length ≤ 8
  nd : NamesNd ms
  each : ∀ m ∈ ms, MemOk m
section
variable {P : Program} {w : World} {K : PySem.W.Frag} {mg : Str → Option Value} {base : Heap} {gT gD gC : Addr}
def spIsWork (gT gD gC : Addr) : Sp := fun vs H Q _ => ∃ c v ms k, vs = [c, v] ∧ CrewAt gT gD gC H c ms ∧ CrewOk ms ∧ WorkT H v k ∧ WkOk ms k ∧ ∀ H', Same H H' → Q (.bl true) H'
theorem ok_pIsWork (F : Fx K mg "is_work" s_pIsWork a_pIsWork) (T : Txt K mg) (Z : Kl K mg gT gD gC) (C_pCrewNames : CalM P w K mg base gC 1 "names" a_pCrewNames (spNames gT gD gC)) (C_pCrewNamed : CalM P w K mg base gC 1 "named" a_pCrewNamed (spNamed gT gD gC))
    (C_pIsWithin : Cal P w K mg base 2 "is_within" a_pIsWithin spWithin) (C_pCostOf : Cal P w K mg base 1 "cost_of" a_pCostOf (spCostOf gT gD)) : Cal P w K mg base 3 "is_work" a_pIsWork (spIsWork gT gD gC) := by
  refine cal_of F sc_pIsWork (fun vs H Q E h => ?_) (fun f cdv A outer s H vs Q E hr h => ?_)
  · obtain ⟨c, v, ms, k, rfl, _⟩ := h
    rfl
  · obtain ⟨c, v, ms, k, rfl, hc, ok, ⟨t, rfl, ht⟩, ⟨⟨c1, c2⟩, d1, m, hm, en, d2⟩, q⟩ := h
    have hc0 := hc
    obtain ⟨a, dx, ta, rfl, ha, hms⟩ := hc0
    refine ⟨_, (pss_cons (ps_if (PW.pt (pw_or (pt_not (pt_val (pe_callB call_isi (by rfl) T.isinstance (by decide +kernel) (pa_cons (pv 1) (pa_cons (pe_bltn (v := .ty "tuple") (by rfl) T.tuple (by decide +kernel) rfl) pa_nil))))) (pw_or (pt_cmpR op_ne (pe_callB call_len_seq (by rfl) T.len (by decide +kernel) (pa_cons (pv 1) pa_nil)) pe_int (nomark _)) (pw_or1 (pt_not (pt_val (pe_callB call_isi (by rfl) T.isinstance (by decide +kernel) (pa_cons (pe_ix ix_tup (pv 1) pe_int (fun _ _ => rfl)) (pa_cons (pe_bltn (v := .ty "str") (by rfl) T.str (by decide +kernel) rfl) pa_nil)))))))))
  (pss_one (ps_ret pe_bl))
  pss_nil)
  (pss_cons (ps_asg (pv 1) (pg_tup rfl (pgs_cons (pg_name (i := 2) sc_pIsWork.nd rfl (Or.inl rfl)) (pgs_cons (pg_name (i := 3) sc_pIsWork.nd rfl (Or.inl rfl)) (pgs_cons (pg_name (i := 4) sc_pIsWork.nd rfl (Or.inl rfl)) pgs_nil)))))
  (pss_cons (ps_if (PW.pt (pw_or (pt_cmpR op_notIn_seq (pv 2) (pe_cam0 C_pCrewNames Z.cC (hr.mono (by decide)) (pv 0)) rfl) (pw_or1 (pt_not (pt_val (pe_cal C_pIsWithin (hr.mono (by decide)) (pa_cons (pv 3) (pa_cons pe_int (pa_cons (pe_glob (v := .int 1000000000000) rfl T.lastPoint.choose_spec ⟨_, rfl⟩) pa_nil)))))))))
  (pss_one (ps_ret pe_bl))
  pss_nil)
  (pss_one (ps_ret (pe_cal C_pIsWithin (hr.mono (by decide)) (pa_cons (pv 4) (pa_cons pe_int (pa_cons (pe_op op_sub (pe_cal C_pCostOf (hr.mono (by decide)) (pa_cons (pe_cam1 C_pCrewNamed Z.cC (hr.mono (by decide)) (pv 0) (pa_cons (pv 2) pa_nil)) pa_nil)) pe_int) pa_nil))))))))), ?_⟩
    try dsimp only [cxOf]
    refine at_ [some (.ref a), some (.ref t), none, none, none] rfl ?_
    walk_at "go"
    refine i_nDecT rfl ?_
    walk_at "go"
    refine i_meth ?_
    walk_at "go"
    refine ⟨a, dx, _, rfl, ha, rfl, ?_⟩
    walk_at "go"
    refine ⟨_, ms, rfl, hc, ok.few, fun tn H1 s1 hn => ?_⟩
    have mem : k.name ∈ ms.map Mem.name := List.mem_map.mpr ⟨m, hm, en⟩
    refine ⟨tn, _, rfl, .inr hn.sq, rfl, flat_strs _, ?_⟩
    rw [if_pos rfl, inV_strs, decide_eq_true mem]
    walk_at "go"
    refine ⟨_, _, _, rfl, c1, c2, true, rfl, ?_⟩
    walk_at "go"
    refine i_meth ?_
    walk_at "go"
    refine ⟨a, dx, _, rfl, s1 _ _ ha, rfl, ?_⟩
    walk_at "go"
    refine ⟨_, _, ms, m, rfl, hc.nl (same_nl s1), ok.nd, hm, en, fun v hv => ?_⟩
    walk_at "go"
    refine ⟨v, m, rfl, hv, ?_⟩
    walk_at "go"
    exact ⟨_, _, _, rfl, d1, by omega, q _ s1⟩
theorem i_enN {K : PySem.W.Frag} {σ : L2.St} {H : Hp} {ta : TA} {R : It → Hp → Prop} (q : ta σ H fun vs H1 => ∃ a xs, vs = [.ref a] ∧ SqT K H1 a xs ∧ R (ItN K a) H1) : iEnN K ta σ H R := q
/-- whose, and when: as data -/
def keyD (z : Str × Int) : PyData := .tuple [.str z.1, .int z.2]
theorem eqv_keyD (a b : Str × Int) : PyData.eqv (keyD a) (keyD b) = decide (a = b) := by
  obtain ⟨a1, a2⟩ := a
  obtain ⟨b1, b2⟩ := b
  unfold keyD
  simp only [PyData.eqv, PyData.eqvAll, Bool.and_true]
  by_cases h1 : a1 = b1 <;> by_cases h2 : a2 = b2 <;> simp [h1, h2]
theorem strOk_name {x : Str} (h : IsName x) : PyData.strOk x = true := by
  unfold PyData.strOk
  rw [Array.all_eq_true_iff_forall_mem]
  intro c hc
  have := h.2.2 c (by simpa using hc)
  exact decide_eq_true (by omega)
def KnownAt (K : PySem.W.Frag) (H : Hp) (v : V) (z : Str × Int) : Prop := ∃ p, v = .ref p ∧ SqT K H p [.str z.1, .int z.2]
theorem nl_tup {H H' : Hp} (n : NL H H') {a : Addr} {xs : List V} (h : SqT K H a xs) : SqT K H' a xs := by
  rcases h with h | h
  · rcases h with h | ⟨o, h⟩
    · exact .inl (.inl (n _ _ rfl h))
    · exact .inl (.inr ⟨o, n _ _ rfl h⟩)
  · exact .inr h
theorem KnownAt.nl {H H' : Hp} (n : NL H H') {v : V} {z : Str × Int} (a : KnownAt K H v z) : KnownAt K H' v z := by
  obtain ⟨p, e, h⟩ := a
  exact ⟨p, e, nl_tup n h⟩
theorem dp_known {H : Hp} : ∀ {vs : List V} {zs : List (Str × Int)}, All2 (KnownAt K H) vs zs → DpAll K H vs (zs.map keyD)
  | [], [], _ => .nil
  | [], _ :: _, h => absurd h.1 (by simp)
  | _ :: _, [], h => absurd h.1 (by simp)
  | v :: vs, z :: zs, h => by
    obtain ⟨p, rfl, e⟩ := h.2 0 v z rfl rfl
    exact .cons (.tup e (.cons (.str _) (.cons (.int _) .nil))) (dp_known ⟨by simpa using h.1, fun i x y h1 h2 => h.2 (i + 1) x y (by simpa using h1) (by simpa using h2)⟩)
theorem shaped_keyD {z : Str × Int} (h : IsName z.1) : SeqAt.shaped (keyD z) = true := by
  have := strOk_name h
  simp [SeqAt.shaped, keyD, PyData.canLay0, PyData.canLayAll0, PyData.depth, PyData.depthAll, this]
theorem shaped_keys {zs : List (Str × Int)} (h : ∀ z ∈ zs, IsName z.1) : SeqAt.shaped (.list (zs.map keyD)) = true := by
  have e : PyData.canLayAll0 (zs.map keyD) = true ∧ PyData.depthAll (zs.map keyD) ≤ 3 := by
    induction zs with
    | nil => simp [PyData.canLayAll0, PyData.depthAll]
    | cons a r ih =>
      obtain ⟨h1, h2⟩ := ih fun z hz => h z (List.mem_cons_of_mem _ hz)
      have := strOk_name (h a List.mem_cons_self)
      rw [List.map_cons]
      unfold PyData.canLayAll0 PyData.depthAll
      refine ⟨by rw [h1]; simp [keyD, PyData.canLay0, PyData.canLayAll0, this], ?_⟩
      have : (keyD a).depth ≤ 3 := by simp [keyD, PyData.depth, PyData.depthAll]
      omega
  unfold SeqAt.shaped
  simp only [PyData.canLay0, PyData.depth, e.1]
  simp
  omega
/-- whose and when -/
def Wk.key (k : Wk) : Str × Int := (k.name, k.comes)
structure WorksOk (ms : List Mem) (ws : List Wk) : Prop where
  few : ws.length ≤ 20000
  each : ∀ k ∈ ws, WkOk ms k
  nd : (ws.map Wk.key).Nodup
def spCheckWorks (gT gD gC : Addr) : Sp := fun vs H Q _ => ∃ c t ms ws, vs = [c, .ref t] ∧ CrewAt gT gD gC H c ms ∧ CrewOk ms ∧ WorksT H t ws ∧ WorksOk ms ws ∧ ∀ H', Same H H' → Q .non H'
theorem ok_pCheckWorks (F : Fx K mg "check_works" s_pCheckWorks a_pCheckWorks) (T : Txt K mg) (C_pIsWork : Cal P w K mg base 3 "is_work" a_pIsWork (spIsWork gT gD gC)) : Cal P w K mg base 4 "check_works" a_pCheckWorks (spCheckWorks gT gD gC) := by
  refine cal_of F sc_pCheckWorks (fun vs H Q E h => ?_) (fun f cdv A outer s H vs Q E hr h => ?_)
  · obtain ⟨c, t, ms, ws, rfl, _⟩ := h
    rfl
  · obtain ⟨c, t, ms, ws, rfl, hc, ok, ⟨xs, ht, al⟩, wok, k⟩ := h
    have hu65 : (A.deeper (envOfC "check_works" (defScope s_pCheckWorks) s.heap.objs.size f cdv)).units + 65 < cLine := by
      have := hr.un
      omega
    have few := wok.few
    refine ⟨_, (pss_cons (ps_if (pt_not (pt_val (pe_callB call_isi (by rfl) T.isinstance (by decide +kernel) (pa_cons (pv 1) (pa_cons (pe_bltn (v := .ty "tuple") (by rfl) T.tuple (by decide +kernel) rfl) pa_nil)))))
  (pss_one ps_never)
  pss_nil)
  (pss_cons (ps_set (i := 2) sc_pCheckWorks.nd rfl (Or.inl rfl) (pe_lst pa_nil))
  (pss_one (ps_for PassesOwn.never rfl (pi_enumT rfl T.enumerate (pa_cons (pv 1) pa_nil)) (pg_tup rfl (pgs_cons (pg_name (i := 3) sc_pCheckWorks.nd rfl (Or.inl rfl)) (pgs_cons (pg_name (i := 4) sc_pCheckWorks.nd rfl (Or.inl rfl)) pgs_nil)))
  (pss_cons (ps_if (PW.pt (pw_or (pt_not (pt_val (pe_cal C_pIsWork (hr.mono (by decide)) (pa_cons (pv 0) (pa_cons (pv 4) pa_nil))))) (pw_or1 (pt_cmpR (op_inD hu65) (pe_slice sl_tupA (pv 4) po_none (po_some pe_int)) (pv 2) rfl))))
  (pss_one ps_never)
  pss_nil)
  (pss_one (ps_expr (pe_bm PySem.F.plainAttrs_list PySem.F.slot_list_append PySem.F.type_list_append mt_append (pv 2) (pa_cons (pe_slice sl_tupA (pv 4) po_none (po_some pe_int)) pa_nil))))))))), ?_⟩
    try dsimp only [cxOf]
    refine at_ [some c, some (.ref t), none, none, none] rfl ?_
    walk_at "go"
    refine ⟨le_sz (by simp), fun L hL => ?_⟩
    have s0 : Same H (upd H L (.lst [])) := same_of_upd hL
    walk_at "go"
    have tn : ∀ i, (ws.take i).map Wk.key = ((ws.map Wk.key).take i) := fun i => by rw [List.map_take]
    refine i_enN ?_
    walk_at "go"
    refine ⟨t, xs, rfl, SqT.of (s0 _ _ ht), for_enumT xs (fun i σ H' => ∃ u1 u2, σ = [some c, some (.ref t), some (.ref L), u1, u2] ∧ Same H H' ∧ ∃ ks, H' L = some (.lst ks) ∧ All2 (KnownAt K H') ks ((ws.take i).map Wk.key))
      ⟨none, none, rfl, s0, [], upd_same, All2.nil⟩ (fun _ _ _ _ ⟨_, _, _, s3, _⟩ => SqT.of (s3 _ _ ht)) ?_ ?_⟩
    · rintro i x T2 σ H1 hx ⟨u1, u2, rfl, s1, ks, hk, ka⟩ hT
      obtain ⟨q, hq, r⟩ := al.get hx
      have wq := wok.each q (List.mem_of_getElem? hq)
      obtain ⟨m, hm, en, _⟩ := id wq.2.2
      have nq : IsName q.name := by rw [← en]; exact (ok.each m hm).name
      have s2 : Same H1 (upd H1 T2 (.tup [.int (i : Nat), x])) := same_of_upd hT
      have s12 := s1.trans s2
      have hk2 := s2 _ _ hk
      walk_at "go"
      refine ⟨c, x, ms, q, rfl, hc.nl (same_nl s12), ok, r.nl (same_nl s12), wq, fun H3 s3 => ⟨true, rfl, ?_⟩⟩
      obtain ⟨tx, rfl, etx⟩ := r.nl (same_nl (s12.trans s3))
      walk_at "go"
      refine i_slA (SqT.of etx) fun p H4 s4 hp => ?_
      have ecut : cutV [V.str q.name, .int q.comes, .int q.done] none (some 2) = [.str q.name, .int q.comes] := rfl
      rw [ecut] at hp
      walk_at "go"
      have ka4 : All2 (KnownAt K H4) ks ((ws.take i).map Wk.key) := ka.mono fun _ _ _ _ => KnownAt.nl (same_nl (s2.trans (s3.trans s4)))
      have hk4 := s4 _ _ (s3 _ _ hk2)
      have nin : q.key ∉ (ws.take i).map Wk.key := by
        intro z
        have nd1 : ((ws.take (i + 1)).map Wk.key).Nodup := by
          rw [List.map_take]
          exact wok.nd.sublist (List.take_sublist _ _)
        rw [List.take_add_one, hq, List.map_append] at nd1
        exact (List.nodup_append.mp nd1).2.2 _ z _ (by simp) rfl
      have names : ∀ z ∈ (ws.take i).map Wk.key, IsName z.1 := fun z hz => by
        obtain ⟨y, hy, rfl⟩ := List.mem_map.mp hz
        obtain ⟨m', hm', en', _⟩ := (wok.each y (List.mem_of_mem_take hy)).2.2
        show IsName y.name
        rw [← en']
        exact (ok.each m' hm').name
      have dx : Dp K H4 (.ref p) (keyD q.key) := .tup hp (.cons (.str _) (.cons (.int _) .nil))
      refine ⟨_, _, dx, .lst (SqL.of hk4) (dp_known ka4), shaped_keyD nq, shaped_keys names, ?_⟩
      have eany : (((ws.take i).map Wk.key).map keyD).any (fun z => PyData.eqv z (keyD q.key)) = false := by
        rw [List.any_map, List.any_eq_false]
        intro z hz
        simp only [Function.comp]
        rw [eqv_keyD]
        simp
        exact fun e => nin (e ▸ hz)
      rw [eany]
      walk_at "go"
      refine ⟨.inl ⟨rfl, _, SqL.of hk4⟩, ?_⟩
      walk_at "go"
      refine i_slA (SqT.of (s4 _ _ etx)) fun p5 H5 s5 hp5 => ?_
      rw [ecut] at hp5
      walk_at "go"
      have hk5 := s5 _ _ hk4
      have lk : ks.length ≤ 20000 := by
        rw [ka.1, List.length_map, List.length_take]
        omega
      refine i_append hk5 (lt_sz (by omega)) ?_
      walk_at "go"
      have n6 : NL H5 (upd H5 L (.lst (ks ++ [.ref p5]))) := nl_upd hk5 rfl
      refine ⟨_, _, rfl, same_in_upd (s12.trans (s3.trans (s4.trans s5))) hL, _, upd_same, ?_⟩
      rw [List.take_add_one, hq, List.map_append]
      exact (ka4.mono fun _ _ _ _ h => (h.nl (same_nl s5)).nl n6).snoc ⟨p5, rfl, nl_tup n6 hp5⟩
    · rintro σ H1 ⟨u1, u2, rfl, s1, _⟩
      walk_at "go"
      exact k _ s1
end
end K19
namespace K19
open PySem L2
open PyProof.Rows (envOfC)
def k0 : Wk := ⟨Str.empty, 0, 0⟩
def memOf (ms : List Mem) (n : Str) : Option Mem := ms.find? fun m => decide (m.name = n)
def placeOf (ms : List Mem) (n : Str) : Nat := ms.findIdx fun m => decide (m.name = n)
def dueOf (ms : List Mem) (n : Str) : Int := ((memOf ms n).map Mem.due).getD 0
def toolsOf (ms : List Mem) (k : Wk) : List Str := ((memOf ms k.name).map fun m => toolsAt m k.done).getD []
theorem memOf_eq : ∀ {ms : List Mem} {m : Mem}, NamesNd ms → m ∈ ms → memOf ms m.name = some m := by
  intro ms m nd hm
  unfold memOf
  cases e : ms.find? fun m' => decide (m'.name = m.name) with
  | none => exact absurd (List.find?_eq_none.mp e m hm) (by simp)
  | some m' =>
    have h1 := List.find?_some e
    have h2 := List.mem_of_find?_eq_some e
    rw [name_one nd h2 hm (of_decide_eq_true h1)]
theorem place_at {ms : List Mem} {n : Str} (h : ∃ m ∈ ms, m.name = n) : (ms.map Mem.name)[placeOf ms n]? = some n ∧ placeOf ms n < ms.length ∧ ∀ j, j < placeOf ms n → (ms.map Mem.name)[j]? ≠ some n := by
  obtain ⟨m, hm, e⟩ := h
  have lt : placeOf ms n < ms.length := List.findIdx_lt_length_of_exists ⟨m, hm, by simp [e]⟩
  refine ⟨?_, lt, fun j hj z => ?_⟩
  · rw [List.getElem?_map, List.getElem?_eq_getElem lt]
    have z : (fun m : Mem => decide (m.name = n)) (ms[placeOf ms n]'lt) = true := List.findIdx_getElem (w := lt)
    exact congrArg some (of_decide_eq_true z)
  · rw [List.getElem?_map, List.getElem?_eq_getElem (Nat.lt_trans hj lt)] at z
    have q := List.not_of_lt_findIdx hj
    simp at q z
    exact q z
/-- the rank's parts and the number -/
def zOf (ms : List Mem) (k : Wk) (j : Nat) : Z4 := (k.comes + dueOf ms k.name, (placeOf ms k.name : Nat), k.comes, (j : Nat))
def rkI (ms : List Mem) (k : Wk) : Int := rk3 (k.comes + dueOf ms k.name) (placeOf ms k.name : Nat) k.comes
def RankAt (H : Hp) (v : V) (z : Z4) : Prop := ∃ p q, v = .ref p ∧ H p = some (.tup [.ref q, .int z.2.2.2]) ∧ H q = some (.tup [.int z.1, .int z.2.1, .int z.2.2.1])
theorem RankAt.nl {H H' : Hp} (n : NL H H') {v : V} {z : Z4} (a : RankAt H v z) : RankAt H' v z := by
  obtain ⟨p, q, e, h1, h2⟩ := a
  exact ⟨p, q, e, n _ _ rfl h1, n _ _ rfl h2⟩
theorem dp_ranks {K : PySem.W.Frag} {H : Hp} : ∀ {vs : List V} {zs : List Z4}, All2 (RankAt H) vs zs → DpAll K H vs (zs.map prK)
  | [], [], _ => .nil
  | [], _ :: _, h => absurd h.1 (by simp)
  | _ :: _, [], h => absurd h.1 (by simp)
  | v :: vs, z :: zs, h => by
    obtain ⟨p, q, rfl, e1, e2⟩ := h.2 0 v z rfl rfl
    exact .cons (.tup (SqT.of e1) (.cons (.tup (SqT.of e2) (.cons (.int _) (.cons (.int _) (.cons (.int _) .nil)))) (.cons (.int _) .nil))) (dp_ranks ⟨by simpa using h.1, fun i x y h1 h2 => h.2 (i + 1) x y (by simpa using h1) (by simpa using h2)⟩)
/-- the work at a is of the kind p, and first by rank among those -/
def First (ms : List Mem) (ws : List Wk) (p : Wk → Prop) (a : Nat) (k : Wk) : Prop := ws[a]? = some k ∧ p k ∧ ∀ (j : Nat) k', ws[j]? = some k' → p k' → rkI ms k ≤ rkI ms k'
/-- the others' tools -/
def othersT (ms : List Mem) (ws : List Wk) (a n : Nat) : List Str := ((List.range n).filter fun j => decide (j ≠ a)).flatMap fun j => toolsOf ms (ws.getD j k0)
def Held (ms : List Mem) (ws : List Wk) (a : Nat) (k : Wk) : Prop := HeldUp (pairs ms) (dueOf ms k.name) (othersT ms ws a ws.length)
/-- what the rule tells -/
def ServedIs (ms : List Mem) (ws : List Wk) (r : Option (Nat × Option Nat)) : Prop := (ws = [] ∧ r = none) ∨
  ∃ a k, First ms ws (fun _ => True) a k ∧ (((0 < k.done ∨ ¬ Held ms ws a k) ∧ r = some (a, none)) ∨ (k.done ≤ 0 ∧ Held ms ws a k ∧ ∃ b k', First ms ws (fun k => 0 < k.done) b k' ∧ r = some (b, some a)))
def ToldAt (H : Hp) (v : V) : Option (Nat × Option Nat) → Prop
  | none => v = .non
  | some (a, none) => ∃ t, v = .ref t ∧ H t = some (.tup [.int (a : Nat), .non])
  | some (a, some b) => ∃ t, v = .ref t ∧ H t = some (.tup [.int (a : Nat), .int (b : Nat)])
theorem bd_zOf {ms : List Mem} {ws : List Wk} (ok : CrewOk ms) (wok : WorksOk ms ws) {j : Nat} {k : Wk} (h : ws[j]? = some k) : Bd4 (zOf ms k j) := by
  have few := wok.few
  have lj : j < ws.length := (List.getElem?_eq_some_iff.mp h).1
  obtain ⟨⟨c1, c2⟩, _, m, hm, en, _⟩ := wok.each k (List.mem_of_getElem? h)
  have e : dueOf ms k.name = m.due := by
    unfold dueOf
    rw [← en, memOf_eq ok.nd hm]
    rfl
  obtain ⟨d1, d2⟩ := (ok.each m hm).due
  obtain ⟨g1, g2⟩ := (ok.each m hm).gap
  have pl := (place_at ⟨m, hm, en⟩).2.1
  have f8 := ok.few
  unfold Bd4 zOf BB
  rw [e]
  refine ⟨⟨?_, ?_⟩, ⟨?_, ?_⟩, ⟨?_, ?_⟩, ⟨?_, ?_⟩⟩ <;> dsimp only <;> omega
theorem others_mem {ms : List Mem} {ws : List Wk} (ok : CrewOk ms) (wok : WorksOk ms ws) {a : Nat} {t : Str} (h : t ∈ othersT ms ws a ws.length) : ∃ j q, j ≠ a ∧ ws[j]? = some q ∧ t ∈ toolsOf ms q ∧ 0 < q.done ∧ ∃ x, (t, x) ∈ pairs ms := by
  obtain ⟨j, hj, ht⟩ := List.mem_flatMap.mp h
  obtain ⟨h1, h2⟩ := List.mem_filter.mp hj
  have lj : j < ws.length := List.mem_range.mp h1
  have e : ws[j]? = some (ws.getD j k0) := by rw [List.getD_eq_getElem?_getD, List.getElem?_eq_getElem lj]; rfl
  generalize ws.getD j k0 = q at e ht
  obtain ⟨_, d1, m, hm, en, d2⟩ := wok.each q (List.mem_of_getElem? e)
  have ht2 := ht
  unfold toolsOf at ht2
  rw [← en, memOf_eq ok.nd hm] at ht2
  obtain ⟨hd, h3, h4⟩ := List.mem_filterMap.mp (show t ∈ toolsAt m q.done from ht2)
  have hb := (ok.each m hm).holds.each hd h3
  split at h4
  · rename_i c
    cases h4
    exact ⟨j, q, of_decide_eq_true h2, e, ht, by omega, m.due, List.mem_flatMap.mpr ⟨m, hm, List.mem_map.mpr ⟨hd, h3, rfl⟩⟩⟩
  · cases h4
theorem atN {xs : List V} {j : Nat} {v : V} (h : xs[j]? = some v) : atI xs ((j : Nat) : Int) = some v := at_of (j := j) rfl h
section
variable {P : Program} {w : World} {K : PySem.W.Frag} {mg : Str → Option Value} {base : Heap} {gT gD gC : Addr}
def spServed (gT gD gC : Addr) : Sp := fun vs H Q _ => ∃ c t ms ws, vs = [c, .ref t] ∧ CrewAt gT gD gC H c ms ∧ CrewOk ms ∧ WorksT H t ws ∧ WorksOk ms ws ∧ ∀ r v H', ServedIs ms ws r → Same H H' → ToldAt H' v r → Q v H'
theorem ok_pServed (F : Fx K mg "served" s_pServed a_pServed) (T : Txt K mg) (Z : Kl K mg gT gD gC) (C_pCheckCrew : Cal P w K mg base 1 "check_crew" a_pCheckCrew (spCheckCrew gC)) (C_pCheckWorks : Cal P w K mg base 4 "check_works" a_pCheckWorks (spCheckWorks gT gD gC))
    (C_pCrewNames : CalM P w K mg base gC 1 "names" a_pCrewNames (spNames gT gD gC)) (C_pCrewNamed : CalM P w K mg base gC 1 "named" a_pCrewNamed (spNamed gT gD gC)) (C_pRankOf : Cal P w K mg base 1 "rank_of" a_pRankOf spRank) (C_pDueOf : Cal P w K mg base 1 "due_of" a_pDueOf (spDueOf gT gD))
    (C_pToolsAt : Cal P w K mg base 2 "tools_at" a_pToolsAt (spToolsAt gT gD)) (C_pIsHeldUp : Cal P w K mg base 1 "is_held_up" a_pIsHeldUp (spIsHeldUp K)) (C_pToolLevels : Cal P w K mg base 2 "tool_levels" a_pToolLevels (spToolLevels gT gD)) :
    Cal P w K mg base 5 "served" a_pServed (spServed gT gD gC) := by
  refine cal_of F sc_pServed (fun vs H Q E h => ?_) (fun f cdv A outer s H vs Q E hr h => ?_)
  · obtain ⟨c, t, ms, ws, rfl, _⟩ := h
    rfl
  · obtain ⟨c, t, ms, ws, rfl, hc, ok, ht, wok, k⟩ := h
    obtain ⟨xs, et, al⟩ := id ht
    obtain ⟨ca, cdx, ct, rfl, hca, hcms⟩ := id hc
    have few := wok.few
    have few8 := ok.few
    have hu := hr.units0
    have hu10 : (A.deeper (envOfC "served" (defScope s_pServed) s.heap.objs.size f cdv)).units + 10 < cLine := by
      have := hr.units
      omega
    refine ⟨_, (pss_cons (ps_expr (pe_cal C_pCheckCrew (hr.mono (by decide)) (pa_cons (pv 0) pa_nil)))
  (pss_cons (ps_expr (pe_cal C_pCheckWorks (hr.mono (by decide)) (pa_cons (pv 0) (pa_cons (pv 1) pa_nil))))
  (pss_cons (ps_if (pt_cmpR (op_eqNilT hu) (pv 1) (pe_tup pa_nil) (nomark _))
  (pss_one (ps_ret pe_non))
  pss_nil)
  (pss_cons (ps_par (i := 2) (j := 3) rfl sc_pServed.nd rfl rfl (by decide) rfl rfl (pa_cons (pe_cam0 C_pCrewNames Z.cC (hr.mono (by decide)) (pv 0)) (pa_cons (pe_lst pa_nil) pa_nil)) (by rfl))
  (pss_cons (ps_for PassesOwn.never rfl (pi_enumT rfl T.enumerate (pa_cons (pv 1) pa_nil)) (pg_tup rfl (pgs_cons (pg_name (i := 4) sc_pServed.nd rfl (Or.inl rfl)) (pgs_cons (pg_tup rfl (pgs_cons (pg_name (i := 5) sc_pServed.nd rfl (Or.inl rfl)) (pgs_cons (pg_name (i := 6) sc_pServed.nd rfl (Or.inl rfl)) (pgs_cons (pg_name (i := 7) sc_pServed.nd rfl (Or.inl rfl)) pgs_nil)))) pgs_nil)))
  (pss_one (ps_expr (pe_bm PySem.F.plainAttrs_list PySem.F.slot_list_append PySem.F.type_list_append mt_append (pv 3) (pa_cons (pe_tup (pa_cons (pe_cal C_pRankOf (hr.mono (by decide)) (pa_cons (pe_bmF PySem.F.slot_tuple_index PySem.F.type_tuple_index mt_tup_index (pv 2) (pa_cons (pv 5) pa_nil)) (pa_cons (pe_op op_add (pv 6) (pe_cal C_pDueOf (hr.mono (by decide)) (pa_cons (pe_cam1 C_pCrewNamed Z.cC (hr.mono (by decide)) (pv 0) (pa_cons (pv 5) pa_nil)) pa_nil))) (pa_cons (pv 6) pa_nil)))) (pa_cons (pv 4) pa_nil))) pa_nil)))))
  (pss_cons (ps_set (i := 8) sc_pServed.nd rfl (Or.inl rfl) (pe_ix ix_tup (pe_callB (cr_minK rfl hu10) (by rfl) T.min (by decide +kernel) (pa_cons (pv 3) pa_nil)) pe_int (fun _ _ => rfl)))
  (pss_cons (ps_set (i := 9) sc_pServed.nd rfl (Or.inl rfl) (pe_lst pa_nil))
  (pss_cons (ps_for PassesOwn.never rfl (pi_enumT rfl T.enumerate (pa_cons (pv 1) pa_nil)) (pg_tup rfl (pgs_cons (pg_name (i := 4) sc_pServed.nd rfl (Or.inl rfl)) (pgs_cons (pg_tup rfl (pgs_cons (pg_name (i := 5) sc_pServed.nd rfl (Or.inl rfl)) (pgs_cons (pg_name (i := 6) sc_pServed.nd rfl (Or.inl rfl)) (pgs_cons (pg_name (i := 7) sc_pServed.nd rfl (Or.inl rfl)) pgs_nil)))) pgs_nil)))
  (pss_one (ps_if (pt_cmpR op_ne (pv 4) (pv 8) (nomark _))
  (pss_one (ps_expr (pe_bm PySem.F.plainAttrs_list PySem.F.slot_list_extend PySem.F.type_list_extend mt_extend (pv 9) (pa_cons (pe_cal C_pToolsAt (hr.mono (by decide)) (pa_cons (pe_cam1 C_pCrewNamed Z.cC (hr.mono (by decide)) (pv 0) (pa_cons (pv 5) pa_nil)) (pa_cons (pv 7) pa_nil))) pa_nil))))
  pss_nil)))
  (pss_cons (ps_set (i := 10) sc_pServed.nd rfl (Or.inl rfl) (pe_cal C_pDueOf (hr.mono (by decide)) (pa_cons (pe_cam1 C_pCrewNamed Z.cC (hr.mono (by decide)) (pv 0) (pa_cons (pe_ix ix_tup (pe_ix ix_tup (pv 1) (pv 8) (fun _ _ => rfl)) pe_int (fun _ _ => rfl)) pa_nil)) pa_nil)))
  (pss_cons (ps_if (PW.pt (pw_or (pt_cmpR op_gt (pe_ix ix_tup (pe_ix ix_tup (pv 1) (pv 8) (fun _ _ => rfl)) pe_int (fun _ _ => rfl)) pe_int (nomark _)) (pw_or1 (pt_not (pt_val (pe_cal C_pIsHeldUp (hr.mono (by decide)) (pa_cons (pe_cal C_pToolLevels (hr.mono (by decide)) (pa_cons (by exact pe_fld (pv 0) rfl) pa_nil)) (pa_cons (pv 10) (pa_cons (pv 9) pa_nil)))))))))
  (pss_one (ps_ret (pe_tup (pa_cons (pv 8) (pa_cons pe_non pa_nil)))))
  pss_nil)
  (pss_cons (ps_setLc (i := 11) (own := [("rank", 12), ("number", 4)]) (g := gTup K 2 (gCons (gName 12) (gCons (gName 4) gNil))) (tt := (tTest (tOp _ (tOp (rIxT K) (tOp (rIxT K) _ _) _) _))) (te := _) rfl sc_pServed.nd rfl rfl (sw_true rfl rfl rfl (by decide +kernel)) (pi_list (pv 3)) (blkOk_by (N := n_pServed) (sc := defScope s_pServed) (by decide +kernel)) (fun _ _ _ _ _ => (pg_tup rfl (pgs_cons (pg_name (i := 12) sc_pServed.nd rfl (Or.inl rfl)) (pgs_cons (pg_name (i := 4) sc_pServed.nd rfl (Or.inl rfl)) pgs_nil)))) (fun _ _ _ _ _ => pts_one (pt_cmpR op_gt (pe_ix ix_tup (pe_ix ix_tup (pv 1) (pv 4) (fun _ _ => rfl)) pe_int (fun _ _ => rfl)) pe_int (nomark _))) (fun _ _ _ _ _ => (pe_tup (pa_cons (pv 12) (pa_cons (pv 4) pa_nil)))))
  (pss_one (ps_ret (pe_tup (pa_cons (pe_ix ix_tup (pe_callB (cr_minK rfl hu10) (by rfl) T.min (by decide +kernel) (pa_cons (pv 11) pa_nil)) pe_int (fun _ _ => rfl)) (pa_cons (pv 8) pa_nil)))))))))))))))), ?_⟩
    try dsimp only [cxOf]
    refine at_ [some (.ref ca), some (.ref t), none, none, none, none, none, none, none, none, none, none, none] rfl ?_
    walk_at "go"
    refine ⟨ca, cdx, _, rfl, hca, ?_⟩
    walk_at "go"
    refine ⟨_, t, ms, ws, rfl, hc, ok, ht, wok, fun H1 s1 => ?_⟩
    walk_at "go"
    refine ⟨le_sz (by simp), fun p hp => ?_⟩
    have s2 : Same H (upd H1 p (.tup [])) := same_in_upd s1 (s1.free hp)
    generalize hH2 : upd H1 p (.tup []) = H2 at s2 ⊢
    have e2 : H2 p = some (.tup []) := by rw [← hH2]; exact upd_same
    walk_at "go"
    refine ⟨p, t, xs, rfl, SqT.of e2, rfl, SqT.of (s2 _ _ et), ?_⟩
    walk_at "go"
    refine i_boo (fun emp => ?_) (fun emp => ?_)
    · walk_at "go"
      have ex : xs = [] := List.isEmpty_iff.mp emp
      have ew : ws = [] := List.length_eq_zero_iff.mp (by rw [← al.1, ex]; rfl)
      exact k none _ _ (.inl ⟨ew, rfl⟩) s2 rfl
    walk_at "go"
    refine i_meth ?_
    walk_at "go"
    refine ⟨ca, cdx, _, rfl, s2 _ _ hca, rfl, ?_⟩
    walk_at "go"
    refine ⟨_, ms, rfl, hc.nl (same_nl s2), few8, fun tn H3 s3 hn => ?_⟩
    have s23 := s2.trans s3
    walk_at "go"
    refine ⟨le_sz (by simp), fun L hL => ?_⟩
    have s4 : Same H (upd H3 L (.lst [])) := same_in_upd s23 (s23.free hL)
    have sn : Same H3 (upd H3 L (.lst [])) := same_of_upd hL
    generalize hH4 : upd H3 L (.lst []) = H4 at s4 sn ⊢
    have e4 : H4 L = some (.lst []) := by rw [← hH4]; exact upd_same
    have hn4 := hn.nl (same_nl sn)
    have hLH : H L = none := s23.free hL
    walk_at "go"
    refine i_enN ?_
    walk_at "go"
    have wget : ∀ {i : Nat} {q : Wk}, ws[i]? = some q → ws.getD i k0 = q := fun {i q} h => by
      rw [List.getD_eq_getElem?_getD, h]
      rfl
    have wdue : ∀ {q : Wk} {m : Mem}, m ∈ ms → m.name = q.name → dueOf ms q.name = m.due := fun {q m} h1 h2 => by
      unfold dueOf
      rw [← h2, memOf_eq ok.nd h1]
      rfl
    refine ⟨t, xs, rfl, SqT.of (s4 _ _ et), for_enumT xs (fun i σ H' => ∃ u4 u5 u6 u7, σ = [some (.ref ca), some (.ref t), some (.ref tn), some (.ref L), u4, u5, u6, u7, none, none, none, none, none] ∧ Same H H' ∧ FzT H' tn ((ms.map Mem.name).map V.str) ∧ ∃ rs, H' L = some (.lst rs) ∧ All2 (RankAt H') rs ((List.range i).map fun j => zOf ms (ws.getD j k0) j))
      ⟨none, none, none, none, rfl, s4, hn4, [], e4, All2.nil⟩ (fun _ _ _ _ ⟨_, _, _, _, _, s5, _⟩ => SqT.of (s5 _ _ et)) ?_ ?_⟩
    · rintro i x T2 σ H5 hx ⟨u4, u5, u6, u7, rfl, s5, hn5, rs, hrs, ra⟩ hT
      obtain ⟨q, hq, r⟩ := al.get hx
      have li : i < ws.length := (List.getElem?_eq_some_iff.mp hq).1
      obtain ⟨⟨c1, c2⟩, d1, m, hm, en, d2⟩ := wok.each q (List.mem_of_getElem? hq)
      have s56 : Same H5 (upd H5 T2 (.tup [.int (i : Nat), x])) := same_of_upd hT
      have s6 := s5.trans s56
      obtain ⟨tx, rfl, etx⟩ := r.nl (same_nl s6)
      have hn6 := hn5.nl (same_nl s56)
      have hrs6 := s56 _ _ hrs
      obtain ⟨p1, p2, p3⟩ := place_at ⟨m, hm, en⟩
      walk_at "go"
      refine ⟨.inl ⟨rfl, _, SqL.of hrs6⟩, ?_⟩
      walk_at "go"
      refine i_bmF ?_
      walk_at "go"
      refine ⟨⟨tn, _, rfl, hn6⟩, ?_⟩
      walk_at "go"
      refine ⟨tn, _, q.name, placeOf ms q.name, rfl, rfl, hn6.sq, p1, p3, ?_⟩
      walk_at "go"
      refine i_meth ?_
      walk_at "go"
      refine ⟨ca, cdx, _, rfl, s6 _ _ hca, rfl, ?_⟩
      walk_at "go"
      refine ⟨_, _, ms, m, rfl, hc.nl (same_nl s6), ok.nd, hm, en, fun v hv => ?_⟩
      walk_at "go"
      refine ⟨v, m, rfl, hv, ?_⟩
      walk_at "go"
      refine ⟨_, _, _, rfl, fun rt hrt => ?_⟩
      walk_at "go"
      refine ⟨le_sz (by simp), fun pt hpt => ?_⟩
      have s67 : Same (upd H5 T2 (.tup [.int (i : Nat), .ref tx])) (upd (upd (upd H5 T2 (.tup [.int (i : Nat), .ref tx])) rt (.tup [.int (q.comes + m.due), .int (placeOf ms q.name : Nat), .int q.comes])) pt (.tup [.ref rt, .int (i : Nat)])) :=
        same_in_upd (same_of_upd hrt) (by rcases h : (upd H5 T2 (.tup [.int (i : Nat), .ref tx])) pt with _ | o; rfl; exact absurd hpt (by rw [same_of_upd hrt _ _ h]; simp))
      have hqt : (upd (upd (upd H5 T2 (.tup [.int (i : Nat), .ref tx])) rt (.tup [.int (q.comes + m.due), .int (placeOf ms q.name : Nat), .int q.comes])) pt (.tup [.ref rt, .int (i : Nat)])) rt = some (.tup [.int (q.comes + m.due), .int (placeOf ms q.name : Nat), .int q.comes]) :=
        same_of_upd hpt _ _ upd_same
      have hpt' : (upd (upd (upd H5 T2 (.tup [.int (i : Nat), .ref tx])) rt (.tup [.int (q.comes + m.due), .int (placeOf ms q.name : Nat), .int q.comes])) pt (.tup [.ref rt, .int (i : Nat)])) pt = some (.tup [.ref rt, .int (i : Nat)]) := upd_same
      generalize (upd (upd (upd H5 T2 (.tup [.int (i : Nat), .ref tx])) rt (.tup [.int (q.comes + m.due), .int (placeOf ms q.name : Nat), .int q.comes])) pt (.tup [.ref rt, .int (i : Nat)])) = H7 at s67 hqt hpt' ⊢
      have hrs7 := s67 _ _ hrs6
      walk_at "go"
      have lr : rs.length = i := by rw [ra.1]; simp
      refine i_append hrs7 (lt_sz (by omega)) ?_
      walk_at "go"
      have n7 : NL H5 (upd H7 L (.lst (rs ++ [.ref pt]))) := (same_nl (s56.trans s67)).trans (nl_upd hrs7 rfl)
      have n8 : NL H7 (upd H7 L (.lst (rs ++ [.ref pt]))) := nl_upd hrs7 rfl
      refine ⟨_, _, _, _, rfl, same_in_upd (s6.trans s67) hLH, hn5.nl n7, _, upd_same, ?_⟩
      rw [List.range_succ, List.map_append]
      refine (ra.mono fun _ _ _ _ => RankAt.nl n7).snoc ⟨pt, rt, rfl, ?_, ?_⟩
      · exact n8 _ _ rfl hpt'
      · show _ = some (HO.tup [V.int (zOf ms (ws.getD i k0) i).1, V.int (zOf ms (ws.getD i k0) i).2.1, V.int (zOf ms (ws.getD i k0) i).2.2.1])
        rw [wget hq]
        unfold zOf
        rw [wdue hm en]
        exact n8 _ _ rfl hqt
    rintro σ H5 ⟨u4, u5, u6, u7, rfl, s5, hn5, rs, hrs, ra⟩
    have lx : xs.length = ws.length := al.1
    rw [lx] at ra
    walk_at "go"
    have wpos : 0 < ws.length := by
      rw [← al.1]
      cases xs with
      | nil => cases emp
      | cons a r => simp
    refine ⟨L, rs, (List.range ws.length).map fun j => zOf ms (ws.getD j k0) j, rfl, SqL.of hrs, .lst (SqL.of hrs) (dp_ranks ra), ?_, by simpa using wpos, ?_⟩
    · intro z hz
      obtain ⟨j, hj, rfl⟩ := List.mem_map.mp hz
      have lj : j < ws.length := List.mem_range.mp hj
      have e : ws[j]? = some (ws.getD j k0) := by rw [wget (List.getElem?_eq_getElem lj)]; exact List.getElem?_eq_getElem lj
      exact bd_zOf ok wok e
    intro a v z hv hz hmin
    have la : a < ws.length := by
      have := (List.getElem?_eq_some_iff.mp hz).1
      simpa using this
    obtain ⟨ka, hka⟩ : ∃ q, ws[a]? = some q := ⟨_, List.getElem?_eq_getElem la⟩
    rw [List.getElem?_map, List.getElem?_range la] at hz
    obtain rfl := Option.some.inj hz
    obtain ⟨pa, qa, rfl, epa, eqa⟩ := ra.2 a v (zOf ms (ws.getD a k0) a) hv (by rw [List.getElem?_map, List.getElem?_range la]; rfl)
    have firstA : First ms ws (fun _ => True) a ka := by
      refine ⟨hka, trivial, fun j q hq _ => ?_⟩
      have lj : j < ws.length := (List.getElem?_eq_some_iff.mp hq).1
      have h1 : rk4 (zOf ms (ws.getD a k0) a) ≤ rk4 (zOf ms (ws.getD j k0) j) := hmin _ (List.mem_map.mpr ⟨j, List.mem_range.mpr lj, rfl⟩)
      rw [wget hka, wget hq] at h1
      have few1 := wok.few
      have la1 : (a : Int) < 20000 := by omega
      have lj1 : (j : Int) < 20000 := by omega
      show rk3 _ _ _ ≤ rk3 _ _ _
      unfold rk4 zOf at h1
      dsimp only at h1
      simp only [BB] at h1
      omega
    have epa : H5 pa = some (.tup [.ref qa, .int (a : Nat)]) := epa
    walk_at "go"
    refine ⟨le_sz (by simp), fun TL hTL => ?_⟩
    have s56 : Same H5 (upd H5 TL (.lst [])) := same_of_upd hTL
    generalize hH6 : upd H5 TL (.lst []) = H6 at s56 ⊢
    have eTL : H6 TL = some (.lst (([] : List Str).map V.str)) := by rw [← hH6]; exact upd_same
    walk_at "go"
    refine i_enN ?_
    walk_at "go"
    have s06 := s5.trans s56
    have wmem : ∀ {q : Wk} {m : Mem}, m ∈ ms → m.name = q.name → memOf ms q.name = some m := fun {q m} h1 h2 => by rw [← h2, memOf_eq ok.nd h1]
    refine ⟨t, xs, rfl, SqT.of (s06 _ _ et), for_enumT xs (fun i σ H' => ∃ u4 u5 u6 u7, σ = [some (.ref ca), some (.ref t), some (.ref tn), some (.ref L), u4, u5, u6, u7, some (.int (a : Nat)), some (.ref TL), none, none, none] ∧ Same H5 H' ∧ H' TL = some (.lst ((othersT ms ws a i).map V.str)) ∧ (othersT ms ws a i).length ≤ 4 * i)
      ⟨_, _, _, _, rfl, s56, eTL, by simp [othersT]⟩ (fun _ _ _ _ ⟨_, _, _, _, _, s7, _⟩ => SqT.of ((s5.trans s7) _ _ et)) ?_ ?_⟩
    · rintro i x T2 σ H7 hx ⟨u4, u5, u6, u7, rfl, s57, hTL7, ln⟩ hT
      obtain ⟨q, hq, r⟩ := al.get hx
      have li : i < ws.length := (List.getElem?_eq_some_iff.mp hq).1
      obtain ⟨_, d1, m, hm, en, d2⟩ := wok.each q (List.mem_of_getElem? hq)
      have s7 := s5.trans s57
      have s78 : Same H7 (upd H7 T2 (.tup [.int (i : Nat), x])) := same_of_upd hT
      have s8 := s7.trans s78
      obtain ⟨tx, rfl, etx⟩ := r.nl (same_nl s8)
      have hTL8 := s78 _ _ hTL7
      have eT2 : upd H7 T2 (.tup [.int (i : Nat), .ref tx]) T2 = some (.tup [.int (i : Nat), .ref tx]) := upd_same
      generalize upd H7 T2 (.tup [.int (i : Nat), .ref tx]) = H8 at s78 s8 etx hTL8 eT2 ⊢
      walk_at "go"
      have eo : othersT ms ws a (i + 1) = othersT ms ws a i ++ (if i ≠ a then toolsOf ms q else []) := by
        unfold othersT
        rw [List.range_succ, List.filter_append, List.flatMap_append]
        congr 1
        by_cases e : i = a
        · simp [e]
        · simp [e, hq]
      have lh : m.holds.length ≤ 4 := (ok.each m hm).holds.few
      have lt4 : (toolsOf ms q).length ≤ 4 := by
        unfold toolsOf
        rw [wmem hm en]
        exact Nat.le_trans (List.length_filterMap_le _ _) lh
      refine i_nDec (fun eq => ?_) (fun ne => ?_)
      · have ei : i = a := by
          have := V.int.inj eq
          omega
        walk_at "go"
        rw [if_neg (by simp [ei]), List.append_nil] at eo
        refine ⟨_, _, _, _, rfl, s57.trans s78, ?_, ?_⟩
        · rw [eo]; exact hTL8
        · rw [eo]; omega
      · have ei : i ≠ a := fun z => ne (by rw [z])
        rw [if_pos ei] at eo
        walk_at "go"
        refine ⟨.inl ⟨rfl, _, SqL.of hTL8⟩, ?_⟩
        walk_at "go"
        refine i_meth ?_
        walk_at "go"
        refine ⟨ca, cdx, _, rfl, s8 _ _ hca, rfl, ?_⟩
        walk_at "go"
        refine ⟨_, _, ms, m, rfl, hc.nl (same_nl s8), ok.nd, hm, en, fun v hv => ?_⟩
        walk_at "go"
        refine ⟨v, _, m, rfl, hv, lh, fun D H9 s9 eD => ?_⟩
        have et9 : toolsAt m q.done = toolsOf ms q := by
          unfold toolsOf
          rw [wmem hm en]
          rfl
        rw [et9] at eD
        walk_at "go"
        have hTL9 := s9 _ _ hTL8
        refine ⟨TL, D, _, _, rfl, rfl, hTL9, eD, le_sz (by rw [List.length_map, List.length_map]; have := wok.few; omega), ?_⟩
        walk_at "go"
        refine ⟨_, _, _, _, rfl, same_in_upd (s57.trans (s78.trans s9)) hTL, ?_, ?_⟩
        · rw [eo, List.map_append]
          exact upd_same
        · rw [eo, List.length_append]
          omega
    rintro σ H7 ⟨u4, u5, u6, u7, rfl, s57, hTL7, ln⟩
    rw [lx] at hTL7 ln
    have s7 := s5.trans s57
    have hrs7 := s57 _ _ hrs
    have ra7 : All2 (RankAt H7) rs ((List.range ws.length).map fun j => zOf ms (ws.getD j k0) j) := ra.mono fun _ _ _ _ => RankAt.nl (same_nl s57)
    clear eTL hH6 s06 s56 hn5 hrs ra epa eqa
    obtain ⟨xa, hxa, rxa⟩ := al.get' hka
    obtain ⟨txa, rfl, exa⟩ := rxa.nl (same_nl s7)
    obtain ⟨⟨ka1, ka2⟩, kd1, ma, hma, ena, kd2⟩ := wok.each ka (List.mem_of_getElem? hka)
    have et7 : H7 t = some (.tup xs) := s7 _ _ et
    have ata : atI xs ((a : Nat) : Int) = some (.ref txa) := atN hxa
    walk_at "go"
    refine i_meth ?_
    walk_at "go"
    refine ⟨ca, cdx, _, rfl, s7 _ _ hca, rfl, ?_⟩
    walk_at "go"
    refine ⟨_, _, ms, ma, rfl, hc.nl (same_nl s7), ok.nd, hma, ena, fun v hv => ?_⟩
    walk_at "go"
    refine ⟨v, ma, rfl, hv, ?_⟩
    walk_at "go"
    have alone : (0 < ka.done ∨ ¬ Held ms ws a ka) → ∀ H8, Same H H8 → ∀ p, H8 p = none → Q (.ref p) (upd H8 p (.tup [.int (a : Nat), .non])) := fun c H8 s8 p hp =>
      k (some (a, none)) _ _ (.inr ⟨a, ka, firstA, .inl ⟨c, rfl⟩⟩) (same_in_upd s8 (s8.free hp)) ⟨p, rfl, upd_same⟩
    refine i_dec (fun dn => ?_) (fun dn => ?_)
    · walk_at "go"
      exact ⟨le_sz (by simp), alone (.inl dn) H7 s7⟩
    walk_at "go"
    refine i_getx (s7 _ _ hca) Z.cC Z.cMembers (crewF_get ct) ?_
    walk_at "go"
    refine ⟨ct, ms, rfl, hcms.nl (same_nl s7), few8, fun m h => (ok.each m h).holds.few, fun d kvs H8 s8 hd lv => ?_⟩
    have hTL8 := s8 _ _ hTL7
    walk_at "go"
    refine ⟨d, ma.due, TL, kvs, pairs ms, _, rfl, hd, lv, SqL.of hTL8, by omega, fun t ht => ?_, fun b H9 s9 hb => ?_⟩
    · obtain ⟨_, _, _, _, _, _, x⟩ := others_mem ok wok ht
      exact x
    rw [← wdue hma ena] at hb
    have s789 := s7.trans (s8.trans s9)
    cases b with
    | false =>
      refine ⟨false, rfl, ?_⟩
      walk_at "go"
      exact ⟨le_sz (by simp), alone (.inr fun z => by have := hb.mpr z; cases this) H9 s789⟩
    | true =>
      have held : Held ms ws a ka := hb.mp rfl
      refine ⟨true, rfl, ?_⟩
      have hrs9 := s9 _ _ (s8 _ _ hrs7)
      have ra9 : All2 (RankAt H9) rs ((List.range ws.length).map fun j => zOf ms (ws.getD j k0) j) := ra7.mono fun _ _ _ _ => RankAt.nl (same_nl (s8.trans s9))
      walk_at "go"
      have zbs : ∀ i, ((List.range (i + 1)).filter fun j => decide (0 < (ws.getD j k0).done)).map (fun j => zOf ms (ws.getD j k0) j) =
          (((List.range i).filter fun j => decide (0 < (ws.getD j k0).done)).map fun j => zOf ms (ws.getD j k0) j) ++ (if 0 < (ws.getD i k0).done then [zOf ms (ws.getD i k0) i] else []) := fun i => by
        rw [List.range_succ, List.filter_append, List.map_append]
        congr 1
        by_cases c : 0 < (ws.getD i k0).done
        · rw [if_pos c, List.filter_cons_of_pos (by simpa using c)]
          rfl
        · rw [if_neg c, List.filter_cons_of_neg (by simpa using c)]
          rfl
      have lr : rs.length = ws.length := by rw [ra9.1]; simp
      refine ⟨⟨_, SqL.of hrs9⟩, fun D hD => lc_j walk_list (fun _ _ _ _ _ _ y => y) (lt_sz (by omega)) hD (σ0 := [some (.ref ca), some (.ref t), some (.ref tn), some (.ref L), none, u5, u6, u7, some (.int (a : Nat)), some (.ref TL), some (.int ma.due), none, none]) rfl
        (fun i acc H' => All2 (RankAt H') acc (((List.range i).filter fun j => decide (0 < (ws.getD j k0).done)).map fun j => zOf ms (ws.getD j k0) j)) (fun _ _ _ _ n h => h.mono fun _ _ _ _ => RankAt.nl n) All2.nil (fun H' s => s.seq (SqL.of hrs9)) (fun i x acc H' R hx s10 h10 k10 => ?_) (fun acc H' s10 eD h10 lacc => ?_)⟩
      · have li : i < ws.length := by rw [← lr]; exact (List.getElem?_eq_some_iff.mp hx).1
        obtain ⟨q, hq⟩ : ∃ q, ws[i]? = some q := ⟨_, List.getElem?_eq_getElem li⟩
        obtain ⟨pi, qi, rfl, epi, eqi⟩ := (ra9.2 i x (zOf ms (ws.getD i k0) i) hx (by rw [List.getElem?_map, List.getElem?_range li]; rfl)).nl (same_nl s10)
        have epi : H' pi = some (.tup [.ref qi, .int (i : Nat)]) := epi
        obtain ⟨xi, hxi, rxi⟩ := al.get' hq
        obtain ⟨txi, rfl, exi⟩ := rxi.nl (same_nl (s789.trans s10))
        have et10 : H' t = some (.tup xs) := (s789.trans s10) _ _ et
        have ati : atI xs ((i : Nat) : Int) = some (.ref txi) := atN hxi
        walk_at "go"
        refine ⟨rfl, ?_⟩
        walk_at "go"
        refine i_dec (fun c => ?_) (fun c => ?_)
        · walk_at "go"
          refine ⟨le_sz (by simp), fun p hp => ?_⟩
          refine k10 (some (.ref p)) _ (same_of_upd hp) ?_
          rw [zbs, if_pos (by rw [wget hq]; exact c)]
          exact (h10.mono fun _ _ _ _ => RankAt.nl (same_nl (same_of_upd hp))).snoc ⟨p, qi, rfl, upd_same, same_of_upd hp _ _ eqi⟩
        · refine k10 none H' (Same.refl H') ?_
          rw [zbs, if_neg (by rw [wget hq]; exact c)]
          simpa using h10
      · rw [lr] at h10
        walk_at "go"
        obtain ⟨t0, ht0, _⟩ := held
        obtain ⟨j0, q0, _, hq0, _, dn0, _⟩ := others_mem ok wok ht0
        have lj0 : j0 < ws.length := (List.getElem?_eq_some_iff.mp hq0).1
        have mem0 : j0 ∈ (List.range ws.length).filter fun j => decide (0 < (ws.getD j k0).done) := List.mem_filter.mpr ⟨List.mem_range.mpr lj0, by rw [wget hq0]; exact decide_eq_true dn0⟩
        refine ⟨D, acc, _, rfl, SqL.of eD, .lst (SqL.of eD) (dp_ranks h10), ?_, ?_, ?_⟩
        · intro z hz
          obtain ⟨j, hj, rfl⟩ := List.mem_map.mp hz
          have lj : j < ws.length := List.mem_range.mp (List.mem_filter.mp hj).1
          have e : ws[j]? = some (ws.getD j k0) := by rw [wget (List.getElem?_eq_getElem lj)]; exact List.getElem?_eq_getElem lj
          exact bd_zOf ok wok e
        · rw [List.length_map]
          exact List.length_pos_of_mem mem0
        intro ib v z hv hz hmin2
        rw [List.getElem?_map] at hz
        obtain ⟨b, hb1, rfl⟩ := Option.map_eq_some_iff.mp hz
        obtain ⟨hb2, hb3⟩ := List.mem_filter.mp (List.mem_of_getElem? hb1)
        have lb : b < ws.length := List.mem_range.mp hb2
        obtain ⟨kb, hkb⟩ : ∃ q, ws[b]? = some q := ⟨_, List.getElem?_eq_getElem lb⟩
        rw [wget hkb] at hb3
        have firstB : First ms ws (fun k => 0 < k.done) b kb := by
          refine ⟨hkb, of_decide_eq_true hb3, fun j q hq dq => ?_⟩
          have lj : j < ws.length := (List.getElem?_eq_some_iff.mp hq).1
          have h1 : rk4 (zOf ms (ws.getD b k0) b) ≤ rk4 (zOf ms (ws.getD j k0) j) := hmin2 _ (List.mem_map.mpr ⟨j, List.mem_filter.mpr ⟨List.mem_range.mpr lj, by rw [wget hq]; exact decide_eq_true dq⟩, rfl⟩)
          rw [wget hkb, wget hq] at h1
          have few1 := wok.few
          have la1 : (b : Int) < 20000 := by omega
          have lj1 : (j : Int) < 20000 := by omega
          show rk3 _ _ _ ≤ rk3 _ _ _
          unfold rk4 zOf at h1
          dsimp only at h1
          simp only [BB] at h1
          omega
        obtain ⟨pb, qb, rfl, epb, eqb⟩ := h10.2 ib v (zOf ms (ws.getD b k0) b) hv (by rw [List.getElem?_map, hb1]; rfl)
        have epb : H' pb = some (.tup [.ref qb, .int (b : Nat)]) := epb
        walk_at "go"
        refine ⟨le_sz (by simp), fun p hp => ?_⟩
        exact k (some (b, some a)) _ _ (.inr ⟨a, ka, firstA, .inr ⟨by omega, hb.mp rfl, b, kb, firstB, rfl⟩⟩) (same_in_upd (s789.trans s10) ((s789.trans s10).free hp)) ⟨p, rfl, upd_same⟩
end
end K19
namespace K19
open PySem L2
open PyProof.Rows (envOfC)
section
variable {P : Program} {w : World} {K : PySem.W.Frag} {mg : Str → Option Value} {base : Heap}
/-- a draw from the purse at p -/
def spTake : Sp := fun vs H Q _ => ∃ (p : Addr) (m a b c : Int), vs = [.ref p, .int m] ∧ H p = some (.lst [.int a, .int b, .int c]) ∧ 0 < m ∧ m < 1073741824 ∧
  ∀ (r a' b' c' : Int), 0 ≤ r → r < m → Q (.int r) (upd H p (.lst [.int a', .int b', .int c']))
theorem ok_lTake (F : Fx K mg "_law_take" s_lTake a_lTake) : Cal P w K mg base 1 "_law_take" a_lTake spTake := by
  refine cal_of F sc_lTake (fun vs H Q E h => ?_) (fun f cdv A outer s H vs Q E hr h => ?_)
  · obtain ⟨p, m, a, b, c, rfl, _⟩ := h
    rfl
  · obtain ⟨p, m, a, b, c, rfl, hp, m0, m1, k⟩ := h
    refine ⟨_, (pss_cons (ps_asg (pe_op op_add (pe_ix ix_list (pv 0) pe_int (fun _ _ => rfl)) pe_int) (pg_sub (pv 0) pe_int set_list))
  (pss_cons (ps_set (i := 2) sc_lTake.nd rfl (Or.inl rfl) (pe_ix ix_list (pv 0) pe_int (fun _ _ => rfl)))
  (pss_cons (ps_asg (pe_op op_mod (pe_op op_add (pe_op op_add (pe_op op_mul (pv 2) (pe_op op_add (pe_op op_mod (pv 2) pe_int) pe_int)) (pe_op op_mul pe_int (pe_ix ix_list (pv 0) pe_int (fun _ _ => rfl)))) pe_int) pe_int) (pg_sub (pv 0) pe_int set_list))
  (pss_cons (ps_if (pt_cmpR op_gt (pe_ix ix_list (pv 0) pe_int (fun _ _ => rfl)) pe_int (nomark _))
  (pss_cons (ps_set (i := 3) sc_lTake.nd rfl (Or.inl rfl) (pe_op op_mod (pe_ix ix_list (pv 0) pe_int (fun _ _ => rfl)) (pv 1)))
  (pss_cons (ps_asg (pe_op op_fdiv (pe_ix ix_list (pv 0) pe_int (fun _ _ => rfl)) (pv 1)) (pg_sub (pv 0) pe_int set_list))
  (pss_one (ps_ret (pv 3)))))
  pss_nil)
  (pss_one (ps_ret (pe_op op_mod (pe_op op_fdiv (pe_ix ix_list (pv 0) pe_int (fun _ _ => rfl)) pe_int) (pv 1)))))))), ?_⟩
    try dsimp only [cxOf]
    refine at_ [some (.ref p), some (.int m), none, none] rfl ?_
    walk_at "go"
    refine i_dec (fun hb => ?_) (fun hb => ?_)
    · walk_at "go"
      rw [upd_upd, upd_upd]
      exact k _ _ _ _ (Int.emod_nonneg _ (by omega)) (Int.emod_lt_of_pos _ m0)
    · walk_at "go"
      rw [upd_upd]
      exact k _ _ _ _ (Int.emod_nonneg _ (by omega)) (Int.emod_lt_of_pos _ m0)
/-- a new purse -/
def spPurse : Sp := fun vs H Q _ => ∃ (c : Int), vs = [.int c] ∧ ∀ (p : Addr) (a b d : Int), H p = none → Q (.ref p) (upd H p (.lst [.int a, .int b, .int d]))
theorem ok_lPurse (F : Fx K mg "_law_purse" s_lPurse a_lPurse) (T : Txt K mg) : Cal P w K mg base 1 "_law_purse" a_lPurse spPurse := by
  refine cal_of F sc_lPurse (fun vs H Q E h => ?_) (fun f cdv A outer s H vs Q E hr h => ?_)
  · obtain ⟨c, rfl, _⟩ := h
    rfl
  · obtain ⟨c, rfl, k⟩ := h
    refine ⟨_, (pss_cons (ps_set (i := 1) sc_lPurse.nd rfl (Or.inl rfl) pe_int)
  (pss_cons (ps_if (PW.pt (pw_or (pt_cmpR op_lt (pv 0) pe_int (nomark _)) (pw_or1 (pt_cmpR op_ge (pv 0) (pe_op op_pow pe_int pe_int) (nomark _)))))
  (pss_one (ps_set (i := 1) sc_lPurse.nd rfl (Or.inl rfl) (pe_callB call_abs (by rfl) T.abs (by decide +kernel) (pa_cons (pv 0) pa_nil))))
  pss_nil)
  (pss_one (ps_ret (pe_lst (pa_cons (pe_op op_mod (pv 0) pe_int) (pa_cons (pv 1) (pa_cons pe_int pa_nil)))))))), ?_⟩
    try dsimp only [cxOf]
    refine at_ [some (.int c), none] rfl ?_
    have fin : ∀ d : Int, 3 ≤ sizeLine ∧ ∀ p, H p = none → Q (.ref p) (upd H p (.lst [.int (c % 1000000021), .int d, .int 0])) := fun d => ⟨by rw [PySem.sizeLine_eq]; decide, fun p hp => k p _ _ _ hp⟩
    walk_at "go"
    refine i_dec (fun hb => ?_) (fun hb => ?_)
    · walk_at "go"
      exact fin _
    · walk_at "go"
      refine i_dec (fun hc => ?_) (fun hc => ?_)
      · walk_at "go"
        exact fin _
      · walk_at "go"
        exact fin _
/-- a cell of the script, or what stands for it -/
def spCell (K : PySem.W.Frag) : Sp := fun vs H Q _ => ∃ (a : Addr) (k : Int) (ns : List Int), vs = [.ref a, .int k] ∧ 0 ≤ k ∧ k < 100 ∧ SqL K H a (ns.map V.int) ∧ ∀ (z : Int) (H' : Hp), Same H H' → Q (.int z) H'
theorem ok_lCell (F : Fx K mg "_law_cell" s_lCell a_lCell) (T : Txt K mg) : Cal P w K mg base 1 "_law_cell" a_lCell (spCell K) := by
  refine cal_of F sc_lCell (fun vs H Q E h => ?_) (fun f cdv A outer s H vs Q E hr h => ?_)
  · obtain ⟨a, c, ns, rfl, _⟩ := h
    rfl
  · obtain ⟨a, c, ns, rfl, c0, c1, hs, k⟩ := h
    refine ⟨_, (pss_cons (ps_if (pt_cmpR op_lt (pv 1) (pe_callB call_len_seq (by rfl) T.len (by decide +kernel) (pa_cons (pv 0) pa_nil)) (nomark _))
  (pss_one (ps_ret (pe_ix ix_list (pv 0) (pv 1) (fun _ _ => rfl))))
  pss_nil)
  (pss_cons (ps_set (i := 2) sc_lCell.nd rfl (Or.inl rfl) (pe_op op_mod (pe_op op_mul pe_int (pe_op op_add (pe_op op_add (pe_op op_mul (pv 1) (pv 1)) (pe_op op_mul pe_int (pv 1))) pe_int)) pe_int))
  (pss_cons (ps_for PassesOwn.never rfl (pi_list (pe_slice sl_list (pv 0) po_none (po_some pe_int))) (pg_name (i := 3) sc_lCell.nd rfl (Or.inl rfl))
  (pss_one (ps_set (i := 2) sc_lCell.nd rfl (Or.inl rfl) (pe_op op_mod (pe_op op_add (pe_op op_mul (pv 2) pe_int) (pv 3)) pe_int))))
  (pss_one (ps_ret (pv 2)))))), ?_⟩
    try dsimp only [cxOf]
    refine at_ [some (.ref a), some (.int c), none, none] rfl ?_
    walk_at "go"
    refine i_dec (fun hb => ?_) (fun hb => ?_)
    · have hl : (ns.map V.int).length = ns.length := List.length_map _
      rw [hl] at hb
      have hj : c.toNat < ns.length := by omega
      walk_at "go"
      exact ⟨a, _, c, .int ns[c.toNat], rfl, rfl, hs, at_of (j := c.toNat) (by omega) (by rw [List.getElem?_map, List.getElem?_eq_getElem hj]; rfl), k _ H (Same.refl H)⟩
    · walk_at "go"
      intro q hq
      refine ⟨q, rfl, ⟨_, SqL.of upd_same⟩, for_listD (cutV (ns.map V.int) none (some 3)) (fun i σ H' => ∃ (z : Int) (v : Option V), σ = [some (.ref a), some (.int c), some (.int z), v] ∧ H' = upd H q (.lst (cutV (ns.map V.int) none (some 3))))
        ⟨_, none, rfl, rfl⟩ (fun i σ H' _ ⟨_, _, _, e⟩ => by rw [e]; exact SqL.of upd_same) ?_ ?_⟩
      · rintro i x σ H' hx ⟨z, v, rfl, rfl⟩
        obtain ⟨y, rfl⟩ : ∃ y, x = V.int y := by
          have hm := List.mem_of_mem_drop (List.mem_of_mem_take (List.mem_of_getElem? hx))
          obtain ⟨y, _, e⟩ := List.mem_map.mp hm
          exact ⟨y, e.symm⟩
        walk_at "go"
        exact ⟨_, _, rfl, rfl⟩
      · rintro σ H' ⟨z, v, rfl, rfl⟩
        walk_at "go"
        refine k z _ fun b o e => ?_
        rw [upd_ne (ne_of_none e hq)]
        exact e
end
end K19
namespace K19
open PySem L2
open PyProof.Rows (envOfC)
section
variable {P : Program} {w : World} {K : PySem.W.Frag} {mg : Str → Option Value} {base : Heap}
/-- a purse -/
def Pu (H : Hp) (p : Addr) : Prop := ∃ a b c : Int, H p = some (.lst [.int a, .int b, .int c])
def spTakeP : Sp := fun vs H Q _ => ∃ p m, vs = [.ref p, .int m] ∧ Pu H p ∧ 0 < m ∧ m < 1073741824 ∧ ∀ (r : Int) H', 0 ≤ r → r < m → KeepX p H H' → Pu H' p → Q (.int r) H'
theorem takeP (C : Cal P w K mg base 1 "_law_take" a_lTake spTake) : Cal P w K mg base 1 "_law_take" a_lTake spTakeP := by
  obtain ⟨f, fd, F, a, b, c⟩ := C.ex
  refine ⟨f, fd, F.imp fun vs H Q E h => ?_, a, b, c⟩
  obtain ⟨p, m, rfl, ⟨x, y, z, e⟩, m0, m1, k⟩ := h
  exact ⟨p, m, x, y, z, rfl, e, m0, m1, fun r a' b' c' r0 r1 => k r _ r0 r1 (fun u o hu hb => upd_ne2 hu hb) ⟨a', b', c', upd_same⟩⟩
theorem KeepX.refl (p : Addr) (H : Hp) : KeepX p H H := fun _ _ _ e => e
theorem KeepX.trans {p : Addr} {H H1 H2 : Hp} (a : KeepX p H H1) (b : KeepX p H1 H2) : KeepX p H H2 := fun c o n e => b c o n (a c o n e)
theorem KeepX.of {p : Addr} {H H' : Hp} (s : Same H H') : KeepX p H H' := fun c o _ e => s c o e
theorem Pu.same {H H' : Hp} {p : Addr} (s : Same H H') (u : Pu H p) : Pu H' p := by
  obtain ⟨a, b, c, e⟩ := u
  exact ⟨a, b, c, s _ _ e⟩
theorem KeepX.free {p b : Addr} {H H' : Hp} (k : KeepX p H H') (u : Pu H' p) (h : H' b = none) : H b = none := by
  cases e : H b with
  | none => rfl
  | some o =>
    by_cases hb : b = p
    · obtain ⟨x, y, z, q⟩ := u
      rw [hb, q] at h
      cases h
    · rw [k b o hb e] at h
      cases h
theorem Pu.ne {H : Hp} {p b : Addr} (u : Pu H p) (h : H b = none) : b ≠ p := fun z => by
  obtain ⟨x, y, w, q⟩ := u
  rw [z, q] at h
  cases h
/-- the words of the law's own -/
def ownW : List Str := ["task", "door", "every", "let", "leave", "come", "serve", "end", "in", "soon", "none", "go"]
theorem ownW_ok : ownW.length = 12 ∧ ownW.Nodup ∧ ∀ n ∈ ownW, IsName n := by
  refine ⟨rfl, by decide +kernel, ?_⟩
  have h : ∀ n ∈ ownW, 1 ≤ n.length ∧ n.length ≤ 8 ∧ (n.cps.toList.all fun c => decide (97 ≤ c ∧ c ≤ 122)) = true := by decide +kernel
  intro n hn
  obtain ⟨h1, h2, h3⟩ := h n hn
  exact ⟨h1, h2, fun c hc => of_decide_eq_true (List.all_eq_true.mp h3 c hc)⟩
theorem pick4 {r : Int} (h0 : 0 ≤ r) (h1 : r < 4) : ∃ st : Int, atI [V.int 1, .int 5, .int 7, .int 11] r = some (.int st) ∧ (st = 1 ∨ st = 5 ∨ st = 7 ∨ st = 11) := by
  have : r = 0 ∨ r = 1 ∨ r = 2 ∨ r = 3 := by omega
  rcases this with rfl | rfl | rfl | rfl
  · exact ⟨1, rfl, by simp⟩
  · exact ⟨5, rfl, by simp⟩
  · exact ⟨7, rfl, by simp⟩
  · exact ⟨11, rfl, by simp⟩
/-- the names drawn from a list of n by steps -/
theorem step_nd {n : Int} (hn : n = 12 ∨ n = 26) {b st : Int} (hs : st = 1 ∨ st = 5 ∨ st = 7 ∨ st = 11) {i j : Nat} (hi : i < 8) (hj : j < 8) (e : (b + st * (0 + (i : Nat))) % n = (b + st * (0 + (j : Nat))) % n) : i = j := by
  rcases hn with rfl | rfl <;> rcases hs with rfl | rfl | rfl | rfl <;> omega
theorem nodup_range {α : Type} (f : Nat → α) (n : Nat) (h : ∀ i j, i < n → j < n → f i = f j → i = j) : ((List.range n).map f).Nodup := by
  rw [List.nodup_iff_pairwise_ne, List.pairwise_map]
  refine List.Pairwise.imp_of_mem (R := fun a b => a < b) (fun {a b} ha hb lt e => ?_) List.pairwise_lt_range
  have := h a b (List.mem_range.mp ha) (List.mem_range.mp hb) e
  omega
theorem letter_at {r : Int} (h0 : 0 ≤ r) (h1 : r < 26) : (Str.ofString "abcdefghijklmnopqrstuvwxyz").cps[r.toNat]? = some (97 + r.toNat) := by
  have h : ∀ n, n < 26 → (Str.ofString "abcdefghijklmnopqrstuvwxyz").cps[n]? = some (97 + n) := by decide +kernel
  exact h _ (by omega)
/-- a text with a sign put in -/
def putS (cs : List Nat) (cut c : Nat) : Str := ⟨(cs.take cut ++ c :: cs.drop cut).toArray⟩
theorem putS_eq {cs : List Nat} {cut : Int} {c : Nat} (h0 : 0 ≤ cut) (h1 : cut ≤ cs.length) : cutS ⟨cs.toArray⟩ none (some cut) ++ ⟨#[c]⟩ ++ cutS ⟨cs.toArray⟩ (some cut) none = putS cs cut.toNat c := by
  have l : (⟨cs.toArray⟩ : Str).length = cs.length := by simp [TL.len_tl, TL.tl]
  have e : min cut.toNat cs.length = cut.toNat := by omega
  apply TL.ext_tl
  rw [TL.tl_append, TL.tl_append]
  unfold cutS putS
  rw [l]
  simp only [HT.sIx]
  rw [if_neg (by omega), e]
  simp only [TL.tl]
  simp
  exact List.take_of_length_le (by simp)
theorem putS_len (cs : List Nat) (cut c : Nat) : (putS cs cut c).length = cs.length + 1 := by
  rw [TL.len_tl]
  simp [putS, TL.tl]
  omega
theorem putS_mem {cs : List Nat} {cut c x : Nat} (h : x ∈ (putS cs cut c).cps.toList) : x = c ∨ x ∈ cs := by
  simp only [putS] at h
  rcases List.mem_append.mp h with h | h
  · exact .inr (List.mem_of_mem_take h)
  · rcases List.mem_cons.mp h with h | h
    · exact .inl h
    · exact .inr (List.mem_of_mem_drop h)
theorem putS_inj {cs : List Nat} {cut a b : Nat} (h : putS cs cut a = putS cs cut b) : a = b := by
  have h1 : cs.take cut ++ a :: cs.drop cut = cs.take cut ++ b :: cs.drop cut := congrArg (fun x : Str => x.cps.toList) h
  exact (List.cons.inj (List.append_cancel_left h1)).1
theorem joinL_one : ∀ cs : List Nat, TL.joinL [] (cs.map fun c => [c]) = cs
  | [] => rfl
  | [c] => rfl
  | c :: d :: r => by
    have ih := joinL_one (d :: r)
    show [c] ++ ([] ++ TL.joinL [] ((d :: r).map fun c => [c])) = _
    rw [ih]
    rfl
theorem join_signs (cs : List Nat) : Txt.join (Str.ofString "") (cs.map fun c => (⟨#[c]⟩ : Str)) = ⟨cs.toArray⟩ := by
  rw [TL.join_eq]
  apply TL.ext_tl
  rw [TL.tl_join]
  have e1 : TL.tl (Str.ofString "") = [] := rfl
  have e2 : (cs.map fun c => (⟨#[c]⟩ : Str)).map TL.tl = cs.map fun c => [c] := by
    rw [List.map_map]
    rfl
  rw [e1, e2, joinL_one]
/-- eight names -/
def spWords : Sp := fun vs H Q _ => ∃ p, vs = [.ref p, .int 8] ∧ Pu H p ∧ ∀ q (ns : List Str) H', H q = none → KeepX p H H' → Pu H' p → H' q = some (.lst (ns.map V.str)) → ns.length = 8 → ns.Nodup → (∀ n ∈ ns, IsName n) → Q (.ref q) H'
theorem ok_lWords (F : Fx K mg "_law_words" s_lWords a_lWords) (T : Txt K mg) (C_lTake : Cal P w K mg base 1 "_law_take" a_lTake spTakeP) : Cal P w K mg base 2 "_law_words" a_lWords spWords := by
  refine cal_of F sc_lWords (fun vs H Q E h => ?_) (fun f cdv A outer s H vs Q E hr h => ?_)
  · obtain ⟨p, rfl, _⟩ := h
    rfl
  · obtain ⟨p, rfl, pu, k⟩ := h
    refine ⟨_, (pss_cons (ps_set (i := 2) sc_lWords.nd rfl (Or.inr rfl) (pe_lst (pa_cons pe_str (pa_cons pe_str (pa_cons pe_str (pa_cons pe_str (pa_cons pe_str (pa_cons pe_str (pa_cons pe_str (pa_cons pe_str (pa_cons pe_str (pa_cons pe_str (pa_cons pe_str (pa_cons pe_str pa_nil))))))))))))))
  (pss_cons (ps_asg (pe_tup (pa_cons (pe_cal C_lTake (hr.mono (by decide)) (pa_cons (pv 0) (pa_cons pe_int pa_nil))) (pa_cons (pe_ix ix_list (pe_lst (pa_cons pe_int (pa_cons pe_int (pa_cons pe_int (pa_cons pe_int pa_nil))))) (pe_cal C_lTake (hr.mono (by decide)) (pa_cons (pv 0) (pa_cons pe_int pa_nil))) (fun _ _ => rfl)) pa_nil))) (pg_tup rfl (pgs_cons (pg_name (i := 3) sc_lWords.nd rfl (Or.inr rfl)) (pgs_cons (pg_name (i := 4) sc_lWords.nd rfl (Or.inr rfl)) pgs_nil))))
  (pss_cons (ps_if (pt_cmpR op_eq (pe_cal C_lTake (hr.mono (by decide)) (pa_cons (pv 0) (pa_cons pe_int pa_nil))) pe_int (nomark _))
  (pss_one (ps_ret (pe_lc (own := [("_law_k", 5)]) (tt := tYes) (te := (tOp (rIxL K) _ _)) rfl sc_lWords.nd (pi_range1 rfl T.range (pa_cons (pv 1) pa_nil)) (blkOk_by (N := n_lWords) (sc := defScope s_lWords) (by decide +kernel)) (fun _ _ _ _ _ => (pg_name (i := 5) sc_lWords.nd rfl (Or.inl rfl))) (fun _ _ _ _ _ => pts_nil) (fun _ _ _ _ _ => (pe_ix ix_list (pv 2) (pe_op op_mod (pe_op op_add (pv 3) (pe_op op_mul (pv 4) (pv 5))) pe_int) (fun _ _ => rfl))))))
  pss_nil)
  (pss_cons (ps_set (i := 6) sc_lWords.nd rfl (Or.inr rfl) pe_str)
  (pss_cons (ps_set (i := 7) sc_lWords.nd rfl (Or.inr rfl) (pe_join pe_str (pe_lc (own := [("_law_k", 5)]) (tt := tYes) (te := _) rfl sc_lWords.nd (pi_range1 rfl T.range (pa_cons (pe_cal C_lTake (hr.mono (by decide)) (pa_cons (pv 0) (pa_cons pe_int pa_nil))) pa_nil)) (blkOk_by (N := n_lWords) (sc := defScope s_lWords) (by decide +kernel)) (fun _ _ _ _ _ => (pg_name (i := 5) sc_lWords.nd rfl (Or.inl rfl))) (fun _ _ _ _ _ => pts_nil) (fun _ _ _ _ _ => (pe_item_str (pv 6) (pe_cal C_lTake (hr.mono (by decide)) (pa_cons (pv 0) (pa_cons pe_int pa_nil))) (fun _ _ => rfl))))))
  (pss_cons (ps_asg (pe_tup (pa_cons (pe_cal C_lTake (hr.mono (by decide)) (pa_cons (pv 0) (pa_cons (pe_op op_add (pe_callB call_len_str (by rfl) T.len (by decide +kernel) (pa_cons (pv 7) pa_nil)) pe_int) pa_nil))) (pa_cons (pe_cal C_lTake (hr.mono (by decide)) (pa_cons (pv 0) (pa_cons pe_int pa_nil))) pa_nil))) (pg_tup rfl (pgs_cons (pg_name (i := 8) sc_lWords.nd rfl (Or.inr rfl)) (pgs_cons (pg_name (i := 9) sc_lWords.nd rfl (Or.inr rfl)) pgs_nil))))
  (pss_one (ps_ret (pe_lc (own := [("_law_k", 5)]) (tt := tYes) (te := _) rfl sc_lWords.nd (pi_range1 rfl T.range (pa_cons (pv 1) pa_nil)) (blkOk_by (N := n_lWords) (sc := defScope s_lWords) (by decide +kernel)) (fun _ _ _ _ _ => (pg_name (i := 5) sc_lWords.nd rfl (Or.inl rfl))) (fun _ _ _ _ _ => pts_nil) (fun _ _ _ _ _ => (pe_op op_add_str (pe_op op_add_str (pe_slice sl_str (pv 7) po_none (po_some (pv 8))) (pe_item_str (pv 6) (pe_op op_mod (pe_op op_add (pv 9) (pe_op op_mul (pv 4) (pv 5))) pe_int) (fun _ _ => rfl))) (pe_slice sl_str (pv 7) (po_some (pv 8)) po_none)))))))))))), ?_⟩
    try dsimp only [cxOf]
    refine at_ [some (.ref p), some (.int 8), none, none, none, none, none, none, none, none] rfl ?_
    walk_at "go"
    refine ⟨le_sz (by simp), fun O hO => ?_⟩
    have eO : upd H O (.lst (ownW.map V.str)) O = some (.lst (ownW.map V.str)) := upd_same
    have s1 : Same H (upd H O (.lst (ownW.map V.str))) := same_of_upd hO
    have go1 : ∀ H1, upd H O (.lst (ownW.map V.str)) = H1 → _ := fun H1 e => by
      subst e
      exact trivial
    clear go1
    change gName 2 (V.ref O) _ (upd H O (.lst (ownW.map V.str))) _
    generalize upd H O (.lst (ownW.map V.str)) = H1 at eO s1 ⊢
    walk_at "go"
    refine ⟨p, 12, rfl, pu.same s1, by omega, by omega, fun sp H2 sp0 sp1 k2 pu2 => ?_⟩
    walk_at "go"
    refine ⟨le_sz (by simp), fun S hS => ?_⟩
    have eS := upd_same (H := H2) (a := S) (o := .lst [V.int 1, .int 5, .int 7, .int 11])
    have k3 := KeepX.of (p := p) (same_of_upd (o := .lst [V.int 1, .int 5, .int 7, .int 11]) hS)
    have pu3 := pu2.same (same_of_upd (o := .lst [V.int 1, .int 5, .int 7, .int 11]) hS)
    have nS : S ≠ p := pu2.ne hS
    generalize upd H2 S (.lst [V.int 1, .int 5, .int 7, .int 11]) = H3 at eS k3 pu3 ⊢
    walk_at "go"
    refine ⟨p, 4, rfl, pu3, by omega, by omega, fun r H4 r0 r1 k4 pu4 => ?_⟩
    obtain ⟨st, hst, hs4⟩ := pick4 r0 r1
    have eS4 := k4 _ _ nS eS
    have k04 : KeepX p H H4 := (KeepX.of s1).trans (k2.trans (k3.trans k4))
    have nO : O ≠ p := fun z => by
      rw [z] at hO
      obtain ⟨_, _, _, q⟩ := pu
      rw [q] at hO
      cases hO
    have eO4 := k4 _ _ nO (k3 _ _ nO (k2 _ _ nO eO))
    walk_at "go"
    refine ⟨le_sz (by simp), fun Z hZ => ?_⟩
    have k5 : KeepX p H (upd H4 Z (.tup [.int sp, .int st])) := k04.trans (KeepX.of (same_of_upd hZ))
    have pu5 := pu4.same (same_of_upd (o := .tup [.int sp, .int st]) hZ)
    have eO5 := same_of_upd (o := .tup [.int sp, .int st]) hZ _ _ eO4
    have eZ := upd_same (H := H4) (a := Z) (o := .tup [.int sp, .int st])
    generalize upd H4 Z (.tup [.int sp, .int st]) = H5 at k5 pu5 eO5 eZ ⊢
    walk_at "go"
    refine ⟨p, 4, rfl, pu5, by omega, by omega, fun c H6 c0 c1 k6 pu6 => ?_⟩
    have eO6 := k6 _ _ nO eO5
    have k06 := k5.trans k6
    walk_at "go"
    refine i_dec (fun _ => ?_) (fun _ => ?_)
    · walk_at "go"
      have hat : ∀ i : Nat, ∃ n, ownW[((sp + st * (0 + (i : Nat))) % 12).toNat]? = some n ∧ atI (ownW.map V.str) ((sp + st * (0 + (i : Nat))) % 12) = some (.str n) := fun i => by
        have l : ((sp + st * (0 + (i : Nat))) % 12).toNat < ownW.length := by
          rw [ownW_ok.1]
          omega
        refine ⟨_, List.getElem?_eq_getElem l, at_of (j := ((sp + st * (0 + (i : Nat))) % 12).toNat) (by omega) ?_⟩
        rw [List.getElem?_map, List.getElem?_eq_getElem l]
        rfl
      have nm : ∀ {i : Nat} {n : Str}, ownW[((sp + st * (0 + (i : Nat))) % 12).toNat]? = some n → ownW.getD ((sp + st * (0 + (i : Nat))) % 12).toNat Str.empty = n := fun h => by
        rw [List.getD_eq_getElem?_getD, h]
        rfl
      refine ⟨by decide, by decide, fun D hD => lcm_r hD (by decide) [some (.ref p), some (.int 8), some (.ref O), some (.int sp), some (.int st), none, none, none, none, none] rfl
        (fun i => some (.str (ownW.getD ((sp + st * (0 + (i : Nat))) % 12).toNat Str.empty))) (fun i H7 R hi s7 q => ?_) fun H7 s7 e => ?_⟩
      · obtain ⟨n, h1, h2⟩ := hat i
        have hi8 : i < 8 := hi
        have q1 := q H7 (Same.refl H7)
        rw [nm h1] at q1
        have eO7 := s7 _ _ eO6
        walk_at "go"
        refine ⟨rfl, ?_⟩
        walk_at "go"
        exact q1
      · rw [fm_some] at e
        refine k D ((List.range 8).map fun i => ownW.getD ((sp + st * (0 + (i : Nat))) % 12).toNat Str.empty) H7 (k06.free pu6 hD) (k06.trans (KeepX.of s7)) (pu6.same s7) (by rw [List.map_map]; exact e) (by simp) (nodup_range _ _ fun i j hi hj z => ?_) fun n hn => ?_
        · obtain ⟨a, a1, _⟩ := hat i
          obtain ⟨b, b1, _⟩ := hat j
          rw [nm a1, nm b1] at z
          subst z
          have := nd_ix ownW_ok.2.1 a1 b1
          exact step_nd (n := 12) (.inl rfl) (b := sp) hs4 hi hj (by have z1 := Int.emod_nonneg (sp + st * (0 + (i : Nat))) (show (12 : Int) ≠ 0 by decide); have z2 := Int.emod_nonneg (sp + st * (0 + (j : Nat))) (show (12 : Int) ≠ 0 by decide); omega)
        · obtain ⟨i, hi, rfl⟩ := List.mem_map.mp hn
          obtain ⟨a, a1, _⟩ := hat i
          rw [nm a1]
          exact ownW_ok.2.2 _ (List.mem_of_getElem? a1)
    · walk_at "go"
      refine ⟨⟨_, rfl⟩, ?_⟩
      walk_at "go"
      refine ⟨p, 8, rfl, pu6, by omega, by omega, fun m H7 m0 m1 k7 pu7 => ?_⟩
      have k07 := k06.trans k7
      walk_at "go"
      refine ⟨by omega, by omega, fun D hD => ?_⟩
      have nD : D ≠ p := pu7.ne hD
      refine lc_it walk_range (fun i H' => ∃ cs : List Nat, H' D = some (.lst ((cs.map fun c => (⟨#[c]⟩ : Str)).map V.str)) ∧ cs.length = i ∧ (∀ c ∈ cs, 97 ≤ c ∧ c ≤ 122) ∧ Pu H' p ∧ ∀ b o, b ≠ p → b ≠ D → H7 b = some o → H' b = some o)
        ⟨[], upd_same, rfl, (fun _ h => nomatch h), ?_, (fun b o _ hb e => upd_ne2 hb e)⟩ (fun _ _ _ _ => trivial) ?_ ?_
      · obtain ⟨x, y, z, e⟩ := pu7
        exact ⟨x, y, z, upd_ne2 (Ne.symm nD) e⟩
      · rintro i x H8 H9 hi ⟨cs, eD, lc, lets, pu8, kp⟩ ⟨rfl, rfl⟩
        walk_at "go"
        refine ⟨rfl, ?_⟩
        walk_at "go"
        refine ⟨p, 26, rfl, pu8, by omega, by omega, fun r H10 r0 r1 k10 pu10 => ?_⟩
        refine ⟨_, r, _, rfl, rfl, r0, by omega, ?_, letter_at r0 r1, ?_⟩
        · have : (Str.ofString "abcdefghijklmnopqrstuvwxyz").length = 26 := by decide +kernel
          rw [this]
          omega
        refine ⟨_, k10 _ _ nD eD, lt_sz (by simp; omega), cs ++ [97 + r.toNat], ?_, by simp [lc], fun c hc => ?_, ?_, fun b o hb hD' e => ?_⟩
        · rw [List.map_append, List.map_append]
          exact upd_same
        · rcases List.mem_append.mp hc with h | h
          · exact lets c h
          · have := List.mem_singleton.mp h
            omega
        · obtain ⟨x, y, z, e⟩ := pu10
          exact ⟨x, y, z, upd_ne2 (Ne.symm nD) e⟩
        · exact upd_ne2 hD' (k10 b o hb (kp b o hb hD' e))
      · rintro H8 ⟨cs, eD, lc, lets, pu8, kp⟩
        walk_at "go"
        have k8 : KeepX p H7 H8 := fun b o hb e => kp b o hb (ne_of_none e hD) e
        have k08 := k07.trans k8
        have lc7 : cs.length ≤ 7 := by omega
        have ls : (⟨cs.toArray⟩ : Str).length = cs.length := by simp [TL.len_tl, TL.tl]
        refine ⟨_, D, cs.map fun c => (⟨#[c]⟩ : Str), rfl, rfl, .inl (SqL.of eD), ?_, ?_⟩
        · have : ((cs.map fun c => (⟨#[c]⟩ : Str)).map (·.length)).sum ≤ 7 := by
            have e : (cs.map fun c => (⟨#[c]⟩ : Str)).map (·.length) = cs.map fun _ => 1 := by
              rw [List.map_map]
              rfl
            rw [e]
            have : ∀ l : List Nat, (l.map fun _ => 1).sum = l.length := fun l => by
              induction l with
              | nil => rfl
              | cons a r ih => simp [ih]; omega
            rw [this]
            exact lc7
          have e0 : (Str.ofString "").length = 0 := rfl
          rw [e0, Nat.mul_zero]
          omega
        rw [join_signs]
        walk_at "go"
        refine ⟨_, rfl, by rw [ls]; exact le_sz (by omega), ?_⟩
        walk_at "go"
        refine ⟨p, _, rfl, pu8, by omega, by omega, fun cut H9 u0 u1 k9 pu9 => ?_⟩
        walk_at "go"
        refine ⟨p, 26, rfl, pu9, by omega, by omega, fun bg H10 b0 b1 k10 pu10 => ?_⟩
        have k010 := k08.trans (k9.trans k10)
        walk_at "go"
        refine ⟨le_sz (by simp), fun Z2 hZ2 => ?_⟩
        have k11 : KeepX p H (upd H10 Z2 (.tup [.int cut, .int bg])) := k010.trans (KeepX.of (same_of_upd hZ2))
        have pu11 := pu10.same (same_of_upd (o := .tup [.int cut, .int bg]) hZ2)
        have eZ2 := upd_same (H := H10) (a := Z2) (o := .tup [.int cut, .int bg])
        generalize upd H10 Z2 (.tup [.int cut, .int bg]) = H11 at k11 pu11 eZ2 ⊢
        walk_at "go"
        have m26 : ∀ i : Nat, 0 ≤ (bg + st * (0 + (i : Nat))) % 26 ∧ (bg + st * (0 + (i : Nat))) % 26 < 26 := fun i => ⟨Int.emod_nonneg _ (by decide), Int.emod_lt_of_pos _ (by decide)⟩
        refine ⟨by decide, by decide, fun D2 hD2 => lcm_r hD2 (by decide) [some (.ref p), some (.int 8), some (.ref O), some (.int sp), some (.int st), none, some (.str "abcdefghijklmnopqrstuvwxyz"), some (.str ⟨cs.toArray⟩), some (.int cut), some (.int bg)] rfl
          (fun i => some (.str (putS cs cut.toNat (97 + ((bg + st * (0 + (i : Nat))) % 26).toNat)))) (fun i H12 R hi s12 q => ?_) fun H12 s12 e => ?_⟩
        · obtain ⟨q0, q1⟩ := m26 i
          have hi8 : i < 8 := hi
          walk_at "go"
          refine ⟨rfl, ?_⟩
          walk_at "go"
          refine ⟨_, rfl, by rw [ls]; exact le_sz (by omega), ?_⟩
          walk_at "go"
          refine ⟨_, _, _, rfl, rfl, q0, by omega, ?_, letter_at q0 q1, ?_⟩
          · have : (Str.ofString "abcdefghijklmnopqrstuvwxyz").length = 26 := by decide +kernel
            rw [this]
            omega
          have lcut : ∀ lo hi, (cutS ⟨cs.toArray⟩ lo hi).length ≤ 7 := fun lo hi => by
            rw [TL.len_tl]
            unfold cutS
            simp only [TL.tl]
            rw [List.length_take, List.length_drop]
            omega
          have l1 := lcut none (some cut)
          have l2 := lcut (some cut) none
          refine ⟨_, _, rfl, rfl, le_sz (by have : (⟨#[97 + ((bg + st * (0 + (i : Nat))) % 26).toNat]⟩ : Str).length = 1 := rfl; omega), ?_⟩
          walk_at "go"
          refine ⟨_, rfl, by rw [ls]; exact le_sz (by omega), ?_⟩
          walk_at "go"
          have l3 : (cutS ⟨cs.toArray⟩ none (some cut) ++ ⟨#[97 + ((bg + st * (0 + (i : Nat))) % 26).toNat]⟩).length ≤ 8 := by
            rw [TL.len_tl, TL.tl_append, List.length_append, ← TL.len_tl, ← TL.len_tl]
            have : (⟨#[97 + ((bg + st * (0 + (i : Nat))) % 26).toNat]⟩ : Str).length = 1 := rfl
            omega
          refine ⟨_, _, rfl, rfl, le_sz (by omega), ?_⟩
          rw [putS_eq u0 (by omega)]
          exact q H12 (Same.refl H12)
        · rw [fm_some] at e
          refine k D2 ((List.range 8).map fun i => putS cs cut.toNat (97 + ((bg + st * (0 + (i : Nat))) % 26).toNat)) H12 (k11.free pu11 hD2) (k11.trans (KeepX.of s12)) (pu11.same s12) (by rw [List.map_map]; exact e) (by simp) (nodup_range _ _ fun i j hi hj z => ?_) fun n hn => ?_
          · have z2 := putS_inj z
            obtain ⟨a0, a1⟩ := m26 i
            obtain ⟨c0, c1⟩ := m26 j
            exact step_nd (n := 26) (.inr rfl) (b := bg) hs4 hi hj (by omega)
          · obtain ⟨i, hi, rfl⟩ := List.mem_map.mp hn
            obtain ⟨a0, a1⟩ := m26 i
            refine ⟨by rw [putS_len]; omega, by rw [putS_len]; omega, fun c hc => ?_⟩
            rcases putS_mem hc with h | h
            · omega
            · exact lets c h
end
end K19
namespace K19
open PySem L2
open PyProof.Rows (envOfC)
/-- sorted texts, none twice: they rise -/
abbrev TLt (a b : Str) : Prop := a.cps.toList < b.cps.toList
theorem rising_lt : ∀ (r : List Str) (p : Str), PyProof.Rows.risingS p r = true → (p :: r).Nodup → (∀ x ∈ r, TLt p x) ∧ r.Pairwise TLt
  | [], _, _, _ => ⟨(fun _ h => nomatch h), .nil⟩
  | x :: r, p, h, nd => by
    unfold PyProof.Rows.risingS at h
    rw [Bool.and_eq_true, PyProof.Rows.ltCps_eq] at h
    obtain ⟨h1, h2⟩ := h
    obtain ⟨nd1, nd2⟩ := List.nodup_cons.mp nd
    have ne : p.cps.toList ≠ x.cps.toList := fun e => nd1 (by rw [TL.ext_tl e]; exact List.mem_cons_self)
    have lt : TLt p x := Std.lt_of_le_of_ne (by simpa using h1) ne
    obtain ⟨i1, i2⟩ := rising_lt r x h2 nd2
    refine ⟨fun y hy => ?_, List.pairwise_cons.mpr ⟨i1, i2⟩⟩
    rcases List.mem_cons.mp hy with rfl | hy
    · exact lt
    · exact List.lt_trans lt (i1 y hy)
theorem sortedS_lt : ∀ {ys : List Str}, PyProof.Rows.sortedS ys = true → ys.Nodup → ys.Pairwise TLt
  | [], _, _ => .nil
  | x :: r, h, nd => by
    obtain ⟨a, b⟩ := rising_lt r x h nd
    exact List.pairwise_cons.mpr ⟨a, b⟩
theorem HoldsOk.snoc {hs : List Hold} {c : Int} {h : Hold} (o : HoldsOk hs c) (l : hs.length < 4) (e : IsName h.tool ∧ 0 ≤ h.begin_ ∧ 1 ≤ h.long ∧ h.begin_ + h.long ≤ c) (t : ∀ a, hs.getLast? = some a → HoldLt a h) : HoldsOk (hs ++ [h]) c := by
  refine ⟨by simp; omega, fun x hx => ?_, fun i a b ha hb => ?_⟩
  · rcases List.mem_append.mp hx with z | z
    · exact o.each x z
    · rw [List.mem_singleton.mp z]
      exact e
  · by_cases q : i + 1 < hs.length
    · rw [List.getElem?_append_left (by omega)] at ha
      rw [List.getElem?_append_left q] at hb
      exact o.turn i a b ha hb
    · have lb := (List.getElem?_eq_some_iff.mp hb).1
      simp at lb
      have ei : i + 1 = hs.length := by omega
      rw [List.getElem?_append_left (by omega)] at ha
      rw [List.getElem?_append_right (by omega), ei] at hb
      simp at hb
      subst hb
      refine t a ?_
      rw [List.getLast?_eq_getElem?, ← ei]
      exact ha
theorem HoldsOk.nil (c : Int) : HoldsOk [] c := ⟨by simp, (fun _ h => nomatch h), fun i a b h => by simp at h⟩
theorem KeepX.nl {p : Addr} {H H' : Hp} (k : KeepX p H H') (u : Pu H p) : NL H H' := fun b o m e => by
  refine k b o (fun z => ?_) e
  obtain ⟨x, y, w, q⟩ := u
  rw [z, q] at e
  cases e
  cases m
section
variable {P : Program} {w : World} {K : PySem.W.Frag} {mg : Str → Option Value} {base : Heap}
def spHolds (K : PySem.W.Frag) : Sp := fun vs H Q _ => ∃ (p : Addr) (c : Int) (tl : Addr) (ns : List Str), vs = [.ref p, .int c, .ref tl] ∧ Pu H p ∧ 1 ≤ c ∧ c ≤ 99 ∧ SqL K H tl (ns.map V.str) ∧ ns.length ≤ 8 ∧ ns.Nodup ∧ (∀ n ∈ ns, IsName n) ∧
  ∀ g hs H', KeepX p H H' → Pu H' p → HoldsAt H' g hs → HoldsOk hs c → Q (.ref g) H'
theorem ok_lHolds (F : Fx K mg "_law_holds" s_lHolds a_lHolds) (T : Txt K mg) (C_lTake : Cal P w K mg base 1 "_law_take" a_lTake spTakeP) : Cal P w K mg base 2 "_law_holds" a_lHolds (spHolds K) := by
  refine cal_of F sc_lHolds (fun vs H Q E h => ?_) (fun f cdv A outer s H vs Q E hr h => ?_)
  · obtain ⟨p, c, tl, ns, rfl, _⟩ := h
    rfl
  · obtain ⟨p, c, tl, ns, rfl, pu, c1, c2, hl, few, nd, nm, k⟩ := h
    refine ⟨_, (pss_cons (ps_set (i := 3) sc_lHolds.nd rfl (Or.inl rfl) (pe_lst pa_nil))
  (pss_cons (ps_for PassesOwn.never rfl (pi_list (pe_callB cr_sortedS (by rfl) T.sorted (by decide +kernel) (pa_cons (pv 2) pa_nil))) (pg_name (i := 4) sc_lHolds.nd rfl (Or.inl rfl))
  (pss_one (ps_if (PW.pt (pw_and (pt_cmpR op_lt (pe_callB call_len_seq (by rfl) T.len (by decide +kernel) (pa_cons (pv 3) pa_nil)) pe_int (nomark _)) (pw_and1 (pt_cmpR op_gt (pe_cal C_lTake (hr.mono (by decide)) (pa_cons (pv 0) (pa_cons pe_int pa_nil))) pe_int (nomark _)))))
  (pss_cons (ps_set (i := 5) sc_lHolds.nd rfl (Or.inl rfl) (pe_cal C_lTake (hr.mono (by decide)) (pa_cons (pv 0) (pa_cons (pv 1) pa_nil))))
  (pss_cons (ps_set (i := 6) sc_lHolds.nd rfl (Or.inl rfl) (pe_op op_add pe_int (pe_cal C_lTake (hr.mono (by decide)) (pa_cons (pv 0) (pa_cons (pe_op op_sub (pv 1) (pv 5)) pa_nil)))))
  (pss_cons (ps_expr (pe_bm PySem.F.plainAttrs_list PySem.F.slot_list_append PySem.F.type_list_append mt_append (pv 3) (pa_cons (pe_tup (pa_cons (pv 4) (pa_cons (pv 5) (pa_cons (pv 6) pa_nil)))) pa_nil)))
  (pss_cons (ps_set (i := 7) sc_lHolds.nd rfl (Or.inl rfl) (pe_op op_add (pv 5) (pv 6)))
  (pss_one (ps_if (PW.pt (pw_and (pt_cmpR op_lt (pe_callB call_len_seq (by rfl) T.len (by decide +kernel) (pa_cons (pv 3) pa_nil)) pe_int (nomark _)) (pw_and (pt_cmpR op_lt (pv 7) (pv 1) (nomark _)) (pw_and1 (pt_cmpR op_eq (pe_cal C_lTake (hr.mono (by decide)) (pa_cons (pv 0) (pa_cons pe_int pa_nil))) pe_int (nomark _))))))
  (pss_cons (ps_set (i := 5) sc_lHolds.nd rfl (Or.inl rfl) (pe_op op_add (pv 7) (pe_ix ix_list (pe_lst (pa_cons pe_int (pa_cons (pe_cal C_lTake (hr.mono (by decide)) (pa_cons (pv 0) (pa_cons (pe_op op_sub (pv 1) (pv 7)) pa_nil))) pa_nil))) (pe_cal C_lTake (hr.mono (by decide)) (pa_cons (pv 0) (pa_cons pe_int pa_nil))) (fun _ _ => rfl))))
  (pss_one (ps_expr (pe_bm PySem.F.plainAttrs_list PySem.F.slot_list_append PySem.F.type_list_append mt_append (pv 3) (pa_cons (pe_tup (pa_cons (pv 4) (pa_cons (pv 5) (pa_cons (pe_op op_add pe_int (pe_cal C_lTake (hr.mono (by decide)) (pa_cons (pv 0) (pa_cons (pe_op op_sub (pv 1) (pv 5)) pa_nil)))) pa_nil)))) pa_nil)))))
  pss_nil))))))
  pss_nil)))
  (pss_one (ps_ret (pe_tupleOf (by rfl) T.tuple (pv 3)))))), ?_⟩
    try dsimp only [cxOf]
    refine at_ [some (.ref p), some (.int c), some (.ref tl), none, none, none, none, none] rfl ?_
    walk_at "go"
    refine ⟨le_sz (by simp), fun L hL => ?_⟩
    have s1 : Same H (upd H L (.lst [])) := same_of_upd hL
    have nL : L ≠ p := pu.ne hL
    have eL : upd H L (.lst []) L = some (.lst []) := upd_same
    generalize upd H L (.lst []) = H1 at s1 eL ⊢
    have hl1 := s1.seq hl
    walk_at "go"
    refine ⟨tl, ns, rfl, hl1, by omega, fun ys S perm sorted hS => ?_⟩
    have s2 : Same H (upd H1 S (.lst (ys.map V.str))) := same_in_upd s1 (s1.free hS)
    have s12 : Same H1 (upd H1 S (.lst (ys.map V.str))) := same_of_upd hS
    have pu2 := pu.same s2
    have nS : S ≠ p := (pu.same s1).ne hS
    have nSL : S ≠ L := fun z => by rw [z, eL] at hS; cases hS
    have eL2 := s12 _ _ eL
    have eS : upd H1 S (.lst (ys.map V.str)) S = some (.lst (ys.map V.str)) := upd_same
    generalize upd H1 S (.lst (ys.map V.str)) = H2 at s2 s12 pu2 eL2 eS ⊢
    have ynd : ys.Nodup := perm.nodup_iff.mpr nd
    have ylt := sortedS_lt sorted ynd
    have ynm : ∀ y ∈ ys, IsName y := fun y hy => nm y (perm.mem_iff.mp hy)
    walk_at "go"
    refine ⟨⟨_, SqL.of eS⟩, for_itD walk_list (fun i σ H' => ∃ u4 u5 u6 u7, σ = [some (.ref p), some (.int c), some (.ref tl), some (.ref L), u4, u5, u6, u7] ∧ KeepX p H H' ∧ Pu H' p ∧ H' S = some (.lst (ys.map V.str)) ∧
        ∃ fs hs, H' L = some (.lst fs) ∧ All2 (HoldAt H') fs hs ∧ HoldsOk hs c ∧ ∀ h ∈ hs, h.tool ∈ ys.take i)
      ⟨none, none, none, none, rfl, KeepX.of s2, pu2, eS, [], [], eL2, All2.nil, HoldsOk.nil c, (fun _ h => nomatch h)⟩ (fun _ _ _ _ ⟨_, _, _, _, _, _, _, e, _⟩ => SqL.of e) ?_ ?_⟩
    · rintro i x σ H3 H4 hi ⟨u4, u5, u6, u7, rfl, k3, pu3, eS3, fs, hs, eL3, fa, ho, hin⟩ ⟨rfl, hx⟩
      rw [List.getElem?_map] at hx
      obtain ⟨y, hy, rfl⟩ := Option.map_eq_some_iff.mp hx
      have lf : fs.length = hs.length := fa.1
      have l4 := ho.few
      have before : ∀ h ∈ hs, TLt h.tool y := fun h hh => by
        obtain ⟨j, hj, e⟩ := List.mem_iff_getElem.mp (hin h hh)
        rw [List.length_take] at hj
        rw [← e, List.getElem_take]
        have li := (List.getElem?_eq_some_iff.mp hy)
        rw [← li.2]
        exact List.pairwise_iff_getElem.mp ylt j i (by omega) li.1 (by omega)
      have inY : ∀ h ∈ hs, h.tool ∈ ys.take (i + 1) := fun h hh => (List.take_subset_take_left ys (Nat.le_succ i)) (hin h hh)
      walk_at "go"
      refine i_dec (fun l1 => ?_) (fun l1 => ?_)
      case refine_2 =>
        walk_at "go"
        exact ⟨_, _, _, _, rfl, k3, pu3, eS3, fs, hs, eL3, fa, ho, inY⟩
      walk_at "go"
      refine ⟨p, 3, rfl, pu3, by omega, by omega, fun r H4 r0 r1 k4 pu4 => ?_⟩
      have fa4 : All2 (HoldAt H4) fs hs := fa.mono fun _ _ _ _ => HoldAt.nl (k4.nl pu3)
      have eL4 := k4 _ _ nL eL3
      have eS4 := k4 _ _ nS eS3
      have k04 := k3.trans k4
      walk_at "go"
      refine i_dec (fun r2 => ?_) (fun r2 => ?_)
      case refine_2 =>
        walk_at "go"
        exact ⟨_, _, _, _, rfl, k04, pu4, eS4, fs, hs, eL4, fa4, ho, inY⟩
      walk_at "go"
      refine ⟨p, c, rfl, pu4, by omega, by omega, fun b H5 b0 b1 k5 pu5 => ?_⟩
      walk_at "go"
      refine ⟨p, _, rfl, pu5, by omega, by omega, fun z H6 z0 z1 k6 pu6 => ?_⟩
      have k46 := k5.trans k6
      have eL6 := k46 _ _ nL eL4
      have eS6 := k46 _ _ nS eS4
      walk_at "go"
      refine ⟨.inl ⟨rfl, _, SqL.of eL6⟩, ?_⟩
      walk_at "go"
      refine ⟨le_sz (by simp), fun tp htp => ?_⟩
      have s7 : Same H6 (upd H6 tp (.tup [.str y, .int b, .int (1 + z)])) := same_of_upd htp
      have etp := upd_same (H := H6) (a := tp) (o := .tup [.str y, .int b, .int (1 + z)])
      generalize upd H6 tp (.tup [.str y, .int b, .int (1 + z)]) = H7 at s7 etp ⊢
      walk_at "go"
      refine i_append (s7 _ _ eL6) (lt_sz (by omega)) ?_
      have n78 : NL H7 (upd H7 L (.lst (fs ++ [.ref tp]))) := nl_upd (s7 _ _ eL6) rfl
      have n8 : NL H4 (upd H7 L (.lst (fs ++ [.ref tp]))) := ((k46.nl pu4).trans (same_nl s7)).trans n78
      have pu8 : Pu (upd H7 L (.lst (fs ++ [.ref tp]))) p := by
        obtain ⟨a1, a2, a3, e⟩ := pu6.same s7
        exact ⟨a1, a2, a3, upd_ne2 (Ne.symm nL) e⟩
      have k8 : KeepX p H (upd H7 L (.lst (fs ++ [.ref tp]))) := fun u o hu e => by
        have e7 := s7 _ _ (k46 _ _ hu (k04 _ _ hu e))
        exact upd_ne2 (ne_of_none e hL) e7
      have eL8 := upd_same (H := H7) (a := L) (o := .lst (fs ++ [.ref tp]))
      have eS8 : upd H7 L (.lst (fs ++ [.ref tp])) S = some (.lst (ys.map V.str)) := upd_ne2 nSL (s7 _ _ eS6)
      have fa8 : All2 (HoldAt (upd H7 L (.lst (fs ++ [.ref tp])))) (fs ++ [.ref tp]) (hs ++ [⟨y, b, 1 + z⟩]) := (fa4.mono fun _ _ _ _ => HoldAt.nl n8).snoc ⟨tp, rfl, n78 _ _ rfl etp⟩
      generalize upd H7 L (.lst (fs ++ [.ref tp])) = H8 at n78 n8 pu8 k8 eL8 eS8 fa8 ⊢
      have ymem : y ∈ ys := List.mem_of_getElem? hy
      have ytake : y ∈ ys.take (i + 1) := by
        rw [List.take_add_one, hy]
        simp
      have ho8 : HoldsOk (hs ++ [⟨y, b, 1 + z⟩]) c := ho.snoc (by omega) ⟨ynm y ymem, b0, by show (1 : Int) ≤ 1 + z; omega, by show b + (1 + z) ≤ c; omega⟩ fun a ha => .inl (before a (List.mem_of_getLast? ha))
      have inY8 : ∀ h ∈ hs ++ [⟨y, b, 1 + z⟩], h.tool ∈ ys.take (i + 1) := fun h hh => by
        rcases List.mem_append.mp hh with q | q
        · exact inY h q
        · rw [List.mem_singleton.mp q]
          exact ytake
      walk_at "go"
      have l8 : (fs ++ [V.ref tp]).length = fs.length + 1 := by simp
      refine i_dec (fun l2 => ?_) (fun l2 => ?_)
      case refine_2 =>
        walk_at "go"
        exact ⟨_, _, _, _, rfl, k8, pu8, eS8, _, _, eL8, fa8, ho8, inY8⟩
      walk_at "go"
      refine i_dec (fun rc => ?_) (fun rc => ?_)
      case refine_2 =>
        walk_at "go"
        exact ⟨_, _, _, _, rfl, k8, pu8, eS8, _, _, eL8, fa8, ho8, inY8⟩
      walk_at "go"
      refine ⟨p, 3, rfl, pu8, by omega, by omega, fun r2 H9 q0 q1 k9 pu9 => ?_⟩
      have fa9 : All2 (HoldAt H9) (fs ++ [.ref tp]) (hs ++ [⟨y, b, 1 + z⟩]) := fa8.mono fun _ _ _ _ => HoldAt.nl (k9.nl pu8)
      have eL9 := k9 _ _ nL eL8
      have eS9 := k9 _ _ nS eS8
      have k09 := k8.trans k9
      walk_at "go"
      refine i_dec (fun r3 => ?_) (fun r3 => ?_)
      case refine_2 =>
        walk_at "go"
        exact ⟨_, _, _, _, rfl, k09, pu9, eS9, _, _, eL9, fa9, ho8, inY8⟩
      walk_at "go"
      refine ⟨p, _, rfl, pu9, by omega, by omega, fun d H10 d0 d1 k10 pu10 => ?_⟩
      walk_at "go"
      refine ⟨le_sz (by simp), fun W hW => ?_⟩
      have s11 : Same H10 (upd H10 W (.lst [.int 0, .int d])) := same_of_upd hW
      have nW : W ≠ p := pu10.ne hW
      have eW := upd_same (H := H10) (a := W) (o := .lst [.int 0, .int d])
      have pu11 := pu10.same s11
      generalize upd H10 W (.lst [.int 0, .int d]) = H11 at s11 eW pu11 ⊢
      walk_at "go"
      refine ⟨p, 2, rfl, pu11, by omega, by omega, fun e H12 e0 e1 k12 pu12 => ?_⟩
      have eW12 := k12 _ _ nW eW
      obtain ⟨v, hv, v0, v1⟩ : ∃ v : Int, atI [V.int 0, .int d] e = some (.int v) ∧ 0 ≤ v ∧ v < c - (b + (1 + z)) := by
        have : e = 0 ∨ e = 1 := by omega
        rcases this with rfl | rfl
        · exact ⟨0, rfl, by omega, by omega⟩
        · exact ⟨d, rfl, d0, d1⟩
      have k912 := (k10.trans (KeepX.of s11)).trans k12
      have eL12 := k912 _ _ nL eL9
      have eS12 := k912 _ _ nS eS9
      have fa12 : All2 (HoldAt H12) (fs ++ [.ref tp]) (hs ++ [⟨y, b, 1 + z⟩]) := fa9.mono fun _ _ _ _ => HoldAt.nl (k912.nl pu9)
      walk_at "go"
      refine ⟨.inl ⟨rfl, _, SqL.of eL12⟩, ?_⟩
      walk_at "go"
      refine ⟨p, _, rfl, pu12, by omega, by omega, fun z2 H13 z20 z21 k13 pu13 => ?_⟩
      have eL13 := k13 _ _ nL eL12
      have eS13 := k13 _ _ nS eS12
      walk_at "go"
      refine ⟨le_sz (by simp), fun tq htq => ?_⟩
      have s14 : Same H13 (upd H13 tq (.tup [.str y, .int (b + (1 + z) + v), .int (1 + z2)])) := same_of_upd htq
      have etq := upd_same (H := H13) (a := tq) (o := .tup [.str y, .int (b + (1 + z) + v), .int (1 + z2)])
      generalize upd H13 tq (.tup [.str y, .int (b + (1 + z) + v), .int (1 + z2)]) = H14 at s14 etq ⊢
      walk_at "go"
      refine i_append (s14 _ _ eL13) (lt_sz (by omega)) ?_
      have n1415 : NL H14 (upd H14 L (.lst (fs ++ [.ref tp] ++ [.ref tq]))) := nl_upd (s14 _ _ eL13) rfl
      walk_at "go"
      refine ⟨_, _, _, _, rfl, ?_, ?_, upd_ne2 nSL (s14 _ _ eS13), _, hs ++ [⟨y, b, 1 + z⟩] ++ [⟨y, b + (1 + z) + v, 1 + z2⟩], upd_same, ?_, ?_, ?_⟩
      · intro u o hu e
        exact upd_ne2 (ne_of_none e hL) (s14 _ _ (k13 _ _ hu (k912 _ _ hu (k09 _ _ hu e))))
      · obtain ⟨a1, a2, a3, e⟩ := pu13.same s14
        exact ⟨a1, a2, a3, upd_ne2 (Ne.symm nL) e⟩
      · exact (fa12.mono fun _ _ _ _ => HoldAt.nl (((k13.nl pu12).trans (same_nl s14)).trans n1415)).snoc ⟨tq, rfl, n1415 _ _ rfl etq⟩
      · refine ho8.snoc (by rw [List.length_append]; simp; omega) ⟨ynm y ymem, ?_, ?_, ?_⟩ fun a ha => ?_
        · show 0 ≤ b + (1 + z) + v
          omega
        · show (1 : Int) ≤ 1 + z2
          omega
        · show b + (1 + z) + v + (1 + z2) ≤ c
          omega
        · rw [List.getLast?_concat] at ha
          obtain rfl := Option.some.inj ha
          exact .inr ⟨rfl, by show b + (1 + z) ≤ b + (1 + z) + v; omega⟩
      · intro h hh
        rcases List.mem_append.mp hh with q | q
        · exact inY8 h q
        · rw [List.mem_singleton.mp q]
          exact ytake
    · rintro σ H3 ⟨u4, u5, u6, u7, rfl, k3, pu3, eS3, fs, hs, eL3, fa, ho, hin⟩
      walk_at "go"
      refine i_kTupL (SqL.of eL3) fun q hq => ?_
      exact k q hs _ (k3.trans (KeepX.of (same_of_upd hq))) (pu3.same (same_of_upd hq)) ⟨fs, upd_same, fa.mono fun _ _ _ _ => HoldAt.nl (same_nl (same_of_upd hq))⟩ ho
end
end K19
namespace K19
open PySem L2
open PyProof.Rows (envOfC)
theorem pickI {ns : List Int} {e : Int} (h0 : 0 ≤ e) (h1 : e < ns.length) : ∃ v, v ∈ ns ∧ atI (ns.map V.int) e = some (.int v) := by
  have l : e.toNat < ns.length := by omega
  exact ⟨ns[e.toNat], List.getElem_mem l, at_of (j := e.toNat) (by omega) (by rw [List.getElem?_map, List.getElem?_eq_getElem l]; rfl)⟩
theorem KeepX.seqS {K : PySem.W.Frag} {p tl : Addr} {H H' : Hp} {ns : List Str} (k : KeepX p H H') (u : Pu H p) (h : SqL K H tl (ns.map V.str)) : SqL K H' tl (ns.map V.str) := by
  rcases h with h | h
  · rcases h with h | ⟨o, h⟩
    · refine .inl (.inl (k _ _ (fun z => ?_) h))
      obtain ⟨a, b, c, e⟩ := u
      rw [z, e] at h
      cases ns <;> simp at h
    · exact .inl (.inr ⟨o, k.nl u _ _ rfl h⟩)
  · exact .inr h
theorem disp {p W : Addr} {H : Hp} (ns : List Int) (pu : Pu H p) (hW : H W = none) : ∃ H1, upd H W (.lst (ns.map V.int)) = H1 ∧ Pu H1 p ∧ KeepX p H H1 ∧ H1 W = some (.lst (ns.map V.int)) ∧ W ≠ p :=
  ⟨_, rfl, pu.same (same_of_upd hW), KeepX.of (same_of_upd hW), upd_same, pu.ne hW⟩
section
variable {P : Program} {w : World} {K : PySem.W.Frag} {mg : Str → Option Value} {base : Heap}
def spTask (K : PySem.W.Frag) : Sp := fun vs H Q _ => ∃ (p tl : Addr) (n : Str) (many : Int) (ns : List Str), vs = [.ref p, .str n, .int many, .ref tl] ∧ Pu H p ∧ IsName n ∧ 1 ≤ many ∧ many ≤ 7 ∧ SqL K H tl (ns.map V.str) ∧ ns.length ≤ 8 ∧ ns.Nodup ∧ (∀ n ∈ ns, IsName n) ∧
  ∀ t m H', KeepX p H H' → Pu H' p → RowAt H' (.ref t) m → MemOk m → m.name = n → Q (.ref t) H'
theorem ok_lTask (F : Fx K mg "_law_task" s_lTask a_lTask) (T : Txt K mg) (C_lTake : Cal P w K mg base 1 "_law_take" a_lTake spTakeP) (C_lHolds : Cal P w K mg base 2 "_law_holds" a_lHolds (spHolds K)) : Cal P w K mg base 3 "_law_task" a_lTask (spTask K) := by
  refine cal_of F sc_lTask (fun vs H Q E h => ?_) (fun f cdv A outer s H vs Q E hr h => ?_)
  · obtain ⟨p, tl, n, many, ns, rfl, _⟩ := h
    rfl
  · obtain ⟨p, tl, n, many, ns, rfl, pu, hn, m1, m7, hl, few, nd, nm, k⟩ := h
    have hu := hr.units0
    refine ⟨_, (pss_cons (ps_set (i := 4) sc_lTask.nd rfl (Or.inl rfl) (pe_ix ix_list (pe_lst (pa_cons pe_int (pa_cons pe_int (pa_cons pe_int (pa_cons pe_int (pa_cons pe_int (pa_cons pe_int (pa_cons pe_int (pa_cons pe_int (pa_cons pe_int (pa_cons pe_int (pa_cons pe_int (pa_cons pe_int pa_nil))))))))))))) (pe_cal C_lTake (hr.mono (by decide)) (pa_cons (pv 0) (pa_cons pe_int pa_nil))) (fun _ _ => rfl)))
  (pss_cons (ps_set (i := 5) sc_lTask.nd rfl (Or.inl rfl) (pe_ix ix_list (pe_lst (pa_cons (pe_callB (call_max2 rfl) (by rfl) T.max (by decide +kernel) (pa_cons pe_int (pa_cons (pe_op op_fdiv (pv 4) (pv 2)) pa_nil))) (pa_cons (pv 4) (pa_cons (pe_callB (call_max2 rfl) (by rfl) T.max (by decide +kernel) (pa_cons pe_int (pa_cons (pe_op op_fdiv (pv 4) (pe_op op_mul pe_int (pv 2))) pa_nil))) pa_nil)))) (pe_cal C_lTake (hr.mono (by decide)) (pa_cons (pv 0) (pa_cons pe_int pa_nil))) (fun _ _ => rfl)))
  (pss_cons (ps_set (i := 6) sc_lTask.nd rfl (Or.inl rfl) (pe_op op_add pe_int (pe_cal C_lTake (hr.mono (by decide)) (pa_cons (pv 0) (pa_cons (pe_callB (call_min2 rfl) (by rfl) T.min (by decide +kernel) (pa_cons pe_int (pa_cons (pv 5) pa_nil))) pa_nil)))))
  (pss_cons (ps_set (i := 7) sc_lTask.nd rfl (Or.inl rfl) (pe_op op_sub (pv 4) (pe_ix ix_list (pe_lst (pa_cons pe_int (pa_cons (pe_cal C_lTake (hr.mono (by decide)) (pa_cons (pv 0) (pa_cons (pv 4) pa_nil))) (pa_cons (pe_cal C_lTake (hr.mono (by decide)) (pa_cons (pv 0) (pa_cons (pe_op op_add (pe_op op_fdiv (pv 4) pe_int) pe_int) pa_nil))) pa_nil)))) (pe_cal C_lTake (hr.mono (by decide)) (pa_cons (pv 0) (pa_cons pe_int pa_nil))) (fun _ _ => rfl))))
  (pss_cons (ps_set (i := 8) sc_lTask.nd rfl (Or.inl rfl) (pe_tup pa_nil))
  (pss_cons (ps_if (PW.pt (pw_and (pt_cmpR (op_neNil hr.units0) (pv 3) (pe_lst pa_nil) (nomark _)) (pw_and1 (pt_cmpR op_gt (pe_cal C_lTake (hr.mono (by decide)) (pa_cons (pv 0) (pa_cons pe_int pa_nil))) pe_int (nomark _)))))
  (pss_one (ps_set (i := 8) sc_lTask.nd rfl (Or.inl rfl) (pe_cal C_lHolds (hr.mono (by decide)) (pa_cons (pv 0) (pa_cons (pv 6) (pa_cons (pv 3) pa_nil))))))
  pss_nil)
  (pss_one (ps_ret (pe_tup (pa_cons pe_str (pa_cons (pv 1) (pa_cons (pv 6) (pa_cons (pv 4) (pa_cons (pv 7) (pa_cons (pv 8) pa_nil))))))))))))))), ?_⟩
    try dsimp only [cxOf]
    refine at_ [some (.ref p), some (.str n), some (.int many), some (.ref tl), none, none, none, none, none] rfl ?_
    walk_at "go"
    refine ⟨le_sz (by simp), fun W1 hW1 => ?_⟩
    obtain ⟨H1, hG1, pu1, k1, e1, n1⟩ := disp [2, 3, 4, 5, 6, 10, 12, 15, 20, 30, 60, 1] pu hW1
    rw [show upd H W1 (.lst [V.int 2, .int 3, .int 4, .int 5, .int 6, .int 10, .int 12, .int 15, .int 20, .int 30, .int 60, .int 1]) = H1 from hG1]
    walk_at "go"
    refine ⟨p, 12, rfl, pu1, by omega, by omega, fun r H2 r0 r1 k2 pu2 => ?_⟩
    obtain ⟨gap, hg, ag⟩ := pickI (ns := [2, 3, 4, 5, 6, 10, 12, 15, 20, 30, 60, 1]) r0 r1
    have hg2 : 1 ≤ gap ∧ gap ≤ 60 := (by decide : ∀ v ∈ ([2, 3, 4, 5, 6, 10, 12, 15, 20, 30, 60, 1] : List Int), 1 ≤ v ∧ v ≤ 60) gap hg
    have e12 := k2 _ _ n1 e1
    have k02 := k1.trans k2
    walk_at "go"
    refine ⟨le_sz (by simp), fun W2 hW2 => ?_⟩
    obtain ⟨x, hx, ex⟩ : ∃ x : Int, 1 ≤ x ∧ (if gap / many > 1 then gap / many else 1) = x := ⟨_, by split <;> omega, rfl⟩
    obtain ⟨y, hy, ey⟩ : ∃ y : Int, 1 ≤ y ∧ (if gap / (2 * many) > 1 then gap / (2 * many) else 1) = y := ⟨_, by split <;> omega, rfl⟩
    rw [ex, ey]
    obtain ⟨H3, hG3, pu3, k3, e3, n3⟩ := disp [x, gap, y] pu2 hW2
    rw [show upd H2 W2 (.lst [V.int x, .int gap, .int y]) = H3 from hG3]
    walk_at "go"
    refine ⟨p, 3, rfl, pu3, by omega, by omega, fun r2 H4 r20 r21 k4 pu4 => ?_⟩
    obtain ⟨top, ht, at2⟩ := pickI (ns := [x, gap, y]) r20 r21
    have ht2 : 1 ≤ top := by
      simp at ht
      omega
    have e34 := k4 _ _ n3 e3
    have k04 := k02.trans (k3.trans k4)
    walk_at "go"
    obtain ⟨mn, hmn, emn⟩ : ∃ mn : Int, (1 ≤ mn ∧ mn ≤ 9) ∧ (if top < 9 then top else 9) = mn := ⟨_, by split <;> omega, rfl⟩
    rw [emn]
    refine ⟨p, mn, rfl, pu4, by omega, by omega, fun co H5 co0 co1 k5 pu5 => ?_⟩
    have k05 := k04.trans k5
    walk_at "go"
    refine ⟨p, gap, rfl, pu5, by omega, by omega, fun ta H6 ta0 ta1 k6 pu6 => ?_⟩
    walk_at "go"
    refine ⟨p, _, rfl, pu6, by omega, by omega, fun tb H7 tb0 tb1 k7 pu7 => ?_⟩
    walk_at "go"
    refine ⟨le_sz (by simp), fun W3 hW3 => ?_⟩
    obtain ⟨H8, hG8, pu8, k8, e8, n8⟩ := disp [0, ta, tb] pu7 hW3
    rw [show upd H7 W3 (.lst [V.int 0, .int ta, .int tb]) = H8 from hG8]
    walk_at "go"
    refine ⟨p, 3, rfl, pu8, by omega, by omega, fun r3 H9 r30 r31 k9 pu9 => ?_⟩
    obtain ⟨td, htd, at3⟩ := pickI (ns := [0, ta, tb]) r30 r31
    have htd2 : 0 ≤ td ∧ td < gap := by
      simp at htd
      omega
    have e89 := k9 _ _ n8 e8
    have k09 := k05.trans (k6.trans (k7.trans (k8.trans k9)))
    have hl9 := k09.seqS pu hl
    walk_at "go"
    refine ⟨le_sz (by simp), fun G hG => ?_⟩
    have sG := same_of_upd (o := .tup []) hG
    have k010 := k09.trans (KeepX.of sG)
    have pu10 := pu9.same sG
    have hl10 := sG.seq hl9
    have eG := upd_same (H := H9) (a := G) (o := .tup [])
    generalize upd H9 G (.tup []) = H10 at sG k010 pu10 hl10 eG ⊢
    have last : ∀ (g : Addr) (hs : List Hold) H', KeepX p H H' → Pu H' p → HoldsAt H' g hs → HoldsOk hs (1 + co) → ∀ t, H' t = none → Q (.ref t) (upd H' t (.tup [.str "task", .str n, .int (1 + co), .int gap, .int (gap - td), .ref g])) := fun g hs H' kp pu' hg ho t ht => by
      have st := same_of_upd (o := .tup [.str "task", .str n, .int (1 + co), .int gap, .int (gap - td), .ref g]) ht
      refine k t ⟨n, false, 1 + co, gap, gap - td, hs⟩ _ (kp.trans (KeepX.of st)) (pu'.same st) ⟨t, rfl, .inr ⟨rfl, g, upd_same, hg.nl (same_nl st)⟩⟩ ⟨hn, ?_, ?_, ?_, ho, (fun h => nomatch h)⟩ rfl
      · exact ⟨by show (1 : Int) ≤ 1 + co; omega, by show 1 + co ≤ 99; omega⟩
      · exact ⟨hg2.1, by show gap ≤ 600; omega⟩
      · exact ⟨by show 1 ≤ gap - td; omega, by show gap - td ≤ gap; omega⟩
    walk_at "go"
    refine ⟨le_sz (by simp), fun N hN => ?_⟩
    have sN := same_of_upd (o := .lst []) hN
    have k011 := k010.trans (KeepX.of sN)
    have pu11 := pu10.same sN
    have hl11 := sN.seq hl10
    have eG11 := sN _ _ eG
    have eN := upd_same (H := H10) (a := N) (o := .lst [])
    generalize upd H10 N (.lst []) = H11 at sN k011 pu11 hl11 eG11 eN ⊢
    refine ⟨N, tl, _, rfl, SqL.of eN, rfl, hl11, _, rfl, ?_⟩
    refine i_boo (fun _ => ?_) (fun _ => ?_)
    · walk_at "go"
      refine ⟨p, 4, rfl, pu11, by omega, by omega, fun q H12 q0 q1 k12 pu12 => ?_⟩
      have k012 := k011.trans k12
      have hl12 := k12.seqS pu11 hl11
      have eG12 := k12.nl pu11 _ _ rfl eG11
      walk_at "go"
      refine i_dec (fun _ => ?_) (fun _ => ?_)
      · walk_at "go"
        refine ⟨p, _, tl, ns, rfl, pu12, by omega, by omega, hl12, few, nd, nm, fun g hs H13 k13 pu13 hg ho => ?_⟩
        walk_at "go"
        exact ⟨le_sz (by simp), last g hs H13 (k012.trans k13) pu13 hg ho⟩
      · walk_at "go"
        exact ⟨le_sz (by simp), last G [] H12 k012 pu12 ⟨[], eG12, All2.nil⟩ (HoldsOk.nil _)⟩
    · walk_at "go"
      exact ⟨le_sz (by simp), last G [] H11 k011 pu11 ⟨[], eG11, All2.nil⟩ (HoldsOk.nil _)⟩
def spDoor : Sp := fun vs H Q _ => ∃ (p : Addr) (n : Str) (many : Int), vs = [.ref p, .str n, .int many] ∧ Pu H p ∧ IsName n ∧ 1 ≤ many ∧ many ≤ 7 ∧
  ∀ t m H', KeepX p H H' → Pu H' p → RowAt H' (.ref t) m → MemOk m → m.name = n → Q (.ref t) H'
theorem ok_lDoor (F : Fx K mg "_law_door" s_lDoor a_lDoor) (T : Txt K mg) (C_lTake : Cal P w K mg base 1 "_law_take" a_lTake spTakeP) : Cal P w K mg base 2 "_law_door" a_lDoor spDoor := by
  refine cal_of F sc_lDoor (fun vs H Q E h => ?_) (fun f cdv A outer s H vs Q E hr h => ?_)
  · obtain ⟨p, n, many, rfl, _⟩ := h
    rfl
  · obtain ⟨p, n, many, rfl, pu, hn, m1, m7, k⟩ := h
    refine ⟨_, (pss_cons (ps_set (i := 3) sc_lDoor.nd rfl (Or.inl rfl) (pe_ix ix_list (pe_lst (pa_cons pe_int (pa_cons pe_int (pa_cons pe_int (pa_cons pe_int (pa_cons pe_int (pa_cons pe_int (pa_cons pe_int (pa_cons pe_int (pa_cons pe_int pa_nil)))))))))) (pe_cal C_lTake (hr.mono (by decide)) (pa_cons (pv 0) (pa_cons pe_int pa_nil))) (fun _ _ => rfl)))
  (pss_cons (ps_set (i := 4) sc_lDoor.nd rfl (Or.inl rfl) (pe_ix ix_list (pe_lst (pa_cons (pe_callB (call_max2 rfl) (by rfl) T.max (by decide +kernel) (pa_cons pe_int (pa_cons (pe_op op_fdiv (pv 3) (pv 2)) pa_nil))) (pa_cons (pv 3) pa_nil))) (pe_callTy call_int1 (by rfl) T.int (by decide +kernel) (pa_cons (by exact (pe_cmpR op_eq (pe_cal C_lTake (hr.mono (by decide)) (pa_cons (pv 0) (pa_cons pe_int pa_nil))) pe_int (nomark _))) pa_nil)) (fun _ _ => rfl)))
  (pss_one (ps_ret (pe_tup (pa_cons pe_str (pa_cons (pv 1) (pa_cons (pe_op op_add pe_int (pe_cal C_lTake (hr.mono (by decide)) (pa_cons (pv 0) (pa_cons (pe_callB (call_min2 rfl) (by rfl) T.min (by decide +kernel) (pa_cons pe_int (pa_cons (pv 4) pa_nil))) pa_nil)))) (pa_cons (pv 3) pa_nil))))))))), ?_⟩
    try dsimp only [cxOf]
    refine at_ [some (.ref p), some (.str n), some (.int many), none, none] rfl ?_
    walk_at "go"
    refine ⟨le_sz (by simp), fun W1 hW1 => ?_⟩
    obtain ⟨H1, hG1, pu1, k1, e1, n1⟩ := disp [3, 4, 5, 6, 10, 12, 15, 20, 30] pu hW1
    rw [show upd H W1 (.lst [V.int 3, .int 4, .int 5, .int 6, .int 10, .int 12, .int 15, .int 20, .int 30]) = H1 from hG1]
    walk_at "go"
    refine ⟨p, 9, rfl, pu1, by omega, by omega, fun r H2 r0 r1 k2 pu2 => ?_⟩
    obtain ⟨gap, hg, ag⟩ := pickI (ns := [3, 4, 5, 6, 10, 12, 15, 20, 30]) r0 r1
    have hg2 : 1 ≤ gap ∧ gap ≤ 30 := (by decide : ∀ v ∈ ([3, 4, 5, 6, 10, 12, 15, 20, 30] : List Int), 1 ≤ v ∧ v ≤ 30) gap hg
    have e12 := k2 _ _ n1 e1
    have k02 := k1.trans k2
    walk_at "go"
    refine ⟨le_sz (by simp), fun W2 hW2 => ?_⟩
    obtain ⟨x, hx, ex⟩ : ∃ x : Int, 1 ≤ x ∧ (if gap / many > 1 then gap / many else 1) = x := ⟨_, by split <;> omega, rfl⟩
    rw [ex]
    obtain ⟨H3, hG3, pu3, k3, e3, n3⟩ := disp [x, gap] pu2 hW2
    rw [show upd H2 W2 (.lst [V.int x, .int gap]) = H3 from hG3]
    walk_at "go"
    refine ⟨p, 5, rfl, pu3, by omega, by omega, fun r2 H4 r20 r21 k4 pu4 => ?_⟩
    have e34 := k4 _ _ n3 e3
    have k04 := k02.trans (k3.trans k4)
    walk_at "go"
    refine .inr ⟨_, rfl, ?_⟩
    have hb : ∃ e : Int, 0 ≤ e ∧ e < 2 ∧ (if decide (V.int r2 = V.int 1) = true then (1 : Int) else 0) = e := ⟨_, by split <;> omega, by split <;> omega, rfl⟩
    obtain ⟨e, e0, e1', ee⟩ := hb
    rw [ee]
    obtain ⟨top, ht, at2⟩ := pickI (ns := [x, gap]) e0 e1'
    have ht2 : 1 ≤ top := by
      simp at ht
      omega
    walk_at "go"
    obtain ⟨mn, hmn, emn⟩ : ∃ mn : Int, (1 ≤ mn ∧ mn ≤ 6) ∧ (if top < 6 then top else 6) = mn := ⟨_, by split <;> omega, rfl⟩
    rw [emn]
    refine ⟨p, mn, rfl, pu4, by omega, by omega, fun co H5 co0 co1 k5 pu5 => ?_⟩
    have k05 := k04.trans k5
    walk_at "go"
    refine ⟨le_sz (by simp), fun t ht => ?_⟩
    have st := same_of_upd (o := .tup [.str "door", .str n, .int (1 + co), .int gap]) ht
    refine k t ⟨n, true, 1 + co, gap, gap, []⟩ _ (k05.trans (KeepX.of st)) (pu5.same st) ⟨t, rfl, .inl ⟨rfl, rfl, rfl, upd_same⟩⟩ ⟨hn, ?_, ?_, ?_, HoldsOk.nil _, fun _ => ⟨rfl, rfl⟩⟩ rfl
    · exact ⟨by show (1 : Int) ≤ 1 + co; omega, by show 1 + co ≤ 99; omega⟩
    · exact ⟨hg2.1, by show gap ≤ 600; omega⟩
    · exact ⟨hg2.1, Int.le_refl _⟩
end
end K19
namespace K19
open PySem L2
open PyProof.Rows (envOfC)
theorem cut_take {xs : List V} {k : Int} (h : 0 ≤ k) : cutV xs none (some k) = xs.take k.toNat := by
  unfold cutV
  simp only [HT.sIx]
  rw [if_neg (by omega), List.drop_zero, Nat.sub_zero]
  rw [List.take_eq_take_iff]
  omega
section
variable {P : Program} {w : World} {K : PySem.W.Frag} {mg : Str → Option Value} {base : Heap}
def spRows : Sp := fun vs H Q _ => ∃ (p : Addr) (t : Int) (d : Bool), vs = [.ref p, .int 1, .int 7, .int t, .bl d] ∧ Pu H p ∧ 1 ≤ t ∧ t ≤ 3 ∧
  ∀ q ms H', H q = none → KeepX p H H' → Pu H' p → RowsAt H' q ms → CrewOk ms → 1 ≤ ms.length → ms.length ≤ 7 → Q (.ref q) H'
theorem ok_lRows (F : Fx K mg "_law_rows" s_lRows a_lRows) (T : Txt K mg) (C_lTake : Cal P w K mg base 1 "_law_take" a_lTake spTakeP) (C_lWords : Cal P w K mg base 2 "_law_words" a_lWords spWords) (C_lDoor : Cal P w K mg base 2 "_law_door" a_lDoor spDoor)
    (C_lTask : Cal P w K mg base 3 "_law_task" a_lTask (spTask K)) : Cal P w K mg base 4 "_law_rows" a_lRows spRows := by
  refine cal_of F sc_lRows (fun vs H Q E h => ?_) (fun f cdv A outer s H vs Q E hr h => ?_)
  · obtain ⟨p, t, d, rfl, _⟩ := h
    rfl
  · obtain ⟨p, t, d, rfl, pu, t1, t3, k⟩ := h
    refine ⟨_, (pss_cons (ps_set (i := 5) sc_lRows.nd rfl (Or.inl rfl) (pe_op op_add (pv 1) (pe_cal C_lTake (hr.mono (by decide)) (pa_cons (pv 0) (pa_cons (pe_op op_add (pe_op op_sub (pv 2) (pv 1)) pe_int) pa_nil)))))
  (pss_cons (ps_par (i := 6) (j := 7) rfl sc_lRows.nd rfl rfl (by decide) rfl rfl (pa_cons (pe_cal C_lWords (hr.mono (by decide)) (pa_cons (pv 0) (pa_cons pe_int pa_nil))) (pa_cons (pe_slice sl_list (pe_cal C_lWords (hr.mono (by decide)) (pa_cons (pv 0) (pa_cons pe_int pa_nil))) po_none (po_some (pv 3))) pa_nil)) (by rfl))
  (pss_cons (ps_set (i := 8) sc_lRows.nd rfl (Or.inl rfl) (pe_lst pa_nil))
  (pss_cons (ps_for PassesOwn.never rfl (pi_range1 rfl T.range (pa_cons (pv 5) pa_nil)) (pg_name (i := 9) sc_lRows.nd rfl (Or.inl rfl))
  (pss_one (ps_if (PW.pt (pw_and (pt_val (pv 4)) (pw_and1 (pt_cmpR op_eq (pe_cal C_lTake (hr.mono (by decide)) (pa_cons (pv 0) (pa_cons pe_int pa_nil))) pe_int (nomark _)))))
  (pss_one (ps_expr (pe_bm PySem.F.plainAttrs_list PySem.F.slot_list_append PySem.F.type_list_append mt_append (pv 8) (pa_cons (pe_cal C_lDoor (hr.mono (by decide)) (pa_cons (pv 0) (pa_cons (pe_ix ix_list (pv 6) (pv 9) (fun _ _ => rfl)) (pa_cons (pv 5) pa_nil)))) pa_nil))))
  (pss_one (ps_expr (pe_bm PySem.F.plainAttrs_list PySem.F.slot_list_append PySem.F.type_list_append mt_append (pv 8) (pa_cons (pe_cal C_lTask (hr.mono (by decide)) (pa_cons (pv 0) (pa_cons (pe_ix ix_list (pv 6) (pv 9) (fun _ _ => rfl)) (pa_cons (pv 5) (pa_cons (pv 7) pa_nil))))) pa_nil)))))))
  (pss_one (ps_ret (pv 8))))))), ?_⟩
    try dsimp only [cxOf]
    refine at_ [some (.ref p), some (.int 1), some (.int 7), some (.int t), some (.bl d), none, none, none, none, none] rfl ?_
    walk_at "go"
    refine ⟨p, _, rfl, pu, by omega, by omega, fun r H1 r0 r1 k1 pu1 => ?_⟩
    walk_at "go"
    refine ⟨p, rfl, pu1, fun C ns H2 hC k2 pu2 eC l8 nd nm => ?_⟩
    have nC : C ≠ p := pu1.ne hC
    walk_at "go"
    refine ⟨p, rfl, pu2, fun O os H3 hO k3 pu3 eO o8 ond onm => ?_⟩
    walk_at "go"
    intro O2 hO2
    rw [cut_take (by omega), ← List.map_take]
    have s4 := same_of_upd (o := .lst ((os.take t.toNat).map V.str)) hO2
    have k4 := KeepX.of (p := p) s4
    have pu4 := pu3.same s4
    have eO2 := upd_same (H := H3) (a := O2) (o := .lst ((os.take t.toNat).map V.str))
    generalize upd H3 O2 (.lst ((os.take t.toNat).map V.str)) = H4 at s4 k4 pu4 eO2 ⊢
    walk_at "go"
    refine ⟨le_sz (by simp), fun L hL => ?_⟩
    have s5 := same_of_upd (o := .lst []) hL
    have k05 := k1.trans (k2.trans (k3.trans (k4.trans (KeepX.of (p := p) s5))))
    have pu5 := pu4.same s5
    have eO5 := s5 _ _ eO2
    have eC5 := s5 _ _ (k4 _ _ nC (k3 _ _ nC eC))
    have nL : L ≠ p := pu4.ne hL
    have hLH : H L = none := (k1.trans (k2.trans (k3.trans k4))).free pu4 hL
    have eL5 := upd_same (H := H4) (a := L) (o := .lst [])
    have nO2L : O2 ≠ L := fun z => by rw [z] at eO2; rw [eO2] at hL; cases hL
    have nCL : C ≠ L := fun z => by have := k4 _ _ nC (k3 _ _ nC eC); rw [z, hL] at this; cases this
    have nO2 : O2 ≠ p := pu3.ne hO2
    generalize upd H4 L (.lst []) = H5 at s5 k05 pu5 eO5 eC5 eL5 ⊢
    walk_at "go"
    have own2 : (os.take t.toNat).length ≤ 8 ∧ (os.take t.toNat).Nodup ∧ ∀ n ∈ os.take t.toNat, IsName n := ⟨by rw [List.length_take]; omega, ond.sublist (List.take_sublist _ _), fun n hn => onm n (List.mem_of_mem_take hn)⟩
    generalize os.take t.toNat = os2 at own2 eO2 eO5
    refine ⟨by omega, by omega, for_itD walk_range (fun i σ H' => ∃ u, σ = [some (.ref p), some (.int 1), some (.int 7), some (.int t), some (.bl d), some (.int (1 + r)), some (.ref C), some (.ref O2), some (.ref L), u] ∧ KeepX p H H' ∧ Pu H' p ∧ H' C = some (.lst (ns.map V.str)) ∧ H' O2 = some (.lst (os2.map V.str)) ∧
        ∃ rs ms, H' L = some (.lst rs) ∧ All2 (RowAt H') rs ms ∧ (∀ m ∈ ms, MemOk m) ∧ ms.map Mem.name = ns.take i)
      ⟨none, rfl, k05, pu5, eC5, eO5, [], [], eL5, All2.nil, (fun _ h => nomatch h), by simp⟩ (fun _ _ _ _ _ => trivial) ?_ ?_⟩
    · rintro i x σ H6 H7 hi ⟨u, rfl, k6, pu6, eC6, eO6, rs, ms, eL6, ra, mok, en⟩ ⟨rfl, rfl⟩
      have i7 : i < 7 := by omega
      obtain ⟨n, hn⟩ : ∃ n, ns[i]? = some n := ⟨_, List.getElem?_eq_getElem (by omega)⟩
      have hat : atI (ns.map V.str) (0 + (i : Nat)) = some (.str n) := at_of (j := i) (by omega) (by rw [List.getElem?_map, hn]; rfl)
      have nn : IsName n := nm n (List.mem_of_getElem? hn)
      have lms : ms.length = i := by
        have := congrArg List.length en
        rw [List.length_map, List.length_take] at this
        omega
      have lrs : rs.length = i := by rw [ra.1, lms]
      have fin : ∀ (t' : Addr) m H8, KeepX p H7 H8 → Pu H8 p → RowAt H8 (.ref t') m → MemOk m → m.name = n → rAppend (.ref L) [.ref t'] H8 fun _ H9 => ∃ u, [some (V.ref p), some (.int 1), some (.int 7), some (.int t), some (.bl d), some (.int (1 + r)), some (.ref C), some (.ref O2), some (.ref L), some (.int (0 + (i : Nat)))] = [some (.ref p), some (.int 1), some (.int 7), some (.int t), some (.bl d), some (.int (1 + r)), some (.ref C), some (.ref O2), some (.ref L), u] ∧ KeepX p H H9 ∧ Pu H9 p ∧ H9 C = some (.lst (ns.map V.str)) ∧ H9 O2 = some (.lst (os2.map V.str)) ∧
          ∃ rs ms, H9 L = some (.lst rs) ∧ All2 (RowAt H9) rs ms ∧ (∀ m ∈ ms, MemOk m) ∧ ms.map Mem.name = ns.take (i + 1) := fun t' m H8 k8 pu8 r8 ok8 e8 => by
        have eL8 := k8 _ _ nL eL6
        refine i_append eL8 (lt_sz (by omega)) ?_
        have n89 : NL H8 (upd H8 L (.lst (rs ++ [.ref t']))) := nl_upd eL8 rfl
        have n79 := (k8.nl pu6).trans n89
        refine ⟨_, rfl, fun b o hb e => upd_ne2 (ne_of_none e hLH) (k8 _ _ hb (k6 _ _ hb e)), ?_, upd_ne2 nCL (k8 _ _ nC eC6), upd_ne2 nO2L (k8 _ _ nO2 eO6), rs ++ [.ref t'], ms ++ [m], upd_same, (ra.mono fun _ _ _ _ => RowAt.nl n79).snoc (r8.nl n89), fun y hy => ?_, ?_⟩
        · obtain ⟨a1, a2, a3, e⟩ := pu8
          exact ⟨a1, a2, a3, upd_ne2 (Ne.symm nL) e⟩
        · rcases List.mem_append.mp hy with z | z
          · exact mok y z
          · rw [List.mem_singleton.mp z]
            exact ok8
        · rw [List.map_append, en, List.take_add_one, hn]
          simp [e8]
      have task : ∀ H8, KeepX p H7 H8 → Pu H8 p → H8 C = some (.lst (ns.map V.str)) → SqL K H8 O2 (os2.map V.str) → True := fun _ _ _ _ _ => trivial
      walk_at "go"
      refine i_boo (fun _ => ?_) (fun _ => ?_)
      · walk_at "go"
        refine ⟨p, 4, rfl, pu6, by omega, by omega, fun q H8 q0 q1 k8 pu8 => ?_⟩
        have eC8 := k8 _ _ nC eC6
        have eO8 := k8 _ _ nO2 eO6
        have eL8 := k8 _ _ nL eL6
        walk_at "go"
        refine i_dec (fun _ => ?_) (fun _ => ?_)
        · walk_at "go"
          refine ⟨.inl ⟨rfl, _, SqL.of eL8⟩, ?_⟩
          walk_at "go"
          refine ⟨p, n, _, rfl, pu8, nn, by omega, by omega, fun t' m H9 k9 pu9 r9 ok9 e9 => ?_⟩
          walk_at "go"
          exact fin t' m H9 (k8.trans k9) pu9 r9 ok9 e9
        · walk_at "go"
          refine ⟨.inl ⟨rfl, _, SqL.of eL8⟩, ?_⟩
          walk_at "go"
          refine ⟨p, O2, n, _, os2, rfl, pu8, nn, by omega, by omega, SqL.of eO8, own2.1, own2.2.1, own2.2.2, fun t' m H9 k9 pu9 r9 ok9 e9 => ?_⟩
          walk_at "go"
          exact fin t' m H9 (k8.trans k9) pu9 r9 ok9 e9
      · walk_at "go"
        refine ⟨.inl ⟨rfl, _, SqL.of eL6⟩, ?_⟩
        walk_at "go"
        refine ⟨p, O2, n, _, os2, rfl, pu6, nn, by omega, by omega, SqL.of eO6, own2.1, own2.2.1, own2.2.2, fun t' m H9 k9 pu9 r9 ok9 e9 => ?_⟩
        walk_at "go"
        exact fin t' m H9 k9 pu9 r9 ok9 e9
    · rintro σ H6 ⟨u, rfl, k6, pu6, eC6, eO6, rs, ms, eL6, ra, mok, en⟩
      walk_at "go"
      have lms : ms.length = (1 + r).toNat := by
        have := congrArg List.length en
        rw [List.length_map, List.length_take] at this
        omega
      refine k L ms H6 hLH k6 pu6 ⟨rs, eL6, ra⟩ ⟨by omega, ?_, mok⟩ (by omega) (by omega)
      unfold NamesNd
      rw [en]
      exact nd.sublist (List.take_sublist _ _)
end
end K19
namespace K19
open PySem L2
open PyProof.Rows (envOfC)
/-- a class of ours is called: its __init__ keeps its promise -/
structure Mks (P : Program) (w : World) (K : PySem.W.Frag) (mg : Str → Option Value) (base : Heap) (C : Addr) (k : Nat) (ps : List Str) (sp : Sp) : Prop where
  ex : ∃ f fd, Mk K C f ∧ FnOk P w K mg base CX0 k f fd ps sp ∧ Binds K fd ps []
/-- the same, with keywords: four positional values, then the keywords' -/
structure MksK (P : Program) (w : World) (K : PySem.W.Frag) (mg : Str → Option Value) (base : Heap) (C : Addr) (k : Nat) (ps ks : List Str) (sp : Sp) : Prop where
  ex : ∃ f fd, Mk K C f ∧ FnOk P w K mg base CX0 k f fd ps sp ∧ KBn K fd ps 4 ks (fun us ws => us ++ ws) (fun vs zs => vs ++ zs)
section
variable {X : Cx} {C : Addr} {k : Nat} {x : Str} {ps ks : List Str} {sp : Sp} {e : Expr} {es : List Expr} {kws : List Keyword} {t tk : TA} {p pos : Pos}
theorem pe_mk (M : Mks X.prog X.w X.K X.mg X.base C k ps sp) (hr : Room (k + 1) X.A) (hg : Gl X x) (hm : X.mg x = some (.ref C)) (ha : PA X (e :: es) t) (hdb : (x == ("__debug__" : Str)) = false := by decide)
    (he : starEach (e :: es) X.env = (false, eval e X.env) :: starEach es X.env := by rfl) (hpl : (backTo pos (starEach es X.env)).any (·.1) = false := by rfl) : PE X (.Call (.Name x p) (e :: es) [] pos) (tMake C sp [] E0 t) := by
  obtain ⟨f, fd, hM, F, hb⟩ := M.ex
  exact pe_make hM F hr hg hm hb .nil pass0 ha hdb he hpl
theorem pe_mkK (M : MksK X.prog X.w X.K X.mg X.base C k ps ks sp) (hr : Room (k + 1) X.A) (hg : Gl X x) (hm : X.mg x = some (.ref C)) (ha : PA X (e :: es) t) (hkw : PK X kws tk)
    (hall : (backToKw pos (keywordEach kws X.env)).all (·.1.isSome) = true := by rfl) (hks : (backToKw pos (keywordEach kws X.env)).filterMap (·.1) = ks := by rfl) (hdb : (x == ("__debug__" : Str)) = false := by decide)
    (he : starEach (e :: es) X.env = (false, eval e X.env) :: starEach es X.env := by rfl) (hpl : ((backTo pos (starEach (e :: es) X.env)).any (·.1) || (backToKw pos (keywordEach kws X.env)).any (·.1.isNone)) = false := by rfl) :
    PE X (.Call (.Name x p) (e :: es) kws pos) (tMakeK C 3 ks.length sp (fun vs zs => vs ++ zs) E0 t tk) := by
  obtain ⟨f, fd, hM, F, hb⟩ := M.ex
  exact pe_makeK hM F hr hg hm hb pass0 ha hkw hall hks hdb he hpl
end
section
variable {σ : L2.St} {H : Hp} {Q : VK} {C : Addr} {sp : Sp} {E : XK} {t tk : TA} {dvs : List V}
theorem i_make (q : t σ H fun vs H1 => ∀ x dx, H1 x = none → H1 dx = none → dx ≠ x → sp (.ref x :: (vs ++ dvs)) (upd (upd H1 dx (.own x)) x (.ins C dx [])) (fun v H2 => v = .non ∧ Q (.ref x) H2) E) : tMake C sp dvs E t σ H Q := q
theorem i_makeK {n m : Nat} {gV : List V → List V → List V} (q : t σ H fun vs H1 => tk σ H1 fun zs H2 => vs.length = n ∧ zs.length = m ∧ ∀ x dx, H2 x = none → H2 dx = none → dx ≠ x →
    sp (gV (.ref x :: vs) zs) (upd (upd H2 dx (.own x)) x (.ins C dx [])) (fun v H3 => v = .non ∧ Q (.ref x) H3) E) : tMakeK C n m sp gV E t tk σ H Q := q
end
theorem keep_made {H H' : Hp} {x dx : Addr} {o o' : HO} (hx : H x = none) (hd : H dx = none) (k : KeepX x (upd (upd H dx o) x o') H') : Same H H' := fun b u e => k b u (ne_of_none e hx) (upd_ne2 (ne_of_none e hx) (upd_ne2 (ne_of_none e hd) e))
section
variable {P : Program} {w : World} {K : PySem.W.Frag} {mg : Str → Option Value} {base : Heap} {gT gD gC : Addr}
def spMember (gT gD : Addr) : Sp := fun vs H Q _ => ∃ v m, vs = [v] ∧ RowAt H v m ∧ MemOk m ∧ ∀ x H', Same H H' → MemAt gT gD H' x m → Q x H'
theorem ok_lMember (F : Fx K mg "_law_member" s_lMember a_lMember) (T : Txt K mg) (Z : Kl K mg gT gD gC) (M_Door : Mks P w K mg base gD 3 a_pDoorInit (spDoorInit gD)) (M_Task : MksK P w K mg base gT 5 a_pTaskInit ["due", "holds"] (spTaskInit gT)) :
    Cal P w K mg base 7 "_law_member" a_lMember (spMember gT gD) := by
  refine cal_of F sc_lMember (fun vs H Q E h => ?_) (fun f cdv A outer s H vs Q E hr h => ?_)
  · obtain ⟨v, m, rfl, _⟩ := h
    rfl
  · obtain ⟨v, m, rfl, ⟨t, rfl, z⟩, ok, k⟩ := h
    refine ⟨_, (pss_cons (ps_if (pt_cmpR op_eq (pe_ix ix_tup (pv 0) pe_int (fun _ _ => rfl)) pe_str (nomark _))
  (pss_one (ps_ret (pe_mk M_Door (hr.mono (by decide)) rfl Z.mD (pa_cons (pe_ix ix_tup (pv 0) pe_int (fun _ _ => rfl)) (pa_cons (pe_ix ix_tup (pv 0) pe_int (fun _ _ => rfl)) (pa_cons (pe_ix ix_tup (pv 0) pe_int (fun _ _ => rfl)) pa_nil))))))
  pss_nil)
  (pss_one (ps_ret (pe_mkK M_Task (hr.mono (by decide)) rfl Z.mT (pa_cons (pe_ix ix_tup (pv 0) pe_int (fun _ _ => rfl)) (pa_cons (pe_ix ix_tup (pv 0) pe_int (fun _ _ => rfl)) (pa_cons (pe_ix ix_tup (pv 0) pe_int (fun _ _ => rfl)) pa_nil))) (pk_cons (pe_ix ix_tup (pv 0) pe_int (fun _ _ => rfl)) (pk_cons (pe_ix ix_tup (pv 0) pe_int (fun _ _ => rfl)) pk_nil)))))), ?_⟩
    try dsimp only [cxOf]
    refine at_ [some (.ref t)] rfl ?_
    rcases z with ⟨d, d1, d2, ht⟩ | ⟨d, g, ht, hg⟩
    · walk_at "go"
      refine i_decT rfl ?_
      walk_at "go"
      refine i_make ?_
      walk_at "go"
      intro x dx hx hdx ne
      refine ⟨x, dx, m.name, m.cost, m.gap, rfl, upd_same, ok.name, ok.cost.1, ok.cost.2, ok.gap.1, ok.gap.2, fun H' fs kp ex f1 f2 f3 => ⟨rfl, ?_⟩⟩
      exact k _ H' (keep_made hx hdx kp) ⟨x, dx, fs, rfl, f1, f3, .inl ⟨d, d2, d1, ex, f2⟩⟩
    · walk_at "go"
      refine i_decF (fun z => absurd (V.str.inj z) (by decide)) ?_
      walk_at "go"
      refine i_makeK ?_
      walk_at "go"
      refine ⟨rfl, rfl, fun x dx hx hdx ne => ?_⟩
      have s1 : Same H (upd (upd H dx (.own x)) x (.ins gT dx [])) := same_in_upd (same_of_upd hdx) hx
      refine ⟨x, dx, g, m.name, m.cost, m.gap, m.due, m.holds, rfl, upd_same, ok.name, ok.cost.1, ok.cost.2, ok.gap.1, ok.gap.2, ok.due.1, ok.due.2, hg.nl (same_nl s1), ok.holds, fun H' fs kp ex f1 f2 f3 f4 f5 => ⟨rfl, ?_⟩⟩
      have s2 := keep_made hx hdx kp
      exact k _ H' s2 ⟨x, dx, fs, rfl, f1, f3, .inr ⟨d, ex, f2, f4, g, f5, hg.nl (same_nl s2)⟩⟩
def spCrew (gT gD gC : Addr) : Sp := fun vs H Q _ => ∃ q ms, vs = [.ref q] ∧ RowsAt H q ms ∧ CrewOk ms ∧ ∀ c H', Same H H' → CrewAt gT gD gC H' c ms → Q c H'
theorem ok_lCrew (F : Fx K mg "_law_crew" s_lCrew a_lCrew) (T : Txt K mg) (Z : Kl K mg gT gD gC) (C_lMember : Cal P w K mg base 7 "_law_member" a_lMember (spMember gT gD)) (M_Crew : Mks P w K mg base gC 2 a_pCrewInit (spCrewInit gT gD gC)) :
    Cal P w K mg base 8 "_law_crew" a_lCrew (spCrew gT gD gC) := by
  refine cal_of F sc_lCrew (fun vs H Q E h => ?_) (fun f cdv A outer s H vs Q E hr h => ?_)
  · obtain ⟨q, ms, rfl, _⟩ := h
    rfl
  · obtain ⟨q, ms, rfl, ⟨rs, eq, ra⟩, ok, k⟩ := h
    have few := ok.few
    refine ⟨_, (pss_one (ps_ret (pe_mk M_Crew (hr.mono (by decide)) rfl Z.mC (pa_cons (pe_tupleOf (by rfl) T.tuple (pe_lc (own := [("_law_row", 1)]) (tt := tYes) (te := _) rfl sc_lCrew.nd (pi_list (pv 0)) (blkOk_by (N := n_lCrew) (sc := defScope s_lCrew) (by decide +kernel)) (fun _ _ _ _ _ => (pg_name (i := 1) sc_lCrew.nd rfl (Or.inl rfl))) (fun _ _ _ _ _ => pts_nil) (fun _ _ _ _ _ => (pe_cal C_lMember (hr.mono (by decide)) (pa_cons (pv 1) pa_nil))))) pa_nil)))), ?_⟩
    try dsimp only [cxOf]
    refine at_ [some (.ref q), none] rfl ?_
    walk_at "go"
    refine i_make ?_
    walk_at "go"
    have lr : rs.length = ms.length := ra.1
    refine ⟨⟨_, SqL.of eq⟩, fun D hD => lc_j walk_list (fun _ _ _ _ _ _ y => y) (lt_sz (by omega)) hD (σ0 := [some (.ref q), none]) rfl (fun i acc H' => All2 (MemAt gT gD H') acc (ms.take i)) (fun _ _ _ _ n h => h.mono fun _ _ _ _ => MemAt.nl n) All2.nil (fun H' s => s.seq (SqL.of eq)) (fun i x acc H' R hx s1 h1 k1 => ?_) (fun acc H' s1 eD h1 lacc => ?_)⟩
    · obtain ⟨m, hm, r⟩ := ra.get hx
      walk_at "go"
      refine ⟨rfl, ?_⟩
      walk_at "go"
      refine ⟨x, m, rfl, r.nl (same_nl s1), ok.each m (List.mem_of_getElem? hm), fun y H2 s2 hy => ?_⟩
      refine k1 (some y) H2 s2 ?_
      rw [List.take_add_one, hm]
      exact (h1.mono fun _ _ _ _ => MemAt.nl (same_nl s2)).snoc hy
    · rw [lr, List.take_length] at h1
      walk_at "go"
      refine i_kTupL (SqL.of eD) fun t ht => ?_
      have s2 := same_of_upd (o := .tup acc) ht
      have s12 := s1.trans s2
      have et := upd_same (H := H') (a := t) (o := .tup acc)
      generalize upd H' t (.tup acc) = H2 at s2 s12 et ⊢
      walk_at "go"
      intro x dx hx hdx ne
      have s3 : Same H2 (upd (upd H2 dx (.own x)) x (.ins gC dx [])) := same_in_upd (same_of_upd hdx) hx
      have hms : MemsAt gT gD H2 t ms := ⟨acc, et, h1.mono fun _ _ _ _ => MemAt.nl (same_nl s2)⟩
      refine ⟨x, t, dx, ms, rfl, upd_same, hms.nl (same_nl s3), few, ok.nd, fun H3 kp ex => ⟨rfl, ?_⟩⟩
      have s4 := keep_made hx hdx kp
      exact k _ H3 (s12.trans s4) ⟨x, dx, t, rfl, ex, hms.nl (same_nl s4)⟩
end
end K19
namespace K19
open PySem L2
open PyProof.Rows (envOfC)
section
variable {P : Program} {w : World} {K : PySem.W.Frag} {mg : Str → Option Value} {base : Heap}
/-- what row[0], row[1], row[3] give -/
theorem RowAt.at {H : Hp} {v : V} {m : Mem} (r : RowAt H v m) : ∃ t xs, v = .ref t ∧ H t = some (.tup xs) ∧ atI xs 0 = some (.str (if m.door = true then "door" else "task")) ∧ atI xs 1 = some (.str m.name) ∧ atI xs 2 = some (.int m.cost) ∧ atI xs 3 = some (.int m.gap) := by
  obtain ⟨t, rfl, z⟩ := r
  rcases z with ⟨d, _, _, e⟩ | ⟨d, g, e, _⟩
  · exact ⟨t, _, rfl, e, by rw [d]; rfl, rfl, rfl, rfl⟩
  · exact ⟨t, _, rfl, e, by rw [d]; rfl, rfl, rfl, rfl⟩
def spDue : Sp := fun vs H Q _ => ∃ v m, vs = [v] ∧ RowAt H v m ∧ Q (.int m.due) H
theorem ok_lDue (F : Fx K mg "_law_due" s_lDue a_lDue) : Cal P w K mg base 1 "_law_due" a_lDue spDue := by
  refine cal_of F sc_lDue (fun vs H Q E h => ?_) (fun f cdv A outer s H vs Q E hr h => ?_)
  · obtain ⟨v, m, rfl, _⟩ := h
    rfl
  · obtain ⟨v, m, rfl, ⟨t, rfl, z⟩, k⟩ := h
    refine ⟨_, (pss_one (ps_ret (pe_ifExp (pt_cmpR op_eq (pe_ix ix_tup (pv 0) pe_int (fun _ _ => rfl)) pe_str (nomark _)) (pe_ix ix_tup (pv 0) pe_int (fun _ _ => rfl)) (pe_ix ix_tup (pv 0) pe_int (fun _ _ => rfl))))), ?_⟩
    try dsimp only [cxOf]
    refine at_ [some (.ref t)] rfl ?_
    rcases z with ⟨d, d1, d2, ht⟩ | ⟨d, g, ht, hg⟩
    · walk_at "go"
      refine i_decT rfl ?_
      walk_at "go"
      rw [← d1]
      exact k
    · walk_at "go"
      refine i_decF (fun z => absurd (V.str.inj z) (by decide)) ?_
      walk_at "go"
      exact k
def spRowOf : Sp := fun vs H Q _ => ∃ q n ms m, vs = [.ref q, .str n] ∧ RowsAt H q ms ∧ CrewOk ms ∧ m ∈ ms ∧ m.name = n ∧ ∀ v H', Same H H' → RowAt H' v m → Q v H'
theorem ok_lRowOf (F : Fx K mg "_law_row_of" s_lRowOf a_lRowOf) : Cal P w K mg base 1 "_law_row_of" a_lRowOf spRowOf := by
  refine cal_of F sc_lRowOf (fun vs H Q E h => ?_) (fun f cdv A outer s H vs Q E hr h => ?_)
  · obtain ⟨q, n, ms, m, rfl, _⟩ := h
    rfl
  · obtain ⟨q, n, ms, m, rfl, ⟨rs, eq, ra⟩, ok, hm, rfl, k⟩ := h
    have few := ok.few
    refine ⟨_, (pss_one (ps_ret (pe_ix ix_list (pe_lc (own := [("_law_row", 2)]) (tt := (tTest (tOp _ (tOp (rIxT K) _ _) _))) (te := _) rfl sc_lRowOf.nd (pi_list (pv 0)) (blkOk_by (N := n_lRowOf) (sc := defScope s_lRowOf) (by decide +kernel)) (fun _ _ _ _ _ => (pg_name (i := 2) sc_lRowOf.nd rfl (Or.inl rfl))) (fun _ _ _ _ _ => pts_one (pt_cmpR op_eq (pe_ix ix_tup (pv 2) pe_int (fun _ _ => rfl)) (pv 1) (nomark _))) (fun _ _ _ _ _ => (pv 2))) pe_int (fun _ _ => rfl)))), ?_⟩
    try dsimp only [cxOf]
    refine at_ [some (.ref q), some (.str m.name), none] rfl ?_
    walk_at "go"
    have lr : rs.length = ms.length := ra.1
    refine ⟨⟨_, SqL.of eq⟩, fun D hD => lc_j walk_list (fun _ _ _ _ _ _ y => y) (lt_sz (by omega)) hD (σ0 := [some (.ref q), some (.str m.name), none]) rfl (fun i acc H' => All2 (RowAt H') acc ((ms.take i).filter fun m' => decide (m'.name = m.name)))
      (fun _ _ _ _ n h => h.mono fun _ _ _ _ => RowAt.nl n) All2.nil (fun H' s => s.seq (SqL.of eq)) (fun i x acc H' R hx s1 h1 k1 => ?_) (fun acc H' s1 eD h1 lacc => ?_)⟩
    · obtain ⟨m', hm', r⟩ := ra.get hx
      have r1 := r.nl (same_nl s1)
      obtain ⟨t, xs, rfl, et, a0, a1, a2, a3⟩ := r1.at
      have e : (ms.take (i + 1)).filter (fun m' => decide (m'.name = m.name)) = (ms.take i).filter (fun m' => decide (m'.name = m.name)) ++ (if m'.name = m.name then [m'] else []) := by
        rw [List.take_add_one, hm', List.filter_append]
        congr 1
        by_cases c : m'.name = m.name
        · simp [c]
        · simp [c]
      walk_at "go"
      refine ⟨rfl, ?_⟩
      walk_at "go"
      refine i_dec (fun c => ?_) (fun c => ?_)
      · walk_at "go"
        refine k1 (some (.ref t)) H' (Same.refl H') ?_
        rw [e, if_pos (V.str.inj c)]
        exact h1.snoc r1
      · refine k1 none H' (Same.refl H') ?_
        rw [e, if_neg (fun z => c (by rw [z])), List.append_nil]
        simpa using h1
    · rw [lr, List.take_length] at h1
      have mem : m ∈ ms.filter fun m' => decide (m'.name = m.name) := List.mem_filter.mpr ⟨hm, by simp⟩
      have pos := List.length_pos_of_mem mem
      obtain ⟨x, r, er⟩ : ∃ x r, acc = x :: r := by
        cases acc with
        | nil => have := h1.1; simp at this; rw [← this] at pos; simp at pos
        | cons x r => exact ⟨x, r, rfl⟩
      subst er
      obtain ⟨m2, e2, r2⟩ := h1.get (i := 0) rfl
      obtain ⟨h3, h4⟩ := List.mem_filter.mp (List.mem_of_getElem? e2)
      have em := name_one ok.nd h3 hm (of_decide_eq_true h4)
      subst em
      have a0 : atI (x :: r) 0 = some x := at_of (j := 0) rfl rfl
      walk_at "go"
      exact k x H' s1 r2
def spHeld : Sp := fun vs H Q _ => ∃ v d m, vs = [v, .int d] ∧ RowAt H v m ∧ m.holds.length ≤ 4 ∧ ∀ l (ys : List Str) H', Same H H' → H' l = some (.lst (ys.map V.str)) → (∀ y ∈ ys, y ∈ toolsAt m d) → ys.length ≤ 4 → Q (.ref l) H'
theorem ok_lHeld (F : Fx K mg "_law_held" s_lHeld a_lHeld) (T : Txt K mg) : Cal P w K mg base 1 "_law_held" a_lHeld spHeld := by
  refine cal_of F sc_lHeld (fun vs H Q E h => ?_) (fun f cdv A outer s H vs Q E hr h => ?_)
  · obtain ⟨v, d, m, rfl, _⟩ := h
    rfl
  · obtain ⟨v, d, m, rfl, ⟨t, rfl, z⟩, few, k⟩ := h
    refine ⟨_, (pss_cons (ps_if (pt_cmpR op_eq (pe_ix ix_tup (pv 0) pe_int (fun _ _ => rfl)) pe_str (nomark _))
  (pss_one (ps_ret (pe_lst pa_nil)))
  pss_nil)
  (pss_one (ps_ret (pe_callB (cr_sortX rfl) (by rfl) T.sorted (by decide +kernel) (pa_cons (pe_callTy (cr_setX rfl) (by rfl) T.set (by decide +kernel) (pa_cons (pe_lc (own := [("_law_hold", 2)]) (tt := (tAnd (tTest (tOp _ (tOp (rIxT K) _ _) _)) (tTest (tOp _ _ (tOp _ (tOp (rIxT K) _ _) (tOp (rIxT K) _ _)))))) (te := (tOp (rIxT K) _ _)) rfl sc_lHeld.nd (pi_tup (pe_ix ix_tup (pv 0) pe_int (fun _ _ => rfl))) (blkOk_by (N := n_lHeld) (sc := defScope s_lHeld) (by decide +kernel)) (fun _ _ _ _ _ => (pg_name (i := 2) sc_lHeld.nd rfl (Or.inl rfl))) (fun _ _ _ _ _ => pts_one (PW.pt (pw_and (pt_cmpR op_lt (pe_ix ix_tup (pv 2) pe_int (fun _ _ => rfl)) (pv 1) (nomark _)) (pw_and1 (pt_cmpR op_lt (pv 1) (pe_op op_add (pe_ix ix_tup (pv 2) pe_int (fun _ _ => rfl)) (pe_ix ix_tup (pv 2) pe_int (fun _ _ => rfl))) (nomark _)))))) (fun _ _ _ _ _ => (pe_ix ix_tup (pv 2) pe_int (fun _ _ => rfl)))) pa_nil)) pa_nil))))), ?_⟩
    try dsimp only [cxOf]
    refine at_ [some (.ref t), some (.int d), none] rfl ?_
    rcases z with ⟨dr, d1, d2, ht⟩ | ⟨dr, g, ht, hs, eg, ha⟩
    · walk_at "go"
      refine i_decT rfl ?_
      walk_at "go"
      exact ⟨le_sz (by simp), fun l hl => k l [] _ (same_of_upd hl) upd_same (fun _ h => nomatch h) (by simp)⟩
    · walk_at "go"
      refine i_decF (fun z => absurd (V.str.inj z) (by decide)) ?_
      walk_at "go"
      refine ⟨⟨_, SqT.of eg⟩, fun D hD => lcm_t (SqT.of eg) hD ha.1 (by omega) [some (.ref t), some (.int d), none] rfl (fun h => if h.begin_ < d ∧ d < h.begin_ + h.long then some (V.str h.tool) else none) (fun i x h H2 R hx hh s2 q => ?_) fun H2 s2 e => ?_⟩
      · obtain ⟨th, rfl, et⟩ := (ha.2 i x h hx hh).nl (same_nl s2)
        have q1 := q _ (Same.refl H2)
        walk_at "go"
        refine ⟨rfl, ?_⟩
        walk_at "go"
        by_cases c1 : h.begin_ < d
        · refine i_decT c1 ?_
          walk_at "go"
          refine i_dec (fun c2 => ?_) (fun c2 => ?_)
          · walk_at "go"
            rw [if_pos ⟨c1, c2⟩] at q1
            exact q1
          · rw [if_neg (fun z => c2 z.2)] at q1
            exact q1
        · refine i_decF c1 ?_
          walk_at "go"
          rw [if_neg (fun z => c1 z.1)] at q1
          exact q1
      · have e2 : (m.holds.filterMap fun h => if h.begin_ < d ∧ d < h.begin_ + h.long then some (V.str h.tool) else none) = (toolsAt m d).map V.str := by
          unfold toolsAt
          rw [List.map_filterMap]
          congr 1
          funext h
          split <;> rfl
        rw [e2] at e
        have l4 : (toolsAt m d).length ≤ 4 := Nat.le_trans (List.length_filterMap_le _ _) few
        walk_at "go"
        refine ⟨D, _, rfl, SqL.of e, by omega, fun S hS => ?_⟩
        walk_at "go"
        refine ⟨S, _, _, rfl, upd_same, by omega, fun ys L hy ly hL => ?_⟩
        walk_at "go"
        exact k L ys _ ((s2.trans (same_of_upd hS)).trans (same_of_upd hL)) upd_same hy (by omega)
end
end K19
namespace K19
open PySem L2
open PyProof.Rows (envOfC)
/-- the first argument of the call that is returned; a comprehension's scope -/
def retArg (st : Stmt) : Expr := match defBody st with
  | [.Return (some (.Call _ (a :: _) _ _)) _] => a
  | _ => .Constant .none 0 ⟨0, 0, 0, 0⟩
def lcSc : Expr → Scope
  | .ListComp _ _ sc _ => sc
  | _ => defScope (.Pass ⟨0, 0, 0, 0⟩)
section
variable {P : Program} {w : World} {K : PySem.W.Frag} {mg : Str → Option Value} {base : Heap}
def spLevel : Sp := fun vs H Q _ => ∃ q t ms m, vs = [.ref q, .str t] ∧ RowsAt H q ms ∧ CrewOk ms ∧ m ∈ ms ∧ (∃ h ∈ m.holds, h.tool = t) ∧ ∀ x H', Same H H' → Q (.int x) H'
theorem ok_lLevel (F : Fx K mg "_law_level" s_lLevel a_lLevel) (T : Txt K mg) : Cal P w K mg base 1 "_law_level" a_lLevel spLevel := by
  refine cal_of F sc_lLevel (fun vs H Q E h => ?_) (fun f cdv A outer s H vs Q E hr h => ?_)
  · obtain ⟨q, t, ms, m, rfl, _⟩ := h
    rfl
  · obtain ⟨q, t, ms, m, rfl, ⟨rs, eq, ra⟩, ok, hm, ⟨hh, hhm, hht⟩, k⟩ := h
    have few := ok.few
    refine ⟨_, (pss_one (ps_ret (pe_callB (cr_min rfl) (by rfl) T.min (by decide +kernel) (pa_cons (pe_lc (own := [("_law_row", 2)]) (tt := (tAnd (tTest (tOp _ (tOp (rIxT K) _ _) _)) (tTest (tOp (rIn K false) _ (tLc (iTup K (tOp (rIxT K) _ _)) _ tYes (tOp (rIxT K) _ _) _))))) (te := (tOp (rIxT K) _ _)) rfl sc_lLevel.nd (pi_list (pv 0)) (blkOk_by (N := n_lLevel) (sc := defScope s_lLevel) (by decide +kernel)) (fun _ _ _ _ _ => (pg_name (i := 2) sc_lLevel.nd rfl (Or.inl rfl))) (fun _ _ _ _ _ => pts_one (PW.pt (pw_and (pt_cmpR op_eq (pe_ix ix_tup (pv 2) pe_int (fun _ _ => rfl)) pe_str (nomark _)) (pw_and1 (pt_cmpR op_in_seq (pv 1) (pe_lc (own := [("_law_hold", 3)]) (tt := tYes) (te := (tOp (rIxT K) _ _)) rfl sc_lLevel.nd (pi_tup (pe_ix ix_tup (pv 2) pe_int (fun _ _ => rfl))) (blkOk_by (N := n_lLevel) (sc := relabel (lcSc (retArg s_lLevel)) (envOfC "_law_level" (defScope s_lLevel) 0 0 .none)) (by decide +kernel)) (fun _ _ _ _ _ => (pg_name (i := 3) sc_lLevel.nd rfl (Or.inl rfl))) (fun _ _ _ _ _ => pts_nil) (fun _ _ _ _ _ => (pe_ix ix_tup (pv 3) pe_int (fun _ _ => rfl)))) rfl))))) (fun _ _ _ _ _ => (pe_ix ix_tup (pv 2) pe_int (fun _ _ => rfl)))) pa_nil)))), ?_⟩
    try dsimp only [cxOf]
    refine at_ [some (.ref q), some (.str t), none, none] rfl ?_
    walk_at "go"
    refine ⟨⟨_, SqL.of eq⟩, fun D hD => lcm_l (SqL.of eq) hD ra.1 (by omega) [some (.ref q), some (.str t), none, none] rfl (fun m => if t ∈ m.holds.map Hold.tool then some (V.int m.due) else none) (fun i x m H2 R hx hmi s2 k2 => ?_) fun H2 s2 e => ?_⟩
    · have mok := ok.each m (List.mem_of_getElem? hmi)
      have q1 := k2
      obtain ⟨tr, rfl, z⟩ := (ra.2 i x m hx hmi).nl (same_nl s2)
      rcases z with ⟨d, d1, d2, et⟩ | ⟨d, g, et, hs, eg, ha⟩
      · have q2 := k2 _ (Same.refl H2)
        rw [d2, if_neg (by simp)] at q2
        walk_at "go"
        refine ⟨rfl, ?_⟩
        walk_at "go"
        refine i_decF (fun z => absurd (V.str.inj z) (by decide)) ?_
        walk_at "go"
        exact q2
      · walk_at "go"
        refine ⟨rfl, ?_⟩
        walk_at "go"
        refine i_decT rfl ?_
        walk_at "go"
        refine ⟨⟨_, SqT.of eg⟩, fun D2 hD2 => lcm_t (SqT.of eg) hD2 ha.1 (by have := mok.holds.few; omega) [some (.ref q), some (.str t), some (.ref tr), none] rfl (fun h => some (V.str h.tool)) (fun j y h H3 R3 hy hhj s3 k3 => ?_) fun H3 s3 e3 => ?_⟩
        · obtain ⟨th, rfl, eth⟩ := (ha.2 j y h hy hhj).nl (same_nl s3)
          have q3 := k3 _ (Same.refl H3)
          walk_at "go"
          refine ⟨rfl, ?_⟩
          walk_at "go"
          exact q3
        · rw [fm_some] at e3
          have e4 : H3 D2 = some (.lst ((m.holds.map Hold.tool).map V.str)) := by
            rw [List.map_map]
            exact e3
          have et3 := s3 _ _ et
          have q4 := k2 _ s3
          walk_at "go"
          refine ⟨D2, _, rfl, .inl (SqL.of e4), rfl, flat_strs _, ?_⟩
          rw [if_neg (by decide), inV_strs]
          refine ⟨_, rfl, ?_⟩
          by_cases c : t ∈ m.holds.map Hold.tool
          · rw [if_pos c] at q4
            refine i_decT c ?_
            walk_at "go"
            exact q4
          · rw [if_neg c] at q4
            refine i_decF c ?_
            exact q4
    · have mem : V.int m.due ∈ ms.filterMap fun m => if t ∈ m.holds.map Hold.tool then some (V.int m.due) else none := List.mem_filterMap.mpr ⟨m, hm, if_pos (List.mem_map.mpr ⟨hh, hhm, hht⟩)⟩
      have e2 : (ms.filterMap fun m => if t ∈ m.holds.map Hold.tool then some (V.int m.due) else none) = (ms.filterMap fun m => if t ∈ m.holds.map Hold.tool then some m.due else none).map V.int := by
        rw [List.map_filterMap]
        congr 1
        funext m
        split <;> rfl
      have pos := List.length_pos_of_mem mem
      rw [e2, List.length_map] at pos
      rw [e2] at e
      walk_at "go"
      exact ⟨D, _, rfl, SqL.of e, pos, fun x _ _ => k x H2 s2⟩
/-- a work of the law's own run -/
structure Jb where
  name : Str
  num : Int
  comes : Int
  due : Int
  done : Int
  want : Int
def JobAt (H : Hp) (v : V) (j : Jb) : Prop := ∃ a x y, v = .ref a ∧ H a = some (.lst [.str j.name, .int j.num, .int j.comes, .int j.due, .int j.done, .int j.want, x, y])
theorem JobAt.same {H H' : Hp} (s : Same H H') {v : V} {j : Jb} (h : JobAt H v j) : JobAt H' v j := by
  obtain ⟨a, x, y, e, z⟩ := h
  exact ⟨a, x, y, e, s _ _ z⟩
def Has (ms : List Mem) (n : Str) : Prop := ∃ m ∈ ms, m.name = n
def spKey : Sp := fun vs H Q _ => ∃ q w ms j, vs = [.ref q, w] ∧ RowsAt H q ms ∧ CrewOk ms ∧ JobAt H w j ∧ Has ms j.name ∧ ∀ t x H', Same H H' → H' t = some (.tup [.int j.due, .int x, .int j.comes]) → Q (.ref t) H'
theorem ok_lKey (F : Fx K mg "_law_key" s_lKey a_lKey) (T : Txt K mg) : Cal P w K mg base 1 "_law_key" a_lKey spKey := by
  refine cal_of F sc_lKey (fun vs H Q E h => ?_) (fun f cdv A outer s H vs Q E hr h => ?_)
  · obtain ⟨q, w, ms, j, rfl, _⟩ := h
    rfl
  · obtain ⟨q, w, ms, j, rfl, ⟨rs, eq, ra⟩, ok, ⟨a, x6, x7, rfl, ea⟩, has, k⟩ := h
    have few := ok.few
    obtain ⟨p1, p2, p3⟩ := place_at has
    refine ⟨_, (pss_one (ps_ret (pe_tup (pa_cons (pe_ix ix_list (pv 1) pe_int (fun _ _ => rfl)) (pa_cons (pe_bm PySem.F.plainAttrs_list PySem.F.slot_list_index PySem.F.type_list_index mt_index (pe_lc (own := [("_law_row", 2)]) (tt := tYes) (te := (tOp (rIxT K) _ _)) rfl sc_lKey.nd (pi_list (pv 0)) (blkOk_by (N := n_lKey) (sc := defScope s_lKey) (by decide +kernel)) (fun _ _ _ _ _ => (pg_name (i := 2) sc_lKey.nd rfl (Or.inl rfl))) (fun _ _ _ _ _ => pts_nil) (fun _ _ _ _ _ => (pe_ix ix_tup (pv 2) pe_int (fun _ _ => rfl)))) (pa_cons (pe_ix ix_list (pv 1) pe_int (fun _ _ => rfl)) pa_nil)) (pa_cons (pe_ix ix_list (pv 1) pe_int (fun _ _ => rfl)) pa_nil)))))), ?_⟩
    try dsimp only [cxOf]
    refine at_ [some (.ref q), some (.ref a), none] rfl ?_
    walk_at "go"
    refine ⟨⟨_, SqL.of eq⟩, fun D hD => lcm_l (SqL.of eq) hD ra.1 (by omega) [some (.ref q), some (.ref a), none] rfl (fun m => some (V.str m.name)) (fun i x m H2 R hx hmi s2 k2 => ?_) fun H2 s2 e => ?_⟩
    · obtain ⟨t, xs, rfl, et, a0, a1, a2, a3⟩ := ((ra.2 i x m hx hmi).nl (same_nl s2)).at
      have q2 := k2 _ (Same.refl H2)
      walk_at "go"
      refine ⟨rfl, ?_⟩
      walk_at "go"
      exact q2
    · rw [fm_some] at e
      have e2 : H2 D = some (.lst ((ms.map Mem.name).map V.str)) := by
        rw [List.map_map]
        exact e
      have ea2 := s2 _ _ ea
      walk_at "go"
      refine ⟨.inl ⟨rfl, _, SqL.of e2⟩, ?_⟩
      walk_at "go"
      refine ⟨D, _, _, placeOf ms j.name, .str j.name, rfl, rfl, SqL.of e2, rfl, flat_strs _, by rw [List.getElem?_map, p1]; rfl, by simp [eqV], fun i z hi hz => ?_, ?_⟩
      · rw [List.getElem?_map] at hz
        obtain ⟨n, hn, rfl⟩ := Option.map_eq_some_iff.mp hz
        have ne := p3 i hi
        rw [hn] at ne
        have ne2 : ¬ n = j.name := fun z => ne (by rw [z])
        simp [eqV, ne2]
      walk_at "go"
      exact ⟨le_sz (by simp), fun t ht => k t _ _ (s2.trans (same_of_upd ht)) upd_same⟩
end
end K19
namespace K19
open PySem L2
open PyProof.Rows (envOfC)
section
variable {P : Program} {w : World} {K : PySem.W.Frag} {mg : Str → Option Value} {base : Heap}
theorem shaped_two {n : Str} {i : Int} (h : IsName n) : SeqAt.shaped (.list [.str n, .int i]) = true := by
  have := strOk_name h
  simp [SeqAt.shaped, PyData.canLay0, PyData.canLayAll0, PyData.depth, PyData.depthAll, this]
def spIsHeldUpL : Sp := fun vs H Q _ => ∃ q w l ms j ws js, vs = [.ref q, w, .ref l] ∧ RowsAt H q ms ∧ CrewOk ms ∧ JobAt H w j ∧ Has ms j.name ∧ H l = some (.lst ws) ∧ All2 (JobAt H) ws js ∧ (∀ j ∈ js, Has ms j.name) ∧
  ∀ b H', Same H H' → (b = true → ∃ j ∈ js, 0 < j.done) → Q (.bl b) H'
theorem ok_lIsHeldUp (F : Fx K mg "_law_is_held_up" s_lIsHeldUp a_lIsHeldUp) (T : Txt K mg) (C_lDue : Cal P w K mg base 1 "_law_due" a_lDue spDue) (C_lRowOf : Cal P w K mg base 1 "_law_row_of" a_lRowOf spRowOf) (C_lHeld : Cal P w K mg base 1 "_law_held" a_lHeld spHeld)
    (C_lLevel : Cal P w K mg base 1 "_law_level" a_lLevel spLevel) : Cal P w K mg base 2 "_law_is_held_up" a_lIsHeldUp spIsHeldUpL := by
  refine cal_of F sc_lIsHeldUp (fun vs H Q E h => ?_) (fun f cdv A outer s H vs Q E hr h => ?_)
  · obtain ⟨q, w, l, ms, j, ws, js, rfl, _⟩ := h
    rfl
  · obtain ⟨q, w, l, ms, j, ws, js, rfl, hrow, ok, ⟨a, x6, x7, rfl, ea⟩, ⟨m, hm, en⟩, el, wa, has, k⟩ := h
    have hu64 := hr.units
    refine ⟨_, (pss_cons (ps_set (i := 3) sc_lIsHeldUp.nd rfl (Or.inl rfl) (pe_cal C_lDue (hr.mono (by decide)) (pa_cons (pe_cal C_lRowOf (hr.mono (by decide)) (pa_cons (pv 0) (pa_cons (pe_ix ix_list (pv 1) pe_int (fun _ _ => rfl)) pa_nil))) pa_nil)))
  (pss_cons (ps_for PassesOwn.never rfl (pi_list (pv 2)) (pg_name (i := 4) sc_lIsHeldUp.nd rfl (Or.inl rfl))
  (pss_one (ps_if (pt_cmpR (op_neD hu64) (pe_slice sl_list (pv 4) po_none (po_some pe_int)) (pe_slice sl_list (pv 1) po_none (po_some pe_int)) (nomark _))
  (pss_cons (ps_set (i := 5) sc_lIsHeldUp.nd rfl (Or.inl rfl) (pe_cal C_lHeld (hr.mono (by decide)) (pa_cons (pe_cal C_lRowOf (hr.mono (by decide)) (pa_cons (pv 0) (pa_cons (pe_ix ix_list (pv 4) pe_int (fun _ _ => rfl)) pa_nil))) (pa_cons (pe_ix ix_list (pv 4) pe_int (fun _ _ => rfl)) pa_nil))))
  (pss_cons (ps_setLc (i := 6) (own := [("_law_tool", 7)]) (tt := tYes) (te := _) rfl sc_lIsHeldUp.nd rfl rfl (sw_true rfl rfl rfl (by decide +kernel)) (pi_list (pv 5)) (blkOk_by (N := n_lIsHeldUp) (sc := defScope s_lIsHeldUp) (by decide +kernel)) (fun _ _ _ _ _ => (pg_name (i := 7) sc_lIsHeldUp.nd rfl (Or.inl rfl))) (fun _ _ _ _ _ => pts_nil) (fun _ _ _ _ _ => (pe_cal C_lLevel (hr.mono (by decide)) (pa_cons (pv 0) (pa_cons (pv 7) pa_nil)))))
  (pss_one (ps_if (pt_cmpR op_le (pe_callB (cr_min rfl) (by rfl) T.min (by decide +kernel) (pa_cons (pe_op op_cat (pv 6) (pe_lst (pa_cons (pe_op op_add (pv 3) pe_int) pa_nil))) pa_nil)) (pv 3) (nomark _))
  (pss_one (ps_ret pe_bl))
  pss_nil))))
  pss_nil)))
  (pss_one (ps_ret pe_bl)))), ?_⟩
    try dsimp only [cxOf]
    refine at_ [some (.ref q), some (.ref a), some (.ref l), none, none, none, none, none] rfl ?_
    walk_at "go"
    refine ⟨q, _, ms, m, rfl, hrow, ok, hm, en, fun v H1 s1 hv => ?_⟩
    walk_at "go"
    refine ⟨v, m, rfl, hv, ?_⟩
    walk_at "go"
    have el1 := s1 _ _ el
    refine ⟨⟨_, SqL.of el1⟩, for_itD walk_list (fun i σ H' => ∃ u4 u5 u6 u7, σ = [some (.ref q), some (.ref a), some (.ref l), some (.int m.due), u4, u5, u6, u7] ∧ Same H H') ⟨none, none, none, none, rfl, s1⟩ (fun _ _ _ _ ⟨_, _, _, _, _, s⟩ => SqL.of (s _ _ el)) ?_ ?_⟩
    · rintro i x σ H2 H3 hi ⟨u4, u5, u6, u7, rfl, s2⟩ ⟨rfl, hx⟩
      obtain ⟨j2, hj2, r2⟩ := wa.get hx
      obtain ⟨m2, hm2, en2⟩ := has j2 (List.mem_of_getElem? hj2)
      obtain ⟨b, y6, y7, rfl, eb⟩ := r2.same s2
      have ea2 := s2 _ _ ea
      have ok2 := ok.each m2 hm2
      have nn : IsName j.name := by rw [← en]; exact (ok.each m hm).name
      have nn2 : IsName j2.name := by rw [← en2]; exact ok2.name
      walk_at "go"
      intro L1 hL1
      have s3 := same_of_upd (o := .lst (cutV [V.str j2.name, .int j2.num, .int j2.comes, .int j2.due, .int j2.done, .int j2.want, y6, y7] none (some 2))) hL1
      have e3 := upd_same (H := H3) (a := L1) (o := .lst (cutV [V.str j2.name, .int j2.num, .int j2.comes, .int j2.due, .int j2.done, .int j2.want, y6, y7] none (some 2)))
      generalize upd H3 L1 (.lst (cutV [V.str j2.name, .int j2.num, .int j2.comes, .int j2.due, .int j2.done, .int j2.want, y6, y7] none (some 2))) = H4 at s3 e3 ⊢
      have ea4 := s3 _ _ ea2
      walk_at "go"
      intro L2 hL2
      have s5 := same_of_upd (o := .lst (cutV [V.str j.name, .int j.num, .int j.comes, .int j.due, .int j.done, .int j.want, x6, x7] none (some 2))) hL2
      have e5 := upd_same (H := H4) (a := L2) (o := .lst (cutV [V.str j.name, .int j.num, .int j.comes, .int j.due, .int j.done, .int j.want, x6, x7] none (some 2)))
      generalize upd H4 L2 (.lst (cutV [V.str j.name, .int j.num, .int j.comes, .int j.due, .int j.done, .int j.want, x6, x7] none (some 2))) = H5 at s5 e5 ⊢
      have s05 := s2.trans (s3.trans s5)
      have e35 : H5 L1 = some (.lst [.str j2.name, .int j2.num]) := s5 _ _ e3
      have e55 : H5 L2 = some (.lst [.str j.name, .int j.num]) := e5
      have eb5 := s5 _ _ (s3 _ _ eb)
      refine ⟨_, _, .lst (SqL.of e35) (.cons (.str _) (.cons (.int _) .nil)), .lst (SqL.of e55) (.cons (.str _) (.cons (.int _) .nil)), shaped_two nn2, shaped_two nn, _, rfl, ?_⟩
      refine i_boo (fun _ => ?_) (fun _ => ?_)
      case refine_2 =>
        walk_at "go"
        exact ⟨_, _, _, _, rfl, s05⟩
      walk_at "go"
      refine ⟨q, _, ms, m2, rfl, hrow.same s05, ok, hm2, en2, fun v2 H6 s6 hv2 => ?_⟩
      have eb6 := s6 _ _ eb5
      walk_at "go"
      refine ⟨v2, _, m2, rfl, hv2, ok2.holds.few, fun l2 ys H7 s7 el2 hys ly => ?_⟩
      have s07 := s05.trans (s6.trans s7)
      walk_at "go"
      refine ⟨⟨_, SqL.of el2⟩, fun D hD => lc_j walk_list (fun _ _ _ _ _ _ y => y) (lt_sz (by simp; omega)) hD (σ0 := [some (.ref q), some (.ref a), some (.ref l), some (.int m.due), some (.ref b), some (.ref l2), u6, none]) rfl (fun i acc _ => ∃ ns : List Int, acc = ns.map V.int ∧ ns.length = i)
        (fun _ _ _ _ _ h => h) ⟨[], rfl, rfl⟩ (fun H' s => s.seq (SqL.of el2)) (fun i x acc H8 R hx s8 h8 k8 => ?_) (fun acc H8 s8 eD h8 lacc => ?_)⟩
      · obtain ⟨ns, rfl, ln⟩ := h8
        rw [List.getElem?_map] at hx
        obtain ⟨t, ht, rfl⟩ := Option.map_eq_some_iff.mp hx
        have tm := hys t (List.mem_of_getElem? ht)
        obtain ⟨hd, h3, h4⟩ := List.mem_filterMap.mp tm
        have htool : hd.tool = t := by
          split at h4
          · exact Option.some.inj h4
          · cases h4
        walk_at "go"
        refine ⟨rfl, ?_⟩
        walk_at "go"
        refine ⟨q, t, ms, m2, rfl, hrow.same (s07.trans s8), ok, hm2, ⟨hd, h3, htool⟩, fun x H9 s9 => ?_⟩
        exact k8 (some (.int x)) H9 s9 ⟨ns ++ [x], by simp, by simp [ln]⟩
      · obtain ⟨ns, rfl, ln⟩ := h8
        have ln2 : ns.length = ys.length := by simpa using ln
        walk_at "go"
        refine ⟨le_sz (by simp), fun L3 hL3 => ?_⟩
        have s9 := same_of_upd (o := .lst [V.int (m.due + 1)]) hL3
        have e9 := upd_same (H := H8) (a := L3) (o := .lst [V.int (m.due + 1)])
        generalize upd H8 L3 (.lst [V.int (m.due + 1)]) = H9 at s9 e9 ⊢
        have eD9 := s9 _ _ eD
        refine ⟨D, L3, _, _, rfl, rfl, eD9, e9, le_sz (by simp; omega), fun L4 hL4 => ?_⟩
        have s10 := same_of_upd (o := .lst (ns.map V.int ++ [V.int (m.due + 1)])) hL4
        have e10 : upd H9 L4 (.lst (ns.map V.int ++ [V.int (m.due + 1)])) L4 = some (.lst ((ns ++ [m.due + 1]).map V.int)) := by
          rw [List.map_append]
          exact upd_same
        generalize upd H9 L4 (.lst (ns.map V.int ++ [V.int (m.due + 1)])) = H10 at s10 e10 ⊢
        have s010 := s07.trans (s8.trans (s9.trans s10))
        walk_at "go"
        refine ⟨L4, _, rfl, SqL.of e10, by simp, fun x hx hmin => ?_⟩
        walk_at "go"
        refine i_dec (fun le => ?_) (fun _ => ?_)
        · walk_at "go"
          refine k true H10 s010 fun _ => ⟨j2, List.mem_of_getElem? hj2, ?_⟩
          cases ys with
          | nil =>
            have : ns = [] := List.length_eq_zero_iff.mp ln2
            subst this
            have hx1 : x = m.due + 1 := by simpa using hx
            omega
          | cons y r =>
            obtain ⟨hd, h3, h4⟩ := List.mem_filterMap.mp (hys y List.mem_cons_self)
            have hb := ok2.holds.each hd h3
            split at h4
            · omega
            · cases h4
        · walk_at "go"
          exact ⟨_, _, _, _, rfl, s010⟩
    · rintro σ H2 ⟨u4, u5, u6, u7, rfl, s2⟩
      walk_at "go"
      exact k false H2 s2 (fun h => by cases h)
end
end K19
namespace K19
open PySem L2
open PyProof.Rows (envOfC)
/-- a def that makes a lambda: its code object at c, the table of the lambda's code at P -/
def FxT (K : PySem.W.Frag) (mg : Str → Option Value) (base : Heap) (x : Str) (st : Stmt) (ps : List Str) (c P : Addr) : Prop :=
  ∃ f fd, FunD K x x (defArgs st) (defBody st) (defScope st) [] [] f fd ∧ mg x = some (.ref f) ∧ Binds K fd ps [] ∧ fd.code = .ref c ∧ LamX.TabB base mg c P
section
variable {P : Program} {w : World} {K : PySem.W.Frag} {mg : Str → Option Value} {base : Heap}
theorem cal_ofT {x : Str} {st : Stmt} {ps N : List Str} {k : Nat} {sp : Sp} {c Pt : Addr} (F : FxT K mg base x st ps c Pt) (S : FnScope N ps (defScope st)) (len : ∀ vs H Q E, sp vs H Q E → vs.length = ps.length)
    (hbody : ∀ (f : Addr) (A : Around) (outer : List Env) (s : Shared) (H : Hp) (vs : List V) (Q : VK) (E : XK), LamX.TabB base mg c Pt → Room k (A.deeper (envOfC x (defScope st) s.heap.objs.size f (.ref c))) → sp vs H Q E →
      ∃ t, PSs (cxOf CX0 P w K mg base N x (defScope st) f (.ref c) A outer s H E).nox (defBody st) t ∧ t { nx := fun _ H' => Q .non H', rt := Q } (start N vs) H) : Cal P w K mg base (k + 1) x ps sp := by
  obtain ⟨f, fd, G, hm, hb, hc, tb⟩ := F
  have kp := G.kp
  obtain ⟨oc, od, dV, kV, doc, pm, an, cdv, ct, osl, rfl, lk, hcd, _, _⟩ := G.ex
  obtain rfl : cdv = .ref c := hc
  refine ⟨f, _, fn_of lk hcd S len fun A outer s H vs Q E hr h => ?_, hm, kp, hb⟩
  obtain ⟨t, ht, q⟩ := hbody f A outer s H vs Q E tb hr h
  exact ⟨t, ht.nox, q⟩
end
def KeyT (H : Hp) (k : V) : Prop := ∃ t z, k = V.ref t ∧ H t = some (.tup (z.map V.int)) ∧ z ≠ []
theorem keys_dp {K : PySem.W.Frag} {H : Hp} : ∀ {ks : List V}, (∀ k ∈ ks, KeyT H k) → ∃ zs : List (List Int), (∀ z ∈ zs, z ≠ []) ∧ DpAll K H ks (zs.map tupD)
  | [], _ => ⟨[], (fun _ h => nomatch h), .nil⟩
  | k :: ks, h => by
    obtain ⟨zs, h1, h2⟩ := keys_dp (K := K) (ks := ks) fun y hy => h y (List.mem_cons_of_mem _ hy)
    obtain ⟨t, z, rfl, e, ne⟩ := h k List.mem_cons_self
    refine ⟨z :: zs, fun y hy => ?_, ?_⟩
    · rcases List.mem_cons.mp hy with rfl | hy
      · exact ne
      · exact h1 y hy
    · have all : ∀ z : List Int, DpAll K H (z.map V.int) (z.map PyData.int) := fun z => by
        induction z with
        | nil => exact .nil
        | cons a r ih => exact .cons (.int a) ih
      exact .cons (.tup (SqT.of e) (all z)) h2
theorem All2.perm {α β : Type} {R : α → β → Prop} {xs xs' : List α} {ys : List β} (h : All2 R xs ys) (p : xs'.Perm xs) : ∃ ys', ys'.Perm ys ∧ All2 R xs' ys' := by
  induction p generalizing ys with
  | nil => exact ⟨ys, .refl _, h⟩
  | @cons x l1 l2 _ ih =>
    cases ys with
    | nil => exact absurd h.1 (by simp)
    | cons y r =>
      obtain ⟨r', p', a'⟩ := ih (ys := r) ⟨by simpa using h.1, fun i a b h1 h2 => h.2 (i + 1) a b (by simpa using h1) (by simpa using h2)⟩
      refine ⟨y :: r', p'.cons y, by simpa using a'.1, fun i a b h1 h2 => ?_⟩
      cases i with
      | zero =>
        simp at h1 h2
        subst h1 h2
        exact h.2 0 _ _ rfl rfl
      | succ i => exact a'.2 i a b (by simpa using h1) (by simpa using h2)
  | @swap x y l =>
    match ys, h with
    | [], h => exact absurd h.1 (by simp)
    | [_], h => exact absurd h.1 (by simp)
    | b :: c :: r, h =>
      refine ⟨c :: b :: r, .swap _ _ _, by simpa using h.1, fun i u v h1 h2 => ?_⟩
      match i with
      | 0 => exact h.2 1 u v (by simpa using h1) (by simpa using h2)
      | 1 => exact h.2 0 u v (by simpa using h1) (by simpa using h2)
      | i + 2 => exact h.2 (i + 2) u v (by simpa using h1) (by simpa using h2)
  | trans _ _ ih1 ih2 =>
    obtain ⟨b, pb, ab⟩ := ih2 h
    obtain ⟨a, pa, aa⟩ := ih1 ab
    exact ⟨a, pa.trans pb, aa⟩
theorem extN_row {H H' : Hp} (k : LamX.ExtN H H') {a : Addr} {ms : List Mem} (r : RowsAt H a ms) : RowsAt H' a ms := by
  obtain ⟨xs, e, z⟩ := r
  exact ⟨xs, k _ _ e (fun _ h => nomatch h), z.mono fun _ _ _ _ => RowAt.nl (extN_nl k)⟩
theorem extN_get {H H' : Hp} (k : LamX.ExtN H H') {a : Addr} {xs : List V} (e : H a = some (.lst xs)) : H' a = some (.lst xs) := k _ _ e (fun _ h => nomatch h)
theorem i_sortL {K : PySem.W.Frag} {N : List Str} {T : List (Addr × Str)} {q p : Str} {N1 : List Str} {ta : TA} {tb : TE} {σ : L2.St} {H : Hp} {Q : VK} (h : ta σ H fun us H1 => LamX.Tabs T H1 ∧ ∀ H2 c', LamX.ExtN H1 H2 → LamX.Tabs T H2 → H2 c' = some (LamX.CodeO c' q) →
  ∃ (a : Addr) (xs : List V) (Pv : Nat → List V → Hp → Prop), us = [V.ref a] ∧ SqL K H2 a xs ∧ (∀ y ∈ xs, ∃ b, y = V.ref b) ∧ Pv 0 [] H2 ∧ (∀ i ks H, Pv i ks H → H c' = some (LamX.CodeO c' q)) ∧
    (∀ i ks y H, xs[i]? = some y → Pv i ks H → ∃ σ1, SlotsL N σ p N1 σ1 y ∧ tb σ1 H fun z H' => Pv (i + 1) (ks ++ [z]) H') ∧
    ∀ ks H, Pv xs.length ks H → (∃ zs : List (List Int), (∀ z ∈ zs, z ≠ []) ∧ DpAll K H ks (zs.map tupD)) ∧ ∀ ys d, ys.Perm xs → H d = none → Q (.ref d) (upd H d (.lst ys))) : tSortL K N T q p N1 ta tb σ H Q := h
section
variable {P : Program} {w : World} {K : PySem.W.Frag} {mg : Str → Option Value} {base : Heap} {T0 : List (Addr × Str)}
abbrev lamQ (x : Str) (st : Stmt) : Str := (envOfC x (defScope st) 0 0 .none).qual ++ "<lambda>"
def spInTurn (T0 : List (Addr × Str)) : Sp := fun vs H Q _ => ∃ q l ms cs ks, vs = [.ref q, .ref l] ∧ RowsAt H q ms ∧ CrewOk ms ∧ H l = some (.lst cs) ∧ All2 (WorkT H) cs ks ∧ (∀ k ∈ ks, Has ms k.name) ∧ LamX.Tabs T0 H ∧
  ∀ l2 cs2 ks2 H', LamX.ExtN H H' → LamX.Tabs T0 H' → H' l2 = some (.lst cs2) → All2 (WorkT H') cs2 ks2 → ks2.Perm ks → Q (.ref l2) H'
theorem ok_lInTurn {c Pt : Addr} (F : FxT K mg base "_law_in_turn" s_lInTurn a_lInTurn c Pt) (T : Txt K mg) (hmT : (Pt, lamQ "_law_in_turn" s_lInTurn) ∈ T0) (hu_ : ∀ p ∈ T0, p.1 = Pt → p.2 = lamQ "_law_in_turn" s_lInTurn) : Cal P w K mg base 4 "_law_in_turn" a_lInTurn (spInTurn T0) := by
  refine cal_ofT F sc_lInTurn (fun vs H Q E h => ?_) (fun f A outer s H vs Q E TB hr h => ?_)
  · obtain ⟨q, l, ms, cs, ks, rfl, _⟩ := h
    rfl
  · obtain ⟨q, l, ms, cs, ks, rfl, hrow, ok, el, ca, has, tabs, k⟩ := h
    have hcode : (cxOf CX0 P w K mg base n_lInTurn "_law_in_turn" (defScope s_lInTurn) f (.ref c) A outer s H E).nox.env.code = .ref c := rfl
    have hr3 : Room (0 + 3) (cxOf CX0 P w K mg base n_lInTurn "_law_in_turn" (defScope s_lInTurn) f (.ref c) A outer s H E).nox.A := hr
    obtain ⟨rs, eq, ra⟩ := id hrow
    have few := ok.few
    refine ⟨_, (pss_cons (ps_set (i := 2) sc_lInTurn.nd rfl (Or.inr rfl) (pe_lc (own := [("_law_row", 3)]) (tt := tYes) (te := (tOp (rIxT K) _ _)) rfl sc_lInTurn.nd (pi_list (pv 0)) (blkOk_by (N := n_lInTurn) (sc := defScope s_lInTurn) (by decide +kernel)) (fun _ _ _ _ _ => (pg_name (i := 3) sc_lInTurn.nd rfl (Or.inl rfl))) (fun _ _ _ _ _ => pts_nil) (fun _ _ _ _ _ => (pe_ix ix_tup (pv 3) pe_int (fun _ _ => rfl)))))
  (pss_one (ps_ret (pe_sortL (p := "_law_one") (N1 := ["_law_called", "_law_one"]) (tb := (tTup (tCons (tOp (rIxT K) _ _) (tCons (tBM K "list" (rIndex K) _ (tCons (tOp (rIxT K) _ _) tNil)) tNil)))) rfl T.sorted (pa_cons (pv 1) pa_nil) TB hcode hmT hu_ hr3 (lamP_by (sc := defScope s_lInTurn) (by decide +kernel)) rfl (fun _ _ _ _ _ _ => rfl) (fun A f c' s H hr => (pe_tup (pa_cons (pe_ix ix_tup (pv 1) pe_int (fun _ _ => rfl)) (pa_cons (pe_bm PySem.F.plainAttrs_list PySem.F.slot_list_index PySem.F.type_list_index mt_index (pv 0) (pa_cons (pe_ix ix_tup (pv 1) pe_int (fun _ _ => rfl)) pa_nil)) pa_nil)))))))), ?_⟩
    try dsimp only [cxOf]
    refine at_ [some (.ref q), some (.ref l), none, none, none] rfl ?_
    walk_at "go"
    refine ⟨⟨_, SqL.of eq⟩, fun D hD => lcm_l (SqL.of eq) hD ra.1 (by omega) [some (.ref q), some (.ref l), none, none, none] rfl (fun m => some (V.str m.name)) (fun i x m H2 R hx hmi s2 k2 => ?_) fun H2 s2 e => ?_⟩
    · obtain ⟨t, xs, rfl, et, a0, a1, a2, a3⟩ := ((ra.2 i x m hx hmi).nl (same_nl s2)).at
      have q2 := k2 _ (Same.refl H2)
      walk_at "go"
      refine ⟨rfl, ?_⟩
      walk_at "go"
      exact q2
    · rw [fm_some] at e
      have e2 : H2 D = some (.lst ((ms.map Mem.name).map V.str)) := by
        rw [List.map_map]
        exact e
      have el2 := s2 _ _ el
      walk_at "go"
      refine i_sortL ?_
      walk_at "go"
      refine ⟨tabs.ext s2, fun H3 c' x3 tabs3 hc' => ⟨l, cs, fun i ks' H' => Same H3 H' ∧ ∀ k ∈ ks', KeyT H' k, rfl, SqL.of (extN_get x3 el2), fun y hy => ?_, ⟨Same.refl H3, (fun _ h => nomatch h)⟩, fun i ks' H' h => h.1 _ _ hc', fun i ks' y H4 hy ⟨s4, kt⟩ => ?_, fun ks' H4 ⟨s4, kt⟩ => ⟨keys_dp kt, fun ys d perm hd => ?_⟩⟩⟩
      · obtain ⟨k1, _, t, e, _⟩ := ca.left hy
        exact ⟨t, e⟩
      · obtain ⟨g, hg, r⟩ := ca.get hy
        have n4 : NL H H4 := (same_nl s2).trans ((extN_nl x3).trans (same_nl s4))
        obtain ⟨ty, rfl, ety⟩ := r.nl n4
        have eD4 := s4 _ _ (extN_get x3 e2)
        obtain ⟨p1, p2, p3⟩ := place_at (has g (List.mem_of_getElem? hg))
        refine ⟨[some (.ref D), some (.ref ty)], ⟨rfl, fun i x w h1 h2 => ?_⟩, ?_⟩
        · match i, h1, h2 with
          | 0, h1, h2 =>
            cases h1
            cases h2
            exact .inr ⟨by decide, 2, rfl, rfl⟩
          | 1, h1, h2 =>
            cases h1
            cases h2
            exact .inl ⟨rfl, rfl⟩
          | i + 2, h1, _ => exact absurd h1 (by simp)
        walk_at "go"
        refine ⟨.inl ⟨rfl, _, SqL.of eD4⟩, ?_⟩
        walk_at "go"
        refine ⟨D, _, _, placeOf ms g.name, .str g.name, rfl, rfl, SqL.of eD4, rfl, flat_strs _, by rw [List.getElem?_map, p1]; rfl, by simp [eqV], fun i z hi hz => ?_, ?_⟩
        · rw [List.getElem?_map] at hz
          obtain ⟨n, hn, rfl⟩ := Option.map_eq_some_iff.mp hz
          have ne := p3 i hi
          rw [hn] at ne
          have ne2 : ¬ n = g.name := fun z => ne (by rw [z])
          simp [eqV, ne2]
        walk_at "go"
        refine ⟨le_sz (by simp), fun t ht => ?_⟩
        have st := same_of_upd (o := .tup [.int g.comes, .int (placeOf ms g.name : Nat)]) ht
        refine ⟨s4.trans st, fun k hk => ?_⟩
        rcases List.mem_append.mp hk with z | z
        · obtain ⟨t', z', e1, e2, e3⟩ := kt k z
          exact ⟨t', z', e1, st _ _ e2, e3⟩
        · rw [List.mem_singleton.mp z]
          exact ⟨t, [g.comes, (placeOf ms g.name : Nat)], rfl, upd_same, by simp⟩
      · have sd := same_of_upd (o := .lst ys) hd
        have s45 := s4.trans sd
        have n5 : NL H (upd H4 d (.lst ys)) := (same_nl s2).trans ((extN_nl x3).trans (same_nl s45))
        obtain ⟨ks2, pk, a2⟩ := ca.perm perm
        exact k d ys ks2 _ ((extN_same s2).trans (x3.trans (extN_same s45))) (tabs3.ext s45) upd_same (a2.mono fun _ _ _ _ => WorkT.nl n5) pk
end
end K19
namespace K19
open PySem L2
open PyProof.Rows (envOfC)
theorem JobAt.ext {H H' : Hp} (k : LamX.ExtN H H') {v : V} {j : Jb} (h : JobAt H v j) : JobAt H' v j := by
  obtain ⟨a, x, y, e, z⟩ := h
  exact ⟨a, x, y, e, extN_get k z⟩
section
variable {P : Program} {w : World} {K : PySem.W.Frag} {mg : Str → Option Value} {base : Heap} {T0 : List (Addr × Str)}
def spChosen (T0 : List (Addr × Str)) : Sp := fun vs H Q _ => ∃ q l ms ws js, vs = [.ref q, .ref l] ∧ RowsAt H q ms ∧ CrewOk ms ∧ H l = some (.lst ws) ∧ All2 (JobAt H) ws js ∧ (∀ j ∈ js, Has ms j.name) ∧ ws ≠ [] ∧ ws.length ≤ 4000000 ∧ LamX.Tabs T0 H ∧
  ∀ t w b H', LamX.ExtN H H' → LamX.Tabs T0 H' → H' t = some (.tup [w, .bl b]) → w ∈ ws → Q (.ref t) H'
theorem ok_lChosen {c Pt : Addr} (F : FxT K mg base "_law_chosen" s_lChosen a_lChosen c Pt) (T : Txt K mg) (hmT : (Pt, lamQ "_law_chosen" s_lChosen) ∈ T0) (hu_ : ∀ p ∈ T0, p.1 = Pt → p.2 = lamQ "_law_chosen" s_lChosen)
    (C_lKey : Cal P w K mg base 1 "_law_key" a_lKey spKey) (C_lIsHeldUp : Cal P w K mg base 2 "_law_is_held_up" a_lIsHeldUp spIsHeldUpL) : Cal P w K mg base 5 "_law_chosen" a_lChosen (spChosen T0) := by
  refine cal_ofT F sc_lChosen (fun vs H Q E h => ?_) (fun f A outer s H vs Q E TB hr h => ?_)
  · obtain ⟨q, l, ms, ws, js, rfl, _⟩ := h
    rfl
  · obtain ⟨q, l, ms, ws, js, rfl, hrow, ok, el, wa, has, ne, few, tabs, k⟩ := h
    have hcode : (cxOf CX0 P w K mg base n_lChosen "_law_chosen" (defScope s_lChosen) f (.ref c) A outer s H E).nox.env.code = .ref c := rfl
    have hr3 : Room (1 + 3) (cxOf CX0 P w K mg base n_lChosen "_law_chosen" (defScope s_lChosen) f (.ref c) A outer s H E).nox.A := hr
    refine ⟨_, (pss_cons (ps_set (i := 2) sc_lChosen.nd rfl (Or.inl rfl) (pe_sortL (p := "_law_work") (N1 := ["_law_rows_here", "_law_work"]) (tb := _) rfl T.sorted (pa_cons (pv 1) pa_nil) TB hcode hmT hu_ hr3 (lamP_by (sc := defScope s_lChosen) (by decide +kernel)) rfl (fun _ _ _ _ _ _ => rfl) (fun A f c' s H hr => (pe_cal C_lKey (hr.mono (by decide)) (pa_cons (pv 0) (pa_cons (pv 1) pa_nil))))))
  (pss_cons (ps_if (PW.pt (pw_or (pt_cmpR op_gt (pe_ix ix_list (pe_ix ix_list (pv 2) pe_int (fun _ _ => rfl)) pe_int (fun _ _ => rfl)) pe_int (nomark _)) (pw_or1 (pt_not (pt_val (pe_cal C_lIsHeldUp (hr.mono (by decide)) (pa_cons (pv 0) (pa_cons (pe_ix ix_list (pv 2) pe_int (fun _ _ => rfl)) (pa_cons (pv 1) pa_nil)))))))))
  (pss_one (ps_ret (pe_tup (pa_cons (pe_ix ix_list (pv 2) pe_int (fun _ _ => rfl)) (pa_cons pe_bl pa_nil)))))
  pss_nil)
  (pss_one (ps_ret (pe_tup (pa_cons (pe_ix ix_list (pe_lc (own := [("_law_work", 3)]) (tt := (tTest (tOp _ (tOp (rIxL K) _ _) _))) (te := _) rfl sc_lChosen.nd (pi_list (pv 2)) (blkOk_by (N := n_lChosen) (sc := defScope s_lChosen) (by decide +kernel)) (fun _ _ _ _ _ => (pg_name (i := 3) sc_lChosen.nd rfl (Or.inl rfl))) (fun _ _ _ _ _ => pts_one (pt_cmpR op_gt (pe_ix ix_list (pv 3) pe_int (fun _ _ => rfl)) pe_int (nomark _))) (fun _ _ _ _ _ => (pv 3))) pe_int (fun _ _ => rfl)) (pa_cons pe_bl pa_nil))))))), ?_⟩
    try dsimp only [cxOf]
    refine at_ [some (.ref q), some (.ref l), none, none] rfl ?_
    walk_at "go"
    refine i_sortL ?_
    walk_at "go"
    refine ⟨tabs, fun H3 c' x3 tabs3 hc' => ⟨l, ws, fun i ks' H' => Same H3 H' ∧ ∀ k ∈ ks', KeyT H' k, rfl, SqL.of (extN_get x3 el), fun y hy => ?_, ⟨Same.refl H3, (fun _ h => nomatch h)⟩, fun i ks' H' h => h.1 _ _ hc', fun i ks' y H4 hy ⟨s4, kt⟩ => ?_, fun ks' H4 ⟨s4, kt⟩ => ⟨keys_dp kt, fun ys d perm hd => ?_⟩⟩⟩
    · obtain ⟨k1, _, t, _, _, e, _⟩ := wa.left hy
      exact ⟨t, e⟩
    · obtain ⟨j, hj, r⟩ := wa.get hy
      have x4 := x3.trans (extN_same s4)
      refine ⟨[some (.ref q), some y], ⟨rfl, fun i x w h1 h2 => ?_⟩, ?_⟩
      · match i, h1, h2 with
        | 0, h1, h2 =>
          cases h1
          cases h2
          exact .inr ⟨by decide, 0, rfl, rfl⟩
        | 1, h1, h2 =>
          cases h1
          cases h2
          exact .inl ⟨rfl, rfl⟩
        | i + 2, h1, _ => exact absurd h1 (by simp)
      walk_at "go"
      refine ⟨q, y, ms, j, rfl, extN_row x4 hrow, ok, r.ext x4, has j (List.mem_of_getElem? hj), fun t x H5 s5 et => ⟨s4.trans s5, fun k hk => ?_⟩⟩
      rcases List.mem_append.mp hk with z | z
      · obtain ⟨t', z', e1, e2, e3⟩ := kt k z
        exact ⟨t', z', e1, s5 _ _ e2, e3⟩
      · rw [List.mem_singleton.mp z]
        exact ⟨t, [j.due, x, j.comes], rfl, et, by simp⟩
    · have sd := same_of_upd (o := .lst ys) hd
      have x5 := (x3.trans (extN_same s4)).trans (extN_same sd)
      have tabs5 := (tabs3.ext s4).ext sd
      have ed := upd_same (H := H4) (a := d) (o := .lst ys)
      generalize upd H4 d (.lst ys) = H5 at sd x5 tabs5 ed ⊢
      obtain ⟨js2, pj, ya⟩ := wa.perm perm
      have ya5 : All2 (JobAt H5) ys js2 := ya.mono fun _ _ _ _ => JobAt.ext x5
      obtain ⟨y0, yr, ey⟩ : ∃ y r, ys = y :: r := by
        cases ys with
        | nil => exact absurd (List.Perm.nil_eq perm).symm ne
        | cons y r => exact ⟨y, r, rfl⟩
      subst ey
      obtain ⟨j0, hj0, r0⟩ := ya5.get (i := 0) rfl
      have m0 : y0 ∈ ws := perm.mem_iff.mp List.mem_cons_self
      have a0 : atI (y0 :: yr) 0 = some y0 := at_of (j := 0) rfl rfl
      have hasJ0 : Has ms j0.name := has j0 (pj.mem_iff.mp (List.mem_of_getElem? hj0))
      have r0' := r0
      obtain ⟨a, x6, x7, rfl, ea⟩ := r0'
      have last : ∀ (w : V) (b : Bool) H6, Same H5 H6 → w ∈ ws → ∀ t, H6 t = none → Q (.ref t) (upd H6 t (.tup [w, .bl b])) := fun w b H6 s6 hw t ht =>
        k t w b _ (x5.trans (extN_same (s6.trans (same_of_upd ht)))) (tabs5.ext (s6.trans (same_of_upd ht))) upd_same hw
      walk_at "go"
      refine i_dec (fun _ => ?_) (fun _ => ?_)
      · walk_at "go"
        exact ⟨le_sz (by simp), last _ _ H5 (Same.refl H5) m0⟩
      walk_at "go"
      refine ⟨q, _, l, ms, j0, ws, js, rfl, extN_row x5 hrow, ok, r0, hasJ0, extN_get x5 el, wa.mono (fun _ _ _ _ => JobAt.ext x5), has, fun b H6 s6 hb => ⟨b, rfl, ?_⟩⟩
      have ed6 := s6 _ _ ed
      cases b with
      | false =>
        walk_at "go"
        exact ⟨le_sz (by simp), last _ _ H6 s6 m0⟩
      | true =>
        obtain ⟨jd, hjd, dn⟩ := hb rfl
        obtain ⟨id, lid, eid⟩ := List.mem_iff_getElem.mp (pj.mem_iff.mpr hjd)
        have ly : (V.ref a :: yr).length = ws.length := perm.length_eq
        walk_at "go"
        refine ⟨⟨_, SqL.of ed6⟩, fun D hD => lc_j walk_list (fun _ _ _ _ _ _ y => y) (lt_sz (by omega)) hD (σ0 := [some (.ref q), some (.ref l), some (.ref d), none]) rfl
          (fun i acc _ => (∀ v ∈ acc, v ∈ ws) ∧ (∀ i' j, i' < i → js2[i']? = some j → 0 < j.done → acc ≠ [])) (fun _ _ _ _ _ h => h) ⟨(fun _ h => nomatch h), fun _ _ h => by omega⟩ (fun H' s => s.seq (SqL.of ed6)) (fun i x acc H7 R hx s7 ⟨h7, g7⟩ k7 => ?_) (fun acc H7 s7 eD ⟨h7, g7⟩ lacc => ?_)⟩
        · obtain ⟨j, hj, r⟩ := ya5.get hx
          obtain ⟨b, x6', x7', rfl, eb⟩ := (r.same s6).same s7
          have mx : V.ref b ∈ ws := perm.mem_iff.mp (List.mem_of_getElem? hx)
          walk_at "go"
          refine ⟨rfl, ?_⟩
          walk_at "go"
          refine i_dec (fun dj => ?_) (fun dj => ?_)
          · walk_at "go"
            refine k7 (some (.ref b)) H7 (Same.refl H7) ⟨fun v hv => ?_, fun _ _ _ _ _ => by simp⟩
            rcases List.mem_append.mp hv with z | z
            · exact h7 v z
            · simp at z
              rw [z]
              exact mx
          · refine k7 none H7 (Same.refl H7) ⟨by simpa using h7, fun i' j' hi' hj' dj' => ?_⟩
            by_cases e : i' = i
            · subst e
              rw [hj] at hj'
              cases hj'
              exact absurd dj' dj
            · simpa using g7 i' j' (by omega) hj' dj'
        · have nz := g7 id jd (by rw [ya5.1]; exact lid) (by rw [List.getElem?_eq_getElem lid, eid]) dn
          obtain ⟨v, r, er⟩ : ∃ v r, acc = v :: r := by
            cases acc with
            | nil => exact absurd rfl nz
            | cons v r => exact ⟨v, r, rfl⟩
          subst er
          have av : atI (v :: r) 0 = some v := at_of (j := 0) rfl rfl
          walk_at "go"
          exact ⟨le_sz (by simp), last v _ H7 (s6.trans s7) (h7 v List.mem_cons_self)⟩
end
end K19
namespace K19
open PySem L2
open PyProof.Rows (envOfC)
/-- two comings of one task are at different moments -/
def Apart (ms : List Mem) (a b : Wk) : Prop := a.name = b.name → (∃ m ∈ ms, m.name = a.name ∧ m.door = false) → a.comes ≠ b.comes
theorem Apart.symm {ms : List Mem} {a b : Wk} (h : Apart ms a b) : Apart ms b a := fun e t z => h e.symm (by rw [← e]; exact t) z.symm
structure CgsOk (ms : List Mem) (ks : List Wk) : Prop where
  few : ks.length ≤ 100
  each : ∀ k ∈ ks, ∃ m ∈ ms, m.name = k.name ∧ 0 ≤ k.comes ∧ 1 ≤ k.done ∧ (m.door = false → k.done ≤ m.cost)
  apart : ks.Pairwise (Apart ms)
theorem CgsOk.perm {ms : List Mem} {ks ks' : List Wk} (c : CgsOk ms ks) (p : ks'.Perm ks) : CgsOk ms ks' :=
  ⟨by rw [p.length_eq]; exact c.few, fun k hk => c.each k (p.mem_iff.mp hk), (List.Perm.pairwise_iff (fun h => Apart.symm h) p).mpr c.apart⟩
section
variable {P : Program} {w : World} {K : PySem.W.Frag} {mg : Str → Option Value} {base : Heap}
def spComings : Sp := fun vs H Q _ => ∃ p q ms, vs = [.ref p, .ref q, .int 3] ∧ Pu H p ∧ RowsAt H q ms ∧ q ≠ p ∧ CrewOk ms ∧
  ∀ l cs ks H', H l = none → KeepX p H H' → Pu H' p → H' l = some (.lst cs) → All2 (WorkT H') cs ks → CgsOk ms ks → Q (.ref l) H'
theorem ok_lComings (F : Fx K mg "_law_comings" s_lComings a_lComings) (T : Txt K mg) (C_lTake : Cal P w K mg base 1 "_law_take" a_lTake spTakeP) : Cal P w K mg base 2 "_law_comings" a_lComings spComings := by
  refine cal_of F sc_lComings (fun vs H Q E h => ?_) (fun f cdv A outer s H vs Q E hr h => ?_)
  · obtain ⟨p, q, ms, rfl, _⟩ := h
    rfl
  · obtain ⟨p, q, ms, rfl, pu, ⟨rs, eq, ra⟩, nq, ok, k⟩ := h
    have few := ok.few
    have lr : rs.length = ms.length := ra.1
    refine ⟨_, (pss_cons (ps_set (i := 3) sc_lComings.nd rfl (Or.inl rfl) (pe_lst pa_nil))
  (pss_cons (ps_for PassesOwn.never rfl (pi_list (pv 1)) (pg_name (i := 4) sc_lComings.nd rfl (Or.inl rfl))
  (pss_cons (ps_set (i := 5) sc_lComings.nd rfl (Or.inl rfl) (pe_ix ix_list (pe_lst (pa_cons pe_int (pa_cons pe_int (pa_cons (pe_cal C_lTake (hr.mono (by decide)) (pa_cons (pv 0) (pa_cons (pe_op op_add (pe_op op_mul pe_int (pe_ix ix_tup (pv 4) pe_int (fun _ _ => rfl))) pe_int) pa_nil))) pa_nil)))) (pe_cal C_lTake (hr.mono (by decide)) (pa_cons (pv 0) (pa_cons pe_int pa_nil))) (fun _ _ => rfl)))
  (pss_one (ps_for PassesOwn.never rfl (pi_range1 rfl T.range (pa_cons (pe_cal C_lTake (hr.mono (by decide)) (pa_cons (pv 0) (pa_cons (pe_op op_add (pv 2) pe_int) pa_nil))) pa_nil)) (pg_name (i := 6) sc_lComings.nd rfl (Or.inl rfl))
  (pss_cons (ps_set (i := 7) sc_lComings.nd rfl (Or.inl rfl) (pe_ix ix_list (pe_lst (pa_cons (pe_ix ix_tup (pv 4) pe_int (fun _ _ => rfl)) (pa_cons (pe_ix ix_tup (pv 4) pe_int (fun _ _ => rfl)) (pa_cons (pe_op op_add pe_int (pe_cal C_lTake (hr.mono (by decide)) (pa_cons (pv 0) (pa_cons (pe_ix ix_tup (pv 4) pe_int (fun _ _ => rfl)) pa_nil)))) pa_nil)))) (pe_cal C_lTake (hr.mono (by decide)) (pa_cons (pv 0) (pa_cons pe_int pa_nil))) (fun _ _ => rfl)))
  (pss_cons (ps_set (i := 8) sc_lComings.nd rfl (Or.inl rfl) (pe_op op_add (pe_ix ix_tup (pv 4) pe_int (fun _ _ => rfl)) (pe_ix ix_list (pe_lst (pa_cons pe_int (pa_cons pe_int (pa_cons (pe_cal C_lTake (hr.mono (by decide)) (pa_cons (pv 0) (pa_cons (pe_op op_add (pe_ix ix_tup (pv 4) pe_int (fun _ _ => rfl)) pe_int) pa_nil))) pa_nil)))) (pe_cal C_lTake (hr.mono (by decide)) (pa_cons (pv 0) (pa_cons pe_int pa_nil))) (fun _ _ => rfl))))
  (pss_cons (ps_if (pt_cmpR op_eq (pe_ix ix_tup (pv 4) pe_int (fun _ _ => rfl)) pe_str (nomark _))
  (pss_one (ps_par (i := 7) (j := 8) rfl sc_lComings.nd rfl rfl (by decide) rfl rfl (pa_cons (pe_op op_add pe_int (pe_cal C_lTake (hr.mono (by decide)) (pa_cons (pv 0) (pa_cons (pe_op op_add (pe_op op_mul pe_int (pe_ix ix_tup (pv 4) pe_int (fun _ _ => rfl))) pe_int) pa_nil)))) (pa_cons (pe_cal C_lTake (hr.mono (by decide)) (pa_cons (pv 0) (pa_cons (pe_op op_add (pe_ix ix_tup (pv 4) pe_int (fun _ _ => rfl)) pe_int) pa_nil))) pa_nil)) (by rfl)))
  pss_nil)
  (pss_cons (ps_expr (pe_bm PySem.F.plainAttrs_list PySem.F.slot_list_append PySem.F.type_list_append mt_append (pv 3) (pa_cons (pe_tup (pa_cons (pe_ix ix_tup (pv 4) pe_int (fun _ _ => rfl)) (pa_cons (pv 5) (pa_cons (pv 7) pa_nil)))) pa_nil)))
  (pss_one (ps_set (i := 5) sc_lComings.nd rfl (Or.inl rfl) (pe_op op_add (pv 5) (pv 8))))))))))))
  (pss_one (ps_ret (pv 3))))), ?_⟩
    try dsimp only [cxOf]
    refine at_ [some (.ref p), some (.ref q), some (.int 3), none, none, none, none, none, none] rfl ?_
    walk_at "go"
    refine ⟨le_sz (by simp), fun L hL => ?_⟩
    have s1 := same_of_upd (o := .lst []) hL
    have pu1 := pu.same s1
    have eL := upd_same (H := H) (a := L) (o := .lst [])
    have nL : L ≠ p := pu.ne hL
    have nqL : q ≠ L := fun z => by rw [z, hL] at eq; cases eq
    generalize upd H L (.lst []) = H1 at s1 pu1 eL ⊢
    walk_at "go"
    refine ⟨⟨_, SqL.of (s1 _ _ eq)⟩, for_itD walk_list (fun i σ H' => ∃ u4 u5 u6 u7 u8, σ = [some (.ref p), some (.ref q), some (.int 3), some (.ref L), u4, u5, u6, u7, u8] ∧ KeepX p H H' ∧ Pu H' p ∧ ∃ cs ks, H' L = some (.lst cs) ∧ All2 (WorkT H') cs ks ∧ CgsOk ms ks ∧ ks.length ≤ 3 * i ∧ ∀ k ∈ ks, k.name ∈ (ms.take i).map Mem.name)
      ⟨none, none, none, none, none, rfl, KeepX.of s1, pu1, [], [], eL, All2.nil, ⟨by simp, (fun _ h => nomatch h), .nil⟩, by simp, (fun _ h => nomatch h)⟩ (fun _ _ _ _ ⟨_, _, _, _, _, _, kx, _⟩ => SqL.of (kx _ _ nq eq)) ?_ ?_⟩
    · rintro i x σ H2 H3 hi ⟨u4, u5, u6, u7, u8, rfl, k2, pu2, cs, ks, eL2, wa, cg, lk, nms⟩ ⟨rfl, hx⟩
      obtain ⟨m, hm, r⟩ := ra.get hx
      have mok := ok.each m (List.mem_of_getElem? hm)
      have li : i < ms.length := (List.getElem?_eq_some_iff.mp hm).1
      obtain ⟨g1, g2⟩ := mok.gap
      obtain ⟨c1, c2⟩ := mok.cost
      obtain ⟨t, xs, rfl, et, a0, a1, a2, a3⟩ := (r.nl (k2.nl pu)).at
      have fresh : ∀ k ∈ ks, k.name ≠ m.name := fun k hk e => by
        have h1 := nms k hk
        obtain ⟨m', hm', e'⟩ := List.mem_map.mp h1
        have h2 : ((ms.take (i + 1)).map Mem.name).Nodup := by
          rw [List.map_take]
          exact ok.nd.sublist (List.take_sublist _ _)
        rw [List.take_add_one, hm, List.map_append] at h2
        exact (List.nodup_append.mp h2).2.2 _ h1 _ (by simp) e
      walk_at "go"
      refine ⟨p, _, rfl, pu2, by omega, by omega, fun tk H4 tk0 tk1 k4 pu4 => ?_⟩
      walk_at "go"
      refine ⟨le_sz (by simp), fun W hW => ?_⟩
      obtain ⟨H5, hG5, pu5, k5, e5, n5⟩ := disp [0, 0, tk] pu4 hW
      rw [show upd H4 W (.lst [V.int 0, .int 0, .int tk]) = H5 from hG5]
      walk_at "go"
      refine ⟨p, 3, rfl, pu5, by omega, by omega, fun r1 H6 r10 r11 k6 pu6 => ?_⟩
      obtain ⟨pt, hpt, at1⟩ := pickI (ns := [0, 0, tk]) r10 r11
      have hpt2 : 0 ≤ pt := by
        simp at hpt
        omega
      have e56 := k6 _ _ n5 e5
      have k06 := k2.trans (k4.trans (k5.trans k6))
      have n26 : NL H3 H6 := (k4.trans (k5.trans k6)).nl pu2
      have et6 := n26 _ _ rfl et
      have eL6 := (k4.trans (k5.trans k6)) _ _ nL eL2
      walk_at "go"
      refine ⟨p, 4, rfl, pu6, by omega, by omega, fun mn H7 mn0 mn1 k7 pu7 => ?_⟩
      have et7 := (k7.nl pu6) _ _ rfl et6
      have eL7 := k7 _ _ nL eL6
      have wa7 : All2 (WorkT H7) cs ks := wa.mono fun _ _ _ _ => WorkT.nl (n26.trans (k7.nl pu6))
      have k07 := k06.trans k7
      walk_at "go"
      refine ⟨by omega, by omega, for_itD walk_range (fun j σ H' => ∃ u6 u7 u8 pt, σ = [some (.ref p), some (.ref q), some (.int 3), some (.ref L), some (.ref t), some (.int pt), u6, u7, u8] ∧ 0 ≤ pt ∧ KeepX p H H' ∧ Pu H' p ∧ H' t = some (.tup xs) ∧
          ∃ cs ks, H' L = some (.lst cs) ∧ All2 (WorkT H') cs ks ∧ CgsOk ms ks ∧ ks.length ≤ 3 * i + j ∧ (∀ k ∈ ks, k.name ∈ (ms.take (i + 1)).map Mem.name) ∧ ∀ k ∈ ks, k.name = m.name → m.door = false → k.comes < pt)
        ⟨u6, u7, u8, pt, rfl, hpt2, k07, pu7, et7, cs, ks, eL7, wa7, cg, by omega, fun k hk => ?_, fun k hk e => absurd e (fresh k hk)⟩ (fun _ _ _ _ _ => trivial) ?_ ?_⟩
      · exact List.map_subset _ (List.take_subset_take_left ms (Nat.le_succ i)) (nms k hk)
      · rintro j y σ H8 H9 hj ⟨v6, v7, v8, pt, rfl, pt0, k8, pu8, et8, cs, ks, eL8, wa8, cg, lk, nms, lt⟩ ⟨rfl, rfl⟩
        walk_at "go"
        refine ⟨p, _, rfl, pu8, by omega, by omega, fun wk H10 wk0 wk1 k10 pu10 => ?_⟩
        have et10 := (k10.nl pu8) _ _ rfl et8
        walk_at "go"
        refine ⟨le_sz (by simp), fun W2 hW2 => ?_⟩
        obtain ⟨H11, hG11, pu11, k11, e11, n11⟩ := disp [m.cost, m.cost, 1 + wk] pu10 hW2
        rw [show upd H10 W2 (.lst [V.int m.cost, .int m.cost, .int (1 + wk)]) = H11 from hG11]
        walk_at "go"
        refine ⟨p, 3, rfl, pu11, by omega, by omega, fun r2 H12 r20 r21 k12 pu12 => ?_⟩
        obtain ⟨wt, hwt, at2⟩ := pickI (ns := [m.cost, m.cost, 1 + wk]) r20 r21
        have hwt2 : 1 ≤ wt ∧ wt ≤ m.cost := by
          simp at hwt
          omega
        have e1112 := k12 _ _ n11 e11
        have et12 := ((k11.trans k12).nl pu10) _ _ rfl et10
        walk_at "go"
        refine ⟨p, _, rfl, pu12, by omega, by omega, fun mk H13 mk0 mk1 k13 pu13 => ?_⟩
        walk_at "go"
        refine ⟨le_sz (by simp), fun W3 hW3 => ?_⟩
        obtain ⟨H14, hG14, pu14, k14, e14, n14⟩ := disp [0, 0, mk] pu13 hW3
        rw [show upd H13 W3 (.lst [V.int 0, .int 0, .int mk]) = H14 from hG14]
        walk_at "go"
        refine ⟨p, 3, rfl, pu14, by omega, by omega, fun r3 H15 r30 r31 k15 pu15 => ?_⟩
        obtain ⟨mo, hmo, at3⟩ := pickI (ns := [0, 0, mk]) r30 r31
        have hmo2 : 0 ≤ mo := by
          simp at hmo
          omega
        have e1415 := k15 _ _ n14 e14
        have k815 := (k10.trans (k11.trans k12)).trans (k13.trans (k14.trans k15))
        have et15 := (k815.nl pu8) _ _ rfl et8
        walk_at "go"
        have fin : ∀ (wt more : Int) H16, KeepX p H15 H16 → Pu H16 p → 1 ≤ wt → 0 ≤ more → (m.door = false → wt ≤ m.cost ∧ 1 ≤ more) → ∀ tp, H16 tp = none → ∃ cs2 ks2, KeepX p H (upd (upd H16 tp (.tup [.str m.name, .int pt, .int wt])) L (.lst (cs ++ [.ref tp]))) ∧ Pu (upd (upd H16 tp (.tup [.str m.name, .int pt, .int wt])) L (.lst (cs ++ [.ref tp]))) p ∧
            (upd (upd H16 tp (.tup [.str m.name, .int pt, .int wt])) L (.lst (cs ++ [.ref tp]))) t = some (.tup xs) ∧ (upd (upd H16 tp (.tup [.str m.name, .int pt, .int wt])) L (.lst (cs ++ [.ref tp]))) L = some (.lst cs2) ∧ All2 (WorkT (upd (upd H16 tp (.tup [.str m.name, .int pt, .int wt])) L (.lst (cs ++ [.ref tp])))) cs2 ks2 ∧
            CgsOk ms ks2 ∧ ks2.length ≤ 3 * i + (j + 1) ∧ (∀ k ∈ ks2, k.name ∈ (ms.take (i + 1)).map Mem.name) ∧ ∀ k ∈ ks2, k.name = m.name → m.door = false → k.comes < pt + more := by
          intro wt more H16 k16 pu16 w1 mo0 tsk tp htp
          have st := same_of_upd (o := .tup [.str m.name, .int pt, .int wt]) htp
          have k816 := k815.trans k16
          have eL16 := k816 _ _ nL eL8
          have eL17 := st _ _ eL16
          have n17 := nl_upd (o' := .lst (cs ++ [.ref tp])) eL17 rfl
          have n8 := ((k816.nl pu8).trans (same_nl st)).trans n17
          refine ⟨cs ++ [.ref tp], ks ++ [⟨m.name, pt, wt⟩], ?_, ?_, n8 _ _ rfl et8, upd_same, (wa8.mono fun _ _ _ _ => WorkT.nl n8).snoc ⟨tp, rfl, n17 _ _ rfl upd_same⟩, ⟨?_, ?_, ?_⟩, ?_, ?_, ?_⟩
          · intro b o hb e
            exact upd_ne2 (ne_of_none e hL) (st _ _ (k816 _ _ hb (k8 _ _ hb e)))
          · obtain ⟨b1, b2, b3, e⟩ := pu16.same st
            exact ⟨b1, b2, b3, upd_ne2 (Ne.symm nL) e⟩
          · rw [List.length_append]
            simp
            omega
          · intro k hk
            rcases List.mem_append.mp hk with z | z
            · exact cg.each k z
            · rw [List.mem_singleton.mp z]
              exact ⟨m, List.mem_of_getElem? hm, rfl, pt0, w1, fun d => (tsk d).1⟩
          · refine List.pairwise_append.mpr ⟨cg.apart, by simp, fun a ha b hb => ?_⟩
            rw [List.mem_singleton.mp hb]
            intro e ⟨m', hm', e', d'⟩
            have : m' = m := name_one ok.nd hm' (List.mem_of_getElem? hm) (by rw [e', e])
            subst this
            have := lt a ha e d'
            show a.comes ≠ pt
            omega
          · rw [List.length_append]
            simp
            omega
          · intro k hk
            rcases List.mem_append.mp hk with z | z
            · exact nms k z
            · rw [List.mem_singleton.mp z, List.take_add_one, hm]
              simp
          · intro k hk e d
            have := (tsk d).2
            rcases List.mem_append.mp hk with z | z
            · have := lt k z e d
              omega
            · rw [List.mem_singleton.mp z]
              show pt < pt + more
              omega
        refine i_dec (fun dr => ?_) (fun dr => ?_)
        · have isd : m.door = true := by
            cases h : m.door with
            | true => rfl
            | false =>
              rw [h, if_neg (by simp)] at dr
              exact absurd (V.str.inj dr) (by decide)
          walk_at "go"
          refine ⟨p, _, rfl, pu15, by omega, by omega, fun w2 H16 w20 w21 k16 pu16 => ?_⟩
          have et16 := (k16.nl pu15) _ _ rfl et15
          walk_at "go"
          refine ⟨p, _, rfl, pu16, by omega, by omega, fun w3 H17 w30 w31 k17 pu17 => ?_⟩
          have et17 := (k17.nl pu16) _ _ rfl et16
          have eL17 := (k16.trans k17) _ _ nL (k815 _ _ nL eL8)
          walk_at "go"
          refine ⟨.inl ⟨rfl, _, SqL.of eL17⟩, ?_⟩
          walk_at "go"
          refine ⟨le_sz (by simp), fun tp htp => ?_⟩
          walk_at "go"
          refine i_append (same_of_upd htp _ _ eL17) (lt_sz (by have := wa8.1; omega)) ?_
          obtain ⟨cs2, ks2, f1, f2, f3, f4, f5, f6, f7, f8, f9⟩ := fin (1 + w2) w3 H17 (k16.trans k17) pu17 (by omega) w30 (fun d => by rw [isd] at d; cases d) tp htp
          walk_at "go"
          exact ⟨_, _, _, _, rfl, by omega, f1, f2, f3, cs2, ks2, f4, f5, f6, f7, f8, f9⟩
        · walk_at "go"
          have eL15 := k815 _ _ nL eL8
          refine ⟨.inl ⟨rfl, _, SqL.of eL15⟩, ?_⟩
          walk_at "go"
          refine ⟨le_sz (by simp), fun tp htp => ?_⟩
          walk_at "go"
          refine i_append (same_of_upd htp _ _ eL15) (lt_sz (by have := wa8.1; omega)) ?_
          obtain ⟨cs2, ks2, f1, f2, f3, f4, f5, f6, f7, f8, f9⟩ := fin wt (m.gap + mo) H15 (KeepX.refl _ _) pu15 (by omega) (by omega) (fun d => ⟨by omega, by omega⟩) tp htp
          walk_at "go"
          exact ⟨_, _, _, _, rfl, by omega, f1, f2, f3, cs2, ks2, f4, f5, f6, f7, f8, f9⟩
      · rintro σ H8 ⟨v6, v7, v8, pt, rfl, pt0, k8, pu8, et8, cs, ks, eL8, wa8, cg, lk, nms, lt⟩
        exact ⟨_, _, _, _, _, rfl, k8, pu8, cs, ks, eL8, wa8, cg, by omega, nms⟩
    · rintro σ H2 ⟨u4, u5, u6, u7, u8, rfl, k2, pu2, cs, ks, eL2, wa, cg, lk, nms⟩
      walk_at "go"
      exact k L cs ks H2 hL k2 pu2 eL2 wa cg
end
end K19
namespace K19
open PySem L2
open PyProof.Rows (envOfC)
/-- what an object of the run's own is -/
inductive Tg where
  | job (n : Str) (c w : Int)
  | comer
  | piece
  | jobs
  | comers
  | pieces
  | line
  | lines
  | last
  | held
abbrev Tags := Addr → Option Tg
def RefTo (τ : Tags) (t : Tg) (v : V) : Prop := ∃ a, v = .ref a ∧ τ a = some t
def IsJobRef (τ : Tags) (v : V) : Prop := ∃ n c w, RefTo τ (.job n c w) v
/-- an object of the tag: lists name others by their tags alone; B bounds the lengths, Bh that of held -/
def Shp (ms : List Mem) (τ : Tags) (B Bh : Nat) : Tg → HO → Prop
  | .job n c w, o => ∃ (num due done : Int) (x y : V), o = .lst [.str n, .int num, .int c, .int due, .int done, .int w, x, y] ∧ 0 ≤ done ∧ done ≤ w ∧ 0 ≤ c ∧ ∃ m ∈ ms, m.name = n ∧ 1 ≤ w ∧ w ≤ m.cost
  | .comer, o => ∃ (n : Str) (a b c : Int) (x : V) (d : Int), o = .lst [.str n, .int a, .int b, .int c, x, .int d]
  | .piece, o => ∃ (a b : Int) (n : Str) (c : Int), o = .lst [.int a, .int b, .str n, .int c] ∧ IsName n
  | .jobs, o => ∃ vs, o = .lst vs ∧ vs.length ≤ B ∧ ∀ v ∈ vs, IsJobRef τ v
  | .comers, o => ∃ vs, o = .lst vs ∧ vs.length ≤ B ∧ ∀ v ∈ vs, RefTo τ .comer v
  | .pieces, o => ∃ vs, o = .lst vs ∧ vs.length ≤ B ∧ ∀ v ∈ vs, RefTo τ .piece v
  | .line, o => ∃ vs, o = .lst vs ∧ vs.length ≤ B ∧ ∀ v ∈ vs, RefTo τ .comer v
  | .lines, o => ∃ kvs : List (Key × V), o = .dK kvs ∧ kvs.length ≤ B ∧ ∀ p ∈ kvs, RefTo τ .line p.2
  | .last, o => ∃ kvs : List (Key × V), o = .dK kvs ∧ kvs.length ≤ B ∧ ∀ p ∈ kvs, ∃ i, p.2 = .int i
  | .held, o => ∃ kvs : List (List Key × V), o = .dT kvs ∧ kvs.length ≤ Bh ∧ ∀ p ∈ kvs, ∃ i, p.2 = .int i
def TagsLe (τ τ' : Tags) : Prop := ∀ a t, τ a = some t → τ' a = some t
theorem TagsLe.refl (τ : Tags) : TagsLe τ τ := fun _ _ h => h
theorem TagsLe.trans {a b c : Tags} (h : TagsLe a b) (g : TagsLe b c) : TagsLe a c := fun x t e => g x t (h x t e)
theorem RefTo.le {τ τ' : Tags} (h : TagsLe τ τ') {t : Tg} {v : V} (r : RefTo τ t v) : RefTo τ' t v := by
  obtain ⟨a, e, z⟩ := r
  exact ⟨a, e, h _ _ z⟩
theorem IsJobRef.le {τ τ' : Tags} (h : TagsLe τ τ') {v : V} (r : IsJobRef τ v) : IsJobRef τ' v := by
  obtain ⟨n, c, w, z⟩ := r
  exact ⟨n, c, w, z.le h⟩
theorem Shp.le {ms : List Mem} {τ τ' : Tags} {B B' Bh Bh' : Nat} (h : TagsLe τ τ') (b : B ≤ B') (bh : Bh ≤ Bh') {t : Tg} {o : HO} (s : Shp ms τ B Bh t o) : Shp ms τ' B' Bh' t o := by
  cases t with
  | job n c w => exact s
  | comer => exact s
  | piece => exact s
  | jobs => obtain ⟨vs, e, l, z⟩ := s; exact ⟨vs, e, by omega, fun v hv => (z v hv).le h⟩
  | comers => obtain ⟨vs, e, l, z⟩ := s; exact ⟨vs, e, by omega, fun v hv => (z v hv).le h⟩
  | pieces => obtain ⟨vs, e, l, z⟩ := s; exact ⟨vs, e, by omega, fun v hv => (z v hv).le h⟩
  | line => obtain ⟨vs, e, l, z⟩ := s; exact ⟨vs, e, by omega, fun v hv => (z v hv).le h⟩
  | lines => obtain ⟨vs, e, l, z⟩ := s; exact ⟨vs, e, by omega, fun v hv => (z v hv).le h⟩
  | last => obtain ⟨vs, e, l, z⟩ := s; exact ⟨vs, e, by omega, z⟩
  | held => obtain ⟨vs, e, l, z⟩ := s; exact ⟨vs, e, by omega, z⟩
/-- where the state's parts lie -/
structure SA where
  wait : Addr
  lines : Addr
  last : Addr
  works : Addr
  comers : Addr
  held : Addr
  pieces : Addr
  fin : V
def stK (S : SA) : List (Key × V) := [(.inr "wait", .ref S.wait), (.inr "lines", .ref S.lines), (.inr "last", .ref S.last), (.inr "works", .ref S.works), (.inr "comers", .ref S.comers), (.inr "held", .ref S.held), (.inr "pieces", .ref S.pieces), (.inr "end", S.fin)]
/-- the heap in the midst of the run -/
structure Hs (ms : List Mem) (T0 : List (Addr × Str)) (H0 : Hp) (B Bh : Nat) (τ : Tags) (S : SA) (st : Addr) (H : Hp) : Prop where
  old : LamX.ExtN H0 H
  tabs : LamX.Tabs T0 H
  new : ∀ a t, τ a = some t → ∀ o, H0 a = some o → ∃ ps, o = .tbl ps
  ok : ∀ a t, τ a = some t → ∃ o, H a = some o ∧ Shp ms τ B Bh t o
  stn : ∀ o, H0 st = some o → ∃ ps, o = .tbl ps
  stt : τ st = none
  sth : H st = some (.dK (stK S))
  wait : τ S.wait = some .jobs
  lines : τ S.lines = some .lines
  last : τ S.last = some .last
  works : τ S.works = some .jobs
  comers : τ S.comers = some .comers
  held : τ S.held = some .held
  pieces : τ S.pieces = some .pieces
  ne : S.wait ≠ S.works
theorem shp_mut {ms : List Mem} {τ : Tags} {B Bh : Nat} {t : Tg} {o : HO} (s : Shp ms τ B Bh t o) : mutO o = true ∧ ∀ ps, o ≠ .tbl ps := by
  cases t with
  | job n c w => obtain ⟨_, _, _, _, _, rfl, _⟩ := s; exact ⟨rfl, fun _ h => nomatch h⟩
  | comer => obtain ⟨_, _, _, _, _, _, rfl⟩ := s; exact ⟨rfl, fun _ h => nomatch h⟩
  | piece => obtain ⟨_, _, _, _, rfl, _⟩ := s; exact ⟨rfl, fun _ h => nomatch h⟩
  | jobs => obtain ⟨_, rfl, _⟩ := s; exact ⟨rfl, fun _ h => nomatch h⟩
  | comers => obtain ⟨_, rfl, _⟩ := s; exact ⟨rfl, fun _ h => nomatch h⟩
  | pieces => obtain ⟨_, rfl, _⟩ := s; exact ⟨rfl, fun _ h => nomatch h⟩
  | line => obtain ⟨_, rfl, _⟩ := s; exact ⟨rfl, fun _ h => nomatch h⟩
  | lines => obtain ⟨_, rfl, _⟩ := s; exact ⟨rfl, fun _ h => nomatch h⟩
  | last => obtain ⟨_, rfl, _⟩ := s; exact ⟨rfl, fun _ h => nomatch h⟩
  | held => obtain ⟨_, rfl, _⟩ := s; exact ⟨rfl, fun _ h => nomatch h⟩
/-- the tables stay where something else is written -/
theorem tabs_upd {T0 : List (Addr × Str)} {H : Hp} {a : Addr} {o o' : HO} (t : LamX.Tabs T0 H) (e : H a = some o) (m : mutO o = true) (n : ∀ ps, o ≠ .tbl ps) : LamX.Tabs T0 (upd H a o') := by
  intro p hp
  obtain ⟨ps, h1, h2, h3⟩ := t p hp
  refine ⟨ps, upd_ne2 (fun z => ?_) h1, h2, fun pos cv hc => ?_⟩
  · rw [z, e] at h1
    exact n ps (Option.some.inj h1)
  · obtain ⟨c, e1, e2⟩ := h3 pos cv hc
    refine ⟨c, e1, upd_ne2 (fun z => ?_) e2⟩
    rw [z, e] at e2
    cases e2
    unfold LamX.CodeO at m
    cases m
section
variable {ms : List Mem} {T0 : List (Addr × Str)} {H0 H H' : Hp} {B B' Bh Bh' : Nat} {τ : Tags} {S : SA} {st : Addr}
theorem Hs.more (h : Hs ms T0 H0 B Bh τ S st H) (b : B ≤ B') (bh : Bh ≤ Bh') : Hs ms T0 H0 B' Bh' τ S st H := by
  refine { h with ok := fun a t e => ?_ }
  obtain ⟨o, e1, s⟩ := h.ok a t e
  exact ⟨o, e1, s.le (TagsLe.refl _) b bh⟩
/-- all but tables stays, the tables keep their meaning -/
theorem Hs.ext (h : Hs ms T0 H0 B Bh τ S st H) (x : LamX.ExtN H H') (t : LamX.Tabs T0 H') : Hs ms T0 H0 B Bh τ S st H' := by
  refine { h with old := h.old.trans x, tabs := t, ok := fun a t e => ?_, sth := x _ _ h.sth (fun _ z => nomatch z) }
  obtain ⟨o, e1, s⟩ := h.ok a t e
  exact ⟨o, x _ _ e1 (shp_mut s).2, s⟩
theorem Hs.same (h : Hs ms T0 H0 B Bh τ S st H) (s : Same H H') : Hs ms T0 H0 B Bh τ S st H' := h.ext (extN_same s) (h.tabs.ext s)
/-- a tagged object is written -/
theorem Hs.put (h : Hs ms T0 H0 B Bh τ S st H) {a : Addr} {t : Tg} {o : HO} (e : τ a = some t) (b : B ≤ B') (bh : Bh ≤ Bh') (s : Shp ms τ B' Bh' t o) : Hs ms T0 H0 B' Bh' τ S st (upd H a o) := by
  obtain ⟨o1, e1, s1⟩ := h.ok a t e
  have m := shp_mut s1
  refine { h.more b bh with old := fun c u hc n => ?_, tabs := tabs_upd h.tabs e1 m.1 m.2, ok := fun c u hc => ?_, sth := ?_ }
  · refine upd_ne2 (fun z => ?_) (h.old c u hc n)
    rw [z] at hc
    obtain ⟨ps, q⟩ := h.new a t e u hc
    exact n ps q
  · by_cases z : c = a
    · subst z
      rw [e] at hc
      cases hc
      exact ⟨o, upd_same, s⟩
    · obtain ⟨o2, e2, s2⟩ := h.ok c u hc
      exact ⟨o2, upd_ne2 z e2, s2.le (TagsLe.refl _) b bh⟩
  · exact upd_ne2 (fun z => by have := h.stt; rw [z, e] at this; cases this) h.sth
def tag (τ : Tags) (a : Addr) (t : Tg) : Tags := fun b => if b = a then some t else τ b
theorem Hs.none_tag (h : Hs ms T0 H0 B Bh τ S st H) {a : Addr} (n : H a = none) : τ a = none := by
  cases e : τ a with
  | none => rfl
  | some t =>
    obtain ⟨o, e1, _⟩ := h.ok a t e
    rw [n] at e1
    cases e1
theorem tag_le {a : Addr} {t : Tg} (n : τ a = none) : TagsLe τ (tag τ a t) := fun b u e => by
  unfold tag
  rw [if_neg (fun z => by rw [z, n] at e; cases e)]
  exact e
theorem tag_same {a : Addr} {t : Tg} : tag τ a t a = some t := if_pos rfl
theorem tag_inv {a b : Addr} {t u : Tg} (e : tag τ a t b = some u) : (b = a ∧ u = t) ∨ (b ≠ a ∧ τ b = some u) := by
  unfold tag at e
  by_cases z : b = a
  · rw [if_pos z] at e
    exact .inl ⟨z, (Option.some.inj e).symm⟩
  · rw [if_neg z] at e
    exact .inr ⟨z, e⟩
/-- a new tagged object is laid -/
theorem Hs.lay (h : Hs ms T0 H0 B Bh τ S st H) {a : Addr} {t : Tg} {o : HO} (n : H a = none) (s : Shp ms (tag τ a t) B Bh t o) : Hs ms T0 H0 B Bh (tag τ a t) S st (upd H a o) := by
  have nt := h.none_tag n
  have le := tag_le (t := t) nt
  have h2 := h.same (same_of_upd (o := o) n)
  refine { h2 with new := fun c u hc v hv => ?_, ok := fun c u hc => ?_, stt := ?_, wait := le _ _ h.wait, lines := le _ _ h.lines, last := le _ _ h.last, works := le _ _ h.works, comers := le _ _ h.comers, held := le _ _ h.held, pieces := le _ _ h.pieces }
  · rcases tag_inv hc with ⟨rfl, _⟩ | ⟨_, hc⟩
    · by_cases z : ∃ ps, v = .tbl ps
      · exact z
      · have := h.old c v hv fun ps q => z ⟨ps, q⟩
        rw [n] at this
        cases this
    · exact h.new c u hc v hv
  · rcases tag_inv hc with ⟨rfl, rfl⟩ | ⟨ne, hc⟩
    · exact ⟨o, upd_same, s⟩
    · obtain ⟨o2, e2, s2⟩ := h.ok c u hc
      exact ⟨o2, upd_ne2 ne e2, s2.le le (Nat.le_refl _) (Nat.le_refl _)⟩
  · unfold tag
    rw [if_neg (fun z => by have := h.sth; rw [z, n] at this; cases this)]
    exact h.stt
/-- what the state tells -/
theorem Hs.get (h : Hs ms T0 H0 B Bh τ S st H) (k : Str) : DGet H st (.str k) (valV (stK S) (.inr k)) := DGet.k (k := .inr k) h.sth
end
/-- the works that wait: where they lie, whose, since when, how much they want -/
abbrev Gs := List (Addr × Str × Int × Int)
def gkey (g : Addr × Str × Int × Int) : Str × Int := (g.2.1, g.2.2.1)
structure Wt (τ : Tags) (H : Hp) (S : SA) (gs : Gs) : Prop where
  at_ : H S.wait = some (.lst (gs.map fun g => V.ref g.1))
  tags : ∀ g ∈ gs, τ g.1 = some (.job g.2.1 g.2.2.1 g.2.2.2)
  nd : (gs.map gkey).Nodup
/-- none of them is done -/
def Fr (H : Hp) (gs : Gs) : Prop := ∀ g ∈ gs, ∀ (n : Str) (num c due done w : Int) (x y : V), H g.1 = some (.lst [.str n, .int num, .int c, .int due, .int done, .int w, x, y]) → done < w
end K19
namespace K19
open PySem L2
open PyProof.Rows (envOfC)
section
variable {ms : List Mem} {T0 : List (Addr × Str)} {H0 H H' : Hp} {B B' Bh Bh' : Nat} {τ : Tags} {S : SA} {st : Addr}
theorem Hs.gWait (h : Hs ms T0 H0 B Bh τ S st H) : DGet H st (.str "wait") (some (.ref S.wait)) := h.get "wait"
theorem Hs.gLines (h : Hs ms T0 H0 B Bh τ S st H) : DGet H st (.str "lines") (some (.ref S.lines)) := h.get "lines"
theorem Hs.gLast (h : Hs ms T0 H0 B Bh τ S st H) : DGet H st (.str "last") (some (.ref S.last)) := h.get "last"
theorem Hs.gWorks (h : Hs ms T0 H0 B Bh τ S st H) : DGet H st (.str "works") (some (.ref S.works)) := h.get "works"
theorem Hs.gComers (h : Hs ms T0 H0 B Bh τ S st H) : DGet H st (.str "comers") (some (.ref S.comers)) := h.get "comers"
theorem Hs.gHeld (h : Hs ms T0 H0 B Bh τ S st H) : DGet H st (.str "held") (some (.ref S.held)) := h.get "held"
theorem Hs.gPieces (h : Hs ms T0 H0 B Bh τ S st H) : DGet H st (.str "pieces") (some (.ref S.pieces)) := h.get "pieces"
theorem Wt.same {gs : Gs} (w : Wt τ H S gs) (s : Same H H') : Wt τ H' S gs := ⟨s _ _ w.at_, w.tags, w.nd⟩
theorem Fr.same {gs : Gs} (f : Fr H gs) (h : Hs ms T0 H0 B Bh τ S st H) (w : Wt τ H S gs) (s : Same H H') : Fr H' gs := fun g hg n num c due done wt x y e => by
  obtain ⟨o, e1, num', due', done', x', y', rfl, _⟩ := h.ok _ _ (w.tags g hg)
  have e2 := s _ _ e1
  rw [e] at e2
  cases e2
  exact f g hg _ _ _ _ _ _ _ _ e1
end
section
variable {P : Program} {w : World} {K : PySem.W.Frag} {mg : Str → Option Value} {base : Heap} {T0 : List (Addr × Str)}
/-- a new work; all that it adds stands at τ', its place a -/
def spNew (T0 : List (Addr × Str)) : Sp := fun vs H Q _ => ∃ (ms : List Mem) (H0 : Hp) (B Bh : Nat) (τ : Tags) (S : SA) (st : Addr) (gs : Gs) (n : Str) (c t w : Int), vs = [.ref st, .str n, .int c, .int t, .int w] ∧ Hs ms T0 H0 B Bh τ S st H ∧ Wt τ H S gs ∧ Fr H gs ∧ (∃ m ∈ ms, m.name = n ∧ 1 ≤ w ∧ w ≤ m.cost) ∧ 0 ≤ c ∧
  (n, c) ∉ gs.map gkey ∧ B ≤ 1000000 ∧ ∀ τ' a H', TagsLe τ τ' → Hs ms T0 H0 (B + 1) Bh τ' S st H' → Wt τ' H' S (gs ++ [(a, n, c, w)]) → Fr H' (gs ++ [(a, n, c, w)]) → Q .non H'
theorem ok_lNew (F : Fx K mg "_law_new" s_lNew a_lNew) (T : Txt K mg) : Cal P w K mg base 1 "_law_new" a_lNew (spNew T0) := by
  refine cal_of F sc_lNew (fun vs H Q E h => ?_) (fun f cdv A outer s H vs Q E hr h => ?_)
  · obtain ⟨ms, H0, B, Bh, τ, S, st, gs, n, c, t, w, rfl, _⟩ := h
    rfl
  · obtain ⟨ms, H0, B, Bh, τ, S, st, gs, n, c, t, wt, rfl, hs, hw, hf, ⟨m, hm, en, w1, w2⟩, c0, nk, hB, k⟩ := h
    have hu : (A.deeper (envOfC "_law_new" (defScope s_lNew) s.heap.objs.size f cdv)).units + 1 < cLine := by
      have := hr.units
      omega
    refine ⟨_, (pss_cons (ps_set (i := 5) sc_lNew.nd rfl (Or.inl rfl) (pe_callB call_len_seq (by rfl) T.len (by decide +kernel) (pa_cons (pe_lc (own := [("_law_work", 6)]) (tt := (tTest (tOp _ (tOp (rIxL K) _ _) _))) (te := _) rfl sc_lNew.nd (pi_list (pe_dget hu (pv 0) pe_str (fun _ _ => rfl))) (blkOk_by (N := n_lNew) (sc := defScope s_lNew) (by decide +kernel)) (fun _ _ _ _ _ => (pg_name (i := 6) sc_lNew.nd rfl (Or.inl rfl))) (fun _ _ _ _ _ => pts_one (pt_cmpR op_eq (pe_ix ix_list (pv 6) pe_int (fun _ _ => rfl)) (pv 1) (nomark _))) (fun _ _ _ _ _ => (pv 6))) pa_nil)))
  (pss_cons (ps_set (i := 6) sc_lNew.nd rfl (Or.inl rfl) (pe_lst (pa_cons (pv 1) (pa_cons (pv 5) (pa_cons (pv 2) (pa_cons (pe_op op_add (pv 2) (pv 3)) (pa_cons pe_int (pa_cons (pv 4) (pa_cons pe_non (pa_cons pe_non pa_nil))))))))))
  (pss_cons (ps_expr (pe_bm PySem.F.plainAttrs_list PySem.F.slot_list_append PySem.F.type_list_append mt_append (pe_dget hu (pv 0) pe_str (fun _ _ => rfl)) (pa_cons (pv 6) pa_nil)))
  (pss_one (ps_expr (pe_bm PySem.F.plainAttrs_list PySem.F.slot_list_append PySem.F.type_list_append mt_append (pe_dget hu (pv 0) pe_str (fun _ _ => rfl)) (pa_cons (pv 6) pa_nil))))))), ?_⟩
    try dsimp only [cxOf]
    refine at_ [some (.ref st), some (.str n), some (.int c), some (.int t), some (.int wt), none, none] rfl ?_
    walk_at "go"
    refine i_dget ?_
    walk_at "go"
    refine ⟨st, _, rfl, hs.gWorks, ?_⟩
    obtain ⟨o, eo, vs, rfl, lv, hv⟩ := hs.ok _ _ hs.works
    walk_at "go"
    refine ⟨⟨_, SqL.of eo⟩, fun D hD => lc_j walk_list (fun _ _ _ _ _ _ y => y) (lt_sz (by omega)) hD (σ0 := [some (.ref st), some (.str n), some (.int c), some (.int t), some (.int wt), none, none]) rfl (fun _ _ _ => True) (fun _ _ _ _ _ _ => trivial) trivial (fun H' s => s.seq (SqL.of eo)) (fun i x acc H' R hx s1 _ k1 => ?_) (fun acc H' s1 eD _ lacc => ?_)⟩
    · obtain ⟨n', c', w', a', rfl, ta⟩ := hv x (List.mem_of_getElem? hx)
      obtain ⟨o', eo', num, due, done, x6, x7, rfl, _⟩ := (hs.same s1).ok _ _ ta
      have q1 := k1 (some (.ref a')) H' (Same.refl H') trivial
      have q2 := k1 none H' (Same.refl H') trivial
      walk_at "go"
      refine ⟨rfl, ?_⟩
      walk_at "go"
      refine i_dec (fun _ => ?_) (fun _ => ?_)
      · walk_at "go"
        exact q1
      · exact q2
    · have hs1 := hs.same s1
      have hw1 := hw.same s1
      have hf1 := hf.same hs hw s1
      walk_at "go"
      refine ⟨le_sz (by simp), fun a ha => ?_⟩
      have ta := hs1.none_tag ha
      have hs2 := hs1.lay (t := .job n c wt) (o := .lst [.str n, .int (acc.length : Nat), .int c, .int (c + t), .int 0, .int wt, .non, .non]) ha ⟨_, _, 0, _, _, rfl, by omega, by omega, c0, m, hm, en, w1, w2⟩
      have s12 := same_of_upd (o := .lst [.str n, .int (acc.length : Nat), .int c, .int (c + t), .int 0, .int wt, .non, .non]) ha
      have le2 := tag_le (t := .job n c wt) ta
      have ea := upd_same (H := H') (a := a) (o := .lst [.str n, .int (acc.length : Nat), .int c, .int (c + t), .int 0, .int wt, .non, .non])
      have tsa := tag_same (τ := τ) (a := a) (t := .job n c wt)
      have hf2 := hf1.same hs1 hw1 s12
      have hw2 := hw1.same s12
      generalize upd H' a (.lst [.str n, .int (acc.length : Nat), .int c, .int (c + t), .int 0, .int wt, .non, .non]) = H2 at hs2 s12 ea hf2 hw2 ⊢
      generalize tag τ a (.job n c wt) = τ' at hs2 le2 tsa
      walk_at "go"
      refine i_dget ?_
      walk_at "go"
      refine ⟨st, _, rfl, hs2.gWorks, ?_⟩
      obtain ⟨o2, eo2, vs2, rfl, lv2, hv2⟩ := hs2.ok _ _ hs2.works
      refine ⟨.inl ⟨rfl, _, SqL.of eo2⟩, ?_⟩
      walk_at "go"
      refine i_append eo2 (lt_sz (by omega)) ?_
      have jr : IsJobRef τ' (.ref a) := ⟨n, c, wt, a, rfl, tsa⟩
      have hs3 := hs2.put (B' := B + 1) (Bh' := Bh) hs2.works (Nat.le_succ _) (Nat.le_refl _) (o := .lst (vs2 ++ [.ref a])) ⟨_, rfl, (by simp; omega), (fun v hv => (List.mem_append.mp hv).elim (hv2 v) (fun z => by rw [List.mem_singleton.mp z]; exact jr))⟩
      have ew3 : upd H2 S.works (.lst (vs2 ++ [.ref a])) S.wait = some (.lst (gs.map fun g => V.ref g.1)) := upd_ne2 hs2.ne hw2.at_
      have jobNe : ∀ {g n' c' w'}, τ' g = some (.job n' c' w') → g ≠ S.works ∧ g ≠ S.wait := fun {g n' c' w'} e => ⟨(fun z => by rw [z, hs2.works] at e; cases e), (fun z => by rw [z, hs2.wait] at e; cases e)⟩
      walk_at "go"
      refine i_dget ?_
      walk_at "go"
      refine ⟨st, _, rfl, hs3.gWait, ?_⟩
      refine ⟨.inl ⟨rfl, _, SqL.of ew3⟩, ?_⟩
      obtain ⟨o4, eo4, vs4, e4, lv4, hv4⟩ := hs3.ok _ _ hs3.wait
      rw [ew3] at eo4
      cases eo4
      cases e4
      obtain ⟨o5, eo5, vs5, e5, lv5, hv5⟩ := hs2.ok _ _ hs2.wait
      rw [hw2.at_] at eo5
      cases eo5
      cases e5
      walk_at "go"
      refine i_append ew3 (lt_sz (by omega)) ?_
      have hs5 := hs3.put (B' := B + 1) (Bh' := Bh) hs3.wait (Nat.le_refl _) (Nat.le_refl _) (o := .lst ((gs.map fun g => V.ref g.1) ++ [.ref a])) ⟨_, rfl, (by simp at lv5 ⊢; omega), (fun v hv => (List.mem_append.mp hv).elim (hv4 v) (fun z => by rw [List.mem_singleton.mp z]; exact jr))⟩
      walk_at "go"
      refine k τ' a _ le2 hs5 ⟨by rw [List.map_append]; exact upd_same, fun g hg => ?_, ?_⟩ fun g hg n' num' c' due' done' w' x' y' e => ?_
      · rcases List.mem_append.mp hg with z | z
        · exact le2 _ _ (hw.tags g z)
        · rw [List.mem_singleton.mp z]
          exact tsa
      · rw [List.map_append, List.nodup_append]
        refine ⟨hw.nd, by simp, fun x hx y hy => ?_⟩
        rw [List.mem_singleton.mp hy]
        exact fun z => nk (by rw [z] at hx; exact hx)
      · rcases List.mem_append.mp hg with z | z
        · obtain ⟨n1, n2⟩ := jobNe (le2 _ _ (hw.tags g z))
          rw [upd_ne n2, upd_ne n1] at e
          exact hf2 g z _ _ _ _ _ _ _ _ e
        · rw [List.mem_singleton.mp z] at e
          obtain ⟨n1, n2⟩ := jobNe tsa
          rw [show ((a, n, c, wt) : Addr × Str × Int × Int).1 = a from rfl, upd_ne n2, upd_ne n1, ea] at e
          cases e
          omega
end
end K19
namespace K19
open PySem L2
open PyProof.Rows (envOfC)
section
variable {ms : List Mem} {T0 : List (Addr × Str)} {H0 H H' : Hp} {B B' Bh Bh' : Nat} {τ : Tags} {S S' : SA} {st : Addr}
theorem valV_mem {κ : Type} [DecidableEq κ] {kvs : List (κ × V)} {k : κ} {v : V} (h : valV kvs k = some v) : ∃ p ∈ kvs, p.1 = k ∧ p.2 = v := by
  unfold valV at h
  obtain ⟨p, hp, e⟩ := Option.map_eq_some_iff.mp h
  have h1 := List.find?_some hp
  exact ⟨p, List.mem_of_find?_eq_some hp, of_decide_eq_true h1, e⟩
/-- the state's own dict is written -/
theorem Hs.setSt (h : Hs ms T0 H0 B Bh τ S st H) (e : S' = { S with wait := S'.wait, fin := S'.fin }) (t : τ S'.wait = some .jobs) (n : S'.wait ≠ S.works) : Hs ms T0 H0 B Bh τ S' st (upd H st (.dK (stK S'))) := by
  have e1 : S'.lines = S.lines := by rw [e]
  have e2 : S'.last = S.last := by rw [e]
  have e3 : S'.works = S.works := by rw [e]
  have e4 : S'.comers = S.comers := by rw [e]
  have e5 : S'.held = S.held := by rw [e]
  have e6 : S'.pieces = S.pieces := by rw [e]
  refine ⟨fun c u hc nt => ?_, tabs_upd h.tabs h.sth rfl (fun _ z => nomatch z), h.new, fun a t' ht => ?_, h.stn, h.stt, upd_same, t, by rw [e1]; exact h.lines, by rw [e2]; exact h.last, by rw [e3]; exact h.works, by rw [e4]; exact h.comers, by rw [e5]; exact h.held, by rw [e6]; exact h.pieces, by rw [e3]; exact n⟩
  · refine upd_ne2 (fun z => ?_) (h.old c u hc nt)
    rw [z] at hc
    obtain ⟨ps, q⟩ := h.stn u hc
    exact nt ps q
  · obtain ⟨o, e, s⟩ := h.ok a t' ht
    exact ⟨o, upd_ne2 (fun z => by rw [z, h.stt] at ht; cases ht) e, s⟩
theorem Hs.neSt (h : Hs ms T0 H0 B Bh τ S st H) {a : Addr} {t : Tg} (e : τ a = some t) : a ≠ st := fun z => by rw [z, h.stt] at e; cases e
end
section
variable {P : Program} {w : World} {K : PySem.W.Frag} {mg : Str → Option Value} {base : Heap} {T0 : List (Addr × Str)}
def spEnds (T0 : List (Addr × Str)) : Sp := fun vs H Q _ => ∃ (ms : List Mem) (H0 : Hp) (B Bh : Nat) (τ : Tags) (S : SA) (st : Addr) (gs : Gs) (pt : Int), vs = [.ref st, .int pt] ∧ Hs ms T0 H0 B Bh τ S st H ∧ Wt τ H S gs ∧ B ≤ 1000000 ∧
  ∀ τ' S' gs' H', TagsLe τ τ' → Hs ms T0 H0 B Bh τ' S' st H' → Wt τ' H' S' gs' → Fr H' gs' → gs'.Sublist gs → Q .non H'
theorem ok_lEnds (F : Fx K mg "_law_ends" s_lEnds a_lEnds) (T : Txt K mg) : Cal P w K mg base 1 "_law_ends" a_lEnds (spEnds T0) := by
  refine cal_of F sc_lEnds (fun vs H Q E h => ?_) (fun f cdv A outer s H vs Q E hr h => ?_)
  · obtain ⟨ms, H0, B, Bh, τ, S, st, gs, pt, rfl, _⟩ := h
    rfl
  · obtain ⟨ms, H0, B, Bh, τ, S, st, gs, pt, rfl, hs, hw, hB, k⟩ := h
    have hu : (A.deeper (envOfC "_law_ends" (defScope s_lEnds) s.heap.objs.size f cdv)).units + 1 < cLine := by
      have := hr.units
      omega
    refine ⟨_, (pss_cons (ps_set (i := 2) sc_lEnds.nd rfl (Or.inl rfl) (pe_lst pa_nil))
  (pss_cons (ps_for PassesOwn.never rfl (pi_list (pe_dget hu (pv 0) pe_str (fun _ _ => rfl))) (pg_name (i := 3) sc_lEnds.nd rfl (Or.inl rfl))
  (pss_one (ps_if (PW.pt (pw_or (pt_cmpR op_eq (pe_ix ix_list (pv 3) pe_int (fun _ _ => rfl)) (pe_ix ix_list (pv 3) pe_int (fun _ _ => rfl)) (nomark _)) (pw_or1 (pt_cmpR (op_eqNil hr.units0) (pe_dget2 hu (pe_dget hu (pv 0) pe_str (fun _ _ => rfl)) (pe_ix ix_list (pv 3) pe_int (fun _ _ => rfl)) pe_non ⟨rfl, rfl, rfl, rfl⟩) (pe_lst pa_nil) (nomark _)))))
  (pss_one (ps_asg (pv 1) (pg_sub (pv 3) pe_int set_list)))
  (pss_one (ps_expr (pe_bm PySem.F.plainAttrs_list PySem.F.slot_list_append PySem.F.type_list_append mt_append (pv 2) (pa_cons (pv 3) pa_nil)))))))
  (pss_one (ps_dput hu (pv 0) pe_str (pv 2) rfl)))), ?_⟩
    try dsimp only [cxOf]
    refine at_ [some (.ref st), some (.int pt), none, none] rfl ?_
    walk_at "go"
    refine ⟨le_sz (by simp), fun L hL => ?_⟩
    have tL := hs.none_tag hL
    have hs1 := hs.lay (t := .jobs) (o := .lst []) hL ⟨[], rfl, by simp, (fun _ h => nomatch h)⟩
    have s1 := same_of_upd (o := .lst []) hL
    have le1 := tag_le (t := .jobs) tL
    have tgL := tag_same (τ := τ) (a := L) (t := .jobs)
    have eL := upd_same (H := H) (a := L) (o := .lst [])
    have ew := s1 _ _ hw.at_
    have nLw : S.wait ≠ L := fun z => by rw [← z, hw.at_] at hL; cases hL
    have nLo : L ≠ S.works := fun z => by obtain ⟨o, e, _⟩ := hs.ok _ _ hs.works; rw [← z, hL] at e; cases e
    have tgs : ∀ g ∈ gs, (tag τ L .jobs) g.1 = some (.job g.2.1 g.2.2.1 g.2.2.2) := fun g hg => le1 _ _ (hw.tags g hg)
    generalize upd H L (.lst []) = H1 at hs1 s1 eL ew ⊢
    generalize tag τ L .jobs = τ1 at hs1 le1 tgL tgs
    walk_at "go"
    refine i_dget ?_
    walk_at "go"
    refine ⟨st, _, rfl, hs1.gWait, ?_⟩
    have lgs : gs.length ≤ B := by
      obtain ⟨o, e, vs, rfl, l, _⟩ := hs1.ok _ _ hs1.wait
      rw [ew] at e
      cases e
      simpa using l
    walk_at "go"
    refine ⟨⟨_, SqL.of ew⟩, for_itD walk_list (fun i σ H' => ∃ u, σ = [some (.ref st), some (.int pt), some (.ref L), u] ∧ Hs ms T0 H0 B Bh τ1 S st H' ∧ H' S.wait = some (.lst (gs.map fun g => V.ref g.1)) ∧ ∃ gl : Gs, H' L = some (.lst (gl.map fun g => V.ref g.1)) ∧ gl.Sublist (gs.take i) ∧ Fr H' gl)
      ⟨none, rfl, hs1, ew, [], eL, by simp, (fun _ h => nomatch h)⟩ (fun _ _ _ _ ⟨_, _, _, e, _⟩ => SqL.of e) ?_ ?_⟩
    · rintro i x σ H2 H3 hi ⟨u, rfl, hs2, ew2, gl, eL2, sub, fr⟩ ⟨rfl, hx⟩
      rw [List.getElem?_map] at hx
      obtain ⟨g, hg, rfl⟩ := Option.map_eq_some_iff.mp hx
      have tg := tgs g (List.mem_of_getElem? hg)
      obtain ⟨o, eo, num, due, done, x6, x7, rfl, d0, dw, c0, hm⟩ := hs2.ok _ _ tg
      have nLg : g.1 ≠ L := fun z => by rw [z, tgL] at tg; cases tg
      have nWg : g.1 ≠ S.wait := fun z => by rw [z, hs2.wait] at tg; cases tg
      have tk : gs.take (i + 1) = gs.take i ++ [g] := by rw [List.take_add_one, hg]; rfl
      have ended : ∃ u, [some (V.ref st), some (V.int pt), some (V.ref L), some (V.ref g.1)] = [some (V.ref st), some (V.int pt), some (V.ref L), u] ∧ Hs ms T0 H0 B Bh τ1 S st (upd H3 g.1 (.lst [.str g.2.1, .int num, .int g.2.2.1, .int due, .int done, .int g.2.2.2, x6, .int pt])) ∧ (upd H3 g.1 (.lst [.str g.2.1, .int num, .int g.2.2.1, .int due, .int done, .int g.2.2.2, x6, .int pt])) S.wait = some (.lst (gs.map fun g => V.ref g.1)) ∧
          ∃ gl : Gs, (upd H3 g.1 (.lst [.str g.2.1, .int num, .int g.2.2.1, .int due, .int done, .int g.2.2.2, x6, .int pt])) L = some (.lst (gl.map fun g => V.ref g.1)) ∧ gl.Sublist (gs.take (i + 1)) ∧ Fr (upd H3 g.1 (.lst [.str g.2.1, .int num, .int g.2.2.1, .int due, .int done, .int g.2.2.2, x6, .int pt])) gl := by
        refine ⟨_, rfl, hs2.put tg (Nat.le_refl _) (Nat.le_refl _) ⟨num, due, done, x6, .int pt, rfl, d0, dw, c0, hm⟩, upd_ne2 (Ne.symm nWg) ew2, gl, upd_ne2 (Ne.symm nLg) eL2, by rw [tk]; exact sub.trans (List.sublist_append_left _ _), fun g' hg' n' num' c' due' done' w' x' y' e => ?_⟩
        by_cases z : g'.1 = g.1
        · rw [z, upd_same] at e
          cases e
          exact fr g' hg' _ _ _ _ _ _ _ _ (by rw [z]; exact eo)
        · rw [upd_ne z] at e
          exact fr g' hg' _ _ _ _ _ _ _ _ e
      walk_at "go"
      refine i_dec (fun _ => ?_) (fun nd => ?_)
      · walk_at "go"
        exact ended
      have ndw : done ≠ g.2.2.2 := fun z => nd (by rw [z])
      walk_at "go"
      refine i_dget2 ?_
      walk_at "go"
      refine i_dget ?_
      walk_at "go"
      refine ⟨st, _, rfl, hs2.gLines, S.lines, rfl, ?_⟩
      obtain ⟨o, el, kvs, rfl, lk, hk⟩ := hs2.ok _ _ hs2.lines
      refine ⟨.inl ⟨kvs, .inl el⟩, ?_⟩
      walk_at "go"
      refine ⟨_, DGet.k (k := .inr g.2.1) el, ?_⟩
      have left : ∀ H4, Same H3 H4 → ∃ u, [some (V.ref st), some (V.int pt), some (V.ref L), some (V.ref g.1)] = [some (V.ref st), some (V.int pt), some (V.ref L), u] ∧ Hs ms T0 H0 B Bh τ1 S st (upd H4 L (.lst ((gl.map fun g => V.ref g.1) ++ [.ref g.1]))) ∧ (upd H4 L (.lst ((gl.map fun g => V.ref g.1) ++ [.ref g.1]))) S.wait = some (.lst (gs.map fun g => V.ref g.1)) ∧
          ∃ gl' : Gs, (upd H4 L (.lst ((gl.map fun g => V.ref g.1) ++ [.ref g.1]))) L = some (.lst (gl'.map fun g => V.ref g.1)) ∧ gl'.Sublist (gs.take (i + 1)) ∧ Fr (upd H4 L (.lst ((gl.map fun g => V.ref g.1) ++ [.ref g.1]))) gl' := fun H4 s4 => by
        have sub2 : (gl ++ [g]).Sublist (gs.take (i + 1)) := by
          rw [tk]
          exact sub.append (List.Sublist.refl _)
        have l2 := sub2.length_le
        rw [List.length_take] at l2
        refine ⟨_, rfl, (hs2.same s4).put tgL (Nat.le_refl _) (Nat.le_refl _) ⟨_, rfl, ?_, fun v hv => ?_⟩, upd_ne2 nLw (s4 _ _ ew2), gl ++ [g], by rw [List.map_append]; exact upd_same, sub2, fun g' hg' n' num' c' due' done' w' x' y' e => ?_⟩
        · simp at l2 ⊢
          omega
        · rcases List.mem_append.mp hv with z | z
          · obtain ⟨g2, hg2, rfl⟩ := List.mem_map.mp z
            exact ⟨_, _, _, g2.1, rfl, tgs g2 ((List.take_subset _ _) (sub.subset hg2))⟩
          · rw [List.mem_singleton.mp z]
            exact ⟨_, _, _, g.1, rfl, tg⟩
        · have tg' : τ1 g'.1 = some (.job g'.2.1 g'.2.2.1 g'.2.2.2) := tgs g' ((List.take_subset _ _) (sub2.subset hg'))
          rw [upd_ne (fun z => by rw [z, tgL] at tg'; cases tg')] at e
          obtain ⟨o', eo', num2, due2, done2, x2, y2, rfl, _⟩ := hs2.ok _ _ tg'
          have e2 := s4 _ _ eo'
          rw [e] at e2
          cases e2
          rcases List.mem_append.mp hg' with z | z
          · exact fr g' z _ _ _ _ _ _ _ _ eo'
          · rw [List.mem_singleton.mp z] at eo'
            rw [eo] at eo'
            cases eo'
            rw [List.mem_singleton.mp z]
            omega
      have lgl : gl.length ≤ gs.length := Nat.le_trans sub.length_le (by rw [List.length_take]; omega)
      walk_at "go"
      refine ⟨le_sz (by simp), fun N hN => ?_⟩
      have sN := same_of_upd (o := .lst []) hN
      have eN := upd_same (H := H3) (a := N) (o := .lst [])
      have leftN := left _ sN
      have endN : H3 g.1 = some (.lst [.str g.2.1, .int num, .int g.2.2.1, .int due, .int done, .int g.2.2.2, x6, x7]) := eo
      have eoN := sN _ _ eo
      have eLN := sN _ _ eL2
      have hs3 := hs2.same sN
      have ewN := sN _ _ ew2
      have frN : Fr (upd H3 N (.lst [])) gl := fun g' hg' n' num' c' due' done' w' x' y' e => by
        obtain ⟨o', eo', num2, due2, done2, x2, y2, rfl, _⟩ := hs2.ok _ _ (tgs g' ((List.take_subset _ _) (sub.subset hg')))
        have e2 := sN _ _ eo'
        rw [e] at e2
        cases e2
        exact fr g' hg' _ _ _ _ _ _ _ _ eo'
      generalize upd H3 N (.lst []) = H4 at sN eN leftN eoN eLN hs3 ewN frN ⊢
      have goOn : ∀ b, (b = true ∨ b = false) → (fun x H' => ∃ k, x = V.bl k ∧ True) (V.bl b) H4 := fun b _ => ⟨b, rfl, trivial⟩
      have ended4 : ∃ u, [some (V.ref st), some (V.int pt), some (V.ref L), some (V.ref g.1)] = [some (V.ref st), some (V.int pt), some (V.ref L), u] ∧ Hs ms T0 H0 B Bh τ1 S st (upd H4 g.1 (.lst [.str g.2.1, .int num, .int g.2.2.1, .int due, .int done, .int g.2.2.2, x6, .int pt])) ∧ (upd H4 g.1 (.lst [.str g.2.1, .int num, .int g.2.2.1, .int due, .int done, .int g.2.2.2, x6, .int pt])) S.wait = some (.lst (gs.map fun g => V.ref g.1)) ∧
          ∃ gl : Gs, (upd H4 g.1 (.lst [.str g.2.1, .int num, .int g.2.2.1, .int due, .int done, .int g.2.2.2, x6, .int pt])) L = some (.lst (gl.map fun g => V.ref g.1)) ∧ gl.Sublist (gs.take (i + 1)) ∧ Fr (upd H4 g.1 (.lst [.str g.2.1, .int num, .int g.2.2.1, .int due, .int done, .int g.2.2.2, x6, .int pt])) gl := by
        refine ⟨_, rfl, hs3.put tg (Nat.le_refl _) (Nat.le_refl _) ⟨num, due, done, x6, .int pt, rfl, d0, dw, c0, hm⟩, upd_ne2 (Ne.symm nWg) ewN, gl, upd_ne2 (Ne.symm nLg) eLN, by rw [tk]; exact sub.trans (List.sublist_append_left _ _), fun g' hg' n' num' c' due' done' w' x' y' e => ?_⟩
        by_cases z : g'.1 = g.1
        · rw [z, upd_same] at e
          cases e
          exact frN g' hg' _ _ _ _ _ _ _ _ (by rw [z]; exact eoN)
        · rw [upd_ne z] at e
          exact frN g' hg' _ _ _ _ _ _ _ _ e
      clear ended
      cases hv : valV kvs (.inr g.2.1) with
      | none =>
        refine ⟨N, rfl, SqL.of eN, .inr ⟨rfl, false, rfl, ?_⟩⟩
        walk_at "go"
        refine ⟨.inl ⟨rfl, _, SqL.of eLN⟩, ?_⟩
        walk_at "go"
        refine i_append eLN (lt_sz (by simp; omega)) ?_
        walk_at "go"
        exact leftN
      | some v =>
        obtain ⟨pr, hpr, _, e2⟩ := valV_mem hv
        obtain ⟨la, e3, tl⟩ := hk pr hpr
        obtain ⟨ol, eol, vs, rfl, _⟩ := hs3.ok _ _ tl
        rw [e2] at e3
        subst e3
        refine ⟨N, rfl, SqL.of eN, .inl ⟨la, vs, rfl, SqL.of eol, _, rfl, ?_⟩⟩
        refine i_boo (fun _ => ?_) (fun _ => ?_)
        · walk_at "go"
          exact ended4
        · walk_at "go"
          refine ⟨.inl ⟨rfl, _, SqL.of eLN⟩, ?_⟩
          walk_at "go"
          refine i_append eLN (lt_sz (by simp; omega)) ?_
          walk_at "go"
          exact leftN
    · rintro σ H2 ⟨u, rfl, hs2, ew2, gl, eL2, sub, fr⟩
      walk_at "go"
      refine i_dput ?_
      walk_at "go"
      have e4 : DPut H2 st (.str "wait") (.ref L) (upd H2 st (.dK (stK { S with wait := L }))) := DPut.k (k := .inr "wait") (v := .ref L) hs2.sth (lt_sz (by show 8 ≤ _; omega))
      refine ⟨st, _, rfl, e4, ?_⟩
      walk_at "go"
      have lenG : (gs.map fun g => V.ref g.1).length = gs.length := by simp
      rw [lenG, List.take_length] at sub
      refine k τ1 { S with wait := L } gl _ le1 (hs2.setSt rfl tgL nLo) ⟨upd_ne2 (hs2.neSt tgL) eL2, fun g hg => tgs g (sub.subset hg), hw.nd.sublist (sub.map _)⟩ (fun g hg n' num' c' due' done' w' x' y' e => ?_) sub
      rw [upd_ne (hs2.neSt (tgs g (sub.subset hg)))] at e
      exact fr g hg _ _ _ _ _ _ _ _ e
end
end K19
namespace K19
open PySem L2
open PyProof.Rows (envOfC)
theorem at_last (xs : List V) (v : V) : atI (xs ++ [v]) (-1) = some v := by
  have e : ixN (xs ++ [v]).length (-1) = some xs.length := by
    unfold ixN
    rw [List.length_append]
    simp
    omega
  unfold atI
  rw [e]
  simp
theorem putK_mem {κ : Type} [DecidableEq κ] {kvs : List (κ × V)} {k : κ} {v : V} {p : κ × V} (h : p ∈ putK kvs k v) : p.2 = v ∨ p ∈ kvs := by
  unfold putK at h
  split at h
  · obtain ⟨q, hq, e⟩ := List.mem_map.mp h
    by_cases z : q.1 = k
    · rw [if_pos z] at e
      exact .inl (by rw [← e])
    · rw [if_neg z] at e
      exact .inr (by rw [← e]; exact hq)
  · rcases List.mem_append.mp h with z | z
    · exact .inr z
    · exact .inl (by rw [List.mem_singleton.mp z])
theorem i_dsetd {td ty tx : TE} {σ : L2.St} {H : Hp} {Q : VK} (q : td σ H fun x H1 => ∃ a, x = .ref a ∧ IsD H1 a ∧ ty σ H1 fun y H2 => tx σ H2 fun z H3 => ∃ (kvs : List (Key × V)) (k : Key), H3 a = some (.dK kvs) ∧ y = kV k ∧ kvs.length < sizeLine ∧ (∀ v, valV kvs k = some v → Q v H3) ∧ (valV kvs k = none → Q z (upd H3 a (.dK (putK kvs k z))))) : tDSetd td ty tx σ H Q := q
section
variable {ms : List Mem} {T0 : List (Addr × Str)} {H0 H H' : Hp} {B B' Bh Bh' : Nat} {τ τ' : Tags} {S : SA} {st : Addr} {gs : Gs}
theorem Wt.le (w : Wt τ H S gs) (h : TagsLe τ τ') : Wt τ' H S gs := ⟨w.at_, fun g hg => h _ _ (w.tags g hg), w.nd⟩
/-- the waiting works where something else is written -/
theorem keep_put (w : Wt τ H S gs) (f : Fr H gs) {a : Addr} {t : Tg} {o : HO} (ta : τ a = some t) (nj : ∀ n c w, t ≠ .job n c w) (nw : a ≠ S.wait) : Wt τ (upd H a o) S gs ∧ Fr (upd H a o) gs := by
  refine ⟨⟨upd_ne2 (Ne.symm nw) w.at_, w.tags, w.nd⟩, fun g hg n num c due done wt x y e => ?_⟩
  rw [upd_ne (fun z => by have := w.tags g hg; rw [z, ta] at this; exact nj _ _ _ (Option.some.inj this))] at e
  exact f g hg _ _ _ _ _ _ _ _ e
end
section
variable {P : Program} {w : World} {K : PySem.W.Frag} {mg : Str → Option Value} {base : Heap} {T0 : List (Addr × Str)}
def TaskN (ms : List Mem) (n : Str) : Prop := ∃ m ∈ ms, m.name = n ∧ m.door = false
def spCome (T0 : List (Addr × Str)) : Sp := fun vs H Q _ => ∃ (ms : List Mem) (H0 : Hp) (B Bh : Nat) (τ : Tags) (S : SA) (st : Addr) (gs : Gs) (q l : Addr) (cs : List V) (ks : List Wk) (pt : Int), vs = [.ref st, .ref q, .ref l, .int pt] ∧ Hs ms T0 H0 B Bh τ S st H ∧ Wt τ H S gs ∧ Fr H gs ∧ RowsAt H0 q ms ∧ CrewOk ms ∧ H0 l = some (.lst cs) ∧
  All2 (WorkT H0) cs ks ∧ CgsOk ms ks ∧ 0 ≤ pt ∧ (∀ g ∈ gs, g.2.2.1 < pt) ∧ B ≤ 900000 ∧
  ∀ τ' gs' H', TagsLe τ τ' → Hs ms T0 H0 (B + 200) Bh τ' S st H' → Wt τ' H' S gs' → Fr H' gs' → (∀ g ∈ gs', g.2.2.1 < pt ∨ (g.2.2.1 = pt ∧ TaskN ms g.2.1)) → Q .non H'
theorem ok_lCome (F : Fx K mg "_law_come" s_lCome a_lCome) (T : Txt K mg) (C_lRowOf : Cal P w K mg base 1 "_law_row_of" a_lRowOf spRowOf) (C_lNew : Cal P w K mg base 1 "_law_new" a_lNew (spNew T0)) : Cal P w K mg base 2 "_law_come" a_lCome (spCome T0) := by
  refine cal_of F sc_lCome (fun vs H Q E h => ?_) (fun f cdv A outer s H vs Q E hr h => ?_)
  · obtain ⟨ms, H0, B, Bh, τ, S, st, gs, q, l, cs, ks, pt, rfl, _⟩ := h
    rfl
  · obtain ⟨ms, H0, B, Bh, τ, S, st, gs, q, l, cs, ks, pt, rfl, hs, hw, hf, hrow, ok, el, ca, cg, p0, lt, hB, k⟩ := h
    have hu : (A.deeper (envOfC "_law_come" (defScope s_lCome) s.heap.objs.size f cdv)).units + 1 < cLine := by
      have := hr.units
      omega
    have lck : cs.length = ks.length := ca.1
    have few := cg.few
    refine ⟨_, (pss_one (ps_for PassesOwn.never rfl (pi_list (pv 2)) (pg_tup rfl (pgs_cons (pg_name (i := 4) sc_lCome.nd rfl (Or.inr rfl)) (pgs_cons (pg_name (i := 5) sc_lCome.nd rfl (Or.inl rfl)) (pgs_cons (pg_name (i := 6) sc_lCome.nd rfl (Or.inl rfl)) pgs_nil))))
  (pss_one (ps_if (pt_cmpR op_eq (pv 5) (pv 3) (nomark _))
  (pss_cons (ps_set (i := 7) sc_lCome.nd rfl (Or.inl rfl) (pe_cal C_lRowOf (hr.mono (by decide)) (pa_cons (pv 1) (pa_cons (pv 4) pa_nil))))
  (pss_one (ps_if (pt_cmpR op_eq (pe_ix ix_tup (pv 7) pe_int (fun _ _ => rfl)) pe_str (nomark _))
  (pss_cons (ps_set (i := 8) sc_lCome.nd rfl (Or.inl rfl) (pe_callB call_len_seq (by rfl) T.len (by decide +kernel) (pa_cons (pe_lc (own := [("_law_one", 9)]) (tt := (tTest (tOp _ (tOp (rIxL K) _ _) _))) (te := _) rfl sc_lCome.nd (pi_list (pe_dget hu (pv 0) pe_str (fun _ _ => rfl))) (blkOk_by (N := n_lCome) (sc := defScope s_lCome) (by decide +kernel)) (fun _ _ _ _ _ => (pg_name (i := 9) sc_lCome.nd rfl (Or.inl rfl))) (fun _ _ _ _ _ => pts_one (pt_cmpR op_eq (pe_ix ix_list (pv 9) pe_int (fun _ _ => rfl)) (pv 4) (nomark _))) (fun _ _ _ _ _ => (pv 9))) pa_nil)))
  (pss_cons (ps_expr (pe_bm PySem.F.plainAttrs_list PySem.F.slot_list_append PySem.F.type_list_append mt_append (pe_dget hu (pv 0) pe_str (fun _ _ => rfl)) (pa_cons (pe_lst (pa_cons (pv 4) (pa_cons (pv 8) (pa_cons (pv 3) (pa_cons (pv 6) (pa_cons pe_non (pa_cons (pv 6) pa_nil))))))) pa_nil)))
  (pss_one (ps_expr (pe_bm PySem.F.plainAttrs_list PySem.F.slot_list_append PySem.F.type_list_append mt_append (pe_dsetd (pe_dget hu (pv 0) pe_str (fun _ _ => rfl)) (pv 4) (pe_lst pa_nil) ⟨rfl, rfl, rfl, rfl⟩) (pa_cons (pe_ix ix_list (pe_dget hu (pv 0) pe_str (fun _ _ => rfl)) (pe_un un_neg pe_int) (fun _ _ => rfl)) pa_nil))))))
  (pss_one (ps_expr (pe_cal C_lNew (hr.mono (by decide)) (pa_cons (pv 0) (pa_cons (pv 4) (pa_cons (pv 3) (pa_cons (pe_ix ix_tup (pv 7) pe_int (fun _ _ => rfl)) (pa_cons (pv 6) pa_nil)))))))))))
  pss_nil)))), ?_⟩
    try dsimp only [cxOf]
    refine at_ [some (.ref st), some (.ref q), some (.ref l), some (.int pt), none, none, none, none, none, none] rfl ?_
    walk_at "go"
    refine ⟨⟨_, SqL.of (extN_get hs.old el)⟩, for_itD walk_list (fun i σ H' => ∃ u4 u5 u6 u7 u8 τ' gs', σ = [some (.ref st), some (.ref q), some (.ref l), some (.int pt), u4, u5, u6, u7, u8, none] ∧ TagsLe τ τ' ∧ Hs ms T0 H0 (B + 2 * i) Bh τ' S st H' ∧ Wt τ' H' S gs' ∧ Fr H' gs' ∧
        ∀ g ∈ gs', g.2.2.1 < pt ∨ (g.2.2.1 = pt ∧ TaskN ms g.2.1 ∧ ∃ (j : Nat) (kj : Wk), j < i ∧ ks[j]? = some kj ∧ kj.name = g.2.1 ∧ kj.comes = pt))
      ⟨none, none, none, none, none, τ, gs, rfl, TagsLe.refl _, hs, hw, hf, fun g hg => .inl (lt g hg)⟩ (fun _ _ _ _ ⟨_, _, _, _, _, _, _, _, _, h, _⟩ => SqL.of (extN_get h.old el)) ?_ ?_⟩
    · rintro i x σ H1 H2 hi ⟨u4, u5, u6, u7, u8, τ1, gs1, rfl, le1, hs1, hw1, hf1, inv⟩ ⟨rfl, hx⟩
      obtain ⟨kk, hkk, r⟩ := ca.get hx
      obtain ⟨tx, rfl, etx⟩ := r.nl (extN_nl hs1.old)
      obtain ⟨m, hm, en, kc0, kd1, kdc⟩ := cg.each kk (List.mem_of_getElem? hkk)
      have inv' : ∀ g ∈ gs1, g.2.2.1 < pt ∨ (g.2.2.1 = pt ∧ TaskN ms g.2.1 ∧ ∃ (j : Nat) (kj : Wk), j < i + 1 ∧ ks[j]? = some kj ∧ kj.name = g.2.1 ∧ kj.comes = pt) := fun g hg => (inv g hg).imp id fun ⟨a, b, j, kj, c, d⟩ => ⟨a, b, j, kj, by omega, d⟩
      walk_at "go"
      refine i_dec (fun em => ?_) (fun _ => ?_)
      case refine_2 =>
        walk_at "go"
        exact ⟨_, _, _, _, _, τ1, gs1, rfl, le1, hs1.more (by omega) (Nat.le_refl _), hw1, hf1, inv'⟩
      have em' : kk.comes = pt := V.int.inj em
      walk_at "go"
      refine ⟨q, _, ms, m, rfl, extN_row hs1.old hrow, ok, hm, en, fun v H3 s3 hv => ?_⟩
      have hs3 := hs1.same s3
      have hw3 := hw1.same s3
      have hf3 := hf1.same hs1 hw1 s3
      obtain ⟨tv, xv, rfl, ev, a0, a1, a2, a3⟩ := hv.at
      walk_at "go"
      refine i_dec (fun dr => ?_) (fun dr => ?_)
      · walk_at "go"
        refine i_dget ?_
        walk_at "go"
        refine ⟨st, _, rfl, hs3.gComers, ?_⟩
        obtain ⟨o, eco, vs, rfl, lv, hvs⟩ := hs3.ok _ _ hs3.comers
        walk_at "go"
        refine ⟨⟨_, SqL.of eco⟩, fun D hD => lc_j walk_list (fun _ _ _ _ _ _ y => y) (lt_sz (by omega)) hD (σ0 := [some (.ref st), some (.ref q), some (.ref l), some (.int pt), some (.str kk.name), some (.int kk.comes), some (.int kk.done), some (.ref tv), u8, none]) rfl (fun _ _ _ => True) (fun _ _ _ _ _ _ => trivial) trivial (fun H' s => s.seq (SqL.of eco)) (fun j x acc H' R hx s4 _ k4 => ?_) (fun acc H4 s4 eD _ lacc => ?_)⟩
        · obtain ⟨ac, rfl, tc⟩ := hvs x (List.mem_of_getElem? hx)
          obtain ⟨o', eo', n', b1, b2, b3, x', b4, rfl⟩ := (hs3.same s4).ok _ _ tc
          have q1 := k4 (some (.ref ac)) H' (Same.refl H') trivial
          have q2 := k4 none H' (Same.refl H') trivial
          walk_at "go"
          refine ⟨rfl, ?_⟩
          walk_at "go"
          refine i_dec (fun _ => ?_) (fun _ => ?_)
          · walk_at "go"
            exact q1
          · exact q2
        have hs4 := hs3.same s4
        have hw4 := hw3.same s4
        have hf4 := hf3.same hs3 hw3 s4
        walk_at "go"
        refine i_dget ?_
        walk_at "go"
        refine ⟨st, _, rfl, hs4.gComers, ?_⟩
        have eco4 := s4 _ _ eco
        refine ⟨.inl ⟨rfl, _, SqL.of eco4⟩, ?_⟩
        walk_at "go"
        refine ⟨le_sz (by simp), fun cA hcA => ?_⟩
        have tc := hs4.none_tag hcA
        have hs5 := hs4.lay (t := .comer) (o := .lst [.str kk.name, .int (acc.length : Nat), .int pt, .int kk.done, .non, .int kk.done]) hcA ⟨_, _, _, _, _, _, rfl⟩
        have s5 := same_of_upd (o := .lst [.str kk.name, .int (acc.length : Nat), .int pt, .int kk.done, .non, .int kk.done]) hcA
        have le5 := tag_le (t := .comer) tc
        have tgc := tag_same (τ := τ1) (a := cA) (t := .comer)
        have hw5 := (hw4.same s5).le le5
        have hf5 := hf4.same hs4 hw4 s5
        generalize upd H4 cA (.lst [.str kk.name, .int (acc.length : Nat), .int pt, .int kk.done, .non, .int kk.done]) = H5 at hs5 s5 hw5 hf5 ⊢
        generalize tag τ1 cA .comer = τ5 at hs5 le5 tgc hw5
        obtain ⟨o, eco5, vs5, rfl, lv5, hvs5⟩ := hs5.ok _ _ hs5.comers
        have : vs5 = vs := by
          have := s5 _ _ eco4
          rw [eco5] at this
          cases this
          rfl
        subst this
        walk_at "go"
        refine i_append eco5 (lt_sz (by omega)) ?_
        have ncw : S.comers ≠ S.wait := fun z => by have := hs5.comers; rw [z, hs5.wait] at this; cases this
        have hs6 := hs5.put (B' := B + 2 * i + 1) (Bh' := Bh) hs5.comers (Nat.le_succ _) (Nat.le_refl _) (o := .lst (vs5 ++ [.ref cA])) ⟨_, rfl, (by simp; omega), fun v hv => (List.mem_append.mp hv).elim (hvs5 v) (fun z => by rw [List.mem_singleton.mp z]; exact ⟨cA, rfl, tgc⟩)⟩
        obtain ⟨hw6, hf6⟩ := keep_put hw5 hf5 (o := .lst (vs5 ++ [.ref cA])) hs5.comers (fun _ _ _ z => nomatch z) ncw
        have eco6 := upd_same (H := H5) (a := S.comers) (o := .lst (vs5 ++ [.ref cA]))
        generalize upd H5 S.comers (.lst (vs5 ++ [.ref cA])) = H6 at hs6 hw6 hf6 eco6 ⊢
        walk_at "go"
        refine i_dsetd ?_
        walk_at "go"
        refine i_dget ?_
        walk_at "go"
        refine ⟨st, _, rfl, hs6.gLines, S.lines, rfl, ?_⟩
        obtain ⟨o, eln, kvs, rfl, lk, hk⟩ := hs6.ok _ _ hs6.lines
        refine ⟨.inl ⟨kvs, .inl eln⟩, ?_⟩
        walk_at "go"
        refine ⟨le_sz (by simp), fun N hN => ?_⟩
        have tn := hs6.none_tag hN
        have hs7 := hs6.lay (t := .line) (o := .lst []) hN ⟨[], rfl, by simp, (fun _ h => nomatch h)⟩
        have s7 := same_of_upd (o := .lst []) hN
        have le7 := tag_le (t := .line) tn
        have tgn := tag_same (τ := τ5) (a := N) (t := .line)
        have hw7 := (hw6.same s7).le le7
        have hf7 := hf6.same hs6 hw6 s7
        have eln7 := s7 _ _ eln
        have eco7 := s7 _ _ eco6
        have eN7 := upd_same (H := H6) (a := N) (o := .lst [])
        generalize upd H6 N (.lst []) = H7 at hs7 s7 hw7 hf7 eln7 eco7 eN7 ⊢
        generalize tag τ5 N .line = τ7 at hs7 le7 tgn hw7
        have le17 := le1.trans (le5.trans le7)
        have alast := at_last vs5 (.ref cA)
        -- the comer goes to the line at la
        have toLine : ∀ (la : Addr) H8, Hs ms T0 H0 (B + 2 * (i + 1)) Bh τ7 S st H8 → Wt τ7 H8 S gs1 → Fr H8 gs1 → τ7 la = some .line → H8 S.comers = some (.lst (vs5 ++ [.ref cA])) → ∀ vl, H8 la = some (.lst vl) → vl.length ≤ B + 2 * i + 1 → (∀ v ∈ vl, RefTo τ7 .comer v) →
            Hs ms T0 H0 (B + 2 * (i + 1)) Bh τ7 S st (upd H8 la (.lst (vl ++ [.ref cA]))) ∧ Wt τ7 (upd H8 la (.lst (vl ++ [.ref cA]))) S gs1 ∧ Fr (upd H8 la (.lst (vl ++ [.ref cA]))) gs1 := fun la H8 hs8 hw8 hf8 tl ec vl evl lvl hvl => by
          have nlw : la ≠ S.wait := fun z => by rw [z, hs8.wait] at tl; cases tl
          refine ⟨hs8.put (B' := B + 2 * (i + 1)) tl (by omega) (Nat.le_refl _) ⟨_, rfl, (by simp; omega), fun v hv => (List.mem_append.mp hv).elim (hvl v) (fun z => by rw [List.mem_singleton.mp z]; exact ⟨cA, rfl, le7 _ _ tgc⟩)⟩, ?_⟩
          exact keep_put hw8 hf8 tl (fun _ _ _ z => nomatch z) nlw
        refine ⟨kvs, .inr kk.name, eln7, rfl, lt_sz (by omega), fun v hv => ?_, fun hv => ?_⟩
        · obtain ⟨pr, hpr, _, e2⟩ := valV_mem hv
          obtain ⟨la, e3, tl⟩ := hk pr hpr
          rw [e2] at e3
          subst e3
          obtain ⟨o, ela, vl, rfl, lvl, hvl⟩ := hs6.ok _ _ tl
          have ela7 := s7 _ _ ela
          refine ⟨.inl ⟨rfl, _, SqL.of ela7⟩, ?_⟩
          walk_at "go"
          refine i_dget ?_
          walk_at "go"
          refine ⟨st, _, rfl, hs7.gComers, ?_⟩
          walk_at "go"
          refine i_append ela7 (lt_sz (by omega)) ?_
          obtain ⟨f1, f2, f3⟩ := toLine la H7 (hs7.more (by omega) (Nat.le_refl _)) hw7 hf7 (le7 _ _ tl) eco7 vl ela7 lvl fun v hv => (hvl v hv).le le7
          walk_at "go"
          exact ⟨_, _, _, _, _, τ7, gs1, rfl, le17, f1, f2, f3, inv'⟩
        · have nls : S.lines ≠ S.wait := fun z => by have := hs7.lines; rw [z, hs7.wait] at this; cases this
          have hs8 := hs7.put (B' := B + 2 * (i + 1)) (Bh' := Bh) hs7.lines (by omega) (Nat.le_refl _) (o := .dK (putK kvs (.inr kk.name) (.ref N))) ⟨_, rfl, (by have := length_putK kvs (.inr kk.name) (.ref N); omega), fun p hp => (putK_mem hp).elim (fun z => by rw [z]; exact ⟨N, rfl, tgn⟩) (fun z => (hk p z).le le7)⟩
          obtain ⟨hw8, hf8⟩ := keep_put hw7 hf7 (o := .dK (putK kvs (.inr kk.name) (.ref N))) hs7.lines (fun _ _ _ z => nomatch z) nls
          have nNl : N ≠ S.lines := fun z => by rw [z, hs7.lines] at tgn; cases tgn
          have ncl : S.comers ≠ S.lines := fun z => by have := hs7.comers; rw [z, hs7.lines] at this; cases this
          have eN8 := upd_ne2 (o := .dK (putK kvs (.inr kk.name) (.ref N))) nNl eN7
          have eco8 := upd_ne2 (o := .dK (putK kvs (.inr kk.name) (.ref N))) ncl eco7
          generalize upd H7 S.lines (.dK (putK kvs (.inr kk.name) (.ref N))) = H8 at hs8 hw8 hf8 eN8 eco8 ⊢
          refine ⟨.inl ⟨rfl, _, SqL.of eN8⟩, ?_⟩
          walk_at "go"
          refine i_dget ?_
          walk_at "go"
          refine ⟨st, _, rfl, hs8.gComers, ?_⟩
          walk_at "go"
          refine i_append eN8 (lt_sz (by simp)) ?_
          obtain ⟨f1, f2, f3⟩ := toLine N H8 hs8 hw8 hf8 tgn eco8 [] eN8 (by simp) (fun _ h => nomatch h)
          walk_at "go"
          exact ⟨_, _, _, _, _, τ7, gs1, rfl, le17, f1, f2, f3, inv'⟩
      · have isT : m.door = false := by
          cases h : m.door with
          | false => rfl
          | true =>
            rw [h, if_pos rfl] at dr
            exact absurd rfl dr
        obtain ⟨t4, rfl4, z⟩ := hv
        cases rfl4
        rcases z with ⟨d, _⟩ | ⟨d, g4, e4, _⟩
        · rw [isT] at d
          cases d
        have a4 : atI xv 4 = some (.int m.due) := by
          rw [ev] at e4
          cases e4
          rfl
        walk_at "go"
        refine ⟨ms, H0, B + 2 * i, Bh, τ1, S, st, gs1, kk.name, pt, m.due, kk.done, rfl, hs3, hw3, hf3, ⟨m, hm, en, kd1, kdc isT⟩, p0, fun hin => ?_, by omega, fun τ' a H' le' hs' hw' hf' => ?_⟩
        · obtain ⟨g, hg, eg⟩ := List.mem_map.mp hin
          have eg1 : g.2.1 = kk.name := congrArg Prod.fst eg
          have eg2 : g.2.2.1 = pt := congrArg Prod.snd eg
          rcases inv g hg with z | ⟨_, tn, j, kj, lj, ekj, e5, e6⟩
          · omega
          · obtain ⟨lj1, ej1⟩ := List.getElem?_eq_some_iff.mp ekj
            obtain ⟨li1, ei1⟩ := List.getElem?_eq_some_iff.mp hkk
            have ap := List.pairwise_iff_getElem.mp cg.apart j i lj1 li1 lj
            rw [ej1, ei1] at ap
            exact ap (by rw [e5, eg1]) ⟨m, hm, by rw [e5, eg1, en], isT⟩ (by rw [e6, em'])
        · walk_at "go"
          refine ⟨_, _, _, _, _, τ', gs1 ++ [(a, kk.name, pt, kk.done)], rfl, le1.trans le', hs'.more (by omega) (Nat.le_refl _), hw', hf', fun g hg => ?_⟩
          rcases List.mem_append.mp hg with z | z
          · exact inv' g z
          · rw [List.mem_singleton.mp z]
            exact .inr ⟨rfl, ⟨m, hm, en, isT⟩, i, kk, by omega, hkk, rfl, em'⟩
    · rintro σ H1 ⟨u4, u5, u6, u7, u8, τ1, gs1, rfl, le1, hs1, hw1, hf1, inv⟩
      walk_at "go"
      exact k τ1 gs1 H1 le1 (hs1.more (by omega) (Nat.le_refl _)) hw1 hf1 fun g hg => (inv g hg).imp id fun ⟨a, b, _⟩ => ⟨a, b⟩
end
end K19
namespace K19
open PySem L2
open PyProof.Rows (envOfC)
section
variable {P : Program} {w : World} {K : PySem.W.Frag} {mg : Str → Option Value} {base : Heap} {T0 : List (Addr × Str)}
def spPortions (T0 : List (Addr × Str)) : Sp := fun vs H Q _ => ∃ (ms : List Mem) (H0 : Hp) (B Bh : Nat) (τ : Tags) (S : SA) (st : Addr) (gs : Gs) (q : Addr) (pt : Int), vs = [.ref st, .ref q, .int pt] ∧ Hs ms T0 H0 B Bh τ S st H ∧ Wt τ H S gs ∧ Fr H gs ∧ RowsAt H0 q ms ∧ CrewOk ms ∧
  0 ≤ pt ∧ (∀ g ∈ gs, g.2.2.1 ≤ pt) ∧ B ≤ 900000 ∧
  ∀ τ' gs' H', TagsLe τ τ' → Hs ms T0 H0 (B + 16) Bh τ' S st H' → Wt τ' H' S gs' → Fr H' gs' → (∀ g ∈ gs', g.2.2.1 ≤ pt) → Q .non H'
theorem ok_lPortions (F : Fx K mg "_law_portions" s_lPortions a_lPortions) (T : Txt K mg) (C_lNew : Cal P w K mg base 1 "_law_new" a_lNew (spNew T0)) : Cal P w K mg base 2 "_law_portions" a_lPortions (spPortions T0) := by
  refine cal_of F sc_lPortions (fun vs H Q E h => ?_) (fun f cdv A outer s H vs Q E hr h => ?_)
  · obtain ⟨ms, H0, B, Bh, τ, S, st, gs, q, pt, rfl, _⟩ := h
    rfl
  · obtain ⟨ms, H0, B, Bh, τ, S, st, gs, q, pt, rfl, hs, hw, hf, hrow, ok, p0, le, hB, k⟩ := h
    have hu : (A.deeper (envOfC "_law_portions" (defScope s_lPortions) s.heap.objs.size f cdv)).units + 1 < cLine := by
      have := hr.units
      omega
    obtain ⟨rs, er, ra⟩ := hrow
    have lrs : rs.length = ms.length := ra.1
    have few := ok.few
    refine ⟨_, (pss_one (ps_for PassesOwn.never rfl (pi_list (pv 1)) (pg_name (i := 3) sc_lPortions.nd rfl (Or.inl rfl))
  (pss_one (ps_if (PW.pt (pw_and (pt_cmpR op_eq (pe_ix ix_tup (pv 3) pe_int (fun _ _ => rfl)) pe_str (nomark _)) (pw_and1 (pt_cmpR (op_neNil hr.units0) (pe_dget2 hu (pe_dget hu (pv 0) pe_str (fun _ _ => rfl)) (pe_ix ix_tup (pv 3) pe_int (fun _ _ => rfl)) (pe_lst pa_nil) ⟨rfl, rfl, rfl, rfl⟩) (pe_lst pa_nil) (nomark _)))))
  (pss_cons (ps_set (i := 4) sc_lPortions.nd rfl (Or.inl rfl) (pe_cmpR op_in_seq (pe_ix ix_tup (pv 3) pe_int (fun _ _ => rfl)) (pe_lc (own := [("_law_work", 5)]) (tt := tYes) (te := (tOp (rIxL K) _ _)) rfl sc_lPortions.nd (pi_list (pe_dget hu (pv 0) pe_str (fun _ _ => rfl))) (blkOk_by (N := n_lPortions) (sc := defScope s_lPortions) (by decide +kernel)) (fun _ _ _ _ _ => (pg_name (i := 5) sc_lPortions.nd rfl (Or.inl rfl))) (fun _ _ _ _ _ => pts_nil) (fun _ _ _ _ _ => (pe_ix ix_list (pv 5) pe_int (fun _ _ => rfl)))) rfl))
  (pss_one (ps_if (PW.pt (pw_and (pt_not (pt_val (pv 4))) (pw_and1 (pt_cmpR op_le (pe_op op_add (pe_dget2 hu (pe_dget hu (pv 0) pe_str (fun _ _ => rfl)) (pe_ix ix_tup (pv 3) pe_int (fun _ _ => rfl)) (pe_op op_sub (pv 2) (pe_ix ix_tup (pv 3) pe_int (fun _ _ => rfl))) ⟨rfl, rfl, rfl, rfl⟩) (pe_ix ix_tup (pv 3) pe_int (fun _ _ => rfl))) (pv 2) (nomark _)))))
  (pss_cons (ps_dput hu (pe_dget hu (pv 0) pe_str (fun _ _ => rfl)) (pe_ix ix_tup (pv 3) pe_int (fun _ _ => rfl)) (pv 2) rfl)
  (pss_one (ps_expr (pe_cal C_lNew (hr.mono (by decide)) (pa_cons (pv 0) (pa_cons (pe_ix ix_tup (pv 3) pe_int (fun _ _ => rfl)) (pa_cons (pv 2) (pa_cons (pe_ix ix_tup (pv 3) pe_int (fun _ _ => rfl)) (pa_cons (pe_ix ix_tup (pv 3) pe_int (fun _ _ => rfl)) pa_nil)))))))))
  pss_nil)))
  pss_nil)))), ?_⟩
    try dsimp only [cxOf]
    refine at_ [some (.ref st), some (.ref q), some (.int pt), none, none, none] rfl ?_
    walk_at "go"
    refine ⟨⟨_, SqL.of (extN_get hs.old er)⟩, for_itD walk_list (fun i σ H' => ∃ u3 u4 τ' gs', σ = [some (.ref st), some (.ref q), some (.int pt), u3, u4, none] ∧ TagsLe τ τ' ∧ Hs ms T0 H0 (B + 2 * i) Bh τ' S st H' ∧ Wt τ' H' S gs' ∧ Fr H' gs' ∧ ∀ g ∈ gs', g.2.2.1 ≤ pt)
      ⟨none, none, τ, gs, rfl, TagsLe.refl _, hs, hw, hf, le⟩ (fun _ _ _ _ ⟨_, _, _, _, _, _, h, _⟩ => SqL.of (extN_get h.old er)) ?_ ?_⟩
    · rintro i x σ H1 H2 hi ⟨u3, u4, τ1, gs1, rfl, le1, hs1, hw1, hf1, lt1⟩ ⟨rfl, hx⟩
      obtain ⟨m, hm, r⟩ := ra.get hx
      have r1 := r.nl (extN_nl hs1.old)
      obtain ⟨tv, xv, rfl, ev, a0, a1, a2, a3⟩ := r1.at
      have hmm := List.mem_of_getElem? hm
      have mok := ok.each m hmm
      have skip : ∀ u3 u4 H', Same H2 H' → ∃ v3 v4 τ' gs', [some (V.ref st), some (V.ref q), some (V.int pt), u3, u4, none] = [some (V.ref st), some (V.ref q), some (V.int pt), v3, v4, none] ∧ TagsLe τ τ' ∧ Hs ms T0 H0 (B + 2 * (i + 1)) Bh τ' S st H' ∧ Wt τ' H' S gs' ∧ Fr H' gs' ∧ ∀ g ∈ gs', g.2.2.1 ≤ pt := fun u3 u4 H' s =>
        ⟨u3, u4, τ1, gs1, rfl, le1, (hs1.same s).more (by omega) (Nat.le_refl _), hw1.same s, hf1.same hs1 hw1 s, lt1⟩
      walk_at "go"
      refine i_dec (fun dr => ?_) (fun dr => ?_)
      case refine_2 =>
        walk_at "go"
        exact skip _ _ _ (Same.refl _)
      walk_at "go"
      refine i_dget2 ?_
      walk_at "go"
      refine i_dget ?_
      walk_at "go"
      refine ⟨st, _, rfl, hs1.gLines, S.lines, rfl, ?_⟩
      obtain ⟨o, el, kvs, rfl, lk, hk⟩ := hs1.ok _ _ hs1.lines
      refine ⟨.inl ⟨kvs, .inl el⟩, ?_⟩
      walk_at "go"
      refine ⟨le_sz (by simp), fun D1 hD1 => ?_⟩
      have sD1 := same_of_upd (o := .lst []) hD1
      have eD1 := upd_same (H := H2) (a := D1) (o := .lst [])
      have el1 := sD1 _ _ el
      generalize upd H2 D1 (.lst []) = H3 at sD1 eD1 el1 ⊢
      refine ⟨_, DGet.k (k := .inr m.name) el1, ?_⟩
      walk_at "go"
      refine ⟨le_sz (by simp), fun D2 hD2 => ?_⟩
      have sD2 := same_of_upd (o := .lst []) hD2
      have eD2 := upd_same (H := H3) (a := D2) (o := .lst [])
      have el2 := sD2 _ _ el1
      have eD12 := sD2 _ _ eD1
      have s24 := sD1.trans sD2
      generalize upd H3 D2 (.lst []) = H4 at sD2 eD2 el2 eD12 s24 ⊢
      clear sD1 eD1 el1
      have hs4 := hs1.same s24
      have hw4 := hw1.same s24
      have hf4 := hf1.same hs1 hw1 s24
      have ev4 := s24 _ _ ev
      have ne : ∃ p xs, ((valV kvs (.inr m.name)).getD (.ref D1)) = .ref p ∧ SqL K H4 p xs := by
        cases hv : valV kvs (.inr m.name) with
        | none => exact ⟨D1, [], rfl, SqL.of eD12⟩
        | some v =>
          obtain ⟨pr, hpr, _, e2⟩ := valV_mem hv
          obtain ⟨la, e3, tl⟩ := hk pr hpr
          obtain ⟨ol, eol, vs, rfl, _⟩ := hs4.ok _ _ tl
          rw [e2] at e3
          exact ⟨la, vs, e3, SqL.of eol⟩
      obtain ⟨pl, xl, epl, sql⟩ := ne
      rw [epl]
      refine ⟨D2, pl, xl, rfl, SqL.of eD2, rfl, sql, _, rfl, ?_⟩
      refine i_boo (fun _ => ?_) (fun _ => ?_)
      case refine_2 =>
        walk_at "go"
        exact skip _ _ _ s24
      walk_at "go"
      refine i_dget ?_
      walk_at "go"
      refine ⟨st, _, rfl, hs4.gWait, ?_⟩
      have ew4 := hw4.at_
      obtain ⟨o, eow, vs, rfl, lv, hv⟩ := hs4.ok _ _ hs4.wait
      rw [ew4] at eow
      cases eow
      walk_at "go"
      refine ⟨⟨_, SqL.of ew4⟩, fun D hD => lc_j walk_list (fun _ _ _ _ _ _ y => y) (lt_sz (by omega)) hD (σ0 := [some (.ref st), some (.ref q), some (.int pt), some (.ref tv), u4, none]) rfl (fun i acc _ => acc = (gs1.take i).map fun g => V.str g.2.1) (fun _ _ _ _ _ h => h) rfl (fun H' s => s.seq (SqL.of ew4)) (fun j x acc H' R hx s5 ej k5 => ?_) (fun acc H5 s5 eD eacc lacc => ?_)⟩
      · rw [List.getElem?_map] at hx
        obtain ⟨g, hg, rfl⟩ := Option.map_eq_some_iff.mp hx
        obtain ⟨o', eo', num, due, done, x6, x7, rfl, _⟩ := (hs4.same s5).ok _ _ (hw4.tags g (List.mem_of_getElem? hg))
        have q1 := k5 (some (.str g.2.1)) H' (Same.refl H') (by rw [ej, List.take_add_one, hg]; simp)
        walk_at "go"
        refine ⟨rfl, ?_⟩
        walk_at "go"
        exact q1
      have lenG : (gs1.map fun g => V.ref g.1).length = gs1.length := by simp
      rw [lenG, List.take_length] at eacc
      have s25 := s24.trans s5
      have hs5 := hs4.same s5
      have hw5 := hw4.same s5
      have hf5 := hf4.same hs4 hw4 s5
      have ev5 := s5 _ _ ev4
      refine ⟨D, acc, rfl, .inl (SqL.of eD), rfl, (by rw [eacc]; simp [flatV]), ?_⟩
      have eacc2 : acc = (gs1.map fun g => g.2.1).map V.str := by rw [eacc, List.map_map]; rfl
      subst eacc2
      rw [if_neg (by decide), inV_strs]
      walk_at "go"
      refine i_nDec (fun _ => ?_) (fun nin => ?_)
      · walk_at "go"
        exact skip _ _ _ s25
      walk_at "go"
      refine i_dget2 ?_
      walk_at "go"
      refine i_dget ?_
      walk_at "go"
      refine ⟨st, _, rfl, hs5.gLast, S.last, rfl, ?_⟩
      obtain ⟨o, ela, kla, rfl, lla, hla⟩ := hs5.ok _ _ hs5.last
      refine ⟨.inl ⟨kla, .inl ela⟩, ?_⟩
      walk_at "go"
      refine ⟨_, DGet.k (k := .inr m.name) ela, ?_⟩
      have isI : ∃ i, (valV kla (.inr m.name)).getD (.int (pt - m.gap)) = .int i := by
        cases hv : valV kla (.inr m.name) with
        | none => exact ⟨_, rfl⟩
        | some v =>
          obtain ⟨pr, hpr, _, e2⟩ := valV_mem hv
          obtain ⟨i, e3⟩ := hla pr hpr
          rw [e2] at e3
          exact ⟨i, e3⟩
      obtain ⟨li, eli⟩ := isI
      rw [eli]
      walk_at "go"
      refine i_dec (fun _ => ?_) (fun _ => ?_)
      case refine_2 =>
        walk_at "go"
        exact skip _ _ _ s25
      walk_at "go"
      refine i_dput ?_
      walk_at "go"
      refine i_dget ?_
      walk_at "go"
      refine ⟨st, _, rfl, hs5.gLast, ?_⟩
      walk_at "go"
      refine ⟨S.last, _, rfl, DPut.k (k := .inr m.name) (v := .int pt) ela (lt_sz (by omega)), ?_⟩
      have nlw : S.last ≠ S.wait := fun z => by have := hs5.last; rw [z, hs5.wait] at this; cases this
      have hs6 := hs5.put (B' := B + 2 * i + 1) (Bh' := Bh) hs5.last (by omega) (Nat.le_refl _) (o := .dK (putK kla (.inr m.name) (.int pt))) ⟨_, rfl, (by have := length_putK kla (.inr m.name) (.int pt); omega), fun p hp => (putK_mem hp).elim (fun z => ⟨_, z⟩) (hla p)⟩
      obtain ⟨hw6, hf6⟩ := keep_put hw5 hf5 (o := .dK (putK kla (.inr m.name) (.int pt))) hs5.last (fun _ _ _ z => nomatch z) nlw
      have ntl : tv ≠ S.last := fun z => by rw [z, ela] at ev5; cases ev5
      have ev6 := upd_ne2 (o := .dK (putK kla (.inr m.name) (.int pt))) ntl ev5
      generalize upd H5 S.last (.dK (putK kla (.inr m.name) (.int pt))) = H6 at hs6 hw6 hf6 ev6 ⊢
      walk_at "go"
      refine ⟨ms, H0, B + 2 * i + 1, Bh, τ1, S, st, gs1, m.name, pt, m.gap, m.cost, rfl, hs6, hw6, hf6, ⟨m, hmm, rfl, mok.cost.1, Int.le_refl _⟩, p0, fun hin => ?_, by omega, fun τ' a H' le' hs' hw' hf' => ?_⟩
      · obtain ⟨g, hg, eg⟩ := List.mem_map.mp hin
        exact nin (List.mem_map.mpr ⟨g, hg, congrArg Prod.fst eg⟩)
      · walk_at "go"
        refine ⟨_, _, τ', gs1 ++ [(a, m.name, pt, m.cost)], rfl, le1.trans le', hs'.more (by omega) (Nat.le_refl _), hw', hf', fun g hg => ?_⟩
        rcases List.mem_append.mp hg with z | z
        · exact lt1 g z
        · rw [List.mem_singleton.mp z]
          exact Int.le_refl _
    · rintro σ H1 ⟨u3, u4, τ1, gs1, rfl, le1, hs1, hw1, hf1, lt1⟩
      walk_at "go"
      exact k τ1 gs1 H1 le1 (hs1.more (by omega) (Nat.le_refl _)) hw1 hf1 lt1
end
end K19
namespace K19
open PySem L2
open PyProof.Rows (envOfC)
theorem all2_ex {α β : Type} {R : α → β → Prop} : ∀ {xs : List α}, (∀ x ∈ xs, ∃ y, R x y) → ∃ ys, All2 R xs ys
  | [], _ => ⟨[], All2.nil⟩
  | x :: xs, h => by
    obtain ⟨y, r⟩ := h x List.mem_cons_self
    obtain ⟨ys, rs⟩ := all2_ex fun z hz => h z (List.mem_cons_of_mem _ hz)
    refine ⟨y :: ys, by simp [rs.1], fun i a b h1 h2 => ?_⟩
    cases i with
    | zero =>
      simp at h1 h2
      rw [← h1, ← h2]
      exact r
    | succ i => exact rs.2 i a b (by simpa using h1) (by simpa using h2)
section
variable {ms : List Mem} {T0 : List (Addr × Str)} {H0 H H' : Hp} {B B' Bh Bh' : Nat} {τ : Tags} {S : SA} {st : Addr} {gs : Gs}
theorem i_seqM {a b : TS} {D : Ends} {σ : L2.St} (Pm : L2.St → Hp → Prop) (q : ∀ N : L2.St → Hp → Prop, (∀ σ' H', Pm σ' H' → N σ' H') → a { D with nx := N } σ H) (r : ∀ σ' H', Pm σ' H' → b D σ' H') : tSeq a b D σ H := q (b D) r
theorem Wt.put (w : Wt τ H S gs) {a : Addr} {o : HO} (n : a ≠ S.wait) : Wt τ (upd H a o) S gs := ⟨upd_ne2 (Ne.symm n) w.at_, w.tags, w.nd⟩
theorem Wt.ext (w : Wt τ H S gs) (s : LamX.ExtN H H') : Wt τ H' S gs := ⟨extN_get s w.at_, w.tags, w.nd⟩
theorem Fr.ext (f : Fr H gs) (h : Hs ms T0 H0 B Bh τ S st H) (w : Wt τ H S gs) (s : LamX.ExtN H H') : Fr H' gs := fun g hg n num c due done wt x y e => by
  obtain ⟨o, e1, num', due', done', x', y', rfl, _⟩ := h.ok _ _ (w.tags g hg)
  have e2 := extN_get s e1
  rw [e] at e2
  cases e2
  exact f g hg _ _ _ _ _ _ _ _ e1
end
def trioD (a : Int) (n : Str) (b : Int) : PyData := .list [.int a, .str n, .int b]
theorem shaped_trio {a b : Int} {n : Str} (h : IsName n) : SeqAt.shaped (trioD a n b) = true := by
  have := strOk_name h
  simp [SeqAt.shaped, trioD, PyData.canLay0, PyData.canLayAll0, PyData.depth, PyData.depthAll, this]
section
variable {P : Program} {w : World} {K : PySem.W.Frag} {mg : Str → Option Value} {base : Heap} {T0 : List (Addr × Str)}
def spServe (T0 : List (Addr × Str)) : Sp := fun vs H Q _ => ∃ (ms : List Mem) (H0 : Hp) (B Bh : Nat) (τ : Tags) (S : SA) (st : Addr) (gs : Gs) (q : Addr) (pt : Int), vs = [.ref st, .ref q, .int pt] ∧ Hs ms T0 H0 B Bh τ S st H ∧ Wt τ H S gs ∧ Fr H gs ∧ RowsAt H0 q ms ∧ CrewOk ms ∧
  0 ≤ pt ∧ B ≤ 900000 ∧ Bh ≤ 1000000 ∧
  ∀ τ' H', TagsLe τ τ' → Hs ms T0 H0 (B + 1) (Bh + B) τ' S st H' → Wt τ' H' S gs → Q .non H'
theorem ok_lServe (F : Fx K mg "_law_serve" s_lServe a_lServe) (T : Txt K mg) (C_lChosen : Cal P w K mg base 5 "_law_chosen" a_lChosen (spChosen T0)) (C_lKey : Cal P w K mg base 1 "_law_key" a_lKey spKey) : Cal P w K mg base 6 "_law_serve" a_lServe (spServe T0) := by
  refine cal_of F sc_lServe (fun vs H Q E h => ?_) (fun f cdv A outer s H vs Q E hr h => ?_)
  · obtain ⟨ms, H0, B, Bh, τ, S, st, gs, q, pt, rfl, _⟩ := h
    rfl
  · obtain ⟨ms, H0, B, Bh, τ, S, st, gs, q, pt, rfl, hs, hw, hf, hrow, ok, p0, hB, hBh, k⟩ := h
    have hu : (A.deeper (envOfC "_law_serve" (defScope s_lServe) s.heap.objs.size f cdv)).units + 1 < cLine := by
      have := hr.units
      omega
    have hu64 : (A.deeper (envOfC "_law_serve" (defScope s_lServe) s.heap.objs.size f cdv)).units + 64 < cLine := by
      have := hr.units
      omega
    refine ⟨_, (pss_cons (ps_if (pt_cmpR (op_eqNil hr.units0) (pe_dget hu (pv 0) pe_str (fun _ _ => rfl)) (pe_lst pa_nil) (nomark _))
  (pss_one ps_retN)
  pss_nil)
  (pss_cons (ps_set (i := 3) sc_lServe.nd rfl (Or.inl rfl) (pe_ix ix_tup (pe_cal C_lChosen (hr.mono (by decide)) (pa_cons (pv 1) (pa_cons (pe_dget hu (pv 0) pe_str (fun _ _ => rfl)) pa_nil))) pe_int (fun _ _ => rfl)))
  (pss_cons (ps_for PassesOwn.never rfl (pi_list (pe_dget hu (pv 0) pe_str (fun _ _ => rfl))) (pg_name (i := 4) sc_lServe.nd rfl (Or.inl rfl))
  (pss_one (ps_if (pt_cmpR (op_ltT hr.units0) (pe_cal C_lKey (hr.mono (by decide)) (pa_cons (pv 1) (pa_cons (pv 4) pa_nil))) (pe_cal C_lKey (hr.mono (by decide)) (pa_cons (pv 1) (pa_cons (pv 3) pa_nil))) (nomark _))
  (pss_cons (ps_set (i := 5) sc_lServe.nd rfl (Or.inl rfl) (pe_tup (pa_cons (pe_ix ix_list (pv 4) pe_int (fun _ _ => rfl)) (pa_cons (pe_ix ix_list (pv 4) pe_int (fun _ _ => rfl)) (pa_cons (pe_ix ix_list (pv 3) pe_int (fun _ _ => rfl)) (pa_cons (pe_ix ix_list (pv 3) pe_int (fun _ _ => rfl)) pa_nil))))))
  (pss_one (ps_dput hu (pe_dget hu (pv 0) pe_str (fun _ _ => rfl)) (pv 5) (pe_op op_add (pe_dget2 hu (pe_dget hu (pv 0) pe_str (fun _ _ => rfl)) (pv 5) pe_int ⟨rfl, rfl, rfl, rfl⟩) pe_int) rfl)))
  pss_nil)))
  (pss_cons (ps_if (pt_cmpR op_isN (pe_ix ix_list (pv 3) pe_int (fun _ _ => rfl)) pe_non (nomark _))
  (pss_one (ps_asg (pv 2) (pg_sub (pv 3) pe_int set_list)))
  pss_nil)
  (pss_cons (ps_asg (pe_op op_add (pe_ix ix_list (pv 3) pe_int (fun _ _ => rfl)) pe_int) (pg_sub (pv 3) pe_int set_list))
  (pss_cons (ps_set (i := 6) sc_lServe.nd rfl (Or.inl rfl) (pe_dget2 hu (pe_dget hu (pv 0) pe_str (fun _ _ => rfl)) (pe_ix ix_list (pv 3) pe_int (fun _ _ => rfl)) (pe_lst pa_nil) ⟨rfl, rfl, rfl, rfl⟩))
  (pss_cons (ps_if (pt_cmpR (op_neNil hr.units0) (pv 6) (pe_lst pa_nil) (nomark _))
  (pss_cons (ps_asg (pe_op op_sub (pe_ix ix_list (pe_ix ix_list (pv 6) pe_int (fun _ _ => rfl)) pe_int (fun _ _ => rfl)) pe_int) (pg_sub (pe_ix ix_list (pv 6) pe_int (fun _ _ => rfl)) pe_int set_list))
  (pss_one (ps_if (pt_cmpR op_eq (pe_ix ix_list (pe_ix ix_list (pv 6) pe_int (fun _ _ => rfl)) pe_int (fun _ _ => rfl)) pe_int (nomark _))
  (pss_cons (ps_set (i := 7) sc_lServe.nd rfl (Or.inl rfl) (pe_bm PySem.F.plainAttrs_list PySem.F.slot_list_pop PySem.F.type_list_pop mt_popAt (pv 6) (pa_cons pe_int pa_nil)))
  (pss_one (ps_asg (pe_op op_add (pv 2) pe_int) (pg_sub (pv 7) pe_int set_list))))
  pss_nil)))
  pss_nil)
  (pss_cons (ps_set (i := 8) sc_lServe.nd rfl (Or.inl rfl) (pe_dget hu (pv 0) pe_str (fun _ _ => rfl)))
  (pss_one (ps_if (PW.pt (pw_and (pt_cmpR (op_neNil hr.units0) (pv 8) (pe_lst pa_nil) (nomark _)) (pw_and1 (pt_cmpR (op_eqD hu64) (pe_slice sl_list (pe_ix ix_list (pv 8) (pe_un un_neg pe_int) (fun _ _ => rfl)) (po_some pe_int) po_none) (pe_lst (pa_cons (pv 2) (pa_cons (pe_ix ix_list (pv 3) pe_int (fun _ _ => rfl)) (pa_cons (pe_ix ix_list (pv 3) pe_int (fun _ _ => rfl)) pa_nil)))) (nomark _)))))
  (pss_one (ps_asg (pe_op op_add (pv 2) pe_int) (pg_sub (pe_ix ix_list (pv 8) (pe_un un_neg pe_int) (fun _ _ => rfl)) pe_int set_list)))
  (pss_one (ps_expr (pe_bm PySem.F.plainAttrs_list PySem.F.slot_list_append PySem.F.type_list_append mt_append (pv 8) (pa_cons (pe_lst (pa_cons (pv 2) (pa_cons (pe_op op_add (pv 2) pe_int) (pa_cons (pe_ix ix_list (pv 3) pe_int (fun _ _ => rfl)) (pa_cons (pe_ix ix_list (pv 3) pe_int (fun _ _ => rfl)) pa_nil))))) pa_nil)))))))))))))), ?_⟩
    try dsimp only [cxOf]
    refine at_ [some (.ref st), some (.ref q), some (.int pt), none, none, none, none, none, none] rfl ?_
    walk_at "go"
    refine i_dget ?_
    walk_at "go"
    refine ⟨st, _, rfl, hs.gWait, ?_⟩
    obtain ⟨o, eow, vs, rfl, lv, hv⟩ := hs.ok _ _ hs.wait
    have lgs : gs.length ≤ B := by
      rw [hw.at_] at eow
      cases eow
      simpa using lv
    clear eow lv hv
    walk_at "go"
    refine ⟨le_sz (by simp), fun D1 hD1 => ?_⟩
    have sD1 := same_of_upd (o := .lst []) hD1
    have eD1 := upd_same (H := H) (a := D1) (o := .lst [])
    generalize upd H D1 (.lst []) = H1 at sD1 eD1 ⊢
    have hs1 := hs.same sD1
    have hw1 := hw.same sD1
    have hf1 := hf.same hs hw sD1
    refine ⟨D1, rfl, SqL.of eD1, .inl ⟨S.wait, _, rfl, SqL.of hw1.at_, _, rfl, ?_⟩⟩
    refine i_boo (fun _ => ?_) (fun ne => ?_)
    · walk_at "go"
      exact k τ H1 (TagsLe.refl _) (hs1.more (by omega) (by omega)) hw1
    have nz : gs.map (fun g => V.ref g.1) ≠ [] := fun z => by rw [z] at ne; cases ne
    have jobs : ∀ H', Hs ms T0 H0 B Bh τ S st H' → ∀ g ∈ gs, ∃ j, JobAt H' (.ref g.1) j ∧ j.name = g.2.1 ∧ Has ms j.name := fun H' h g hg => by
      obtain ⟨o', eo', num, due, done, x6, x7, rfl, _, _, _, m, hm, en, _⟩ := h.ok _ _ (hw.tags g hg)
      exact ⟨⟨g.2.1, num, g.2.2.1, due, done, g.2.2.2⟩, ⟨g.1, x6, x7, rfl, eo'⟩, rfl, m, hm, en⟩
    obtain ⟨js, aj⟩ := all2_ex (R := fun v j => JobAt H1 v j ∧ Has ms j.name) (xs := gs.map fun g => V.ref g.1) (fun v hv => by
      obtain ⟨g, hg, rfl⟩ := List.mem_map.mp hv
      obtain ⟨j, a, _, c⟩ := jobs H1 hs1 g hg
      exact ⟨j, a, c⟩)
    walk_at "go"
    refine i_dget ?_
    walk_at "go"
    refine ⟨st, _, rfl, hs1.gWait, ?_⟩
    walk_at "go"
    refine ⟨q, S.wait, ms, _, js, rfl, extN_row hs1.old hrow, ok, hw1.at_, ⟨aj.1, fun i x y a b => (aj.2 i x y a b).1⟩, fun j hj => ?_, nz, by simp; omega, hs1.tabs, fun t wv b H2 x2 tabs2 et hwv => ?_⟩
    · obtain ⟨i, li, ei⟩ := List.mem_iff_getElem.mp hj
      have lx : i < (gs.map fun g => V.ref g.1).length := by rw [aj.1]; exact li
      exact (aj.2 i _ j (List.getElem?_eq_getElem lx) (by rw [List.getElem?_eq_getElem li, ei])).2
    obtain ⟨g0, hg0, rfl⟩ := List.mem_map.mp hwv
    have hs2 := hs1.ext x2 tabs2
    have hw2 := hw1.ext x2
    have hf2 := hf1.ext hs1 hw1 x2
    have tg0 := hw.tags g0 hg0
    have at0 : atI [V.ref g0.1, V.bl b] 0 = some (.ref g0.1) := at_of (j := 0) rfl rfl
    walk_at "go"
    refine i_dget ?_
    walk_at "go"
    refine ⟨st, _, rfl, hs2.gWait, ?_⟩
    walk_at "go"
    refine ⟨⟨_, SqL.of hw2.at_⟩, for_itD walk_list (fun i σ H' => ∃ u4 u5, σ = [some (.ref st), some (.ref q), some (.int pt), some (.ref g0.1), u4, u5, none, none, none] ∧ Hs ms T0 H0 B (Bh + i) τ S st H' ∧ Wt τ H' S gs ∧ Fr H' gs)
      ⟨none, none, rfl, hs2, hw2, hf2⟩ (fun _ _ _ _ ⟨_, _, _, _, h, _⟩ => SqL.of h.at_) ?_ ?_⟩
    · rintro i x σ H3 H4 hi ⟨u4, u5, rfl, hs3, hw3, hf3⟩ ⟨rfl, hx⟩
      rw [List.getElem?_map] at hx
      obtain ⟨g, hg, rfl⟩ := Option.map_eq_some_iff.mp hx
      have hgm := List.mem_of_getElem? hg
      have hi2 : i < gs.length := by simpa using hi
      have job2 : ∀ H', Hs ms T0 H0 B (Bh + i) τ S st H' → ∀ g ∈ gs, ∃ j, JobAt H' (.ref g.1) j ∧ Has ms j.name := fun H' h g hg => by
        obtain ⟨o', eo', num, due, done, x6, x7, rfl, _, _, _, m, hm, en, _⟩ := h.ok _ _ (hw.tags g hg)
        exact ⟨⟨g.2.1, num, g.2.2.1, due, done, g.2.2.2⟩, ⟨g.1, x6, x7, rfl, eo'⟩, m, hm, en⟩
      obtain ⟨jg, ag, gn⟩ := job2 H4 hs3 g hgm
      walk_at "go"
      refine ⟨q, _, ms, jg, rfl, extN_row hs3.old hrow, ok, ag, gn, fun t1 z1 H5 s5 et1 => ?_⟩
      have hs5 := hs3.same s5
      obtain ⟨j0, a0', n0⟩ := job2 H5 hs5 g0 hg0
      walk_at "go"
      refine ⟨q, _, ms, j0, rfl, extN_row hs5.old hrow, ok, a0', n0, fun t2 z2 H6 s6 et2 => ?_⟩
      have hs6 := hs5.same s6
      have s46 := s5.trans s6
      have hw6 := hw3.same s46
      have hf6 := hf3.same hs3 hw3 s46
      refine ⟨t1, t2, [jg.due, z1, jg.comes], [j0.due, z2, j0.comes], rfl, rfl, SqT.of (s6 _ _ et1), SqT.of et2, _, rfl, ?_⟩
      refine i_boo (fun _ => ?_) (fun _ => ?_)
      case refine_2 =>
        walk_at "go"
        exact ⟨_, _, rfl, hs6.more (by omega) (by omega), hw6, hf6⟩
      obtain ⟨o', eo', num, due, done, x6, x7, rfl, _⟩ := hs6.ok _ _ (hw.tags g hgm)
      obtain ⟨o2, eo2, num2, due2, done2, x62, x72, rfl, _⟩ := hs6.ok _ _ tg0
      walk_at "go"
      refine ⟨le_sz (by simp), fun ft hft => ?_⟩
      have sft := same_of_upd (o := .tup [.str g.2.1, .int num, .str g0.2.1, .int num2]) hft
      have eft := upd_same (H := H6) (a := ft) (o := .tup [.str g.2.1, .int num, .str g0.2.1, .int num2])
      have hs7 := hs6.same sft
      have hw7 := hw6.same sft
      have hf7 := hf6.same hs6 hw6 sft
      generalize upd H6 ft (.tup [.str g.2.1, .int num, .str g0.2.1, .int num2]) = H7 at sft eft hs7 hw7 hf7 ⊢
      have eft' : H7 ft = some (.tup ([.inr g.2.1, .inl num, .inr g0.2.1, .inl num2].map kV)) := eft
      obtain ⟨o, eh, kvs, rfl, lk, hk⟩ := hs7.ok _ _ hs7.held
      walk_at "go"
      refine i_dput ?_
      walk_at "go"
      refine i_dget2 ?_
      walk_at "go"
      refine i_dget ?_
      walk_at "go"
      refine ⟨st, _, rfl, hs7.gHeld, S.held, rfl, .inr ⟨kvs, .inl eh⟩, ?_⟩
      walk_at "go"
      refine ⟨_, DGet.t eh eft', ?_⟩
      have isI : ∃ i, (valV kvs [.inr g.2.1, .inl num, .inr g0.2.1, .inl num2]).getD (.int 0) = .int i := by
        cases hv : valV kvs [.inr g.2.1, .inl num, .inr g0.2.1, .inl num2] with
        | none => exact ⟨_, rfl⟩
        | some v =>
          obtain ⟨pr, hpr, _, e2⟩ := valV_mem hv
          obtain ⟨i, e3⟩ := hk pr hpr
          rw [e2] at e3
          exact ⟨i, e3⟩
      obtain ⟨li, eli⟩ := isI
      rw [eli]
      walk_at "go"
      refine i_dget ?_
      walk_at "go"
      refine ⟨st, _, rfl, hs7.gHeld, ?_⟩
      walk_at "go"
      refine ⟨S.held, _, rfl, DPut.t eh eft' (lt_sz (by omega)), ?_⟩
      have nhw : S.held ≠ S.wait := fun z => by have := hs7.held; rw [z, hs7.wait] at this; cases this
      have hs8 := hs7.put (B' := B) (Bh' := Bh + i + 1) hs7.held (Nat.le_refl _) (by omega) (o := .dT (putK kvs [.inr g.2.1, .inl num, .inr g0.2.1, .inl num2] (.int (li + 1)))) ⟨_, rfl, (by have := length_putK kvs [.inr g.2.1, .inl num, .inr g0.2.1, .inl num2] (.int (li + 1)); omega), fun p hp => (putK_mem hp).elim (fun z => ⟨_, z⟩) (hk p)⟩
      obtain ⟨hw8, hf8⟩ := keep_put hw7 hf7 (o := .dT (putK kvs [.inr g.2.1, .inl num, .inr g0.2.1, .inl num2] (.int (li + 1)))) hs7.held (fun _ _ _ z => nomatch z) nhw
      exact ⟨_, _, rfl, hs8, hw8, hf8⟩
    · rintro σ H3 ⟨u4, u5, rfl, hs3, hw3, hf3⟩
      have lenG : (gs.map fun g => V.ref g.1).length = gs.length := by simp
      rw [lenG] at hs3
      have njw : ∀ {a n c w}, τ a = some (.job n c w) → a ≠ S.wait := fun {a n c w} e z => by rw [z, hs.wait] at e; cases e
      refine i_seqM (fun σ' H' => σ' = [some (.ref st), some (.ref q), some (.int pt), some (.ref g0.1), u4, u5, none, none, none] ∧ Hs ms T0 H0 B (Bh + gs.length) τ S st H' ∧ Wt τ H' S gs ∧ ∃ (num due done : Int) (x y : V), H' g0.1 = some (.lst [.str g0.2.1, .int num, .int g0.2.2.1, .int due, .int done, .int g0.2.2.2, x, y]) ∧ 0 ≤ done ∧ done < g0.2.2.2 ∧ 0 ≤ g0.2.2.1 ∧ ∃ m ∈ ms, m.name = g0.2.1 ∧ 1 ≤ g0.2.2.2 ∧ g0.2.2.2 ≤ m.cost) (fun N hN => ?_) ?_
      · obtain ⟨o2, eo2, num2, due2, done2, x62, x72, rfl, d0, dw, rest⟩ := hs3.ok _ _ tg0
        have dlt := hf3 g0 hg0 _ _ _ _ _ _ _ _ eo2
        walk_at "go"
        refine ⟨rfl, ?_⟩
        walk_at "go"
        refine i_dec (fun _ => ?_) (fun _ => ?_)
        · walk_at "go"
          exact hN _ _ ⟨rfl, hs3.put tg0 (Nat.le_refl _) (Nat.le_refl _) ⟨num2, due2, done2, _, x72, rfl, d0, dw, rest⟩, hw3.put (njw tg0), num2, due2, done2, _, x72, upd_same, d0, dlt, rest⟩
        · walk_at "go"
          exact hN _ _ ⟨rfl, hs3, hw3, num2, due2, done2, x62, x72, eo2, d0, dlt, rest⟩
      clear hs3 hw3 hf3
      rintro σ H4 ⟨rfl, hs4, hw4, num, due, done, x6, x7, ej4, d0, dlt, rest⟩
      walk_at "go"
      have hs5 := hs4.put (B' := B) (Bh' := Bh + gs.length) tg0 (Nat.le_refl _) (Nat.le_refl _) (o := .lst [.str g0.2.1, .int num, .int g0.2.2.1, .int due, .int (done + 1), .int g0.2.2.2, x6, x7]) ⟨num, due, done + 1, x6, x7, rfl, by omega, by omega, rest⟩
      have hw5 := hw4.put (o := .lst [.str g0.2.1, .int num, .int g0.2.2.1, .int due, .int (done + 1), .int g0.2.2.2, x6, x7]) (njw tg0)
      have ej5 := upd_same (H := H4) (a := g0.1) (o := .lst [.str g0.2.1, .int num, .int g0.2.2.1, .int due, .int (done + 1), .int g0.2.2.2, x6, x7])
      generalize upd H4 g0.1 (.lst [.str g0.2.1, .int num, .int g0.2.2.1, .int due, .int (done + 1), .int g0.2.2.2, x6, x7]) = H5 at hs5 hw5 ej5 ⊢
      refine i_dget2 ?_
      walk_at "go"
      refine i_dget ?_
      walk_at "go"
      refine ⟨st, _, rfl, hs5.gLines, S.lines, rfl, ?_⟩
      obtain ⟨o, el, kvs, rfl, lk, hk⟩ := hs5.ok _ _ hs5.lines
      refine ⟨.inl ⟨kvs, .inl el⟩, ?_⟩
      walk_at "go"
      refine ⟨le_sz (by simp), fun N hN => ?_⟩
      have tn := hs5.none_tag hN
      have hs6 := hs5.lay (t := .line) (o := .lst []) hN ⟨[], rfl, by simp, (fun _ h => nomatch h)⟩
      have s6 := same_of_upd (o := .lst []) hN
      have le6 := tag_le (t := .line) tn
      have tgn := tag_same (τ := τ) (a := N) (t := .line)
      have hw6 := (hw5.same s6).le le6
      have el6 := s6 _ _ el
      have ej6 := s6 _ _ ej5
      have tj6 := le6 _ _ tg0
      have hk6 : ∀ p ∈ kvs, RefTo (tag τ N .line) .line p.2 := fun p hp => (hk p hp).le le6
      generalize upd H5 N (.lst []) = H6 at hs6 s6 hw6 el6 ej6 ⊢
      generalize tag τ N .line = τ6 at hs6 le6 tgn hw6 tj6 hk6
      refine ⟨_, DGet.k (k := .inr g0.2.1) el6, ?_⟩
      have isL : ∃ la, (valV kvs (.inr g0.2.1)).getD (.ref N) = .ref la ∧ τ6 la = some .line := by
        cases hv : valV kvs (.inr g0.2.1) with
        | none => exact ⟨N, rfl, tgn⟩
        | some v =>
          obtain ⟨pr, hpr, _, e2⟩ := valV_mem hv
          obtain ⟨la, e3, tl⟩ := hk6 pr hpr
          rw [e2] at e3
          exact ⟨la, e3, tl⟩
      obtain ⟨la, ela, tla⟩ := isL
      rw [ela]
      (with_reducible apply K19.i_name)
      (case h => walk_at "ls")
      refine i_seqM (fun σ' H' => ∃ u7, σ' = [some (.ref st), some (.ref q), some (.int pt), some (.ref g0.1), u4, u5, some (.ref la), u7, none] ∧ Hs ms T0 H0 B (Bh + gs.length) τ6 S st H' ∧ Wt τ6 H' S gs ∧ H' g0.1 = some (.lst [.str g0.2.1, .int num, .int g0.2.2.1, .int due, .int (done + 1), .int g0.2.2.2, x6, x7])) (fun N hN => ?_) ?_
      · obtain ⟨o, evl, vl, rfl, lvl, hvl⟩ := hs6.ok _ _ tla
        walk_at "go"
        refine ⟨le_sz (by simp), fun D2 hD2 => ?_⟩
        have sD2 := same_of_upd (o := .lst []) hD2
        have eD2 := upd_same (H := H6) (a := D2) (o := .lst [])
        have hs7 := hs6.same sD2
        have hw7 := hw6.same sD2
        have ej7 := sD2 _ _ ej6
        have evl7 := sD2 _ _ evl
        generalize upd H6 D2 (.lst []) = H7 at sD2 eD2 hs7 hw7 ej7 evl7 ⊢
        refine ⟨D2, la, vl, rfl, SqL.of eD2, rfl, SqL.of evl7, _, rfl, ?_⟩
        refine i_boo (fun hne => ?_) (fun _ => ?_)
        case refine_2 =>
          walk_at "go"
          exact hN _ _ ⟨_, rfl, hs7, hw7, ej7⟩
        obtain ⟨v0, vr, ev0⟩ : ∃ v r, vl = v :: r := by
          cases vl with
          | nil => cases hne
          | cons v r => exact ⟨v, r, rfl⟩
        subst ev0
        obtain ⟨ca, rfl, tca⟩ := hvl v0 List.mem_cons_self
        obtain ⟨o, eca, n', b1, b2, b3, x', b4, rfl⟩ := hs7.ok _ _ tca
        have av : atI (V.ref ca :: vr) 0 = some (.ref ca) := at_of (j := 0) rfl rfl
        have ncw : ca ≠ S.wait := fun z => by have := hs7.wait; rw [← z, tca] at this; cases this
        have ncj : g0.1 ≠ ca := fun z => by rw [z, tca] at tj6; cases tj6
        have ncl : la ≠ ca := fun z => by rw [z, tca] at tla; cases tla
        have nlw : la ≠ S.wait := fun z => by have := hs7.wait; rw [← z, tla] at this; cases this
        have nlj : g0.1 ≠ la := fun z => by rw [z, tla] at tj6; cases tj6
        walk_at "go"
        have hs8 := hs7.put (B' := B) (Bh' := Bh + gs.length) tca (Nat.le_refl _) (Nat.le_refl _) (o := .lst [.str n', .int b1, .int b2, .int b3, x', .int (b4 - 1)]) ⟨_, _, _, _, _, _, rfl⟩
        have hw8 := hw7.put (o := .lst [.str n', .int b1, .int b2, .int b3, x', .int (b4 - 1)]) ncw
        have ej8 := upd_ne2 (o := .lst [.str n', .int b1, .int b2, .int b3, x', .int (b4 - 1)]) ncj ej7
        have evl8 := upd_ne2 (o := .lst [.str n', .int b1, .int b2, .int b3, x', .int (b4 - 1)]) ncl evl7
        have eca8 := upd_same (H := H7) (a := ca) (o := .lst [.str n', .int b1, .int b2, .int b3, x', .int (b4 - 1)])
        generalize upd H7 ca (.lst [.str n', .int b1, .int b2, .int b3, x', .int (b4 - 1)]) = H8 at hs8 hw8 ej8 evl8 eca8 ⊢
        walk_at "go"
        refine i_dec (fun _ => ?_) (fun _ => ?_)
        case refine_2 =>
          walk_at "go"
          exact hN _ _ ⟨_, rfl, hs8, hw8, ej8⟩
        walk_at "go"
        refine ⟨.inl ⟨rfl, _, SqL.of evl8⟩, ?_⟩
        walk_at "go"
        refine ⟨la, _, 0, 0, .ref ca, rfl, rfl, evl8, by decide, by decide, by simp [seqIndex?], rfl, ?_⟩
        have hs9 := hs8.put (B' := B) (Bh' := Bh + gs.length) tla (Nat.le_refl _) (Nat.le_refl _) (o := .lst vr) ⟨_, rfl, (by simp at lvl; omega), fun v hv => hvl v (List.mem_cons_of_mem _ hv)⟩
        have hw9 := hw8.put (o := .lst vr) nlw
        have ej9 := upd_ne2 (o := .lst vr) nlj ej8
        have eca9 := upd_ne2 (o := .lst vr) (Ne.symm ncl) eca8
        have ee : (V.ref ca :: vr).eraseIdx 0 = vr := rfl
        rw [ee]
        generalize upd H8 la (.lst vr) = H9 at hs9 hw9 ej9 eca9 ⊢
        walk_at "go"
        exact hN _ _ ⟨_, rfl, hs9.put tca (Nat.le_refl _) (Nat.le_refl _) ⟨_, _, _, _, _, _, rfl⟩, hw9.put ncw, upd_ne2 ncj ej9⟩
      rintro σ H7 ⟨u7, rfl, hs7, hw7, ej7⟩
      walk_at "go"
      refine i_dget ?_
      walk_at "go"
      refine ⟨st, _, rfl, hs7.gPieces, ?_⟩
      obtain ⟨o, ep, ps, rfl, lp, hp⟩ := hs7.ok _ _ hs7.pieces
      have nm : IsName g0.2.1 := by
        obtain ⟨_, m, hm, en, _⟩ := rest
        rw [← en]
        exact (ok.each m hm).name
      have npw : S.pieces ≠ S.wait := fun z => by have := hs7.wait; rw [← z, hs7.pieces] at this; cases this
      have npj : g0.1 ≠ S.pieces := fun z => by rw [z, hs7.pieces] at tj6; cases tj6
      have finA : ∀ H', Same H7 H' → ∀ N, H' N = none → ∀ Q' : Hp → Prop, (∀ τ' H', TagsLe τ τ' → Hs ms T0 H0 (B + 1) (Bh + B) τ' S st H' → Wt τ' H' S gs → Q' H') →
          Q' (upd (upd H' N (.lst [.int pt, .int (pt + 1), .str g0.2.1, .int num])) S.pieces (.lst (ps ++ [.ref N]))) := fun H8 s8 N hN Q' kq => by
        have hs8 := hs7.same s8
        have tn := hs8.none_tag hN
        have hs9 := hs8.lay (t := .piece) (o := .lst [.int pt, .int (pt + 1), .str g0.2.1, .int num]) hN ⟨_, _, _, _, rfl, nm⟩
        have le9 := tag_le (t := .piece) tn
        have hw9 := ((hw7.same s8).same (same_of_upd (o := .lst [.int pt, .int (pt + 1), .str g0.2.1, .int num]) hN)).le le9
        exact kq _ _ (le6.trans le9) (hs9.put (B' := B + 1) (Bh' := Bh + B) hs9.pieces (by omega) (by omega) ⟨_, rfl, (by simp; omega), fun v hv => (List.mem_append.mp hv).elim (fun z => (hp v z).le le9) (fun z => by rw [List.mem_singleton.mp z]; exact ⟨N, rfl, tag_same⟩)⟩) (hw9.put npw)
      walk_at "go"
      refine ⟨le_sz (by simp), fun D2 hD2 => ?_⟩
      have sD2 := same_of_upd (o := .lst []) hD2
      have eD2 := upd_same (H := H7) (a := D2) (o := .lst [])
      have ej8 := sD2 _ _ ej7
      have ep8 := sD2 _ _ ep
      generalize upd H7 D2 (.lst []) = H8 at sD2 eD2 ej8 ep8 ⊢
      refine ⟨D2, S.pieces, ps, rfl, SqL.of eD2, rfl, SqL.of ep8, _, rfl, ?_⟩
      have add : ∀ H9, Same H7 H9 → H9 g0.1 = some (.lst [.str g0.2.1, .int num, .int g0.2.2.1, .int due, .int (done + 1), .int g0.2.2.2, x6, x7]) → H9 S.pieces = some (.lst ps) → tDrop (tBM K "list" rAppend (tVar 8) (tCons (tLst (tCons (tVar 2) (tCons (tOp (rI0 fun i j => V.int (i + j)) (tVar 2) (tC (V.int 1))) (tCons (tOp (rIxL K) (tVar 3) (tC (V.int 0))) (tCons (tOp (rIxL K) (tVar 3) (tC (V.int 1))) tNil))))) tNil)) { nx := fun x H' => Q V.non H', rt := Q } [some (.ref st), some (.ref q), some (.int pt), some (.ref g0.1), u4, u5, some (.ref la), u7, some (.ref S.pieces)] H9 := fun H9 s9 ej9 ep9 => by
        walk_at "go"
        refine ⟨.inl ⟨rfl, _, SqL.of ep9⟩, ?_⟩
        walk_at "go"
        refine ⟨le_sz (by simp), fun N hN => ?_⟩
        have ep10 := upd_ne2 (o := .lst [.int pt, .int (pt + 1), .str g0.2.1, .int num]) (ne_of_none ep9 hN) ep9
        have fin := finA H9 s9 N hN (fun H' => Q .non H') k
        generalize upd H9 N (.lst [.int pt, .int (pt + 1), .str g0.2.1, .int num]) = H10 at ep10 fin ⊢
        walk_at "go"
        refine i_append ep10 (lt_sz (by omega)) ?_
        walk_at "go"
        exact fin
      refine i_boo (fun hne => ?_) (fun _ => ?_)
      case refine_2 => exact add H8 sD2 ej8 ep8
      obtain ⟨pi, v0, epi⟩ : ∃ i v, ps = i ++ [v] := by
        rcases List.eq_nil_or_concat ps with h | ⟨i, v, h⟩
        · rw [h] at hne
          cases hne
        · exact ⟨i, v, by rw [h, List.concat_eq_append]⟩
      have ml : v0 ∈ ps := by rw [epi]; simp
      have al : atI ps (-1) = some v0 := by rw [epi]; exact at_last pi v0
      obtain ⟨pa, rfl, tpa⟩ := hp v0 ml
      have hs8 := hs7.same sD2
      have hw8 := hw7.same sD2
      obtain ⟨o, epa, pb, pc, pn, pd, rfl, pnm⟩ := hs8.ok _ _ tpa
      have npw2 : pa ≠ S.wait := fun z => by have := hs7.wait; rw [← z, tpa] at this; cases this
      walk_at "go"
      intro sl hsl
      have ssl := same_of_upd (o := .lst (cutV [.int pb, .int pc, .str pn, .int pd] (some 1) none)) hsl
      have esl := upd_same (H := H8) (a := sl) (o := .lst (cutV [.int pb, .int pc, .str pn, .int pd] (some 1) none))
      rw [cut_tail] at ssl esl ⊢
      have ej9 := ssl _ _ ej8
      have ep9 := ssl _ _ ep8
      generalize upd H8 sl (.lst ([V.int pb, .int pc, .str pn, .int pd].drop 1)) = H9 at ssl esl ej9 ep9 ⊢
      walk_at "go"
      refine ⟨le_sz (by simp), fun tr htr => ?_⟩
      have str_ := same_of_upd (o := .lst [.int pt, .str g0.2.1, .int num]) htr
      have etr := upd_same (H := H9) (a := tr) (o := .lst [.int pt, .str g0.2.1, .int num])
      have ej10 := str_ _ _ ej9
      have ep10 := str_ _ _ ep9
      have esl10 := str_ _ _ esl
      have s10 := ssl.trans str_
      generalize upd H9 tr (.lst [.int pt, .str g0.2.1, .int num]) = H10 at str_ etr ej10 ep10 esl10 s10 ⊢
      refine ⟨trioD pc pn pd, trioD pt g0.2.1 num, .lst (SqL.of esl10) (.cons (.int _) (.cons (.str _) (.cons (.int _) .nil))), .lst (SqL.of etr) (.cons (.int _) (.cons (.str _) (.cons (.int _) .nil))), shaped_trio pnm, shaped_trio nm, _, rfl, ?_⟩
      refine i_boo (fun _ => ?_) (fun _ => ?_)
      case refine_2 => exact add H10 (sD2.trans s10) ej10 ep10
      have epa10 := s10 _ _ epa
      have hs10 := hs8.same s10
      have hw10 := hw8.same s10
      walk_at "go"
      exact k τ6 _ le6 (hs10.put (B' := B + 1) (Bh' := Bh + B) tpa (by omega) (by omega) ⟨_, _, _, _, rfl, pnm⟩) (hw10.put npw2)
end
end K19
namespace K19
open PySem L2
open PyProof.Rows (envOfC)
section
variable {ms : List Mem} {T0 : List (Addr × Str)} {H0 H H' : Hp} {B B' Bh Bh' : Nat} {τ : Tags} {S : SA} {st : Addr} {gs : Gs}
/-- the state in the making -/
structure Pre (ms : List Mem) (H0 : Hp) (τ : Tags) (st : Addr) (H : Hp) : Prop where
  old : Same H0 H
  new : ∀ a t, τ a = some t → H0 a = none
  ok : ∀ a t, τ a = some t → ∃ o, H a = some o ∧ Shp ms τ 0 0 t o
  stn : H0 st = none
  stt : τ st = none
  sts : H st = some (.dK [])
theorem Pre.lay (h : Pre ms H0 τ st H) {a : Addr} {t : Tg} {o : HO} (n : H a = none) (s : Shp ms (tag τ a t) 0 0 t o) : Pre ms H0 (tag τ a t) st (upd H a o) ∧ TagsLe τ (tag τ a t) ∧ tag τ a t a = some t := by
  have nt : τ a = none := by
    cases e : τ a with
    | none => rfl
    | some u =>
      obtain ⟨o', e1, _⟩ := h.ok a u e
      rw [n] at e1
      cases e1
  have le := tag_le (t := t) nt
  refine ⟨⟨h.old.trans (same_of_upd n), fun c u hc => ?_, fun c u hc => ?_, h.stn, ?_, ?_⟩, le, tag_same⟩
  · rcases tag_inv hc with ⟨rfl, _⟩ | ⟨_, hc⟩
    · cases e : H0 c with
      | none => rfl
      | some v =>
        have := h.old _ _ e
        rw [n] at this
        cases this
    · exact h.new c u hc
  · rcases tag_inv hc with ⟨rfl, rfl⟩ | ⟨ne, hc⟩
    · exact ⟨o, upd_same, s⟩
    · obtain ⟨o2, e2, s2⟩ := h.ok c u hc
      exact ⟨o2, upd_ne2 ne e2, s2.le le (Nat.le_refl _) (Nat.le_refl _)⟩
  · unfold tag
    rw [if_neg (fun z => by have := h.sts; rw [z, n] at this; cases this)]
    exact h.stt
  · exact upd_ne2 (fun z => by have := h.sts; rw [z, n] at this; cases this) h.sts
theorem Pre.done (h : Pre ms H0 τ st H) (t0 : LamX.Tabs T0 H0) (w : τ S.wait = some .jobs) (l : τ S.lines = some .lines) (la : τ S.last = some .last) (wo : τ S.works = some .jobs) (co : τ S.comers = some .comers) (he : τ S.held = some .held) (pi : τ S.pieces = some .pieces) (ne : S.wait ≠ S.works) :
    Hs ms T0 H0 0 0 τ S st (upd H st (.dK (stK S))) := by
  refine ⟨fun c u hc _ => same_in_upd h.old h.stn _ _ hc, t0.ext (same_in_upd h.old h.stn), fun a t e o eo => ?_, fun a t e => ?_, fun o eo => ?_, h.stt, upd_same, w, l, la, wo, co, he, pi, ne⟩
  · rw [h.new a t e] at eo
    cases eo
  · obtain ⟨o, e1, s⟩ := h.ok a t e
    exact ⟨o, upd_ne2 (fun z => by rw [z, h.stt] at e; cases e) e1, s⟩
  · rw [h.stn] at eo
    cases eo
end
theorem merge_st {a b c d e f g : Addr} {x : V} : mergeK [] [((.inr "wait" : Key), .ref a), (.inr "lines", .ref b), (.inr "last", .ref c), (.inr "works", .ref d), (.inr "comers", .ref e), (.inr "held", .ref f), (.inr "pieces", .ref g), (.inr "end", x)] = stK ⟨a, b, c, d, e, f, g, x⟩ := by rfl
theorem i_disp {trs : List (TE × TE)} {σ : L2.St} {H : Hp} {Q : VK} (q : ∀ p, H p = none → tPairs trs σ (upd H p (.dK [])) fun ps H2 => H2 p = some (.dK []) ∧ ∃ kvs : List (Key × V), ps = kvs.map (fun kv => (kV kv.1, kv.2)) ∧ kvs.length ≤ 15 ∧ Q (.ref p) (upd H2 p (.dK (mergeK [] kvs)))) : tDisp trs σ H Q := q
theorem i_pc {tk tv : TE} {r : List (TE × TE)} {σ : L2.St} {H : Hp} {Q : List (V × V) → Hp → Prop} (q : tk σ H fun x H1 => tv σ H1 fun y H2 => tPairs r σ H2 fun ps H3 => Q ((x, y) :: ps) H3) : tPairs ((tk, tv) :: r) σ H Q := q
theorem i_pn {σ : L2.St} {H : Hp} {Q : List (V × V) → Hp → Prop} (q : Q [] H) : tPairs [] σ H Q := q
theorem i_dnewT {H : Hp} {σ : L2.St} {Q : VK} (q : ∀ p, H p = none → Q (.ref p) (upd H p (.dT []))) : tDNewT σ H Q := q
theorem i_while {c : TT} {tb : TS} {D : Ends} {σ : L2.St} {H : Hp} (W : Nat → L2.St → Hp → Prop) (m : Nat) (w : W m σ H) (h : ∀ m σ H, W m σ H → c σ H fun b H1 => if b = true then ∃ N : L2.St → Hp → Prop, (∀ σ' H', N σ' H' → ∃ m', m' < m ∧ W m' σ' H') ∧ tb { D with nx := N, ct := N, bk := D.nx } σ H1 else D.nx σ H1) : tWhile c tb D σ H := ⟨W, ⟨m, w⟩, h⟩
section
variable {P : Program} {w : World} {K : PySem.W.Frag} {mg : Str → Option Value} {base : Heap} {T0 : List (Addr × Str)}
def spNever : Sp := fun _ _ _ _ => False
theorem ok_lIsOver (F : Fx K mg "_law_is_over" s_lIsOver a_lIsOver) : Cal P w K mg base 1 "_law_is_over" a_lIsOver spNever := cal_of F sc_lIsOver (fun _ _ _ _ h => h.elim) (fun _ _ _ _ _ _ _ _ _ _ h => h.elim)
/-- a work that waits, done so far -/
def WaitAt (ms : List Mem) (H : Hp) (g : Addr × Str × Int × Int) (d : Int) : Prop := ∃ (num due : Int) (x y : V), H g.1 = some (.lst [.str g.2.1, .int num, .int g.2.2.1, .int due, .int d, .int g.2.2.2, x, y]) ∧ 0 ≤ d ∧ d < g.2.2.2 ∧ 0 ≤ g.2.2.1 ∧ g.2.2.1 ≤ 40 ∧ ∃ m ∈ ms, m.name = g.2.1 ∧ g.2.2.2 ≤ m.cost
def spRun (T0 : List (Addr × Str)) : Sp := fun vs H Q _ => ∃ (ms : List Mem) (q l : Addr) (cs : List V) (ks : List Wk) (stop : Int), vs = [.ref q, .ref l, .int stop] ∧ RowsAt H q ms ∧ CrewOk ms ∧ H l = some (.lst cs) ∧ All2 (WorkT H) cs ks ∧ CgsOk ms ks ∧ 1 ≤ stop ∧ stop ≤ 40 ∧ LamX.Tabs T0 H ∧
  ∀ st wa (gs : Gs) H', LamX.ExtN H H' → LamX.Tabs T0 H' → DGet H' st (.str "wait") (some (.ref wa)) → H' wa = some (.lst (gs.map fun g => V.ref g.1)) → (∀ g ∈ gs, ∃ d, WaitAt ms H' g d) → (gs.map gkey).Nodup → gs.length ≤ 19000 → Q (.ref st) H'
theorem ok_lRun (F : Fx K mg "_law_run" s_lRun a_lRun) (T : Txt K mg) (C_lEnds : Cal P w K mg base 1 "_law_ends" a_lEnds (spEnds T0)) (C_lIsOver : Cal P w K mg base 1 "_law_is_over" a_lIsOver spNever) (C_lCome : Cal P w K mg base 2 "_law_come" a_lCome (spCome T0))
    (C_lPortions : Cal P w K mg base 2 "_law_portions" a_lPortions (spPortions T0)) (C_lServe : Cal P w K mg base 6 "_law_serve" a_lServe (spServe T0)) : Cal P w K mg base 7 "_law_run" a_lRun (spRun T0) := by
  refine cal_of F sc_lRun (fun vs H Q E h => ?_) (fun f cdv A outer s H vs Q E hr h => ?_)
  · obtain ⟨ms, q, l, cs, ks, stop, rfl, _⟩ := h
    rfl
  · obtain ⟨ms, q, l, cs, ks, stop, rfl, hrow, ok, el, ca, cg, s1, s40, tabs, k⟩ := h
    have hu : (A.deeper (envOfC "_law_run" (defScope s_lRun) s.heap.objs.size f cdv)).units + 1 < cLine := by
      have := hr.units
      omega
    refine ⟨_, (pss_cons (ps_set (i := 3) sc_lRun.nd rfl (Or.inl rfl) (pe_disp (pps_cons pe_str (pe_lst pa_nil) (pps_cons pe_str pe_dnewK (pps_cons pe_str pe_dnewK (pps_cons pe_str (pe_lst pa_nil) (pps_cons pe_str (pe_lst pa_nil) (pps_cons pe_str pe_dnewT (pps_cons pe_str (pe_lst pa_nil) (pps_cons pe_str pe_int pps_nil)))))))) rfl rfl (fun z => nomatch z) (by decide)))
  (pss_cons (ps_set (i := 4) sc_lRun.nd rfl (Or.inl rfl) pe_int)
  (pss_one (ps_while PassesOwn.never (pt_val pe_bl)
  (pss_cons (ps_expr (pe_cal C_lEnds (hr.mono (by decide)) (pa_cons (pv 3) (pa_cons (pv 4) pa_nil))))
  (pss_cons (ps_if (PW.pt (pw_or (pt_cmpR op_eq (pv 4) (pv 2) (nomark _)) (pw_or1 (PW.pt (pw_and (pt_cmpR op_isN (pv 2) pe_non (nomark _)) (pw_and1 (pt_val (pe_cal C_lIsOver (hr.mono (by decide)) (pa_cons (pv 3) (pa_cons (pv 1) (pa_cons (pv 4) pa_nil)))))))))))
  (pss_cons (ps_dput hu (pv 3) pe_str (pv 4) rfl)
  (pss_one (ps_ret (pv 3))))
  pss_nil)
  (pss_cons (ps_expr (pe_cal C_lCome (hr.mono (by decide)) (pa_cons (pv 3) (pa_cons (pv 0) (pa_cons (pv 1) (pa_cons (pv 4) pa_nil))))))
  (pss_cons (ps_expr (pe_cal C_lPortions (hr.mono (by decide)) (pa_cons (pv 3) (pa_cons (pv 0) (pa_cons (pv 4) pa_nil)))))
  (pss_cons (ps_expr (pe_cal C_lServe (hr.mono (by decide)) (pa_cons (pv 3) (pa_cons (pv 0) (pa_cons (pv 4) pa_nil)))))
  (pss_one (ps_set (i := 4) sc_lRun.nd rfl (Or.inl rfl) (pe_op op_add (pv 4) pe_int)))))))))))), ?_⟩
    try dsimp only [cxOf]
    refine at_ [some (.ref q), some (.ref l), some (.int stop), none, none] rfl ?_
    walk_at "go"
    refine i_disp fun st hst => ?_
    have P0 : Pre ms H (fun _ => none) st (upd H st (.dK [])) := ⟨same_of_upd hst, (fun _ _ h => nomatch h), (fun _ _ h => nomatch h), hst, rfl, upd_same⟩
    generalize upd H st (.dK []) = H1 at P0 ⊢
    refine i_pc ?_
    walk_at "go"
    refine ⟨le_sz (by simp), fun a1 ha1 => ?_⟩
    obtain ⟨P1, le1, t1⟩ := P0.lay (t := .jobs) (o := .lst []) ha1 ⟨_, rfl, (by simp), (fun _ h => nomatch h)⟩
    have ew := upd_same (H := H1) (a := a1) (o := .lst [])
    generalize upd H1 a1 (.lst []) = H2 at P1 ew ⊢
    generalize tag (fun _ => none) a1 .jobs = τ1 at P1 t1 le1
    refine i_pc ?_
    walk_at "go"
    refine i_dnewK fun a2 ha2 => ?_
    obtain ⟨P2, le2, t2⟩ := P1.lay (t := .lines) (o := .dK []) ha2 ⟨_, rfl, (by simp), (fun _ h => nomatch h)⟩
    replace t1 := le2 _ _ t1
    replace ew := same_of_upd (o := .dK []) ha2 _ _ ew
    generalize upd H2 a2 (.dK []) = H3 at P2 ew ⊢
    generalize tag τ1 a2 .lines = τ2 at P2 t2 t1 le2
    refine i_pc ?_
    walk_at "go"
    refine i_dnewK fun a3 ha3 => ?_
    obtain ⟨P3, le3, t3⟩ := P2.lay (t := .last) (o := .dK []) ha3 ⟨_, rfl, (by simp), (fun _ h => nomatch h)⟩
    replace t1 := le3 _ _ t1
    replace t2 := le3 _ _ t2
    replace ew := same_of_upd (o := .dK []) ha3 _ _ ew
    generalize upd H3 a3 (.dK []) = H4 at P3 ew ⊢
    generalize tag τ2 a3 .last = τ3 at P3 t3 t1 t2 le3
    refine i_pc ?_
    walk_at "go"
    refine ⟨le_sz (by simp), fun a4 ha4 => ?_⟩
    have ne14 : a1 ≠ a4 := fun z => by obtain ⟨o, eo, _⟩ := P3.ok _ _ t1; rw [z, ha4] at eo; cases eo
    obtain ⟨P4, le4, t4⟩ := P3.lay (t := .jobs) (o := .lst []) ha4 ⟨_, rfl, (by simp), (fun _ h => nomatch h)⟩
    replace t1 := le4 _ _ t1
    replace t2 := le4 _ _ t2
    replace t3 := le4 _ _ t3
    replace ew := same_of_upd (o := .lst []) ha4 _ _ ew
    generalize upd H4 a4 (.lst []) = H5 at P4 ew ⊢
    generalize tag τ3 a4 .jobs = τ4 at P4 t4 t1 t2 t3 le4
    refine i_pc ?_
    walk_at "go"
    refine ⟨le_sz (by simp), fun a5 ha5 => ?_⟩
    obtain ⟨P5, le5, t5⟩ := P4.lay (t := .comers) (o := .lst []) ha5 ⟨_, rfl, (by simp), (fun _ h => nomatch h)⟩
    replace t1 := le5 _ _ t1
    replace t2 := le5 _ _ t2
    replace t3 := le5 _ _ t3
    replace t4 := le5 _ _ t4
    replace ew := same_of_upd (o := .lst []) ha5 _ _ ew
    generalize upd H5 a5 (.lst []) = H6 at P5 ew ⊢
    generalize tag τ4 a5 .comers = τ5 at P5 t5 t1 t2 t3 t4 le5
    refine i_pc ?_
    walk_at "go"
    refine i_dnewT fun a6 ha6 => ?_
    obtain ⟨P6, le6, t6⟩ := P5.lay (t := .held) (o := .dT []) ha6 ⟨_, rfl, (by simp), (fun _ h => nomatch h)⟩
    replace t1 := le6 _ _ t1
    replace t2 := le6 _ _ t2
    replace t3 := le6 _ _ t3
    replace t4 := le6 _ _ t4
    replace t5 := le6 _ _ t5
    replace ew := same_of_upd (o := .dT []) ha6 _ _ ew
    generalize upd H6 a6 (.dT []) = H7 at P6 ew ⊢
    generalize tag τ5 a6 .held = τ6 at P6 t6 t1 t2 t3 t4 t5 le6
    refine i_pc ?_
    walk_at "go"
    refine ⟨le_sz (by simp), fun a7 ha7 => ?_⟩
    obtain ⟨P7, le7, t7⟩ := P6.lay (t := .pieces) (o := .lst []) ha7 ⟨_, rfl, (by simp), (fun _ h => nomatch h)⟩
    replace t1 := le7 _ _ t1
    replace t2 := le7 _ _ t2
    replace t3 := le7 _ _ t3
    replace t4 := le7 _ _ t4
    replace t5 := le7 _ _ t5
    replace t6 := le7 _ _ t6
    replace ew := same_of_upd (o := .lst []) ha7 _ _ ew
    generalize upd H7 a7 (.lst []) = H8 at P7 ew ⊢
    generalize tag τ6 a7 .pieces = τ7 at P7 t7 t1 t2 t3 t4 t5 t6 le7
    refine i_pc ?_
    walk_at "go"
    refine i_pn ?_
    refine ⟨P7.sts, [(.inr "wait", .ref a1), (.inr "lines", .ref a2), (.inr "last", .ref a3), (.inr "works", .ref a4), (.inr "comers", .ref a5), (.inr "held", .ref a6), (.inr "pieces", .ref a7), (.inr "end", .int 0)], rfl, (by simp), ?_⟩
    have hs0 := P7.done (S := ⟨a1, a2, a3, a4, a5, a6, a7, .int 0⟩) tabs t1 t2 t3 t4 t5 t6 t7 ne14
    have ew0 : (upd H8 st (.dK (stK ⟨a1, a2, a3, a4, a5, a6, a7, .int 0⟩))) a1 = some (.lst []) := upd_ne2 (fun z => by have := P7.sts; rw [← z, ew] at this; cases this) ew
    rw [merge_st]
    have hw0 : Wt τ7 (upd H8 st (.dK (stK ⟨a1, a2, a3, a4, a5, a6, a7, .int 0⟩))) ⟨a1, a2, a3, a4, a5, a6, a7, .int 0⟩ [] := ⟨ew0, (fun _ h => nomatch h), by simp⟩
    clear ew0
    generalize (⟨a1, a2, a3, a4, a5, a6, a7, .int 0⟩ : SA) = S0 at hs0 hw0 ⊢
    generalize upd H8 st (.dK (stK S0)) = Hb at hs0 hw0 ⊢
    clear P7 t1 t2 t3 t4 t5 t6 t7 ew
    walk_at "go"
    refine i_while (fun m σ H' => ∃ (p : Nat) (τ : Tags) (S : SA) (gs : Gs), m = 40 - p ∧ p ≤ stop.toNat ∧ σ = [some (.ref q), some (.ref l), some (.int stop), some (.ref st), some (.int (p : Nat))] ∧ Hs ms T0 H (217 * p) (10000 * p) τ S st H' ∧ Wt τ H' S gs ∧ ∀ g ∈ gs, g.2.2.1 < (p : Nat)) 40 ⟨0, τ7, S0, [], rfl, Nat.zero_le _, rfl, hs0, hw0, (fun _ h => nomatch h)⟩ ?_
    rintro m σ H1 ⟨p, τ, S, gs, rfl, hp, rfl, hs, hw, lt⟩
    walk_at "go"
    refine ⟨fun σ' H' => ∃ (τ : Tags) (S : SA) (gs : Gs), p + 1 ≤ stop.toNat ∧ σ' = [some (.ref q), some (.ref l), some (.int stop), some (.ref st), some (.int ((p + 1 : Nat)))] ∧ Hs ms T0 H (217 * (p + 1)) (10000 * (p + 1)) τ S st H' ∧ Wt τ H' S gs ∧ ∀ g ∈ gs, g.2.2.1 < ((p + 1 : Nat) : Int), fun σ' H' ⟨τ', S', gs', a, b, c⟩ => ⟨40 - (p + 1), by omega, p + 1, τ', S', gs', rfl, a, b, c⟩, ?_⟩
    walk_at "go"
    refine ⟨ms, H, 217 * p, 10000 * p, τ, S, st, gs, (p : Nat), rfl, hs, hw, by omega, fun τ2 S2 gs2 H2 le2 hs2 hw2 hf2 sub => ?_⟩
    have lt2 : ∀ g ∈ gs2, g.2.2.1 < (p : Nat) := fun g hg => lt g (sub.subset hg)
    walk_at "go"
    refine i_dec (fun ep => ?_) (fun np => ?_)
    · walk_at "go"
      refine i_dput ?_
      walk_at "go"
      have e4 : DPut H2 st (.str "end") (.int (p : Nat)) (upd H2 st (.dK (stK { S2 with fin := .int (p : Nat) }))) := DPut.k (k := .inr "end") (v := .int (p : Nat)) hs2.sth (lt_sz (by show 8 ≤ _; omega))
      refine ⟨st, _, rfl, e4, ?_⟩
      have hs3 := hs2.setSt (S' := { S2 with fin := .int (p : Nat) }) rfl hs2.wait hs2.ne
      have ew3 := upd_ne2 (o := .dK (stK { S2 with fin := .int (p : Nat) })) (hs2.neSt hs2.wait) hw2.at_
      have ej3 : ∀ g ∈ gs2, ∃ d, WaitAt ms (upd H2 st (.dK (stK { S2 with fin := .int (p : Nat) }))) g d := fun g hg => by
        obtain ⟨o, eo, num, due, done, x, y, rfl, d0, dw, c0, m, hm, en, w1, w2⟩ := hs2.ok _ _ (hw2.tags g hg)
        exact ⟨done, num, due, x, y, upd_ne2 (hs2.neSt (hw2.tags g hg)) eo, d0, hf2 g hg _ _ _ _ _ _ _ _ eo, c0, (by have := lt2 g hg; omega), m, hm, en, w2⟩
      have lg : gs2.length ≤ 217 * p := by
        obtain ⟨o, eo, vs, rfl, lv, _⟩ := hs2.ok _ _ hs2.wait
        rw [hw2.at_] at eo
        cases eo
        simpa using lv
      walk_at "go"
      exact k st S2.wait gs2 _ hs3.old hs3.tabs hs3.gWait ew3 ej3 hw2.nd (by omega)
    have np' : ((p : Nat) : Int) ≠ stop := fun z => np (by rw [z])
    walk_at "go"
    refine ⟨rfl, ?_⟩
    walk_at "go"
    refine i_decF (fun z => nomatch z) ?_
    walk_at "go"
    have pl : (p : Nat) < stop.toNat := by omega
    refine ⟨ms, H, 217 * p, 10000 * p, τ2, S2, st, gs2, q, l, cs, ks, (p : Nat), rfl, hs2, hw2, hf2, hrow, ok, el, ca, cg, by omega, lt2, by omega, fun τ3 gs3 H3 le3 hs3 hw3 hf3 lt3 => ?_⟩
    walk_at "go"
    refine ⟨ms, H, 217 * p + 200, 10000 * p, τ3, S2, st, gs3, q, (p : Nat), rfl, hs3, hw3, hf3, hrow, ok, by omega, fun g hg => ?_, by omega, fun τ4 gs4 H4 le4 hs4 hw4 hf4 lt4 => ?_⟩
    · rcases lt3 g hg with z | z
      · omega
      · omega
    walk_at "go"
    refine ⟨ms, H, 217 * p + 216, 10000 * p, τ4, S2, st, gs4, q, (p : Nat), rfl, hs4, hw4, hf4, hrow, ok, by omega, by omega, by omega, fun τ5 H5 le5 hs5 hw5 => ?_⟩
    walk_at "go"
    exact ⟨τ5, S2, gs4, by omega, rfl, hs5.more (by omega) (by omega), hw5, fun g hg => by have := lt4 g hg; omega⟩
end
end K19
namespace K19
open PySem L2
open PyProof.Rows (envOfC)
/-! the plain law: what the rule picks, told of the works themselves -/
theorem rk3_le {a b c a' b' c' : Int} (hb : 0 ≤ b ∧ b < BB) (hc : 0 ≤ c ∧ c < BB) (hb' : 0 ≤ b' ∧ b' < BB) (hc' : 0 ≤ c' ∧ c' < BB) : rk3 a b c ≤ rk3 a' b' c' ↔ a < a' ∨ (a = a' ∧ (b < b' ∨ (b = b' ∧ c ≤ c'))) := by
  unfold rk3 BB at *
  omega
theorem rk3_inj {a b c a' b' c' : Int} (hb : 0 ≤ b ∧ b < BB) (hc : 0 ≤ c ∧ c < BB) (hb' : 0 ≤ b' ∧ b' < BB) (hc' : 0 ≤ c' ∧ c' < BB) (e : rk3 a b c = rk3 a' b' c') : a = a' ∧ b = b' ∧ c = c' := by
  unfold rk3 BB at *
  omega
theorem nodup_idx {α : Type} {l : List α} (nd : l.Nodup) {i j : Nat} {x : α} (hi : l[i]? = some x) (hj : l[j]? = some x) : i = j := by
  obtain ⟨li, ei⟩ := List.getElem?_eq_some_iff.mp hi
  obtain ⟨lj, ej⟩ := List.getElem?_eq_some_iff.mp hj
  have pw := List.pairwise_iff_getElem.mp nd
  rcases Nat.lt_trichotomy i j with z | z | z
  · exact absurd (by rw [ei, ej]) (pw i j li lj z)
  · exact z
  · exact absurd (by rw [ei, ej]) (pw j i lj li z)
theorem first_map {ms ms' : List Mem} {ws ws' : List Wk} {f : Wk → Wk} {p : Wk → Prop} (fwd : ∀ k ∈ ws, f k ∈ ws')
    (back : ∀ k' ∈ ws', p k' → (∃ k ∈ ws, f k = k') ∨ ∀ k ∈ ws, rkI ms' (f k) < rkI ms' k') (mono : ∀ k ∈ ws, ∀ l ∈ ws, rkI ms k ≤ rkI ms l → rkI ms' (f k) ≤ rkI ms' (f l))
    (inj : ∀ k ∈ ws', ∀ l ∈ ws', rkI ms' k = rkI ms' l → k = l) (pf : ∀ k ∈ ws, p (f k) ↔ p k) {a a' : Nat} {k k' : Wk} (h : First ms ws p a k) (h' : First ms' ws' p a' k') : k' = f k := by
  obtain ⟨e, pk, mn⟩ := h
  obtain ⟨e', pk', mn'⟩ := h'
  have mk := List.mem_of_getElem? e
  have mk' := List.mem_of_getElem? e'
  obtain ⟨i, li, ei⟩ := List.mem_iff_getElem.mp (fwd k mk)
  have le1 := mn' i (f k) (by rw [List.getElem?_eq_getElem li, ei]) ((pf k mk).mpr pk)
  rcases back k' mk' pk' with ⟨l, hl, rfl⟩ | z
  · obtain ⟨j, lj, ej⟩ := List.mem_iff_getElem.mp hl
    have le2 := mono k mk l hl (mn j l (by rw [List.getElem?_eq_getElem lj, ej]) ((pf l hl).mp pk'))
    exact inj _ mk' _ (fwd k mk) (by omega)
  · have := z k mk
    omega
theorem others_iff {ms : List Mem} {ws : List Wk} (nd : ws.Nodup) {a : Nat} {k : Wk} (e : ws[a]? = some k) {t : Str} : t ∈ othersT ms ws a ws.length ↔ ∃ l ∈ ws, l ≠ k ∧ t ∈ toolsOf ms l := by
  obtain ⟨la, ea⟩ := List.getElem?_eq_some_iff.mp e
  unfold othersT
  constructor
  · intro h
    obtain ⟨j, hj, ht⟩ := List.mem_flatMap.mp h
    obtain ⟨h1, h2⟩ := List.mem_filter.mp hj
    have lj : j < ws.length := List.mem_range.mp h1
    have ne : j ≠ a := of_decide_eq_true h2
    have ej : ws.getD j k0 = ws[j] := by rw [List.getD_eq_getElem?_getD, List.getElem?_eq_getElem lj]; rfl
    rw [ej] at ht
    exact ⟨ws[j], List.getElem_mem lj, fun z => ne (nodup_idx nd (List.getElem?_eq_getElem lj) (by rw [e, z])), ht⟩
  · rintro ⟨l, hl, nl, ht⟩
    obtain ⟨j, lj, ej⟩ := List.mem_iff_getElem.mp hl
    refine List.mem_flatMap.mpr ⟨j, List.mem_filter.mpr ⟨List.mem_range.mpr lj, decide_eq_true fun z => nl ?_⟩, ?_⟩
    · subst z
      rw [← ej, ea]
    · rw [List.getD_eq_getElem?_getD, List.getElem?_eq_getElem lj, ej]
      exact ht
def Picks (f : Wk → Wk) (ws ws' : List Wk) (a a' : Nat) : Prop := ∃ k, ws[a]? = some k ∧ ws'[a']? = some (f k)
/-- the same works are picked -/
def Alike (f : Wk → Wk) (ws ws' : List Wk) (r r' : Option (Nat × Option Nat)) : Prop := ∃ a a', Picks f ws ws' a a' ∧ ((r = some (a, none) ∧ r' = some (a', none)) ∨ ∃ b b', Picks f ws ws' b b' ∧ r = some (b, some a) ∧ r' = some (b', some a'))
theorem served_map {ms ms' : List Mem} {ws ws' : List Wk} (f : Wk → Wk) (nd : ws.Nodup) (nd' : ws'.Nodup) (fwd : ∀ k ∈ ws, f k ∈ ws') (finj : ∀ k ∈ ws, ∀ l ∈ ws, f k = f l → k = l)
    (back : ∀ k' ∈ ws', (∃ k ∈ ws, f k = k') ∨ (k'.done ≤ 0 ∧ toolsOf ms' k' = [] ∧ ∀ k ∈ ws, rkI ms' (f k) < rkI ms' k')) (mono : ∀ k ∈ ws, ∀ l ∈ ws, rkI ms k ≤ rkI ms l → rkI ms' (f k) ≤ rkI ms' (f l))
    (inj : ∀ k ∈ ws', ∀ l ∈ ws', rkI ms' k = rkI ms' l → k = l) (done : ∀ k ∈ ws, (f k).done = k.done) (tools : ∀ k ∈ ws, toolsOf ms' (f k) = toolsOf ms k) (due : ∀ k ∈ ws, dueOf ms' (f k).name = dueOf ms k.name) (ps : pairs ms' = pairs ms)
    (ne : ws ≠ []) {r r' : Option (Nat × Option Nat)} (h : ServedIs ms ws r) (h' : ServedIs ms' ws' r') : Alike f ws ws' r r' := by
  have ne' : ws' ≠ [] := by
    obtain ⟨k, hk⟩ := List.exists_mem_of_ne_nil ws ne
    exact fun z => by have := fwd k hk; rw [z] at this; cases this
  rcases h with ⟨z, _⟩ | ⟨a, k, fa, h⟩
  · exact absurd z ne
  rcases h' with ⟨z, _⟩ | ⟨a', k', fa', h'⟩
  · exact absurd z ne'
  have ek := first_map (f := f) fwd (fun k' hk' _ => (back k' hk').imp id fun z => z.2.2) mono inj (fun _ _ => Iff.rfl) fa fa'
  subst ek
  have mk := List.mem_of_getElem? fa.1
  have held : Held ms' ws' a' (f k) ↔ Held ms ws a k := by
    unfold Held HeldUp
    rw [due k mk, ps]
    constructor
    · rintro ⟨t, ht, rest⟩
      obtain ⟨l', hl', nl', tl'⟩ := (others_iff nd' fa'.1).mp ht
      rcases back l' hl' with ⟨l, hl, rfl⟩ | ⟨_, z, _⟩
      · exact ⟨t, (others_iff nd fa.1).mpr ⟨l, hl, fun z => nl' (by rw [z]), by rw [← tools l hl]; exact tl'⟩, rest⟩
      · rw [z] at tl'
        cases tl'
    · rintro ⟨t, ht, rest⟩
      obtain ⟨l, hl, nl, tl⟩ := (others_iff nd fa.1).mp ht
      exact ⟨t, (others_iff nd' fa'.1).mpr ⟨f l, fwd l hl, fun z => nl (finj l hl k mk z), by rw [tools l hl]; exact tl⟩, rest⟩
  have pa : Picks f ws ws' a a' := ⟨k, fa.1, fa'.1⟩
  have dk := done k mk
  rcases h with ⟨c, rfl⟩ | ⟨c1, c2, b, l, fb, rfl⟩
  · rcases h' with ⟨c', rfl⟩ | ⟨c1', c2', _⟩
    · exact ⟨a, a', pa, .inl ⟨rfl, rfl⟩⟩
    · rcases c with c | c
      · omega
      · exact absurd (held.mp c2') c
  · rcases h' with ⟨c', rfl⟩ | ⟨c1', c2', b', l', fb', rfl⟩
    · rcases c' with c' | c'
      · omega
      · exact absurd (held.mpr c2) c'
    · have el := first_map (f := f) (p := fun k => 0 < k.done) fwd (fun k' hk' d => (back k' hk').imp id fun z => z.2.2) mono inj (fun k hk => by rw [done k hk]) fb fb'
      subst el
      exact ⟨a, a', pa, .inr ⟨b, b', ⟨l, fb.1, fb'.1⟩, rfl, rfl⟩⟩
end K19
namespace K19
open PySem L2
open PyProof.Rows (envOfC)
theorem alike_eq {f : Wk → Wk} {ws ws' : List Wk} (nd' : ws'.Nodup) (h : ∀ (a : Nat) k, ws[a]? = some k → ws'[a]? = some (f k)) {r r' : Option (Nat × Option Nat)} (q : Alike f ws ws' r r') : r' = r := by
  have pick : ∀ {a a'}, Picks f ws ws' a a' → a' = a := fun {a a'} ⟨k, e, e'⟩ => nodup_idx nd' e' (h a k e)
  obtain ⟨a, a', pa, z⟩ := q
  rw [pick pa] at z
  rcases z with ⟨rfl, rfl⟩ | ⟨b, b', pb, rfl, rfl⟩
  · rfl
  · rw [pick pb]
theorem mem_of_wk {ms : List Mem} {k : Wk} (h : WkOk ms k) : ∃ m ∈ ms, m.name = k.name ∧ k.done < m.cost := h.2.2
/-- what the crew tells of a work -/
theorem wk_facts {ms : List Mem} {k : Wk} (ok : CrewOk ms) (h : WkOk ms k) : ∃ (m : Mem) (i : Nat), m ∈ ms ∧ ms[i]? = some m ∧ m.name = k.name ∧ placeOf ms k.name = i ∧ dueOf ms k.name = m.due ∧ toolsOf ms k = toolsAt m k.done ∧ MemOk m ∧ i < 8 := by
  obtain ⟨m, hm, en, _⟩ := h.2.2
  have mo := memOf_eq ok.nd hm
  rw [en] at mo
  obtain ⟨p1, p2, p3⟩ := place_at ⟨m, hm, en⟩
  refine ⟨m, placeOf ms k.name, hm, ?_, en, rfl, ?_, ?_, ok.each m hm, by have := ok.few; omega⟩
  · rw [List.getElem?_map] at p1
    obtain ⟨m', e1, e2⟩ := Option.map_eq_some_iff.mp p1
    rw [e1, name_one ok.nd (List.mem_of_getElem? e1) hm (by rw [e2, en])]
  · unfold dueOf
    rw [mo]
    rfl
  · unfold toolsOf
    rw [mo]
    rfl
/-- the numbers of a rank -/
theorem rk_of {ms : List Mem} {k : Wk} (ok : CrewOk ms) (h : WkOk ms k) : ∃ (d : Int) (i : Nat), dueOf ms k.name = d ∧ placeOf ms k.name = i ∧ rkI ms k = rk3 (k.comes + d) (i : Nat) k.comes ∧ 1 ≤ d ∧ d ≤ 600 ∧ (0 ≤ ((i : Nat) : Int) ∧ ((i : Nat) : Int) < BB) ∧ (0 ≤ k.comes ∧ k.comes < BB) := by
  obtain ⟨m, i, hm, hi, en, pl, du, _, mok, i8⟩ := wk_facts ok h
  have d := mok.due
  have g := mok.gap
  have c := h.1
  refine ⟨m.due, i, du, pl, ?_, d.1, by omega, ⟨by omega, ?_⟩, c.1, ?_⟩
  · unfold rkI
    rw [du, pl]
  · unfold BB
    omega
  · unfold BB
    omega
theorem rk_inj {ms : List Mem} {ws : List Wk} (ok : CrewOk ms) (wok : WorksOk ms ws) : ∀ k ∈ ws, ∀ l ∈ ws, rkI ms k = rkI ms l → k = l := by
  intro k hk l hl e
  obtain ⟨d, i, e1, e2, e3, _, _, b1, b2⟩ := rk_of ok (wok.each k hk)
  obtain ⟨d', i', e1', e2', e3', _, _, b1', b2'⟩ := rk_of ok (wok.each l hl)
  rw [e3, e3'] at e
  obtain ⟨_, z1, z2⟩ := rk3_inj b1 b2 b1' b2' e
  obtain ⟨m, hm, en, _⟩ := (wok.each k hk).2.2
  obtain ⟨m', hm', en', _⟩ := (wok.each l hl).2.2
  have p1 := (place_at ⟨m, hm, en⟩).1
  have p2 := (place_at ⟨m', hm', en'⟩).1
  have ii : i = i' := by omega
  rw [e2] at p1
  rw [e2', ← ii, p1] at p2
  obtain ⟨a, la, ea⟩ := List.mem_iff_getElem.mp hk
  obtain ⟨b, lb, eb⟩ := List.mem_iff_getElem.mp hl
  have ab := nodup_idx wok.nd (i := a) (j := b) (x := Wk.key k) (by rw [List.getElem?_map, List.getElem?_eq_getElem la, ea]; rfl) (by
    rw [List.getElem?_map, List.getElem?_eq_getElem lb, eb]
    unfold Wk.key
    rw [Option.some.inj p2, z2]
    rfl)
  subst ab
  rw [← ea, ← eb]
theorem WorksOk.nodup {ms : List Mem} {ws : List Wk} (h : WorksOk ms ws) : ws.Nodup := List.Pairwise.of_map Wk.key (fun a b n e => n (by rw [e])) h.nd
/-- in another order -/
theorem law_turn {ms : List Mem} {ws ws' : List Wk} (ok : CrewOk ms) (wok : WorksOk ms ws) (p : ws'.Perm ws) (ne : ws ≠ []) {r r' : Option (Nat × Option Nat)} (h : ServedIs ms ws r) (h' : ServedIs ms ws' r') : Alike id ws ws' r r' := by
  have inj := rk_inj ok wok
  exact served_map id wok.nodup (p.nodup_iff.mpr wok.nodup) (fun k hk => p.mem_iff.mpr hk) (fun _ _ _ _ e => e) (fun k hk => .inl ⟨k, p.mem_iff.mp hk, rfl⟩) (fun _ _ _ _ e => e) (fun k hk l hl e => inj k (p.mem_iff.mp hk) l (p.mem_iff.mp hl) e)
    (fun _ _ => rfl) (fun _ _ => rfl) (fun _ _ => rfl) rfl ne h h'
/-- a work that comes late, not begun -/
theorem law_late {ms : List Mem} {ws : List Wk} {z : Wk} (ok : CrewOk ms) (wok' : WorksOk ms (ws ++ [z])) (few : ∀ k ∈ ws, k.comes ≤ 40) (zc : z.comes = 1000000) (zd : z.done = 0) (ne : ws ≠ []) {r r' : Option (Nat × Option Nat)} (h : ServedIs ms ws r) (h' : ServedIs ms (ws ++ [z]) r') : r' = r := by
  have nd' := wok'.nodup
  have nd : ws.Nodup := (List.nodup_append.mp nd').1
  have zok := wok'.each z (by simp)
  have lt : ∀ k ∈ ws, rkI ms k < rkI ms z := fun k hk => by
    obtain ⟨d, i, _, _, e, d1, d2, b1, b2⟩ := rk_of ok (wok'.each k (List.mem_append_left _ hk))
    obtain ⟨d', i', _, _, e', d1', d2', b1', b2'⟩ := rk_of ok zok
    have := few k hk
    rw [e, e']
    refine Int.lt_of_not_ge fun q => ?_
    rcases (rk3_le b1' b2' b1 b2).mp q with q | ⟨q, _⟩ <;> omega
  have al := served_map (ws' := ws ++ [z]) id nd nd' (fun k hk => List.mem_append_left _ hk) (fun _ _ _ _ e => e) (fun k hk => (List.mem_append.mp hk).imp (fun q => ⟨k, q, rfl⟩) fun q => by
    rw [List.mem_singleton.mp q]
    refine ⟨by omega, ?_, lt⟩
    obtain ⟨m, i, _, _, _, _, _, t, mok, _⟩ := wk_facts ok zok
    rw [t, zd]
    unfold toolsAt
    refine List.filterMap_eq_nil_iff.mpr fun hd hh => if_neg fun c => ?_
    have := (mok.holds.each hd hh).2.1
    omega) (fun _ _ _ _ e => e) (rk_inj ok wok') (fun _ _ => rfl) (fun _ _ => rfl) (fun _ _ => rfl) rfl ne h h'
  exact alike_eq nd' (fun a k e => by rw [List.getElem?_append_left (List.getElem?_eq_some_iff.mp e).1]; exact e) al
/-- all works later by the same -/
theorem law_far {ms : List Mem} {ws : List Wk} {far : Int} (ok : CrewOk ms) (wok : WorksOk ms ws) (wok' : WorksOk ms (ws.map fun k => ⟨k.name, k.comes + far, k.done⟩)) (ne : ws ≠ []) {r r' : Option (Nat × Option Nat)} (h : ServedIs ms ws r) (h' : ServedIs ms (ws.map fun k => ⟨k.name, k.comes + far, k.done⟩) r') : r' = r := by
  have nd' := wok'.nodup
  have al := served_map (fun k : Wk => ⟨k.name, k.comes + far, k.done⟩) wok.nodup nd' (fun k hk => List.mem_map.mpr ⟨k, hk, rfl⟩) (fun k _ l _ e => by
    obtain ⟨n, c, d⟩ := k
    obtain ⟨n', c', d'⟩ := l
    simp at e
    simp [e]) (fun k hk => .inl (List.mem_map.mp hk)) (fun k hk l hl e => by
      obtain ⟨d, i, e1, e2, e3, d1, d2, b1, b2⟩ := rk_of ok (wok.each k hk)
      obtain ⟨d', i', e1', e2', e3', d1', d2', b1', b2'⟩ := rk_of ok (wok.each l hl)
      have hk' := wok'.each _ (List.mem_map.mpr ⟨k, hk, rfl⟩)
      have hl' := wok'.each _ (List.mem_map.mpr ⟨l, hl, rfl⟩)
      obtain ⟨x, y, x1, x2, x3, _, _, x4, x5⟩ := rk_of ok hk'
      obtain ⟨x', y', x1', x2', x3', _, _, x4', x5'⟩ := rk_of ok hl'
      rw [x3, x3']
      rw [e3, e3'] at e
      dsimp only at *
      rw [e1] at x1
      rw [e2] at x2
      rw [e1'] at x1'
      rw [e2'] at x2'
      refine (rk3_le x4 x5 x4' x5').mpr ?_
      have := (rk3_le b1 b2 b1' b2').mp e
      omega) (rk_inj ok wok') (fun _ _ => rfl) (fun _ _ => rfl) (fun _ _ => rfl) rfl ne h h'
  exact alike_eq nd' (fun a k e => by rw [List.getElem?_map, e]; rfl) al
end K19
namespace K19
open PySem L2
open PyProof.Rows (envOfC)
/-- the members under new names -/
def ren (ms : List Mem) (ns : List Str) : List Mem := List.zipWith (fun m n => ({ m with name := n } : Mem)) ms ns
theorem ren_names : ∀ {ms : List Mem} {ns : List Str}, ms.length ≤ ns.length → (ren ms ns).map Mem.name = ns.take ms.length
  | [], _, _ => by simp [ren]
  | m :: ms, [], h => by simp at h
  | m :: ms, n :: ns, h => by
    have := ren_names (ms := ms) (ns := ns) (by simpa using h)
    unfold ren at this ⊢
    simp [this]
theorem ren_get {ms : List Mem} {ns : List Str} {i : Nat} {m : Mem} {n : Str} (h : ms[i]? = some m) (hn : ns[i]? = some n) : (ren ms ns)[i]? = some { m with name := n } := by
  unfold ren
  rw [List.getElem?_zipWith, h, hn]
theorem ren_pairs : ∀ {ms : List Mem} {ns : List Str}, ms.length ≤ ns.length → pairs (ren ms ns) = pairs ms
  | [], _, _ => by simp [ren, pairs]
  | m :: ms, [], h => by simp at h
  | m :: ms, n :: ns, h => by
    have := ren_pairs (ms := ms) (ns := ns) (by simpa using h)
    unfold ren pairs at this ⊢
    simp [this]
theorem ren_length {ms : List Mem} {ns : List Str} (h : ms.length ≤ ns.length) : (ren ms ns).length = ms.length := by
  unfold ren
  rw [List.length_zipWith]
  omega
theorem ren_ok {ms : List Mem} {ns : List Str} (ok : CrewOk ms) (h : ms.length ≤ ns.length) (nd : ns.Nodup) (nm : ∀ n ∈ ns, IsName n) : CrewOk (ren ms ns) := by
  refine ⟨by rw [ren_length h]; exact ok.few, ?_, fun m hm => ?_⟩
  · unfold NamesNd
    rw [ren_names h]
    exact nd.sublist (List.take_sublist _ _)
  · obtain ⟨i, li, ei⟩ := List.mem_iff_getElem.mp hm
    have l2 := li
    rw [ren_length h] at l2
    have e := ren_get (ns := ns) (List.getElem?_eq_getElem l2) (List.getElem?_eq_getElem (Nat.lt_of_lt_of_le l2 h))
    rw [List.getElem?_eq_getElem li, ei] at e
    have mk := ok.each _ (List.getElem_mem l2)
    rw [Option.some.inj e]
    exact ⟨nm _ (List.getElem_mem _), mk.cost, mk.gap, mk.due, mk.holds, mk.door⟩
/-- a work under its member's new name -/
def renW (ms : List Mem) (ns : List Str) (k : Wk) : Wk := ⟨(ns[placeOf ms k.name]?).getD Str.empty, k.comes, k.done⟩
theorem renW_facts {ms : List Mem} {ns : List Str} (ok : CrewOk ms) (h : ms.length ≤ ns.length) (nd : ns.Nodup) (nm : ∀ n ∈ ns, IsName n) {k : Wk} (hk : WkOk ms k) : ∃ (m : Mem) (i : Nat) (n : Str), ms[i]? = some m ∧ m.name = k.name ∧ placeOf ms k.name = i ∧ ns[i]? = some n ∧ renW ms ns k = ⟨n, k.comes, k.done⟩ ∧
    placeOf (ren ms ns) n = i ∧ dueOf (ren ms ns) n = dueOf ms k.name ∧ toolsOf (ren ms ns) (renW ms ns k) = toolsOf ms k ∧ WkOk (ren ms ns) (renW ms ns k) := by
  obtain ⟨m, i, hm, hi, en, pl, du, to, mok, _⟩ := wk_facts ok hk
  have li : i < ms.length := (List.getElem?_eq_some_iff.mp hi).1
  obtain ⟨n, en2⟩ : ∃ n, ns[i]? = some n := ⟨_, List.getElem?_eq_getElem (Nat.lt_of_lt_of_le li h)⟩
  have e := ren_get (ns := ns) hi en2
  have rok := ren_ok ok h nd nm
  have er : renW ms ns k = ⟨n, k.comes, k.done⟩ := by
    unfold renW
    rw [pl, en2]
    rfl
  have dn : k.done < m.cost := by
    obtain ⟨m', hm', en', d⟩ := hk.2.2
    rw [name_one ok.nd hm hm' (by rw [en, en'])]
    exact d
  have wok : WkOk (ren ms ns) (renW ms ns k) := by
    rw [er]
    exact ⟨hk.1, hk.2.1, _, List.mem_of_getElem? e, rfl, dn⟩
  obtain ⟨m2, i2, hm2, hi2, en3, pl2, du2, to2, _, _⟩ := wk_facts rok wok
  rw [er] at en3 pl2 du2 to2
  have m2e := name_one rok.nd hm2 (List.mem_of_getElem? e) en3
  have p1 : ((ren ms ns).map Mem.name)[i2]? = some n := by rw [List.getElem?_map, hi2]; exact congrArg some en3
  have p2 : ((ren ms ns).map Mem.name)[i]? = some n := by rw [List.getElem?_map, e]; rfl
  have ii := nodup_idx rok.nd p1 p2
  refine ⟨m, i, n, hi, en, pl, en2, er, (show placeOf (ren ms ns) n = i2 from pl2).trans ii, ?_, ?_, wok⟩
  · rw [du, show dueOf (ren ms ns) n = m2.due from du2, m2e]
  · rw [to, er, to2, m2e]
    rfl
theorem renWs_ok {ms : List Mem} {ns : List Str} {ws : List Wk} (ok : CrewOk ms) (h : ms.length ≤ ns.length) (nd : ns.Nodup) (nm : ∀ n ∈ ns, IsName n) (wok : WorksOk ms ws) : WorksOk (ren ms ns) (ws.map (renW ms ns)) := by
  refine ⟨by simpa using wok.few, fun k' hk' => ?_, ?_⟩
  · obtain ⟨k, hk, rfl⟩ := List.mem_map.mp hk'
    obtain ⟨_, _, _, _, _, _, _, _, _, _, _, q⟩ := renW_facts ok h nd nm (wok.each k hk)
    exact q
  · rw [List.map_map]
    have pw : ws.Pairwise fun a b => Wk.key a ≠ Wk.key b := List.Pairwise.of_map Wk.key (fun a b n => n) wok.nd
    refine List.pairwise_map.mpr (List.Pairwise.imp_of_mem (fun {a b} ha hb n e => n ?_) pw)
    obtain ⟨_, i, x, _, ea, pa, na, ra, _⟩ := renW_facts ok h nd nm (wok.each a ha)
    obtain ⟨_, j, y, _, eb, pb, nb, rb, _⟩ := renW_facts ok h nd nm (wok.each b hb)
    simp only [Function.comp, Wk.key, ra, rb] at e
    have e1 : x = y := congrArg Prod.fst e
    have e2 : a.comes = b.comes := congrArg Prod.snd e
    subst e1
    have ij := nodup_idx nd na nb
    obtain ⟨ma, hma, ena, _⟩ := (wok.each a ha).2.2
    obtain ⟨mb, hmb, enb, _⟩ := (wok.each b hb).2.2
    have qa := (place_at ⟨ma, hma, ena⟩).1
    have qb := (place_at ⟨mb, hmb, enb⟩).1
    rw [pa, ij, ← pb, qb] at qa
    unfold Wk.key
    rw [← Option.some.inj qa, e2]
/-- all names new -/
theorem law_names {ms : List Mem} {ns : List Str} {ws : List Wk} (ok : CrewOk ms) (h : ms.length ≤ ns.length) (nd : ns.Nodup) (nm : ∀ n ∈ ns, IsName n) (wok : WorksOk ms ws) (ne : ws ≠ []) {r r' : Option (Nat × Option Nat)} (q : ServedIs ms ws r) (q' : ServedIs (ren ms ns) (ws.map (renW ms ns)) r') : r' = r := by
  have wok' := renWs_ok ok h nd nm wok
  have rok := ren_ok ok h nd nm
  have rk : ∀ k ∈ ws, rkI (ren ms ns) (renW ms ns k) = rkI ms k := fun k hk => by
    obtain ⟨_, i, x, _, ea, pa, na, ra, pr, du, _⟩ := renW_facts ok h nd nm (wok.each k hk)
    unfold rkI
    rw [ra]
    dsimp only
    rw [pr, du, pa]
  have inj := rk_inj ok wok
  have al := served_map (renW ms ns) wok.nodup wok'.nodup (fun k hk => List.mem_map.mpr ⟨k, hk, rfl⟩) (fun k hk l hl e => inj k hk l hl (by rw [← rk k hk, ← rk l hl, e])) (fun k hk => .inl (List.mem_map.mp hk)) (fun k hk l hl e => by rw [rk k hk, rk l hl]; exact e)
    (rk_inj rok wok') (fun _ _ => rfl) (fun k hk => by
      obtain ⟨_, _, _, _, _, _, _, _, _, _, z, _⟩ := renW_facts ok h nd nm (wok.each k hk)
      exact z) (fun k hk => by
      obtain ⟨_, _, _, _, _, _, _, ra, _, z, _⟩ := renW_facts ok h nd nm (wok.each k hk)
      rw [ra]
      exact z) (ren_pairs h) ne q q'
  exact alike_eq wok'.nodup (fun a k e => by rw [List.getElem?_map, e]; rfl) al
/-- what is asked of the answer by itself -/
theorem law_fit {ms : List Mem} {ws : List Wk} (ok : CrewOk ms) (wok : WorksOk ms ws) (ne : ws ≠ []) {r : Option (Nat × Option Nat)} (h : ServedIs ms ws r) : ∃ a k, ws[a]? = some k ∧ (∀ l ∈ ws, k.comes + dueOf ms k.name ≤ l.comes + dueOf ms l.name) ∧
    (r = some (a, none) ∨ ∃ b l, ws[b]? = some l ∧ r = some (b, some a) ∧ k.done = 0 ∧ l.done ≠ 0 ∧ b ≠ a) := by
  rcases h with ⟨z, _⟩ | ⟨a, k, ⟨e, _, mn⟩, h⟩
  · exact absurd z ne
  have mk := List.mem_of_getElem? e
  refine ⟨a, k, e, fun l hl => ?_, ?_⟩
  · obtain ⟨j, lj, ej⟩ := List.mem_iff_getElem.mp hl
    have q := mn j l (by rw [List.getElem?_eq_getElem lj, ej]) trivial
    obtain ⟨d, i, e1, _, e3, _, _, b1, b2⟩ := rk_of ok (wok.each k mk)
    obtain ⟨d', i', e1', _, e3', _, _, b1', b2'⟩ := rk_of ok (wok.each l hl)
    rw [e3, e3'] at q
    rw [e1, e1']
    have := (rk3_le b1 b2 b1' b2').mp q
    omega
  · have d0 := (wok.each k mk).2.1
    rcases h with ⟨_, rfl⟩ | ⟨c1, _, b, l, ⟨eb, db, _⟩, rfl⟩
    · exact .inl rfl
    · refine .inr ⟨b, l, eb, rfl, by omega, by omega, fun z => ?_⟩
      subst z
      rw [e] at eb
      cases eb
      omega
end K19
namespace K19
open PySem L2
open PyProof.Rows (envOfC)
theorem perm_erase {α : Type} : ∀ {l : List α} {i : Nat} (h : i < l.length), (l[i] :: l.eraseIdx i).Perm l
  | _ :: _, 0, _ => List.Perm.refl _
  | a :: l, i + 1, h => (List.Perm.swap a _ _).trans (List.Perm.cons a (perm_erase (l := l) (i := i) (by simpa using h)))
section
variable {P : Program} {w : World} {K : PySem.W.Frag} {mg : Str → Option Value} {base : Heap}
def spTurned : Sp := fun vs H Q _ => ∃ p l xs, vs = [.ref p, .ref l] ∧ Pu H p ∧ H l = some (.lst xs) ∧ l ≠ p ∧ xs.length ≤ 20000 ∧ ∀ q ys H', H q = none → KeepX p H H' → Pu H' p → H' q = some (.lst ys) → ys.Perm xs → Q (.ref q) H'
theorem ok_lTurned (F : Fx K mg "_law_turned" s_lTurned a_lTurned) (T : Txt K mg) (C_lTake : Cal P w K mg base 1 "_law_take" a_lTake spTakeP) : Cal P w K mg base 2 "_law_turned" a_lTurned spTurned := by
  refine cal_of F sc_lTurned (fun vs H Q E h => ?_) (fun f cdv A outer s H vs Q E hr h => ?_)
  · obtain ⟨p, l, xs, rfl, _⟩ := h
    rfl
  · obtain ⟨p, l, xs, rfl, pu, el, nlp, few, k⟩ := h
    refine ⟨_, (pss_cons (ps_par (i := 2) (j := 3) rfl sc_lTurned.nd rfl rfl (by decide) rfl rfl (pa_cons (pe_callTy call_list_of (by rfl) T.list (by decide +kernel) (pa_cons (by exact (pv 1)) pa_nil)) (pa_cons (pe_lst pa_nil) pa_nil)) (by rfl))
  (pss_cons (ps_while PassesOwn.never (pt_cmpR (op_neNil hr.units0) (pv 2) (pe_lst pa_nil) (nomark _))
  (pss_one (ps_expr (pe_bm PySem.F.plainAttrs_list PySem.F.slot_list_append PySem.F.type_list_append mt_append (pv 3) (pa_cons (pe_bm PySem.F.plainAttrs_list PySem.F.slot_list_pop PySem.F.type_list_pop mt_popAt (pv 2) (pa_cons (pe_cal C_lTake (hr.mono (by decide)) (pa_cons (pv 0) (pa_cons (pe_callB call_len_seq (by rfl) T.len (by decide +kernel) (pa_cons (pv 2) pa_nil)) pa_nil))) pa_nil)) pa_nil)))))
  (pss_one (ps_ret (pv 3))))), ?_⟩
    try dsimp only [cxOf]
    refine at_ [some (.ref p), some (.ref l), none, none] rfl ?_
    walk_at "go"
    intro L hL
    have sL := same_of_upd (o := .lst xs) hL
    have eL := upd_same (H := H) (a := L) (o := .lst xs)
    have puL := pu.same sL
    have nLp := pu.ne hL
    generalize upd H L (.lst xs) = H1 at sL eL puL ⊢
    walk_at "go"
    refine ⟨le_sz (by simp), fun R hR => ?_⟩
    have sR := same_of_upd (o := .lst []) hR
    have eR := upd_same (H := H1) (a := R) (o := .lst [])
    have eL2 := sR _ _ eL
    have puR := puL.same sR
    have nRp := puL.ne hR
    have nRL : R ≠ L := fun z => by rw [z, eL] at hR; cases hR
    have hRH : H R = none := by
      cases e : H R with
      | none => rfl
      | some o =>
        have := sL _ _ e
        rw [hR] at this
        cases this
    have kR := KeepX.of (p := p) (sL.trans sR)
    generalize upd H1 R (.lst []) = H2 at sR eR eL2 puR kR ⊢
    refine ⟨_, _, rfl, ?_⟩
    refine i_seq ?_
    refine i_while (fun m σ H' => ∃ xl xf, m = xl.length ∧ σ = [some (.ref p), some (.ref l), some (.ref L), some (.ref R)] ∧ H' L = some (.lst xl) ∧ H' R = some (.lst xf) ∧ (xf ++ xl).Perm xs ∧ Pu H' p ∧ KeepX p H H') xs.length ⟨xs, [], rfl, rfl, eL2, eR, .refl _, puR, kR⟩ ?_
    rintro m σ H3 ⟨xl, xf, rfl, rfl, e1, e2, pm, pu3, k3⟩
    have ln := pm.length_eq
    rw [List.length_append] at ln
    walk_at "go"
    refine ⟨le_sz (by simp), fun N hN => ?_⟩
    have sN := same_of_upd (o := .lst []) hN
    have eN := upd_same (H := H3) (a := N) (o := .lst [])
    have e1N := sN _ _ e1
    have e2N := sN _ _ e2
    have puN := pu3.same sN
    have kN := k3.trans (KeepX.of sN)
    generalize upd H3 N (.lst []) = H4 at sN eN e1N e2N puN kN ⊢
    refine ⟨N, L, xl, rfl, SqL.of eN, rfl, SqL.of e1N, _, rfl, ?_⟩
    refine i_boo (fun hne => ?_) (fun he => ?_)
    · refine ⟨fun σ' H' => ∃ xl' xf', xl'.length < xl.length ∧ σ' = [some (.ref p), some (.ref l), some (.ref L), some (.ref R)] ∧ H' L = some (.lst xl') ∧ H' R = some (.lst xf') ∧ (xf' ++ xl').Perm xs ∧ Pu H' p ∧ KeepX p H H', fun σ' H' ⟨xl', xf', a, b⟩ => ⟨xl'.length, a, xl', xf', rfl, b⟩, ?_⟩
      have l0 : 0 < xl.length := by
        cases xl with
        | nil => cases hne
        | cons _ _ => simp
      walk_at "go"
      refine ⟨.inl ⟨rfl, _, SqL.of e2N⟩, ?_⟩
      walk_at "go"
      refine ⟨.inl ⟨rfl, _, SqL.of e1N⟩, ?_⟩
      walk_at "go"
      refine ⟨p, _, rfl, puN, by omega, by omega, fun r H5 r0 r1 k5 pu5 => ?_⟩
      have e15 := k5 _ _ nLp e1N
      have e25 := k5 _ _ nRp e2N
      walk_at "go"
      have rl : r.toNat < xl.length := by omega
      refine ⟨L, xl, r, r.toNat, xl[r.toNat], rfl, rfl, e15, by omega, by omega, by unfold seqIndex?; simp; omega, List.getElem?_eq_getElem rl, ?_⟩
      have e16 := upd_same (H := H5) (a := L) (o := .lst (xl.eraseIdx r.toNat))
      have e26 := upd_ne2 (o := .lst (xl.eraseIdx r.toNat)) nRL e25
      have pu6 : Pu (upd H5 L (.lst (xl.eraseIdx r.toNat))) p := by
        obtain ⟨a, b, c, e⟩ := pu5
        exact ⟨a, b, c, upd_ne2 (Ne.symm nLp) e⟩
      have k6 : KeepX p H (upd H5 L (.lst (xl.eraseIdx r.toNat))) := fun b o nb e => upd_ne2 (ne_of_none e hL) (kN.trans k5 b o nb e)
      generalize upd H5 L (.lst (xl.eraseIdx r.toNat)) = H6 at e16 e26 pu6 k6 ⊢
      walk_at "go"
      refine i_append e26 (lt_sz (by omega)) ?_
      walk_at "go"
      refine ⟨_, _, by rw [List.length_eraseIdx_of_lt rl]; omega, rfl, upd_ne2 (Ne.symm nRL) e16, upd_same, ?_, ?_, fun b o nb e => upd_ne2 (ne_of_none e hRH) (k6 b o nb e)⟩
      · refine List.Perm.trans ?_ pm
        rw [List.append_assoc]
        exact List.Perm.append_left _ (perm_erase rl)
      · obtain ⟨a, b, c, e⟩ := pu6
        exact ⟨a, b, c, upd_ne2 (Ne.symm nRp) e⟩
    · have xe : xl = [] := by
        cases xl with
        | nil => rfl
        | cons _ _ => cases he
      subst xe
      rw [List.append_nil] at pm
      walk_at "go"
      exact k R xf H4 hRH kN puN e2N pm
end
end K19
namespace K19
open PySem L2
open PyProof.Rows (envOfC)
theorem cut_drop2 (xs : List V) : cutV xs (some 2) none = xs.drop 2 := by
  unfold cutV
  match xs with
  | [] => simp
  | [x] => simp [HT.sIx]
  | x :: y :: r => simp [HT.sIx]
/-- a loop over enumerate(l), l a list -/
theorem for_enumL {K : PySem.W.Frag} {a : Addr} {g : TG} {tb : TS} {nx : L2.St → Hp → Prop} {rt : VK} {σ : L2.St} {H : Hp} (xs : List V) (Pv : Nat → L2.St → Hp → Prop) (h0 : Pv 0 σ H) (hl : ∀ i σ H, i ≤ xs.length → Pv i σ H → SqL K H a xs)
    (hs : ∀ i x T σ H, xs[i]? = some x → Pv i σ H → H T = none → g (.ref T) σ (upd H T (.tup [.int (i : Nat), x])) fun σ2 H2 => tb { nx := Pv (i + 1), rt := rt, bk := nx, ct := Pv (i + 1) } σ2 H2) (hd : ∀ σ H, Pv xs.length σ H → nx σ H) :
    ∃ W : Nat → Nat → L2.St → Hp → Prop, (∃ m, W 0 m σ H) ∧ ∀ i m σ H, W i m σ H →
      ((Ite K a).stop i H ∧ nx σ H) ∨ ((Ite K a).go i H ∧ ∃ N : L2.St → Hp → Prop, (∀ σ' H', N σ' H' → ∃ m', m' < m ∧ W (i + 1) m' σ' H') ∧ ∀ x H', (Ite K a).yld i H x H' → g x σ H' fun σ2 H2 => tb { nx := N, rt := rt, bk := nx, ct := N } σ2 H2) := by
  refine ⟨fun i m σ H => i ≤ xs.length ∧ m = xs.length - i ∧ Pv i σ H, ⟨xs.length, Nat.zero_le _, rfl, h0⟩, ?_⟩
  rintro i m σ H ⟨li, rfl, hp⟩
  have sx := hl i σ H li hp
  by_cases lt : i < xs.length
  · refine .inr ⟨⟨xs, xs[i], sx, List.getElem?_eq_getElem lt⟩, Pv (i + 1), fun σ' H' q => ⟨xs.length - (i + 1), by omega, by omega, rfl, q⟩, ?_⟩
    rintro v H' ⟨T, x, rfl, hT, rfl, hx⟩
    exact hs i x T σ H (hx xs sx) hp hT
  · have ei : i = xs.length := by omega
    subst ei
    exact .inl ⟨⟨xs, sx, Nat.le_refl _⟩, hd σ H hp⟩
section
variable {P : Program} {w : World} {K : PySem.W.Frag} {mg : Str → Option Value} {base : Heap}
theorem i_en {ta : TA} {σ : L2.St} {H : Hp} {R : It → Hp → Prop} (q : ta σ H fun vs H1 => ∃ a xs, vs = [.ref a] ∧ SqL K H1 a xs ∧ R (Ite K a) H1) : iEnum K ta σ H R := q
theorem i_catT {a b : Addr} {xs ys : List V} {H : Hp} {Q : VK} (ha : SqT K H a xs) (hb : SqT K H b ys) (n1 : xs ≠ []) (n2 : ys ≠ []) (l : xs.length + ys.length ≤ 4000000) (q : ∀ p, H p = none → Q (.ref p) (upd H p (.tup (xs ++ ys)))) : rCatT K (.ref a) (.ref b) H Q :=
  ⟨a, b, xs, ys, rfl, rfl, ha, hb, n1, le_sz l, fun z => absurd z n2, fun _ => q⟩
def spRenamed : Sp := fun vs H Q _ => ∃ q c ms ns, vs = [.ref q, .ref c] ∧ RowsAt H q ms ∧ H c = some (.lst (ns.map V.str)) ∧ ms.length ≤ ns.length ∧ ms.length ≤ 8 ∧ ∀ q' H', H q' = none → Same H H' → RowsAt H' q' (ren ms ns) → Q (.ref q') H'
theorem ok_lRenamed (F : Fx K mg "_law_renamed" s_lRenamed a_lRenamed) (T : Txt K mg) : Cal P w K mg base 1 "_law_renamed" a_lRenamed spRenamed := by
  refine cal_of F sc_lRenamed (fun vs H Q E h => ?_) (fun f cdv A outer s H vs Q E hr h => ?_)
  · obtain ⟨q, c, ms, ns, rfl, _⟩ := h
    rfl
  · obtain ⟨q, c, ms, ns, rfl, ⟨rs, er, ra⟩, ec, lmn, few, k⟩ := h
    have lr : rs.length = ms.length := ra.1
    refine ⟨_, (pss_cons (ps_set (i := 2) sc_lRenamed.nd rfl (Or.inl rfl) (pe_lst pa_nil))
  (pss_cons (ps_for PassesOwn.never rfl (pi_enum rfl T.enumerate (pa_cons (pv 0) pa_nil)) (pg_tup rfl (pgs_cons (pg_name (i := 3) sc_lRenamed.nd rfl (Or.inl rfl)) (pgs_cons (pg_name (i := 4) sc_lRenamed.nd rfl (Or.inl rfl)) pgs_nil)))
  (pss_one (ps_expr (pe_bm PySem.F.plainAttrs_list PySem.F.slot_list_append PySem.F.type_list_append mt_append (pv 2) (pa_cons (pe_op op_catT (pe_op op_catT (pe_slice sl_tupA (pv 4) po_none (po_some pe_int)) (pe_tup (pa_cons (pe_ix ix_list (pv 1) (pv 3) (fun _ _ => rfl)) pa_nil))) (pe_slice sl_tupA (pv 4) (po_some pe_int) po_none)) pa_nil)))))
  (pss_one (ps_ret (pv 2))))), ?_⟩
    try dsimp only [cxOf]
    refine at_ [some (.ref q), some (.ref c), none, none, none] rfl ?_
    walk_at "go"
    refine ⟨le_sz (by simp), fun R hR => ?_⟩
    have sR := same_of_upd (o := .lst []) hR
    have eR := upd_same (H := H) (a := R) (o := .lst [])
    generalize upd H R (.lst []) = H1 at sR eR ⊢
    walk_at "go"
    refine i_en ?_
    walk_at "go"
    refine ⟨q, rs, rfl, SqL.of (sR _ _ er), for_enumL rs (fun i σ H' => ∃ u3 u4, σ = [some (.ref q), some (.ref c), some (.ref R), u3, u4] ∧ Same H H' ∧ ∃ vs, H' R = some (.lst vs) ∧ All2 (RowAt H') vs ((ren ms ns).take i)) ⟨none, none, rfl, sR, [], eR, by simpa using All2.nil⟩ (fun i σ H' _ ⟨_, _, _, s, _⟩ => SqL.of (s _ _ er)) ?_ ?_⟩
    · rintro i x T' σ H2 hx ⟨u3, u4, rfl, s2, vs, e2, a2⟩ hT
      obtain ⟨m, hm, r⟩ := ra.get hx
      have li : i < ms.length := (List.getElem?_eq_some_iff.mp hm).1
      obtain ⟨n, hn⟩ : ∃ n, ns[i]? = some n := ⟨_, List.getElem?_eq_getElem (Nat.lt_of_lt_of_le li lmn)⟩
      have er2 := ren_get hm hn
      have tk : (ren ms ns).take (i + 1) = (ren ms ns).take i ++ [{ m with name := n }] := by rw [List.take_add_one, er2]; rfl
      have sT := same_of_upd (o := .tup [.int (i : Nat), x]) hT
      have eT := upd_same (H := H2) (a := T') (o := .tup [.int (i : Nat), x])
      have e3 := sT _ _ e2
      have s3 := s2.trans sT
      have a3 := a2.mono fun _ _ _ _ => RowAt.nl (same_nl sT)
      have ec3 := s3 _ _ ec
      generalize upd H2 T' (.tup [.int (i : Nat), x]) = H3 at sT eT e3 s3 a3 ec3 ⊢
      have r3 := r.nl (same_nl s3)
      have ac : atI (ns.map V.str) (i : Nat) = some (.str n) := atN (by rw [List.getElem?_map, hn]; rfl)
      have la : vs.length ≤ 8 := by
        have := a2.1
        rw [List.length_take] at this
        have := ren_length lmn
        omega
      -- the new row, its parts told
      obtain ⟨t, rfl, body⟩ := r3
      have fin : ∀ (h : V) (rest : List V), H3 t = some (.tup (h :: .str m.name :: rest)) → rest ≠ [] → rest.length ≤ 10 → (∀ H4 p, Same H3 H4 → H4 p = some (.tup ([h, .str n] ++ rest)) → RowAt H4 (.ref p) { m with name := n }) →
          tDrop (tBM K "list" rAppend (tVar 2) (tCons (tOp (rCatT K) (tOp (rCatT K) (tSl (rSlA K) (tVar 4) tNoPart (tPart (tC (.int 1)))) (tTup (tCons (tOp (rIxL K) (tVar 1) (tVar 3)) tNil))) (tSl (rSlA K) (tVar 4) (tPart (tC (.int 2))) tNoPart)) tNil)) { nx := fun σ H' => ∃ u3 u4, σ = [some (.ref q), some (.ref c), some (.ref R), u3, u4] ∧ Same H H' ∧ ∃ vs, H' R = some (.lst vs) ∧ All2 (RowAt H') vs ((ren ms ns).take (i + 1)), rt := Q, bk := fun σ H => tRet (tVar 2) { nx := fun x H' => Q V.non H', rt := Q } σ H, ct := fun σ H' => ∃ u3 u4, σ = [some (.ref q), some (.ref c), some (.ref R), u3, u4] ∧ Same H H' ∧ ∃ vs, H' R = some (.lst vs) ∧ All2 (RowAt H') vs ((ren ms ns).take (i + 1)) } [some (.ref q), some (.ref c), some (.ref R), some (.int (i : Nat)), some (.ref t)] H3 := fun h rest et nr lr2 rowOk => by
        walk_at "go"
        refine ⟨.inl ⟨rfl, _, SqL.of e3⟩, ?_⟩
        walk_at "go"
        refine i_slA (SqT.of et) (fun p1 H4 s4 c1 => ?_)
        rw [cut_take (by decide)] at c1
        have ec4 := s4 _ _ ec3
        walk_at "go"
        refine ⟨le_sz (by simp), fun p2 hp2 => ?_⟩
        have s5 := same_of_upd (o := .tup [.str n]) hp2
        have c2 := upd_same (H := H4) (a := p2) (o := .tup [.str n])
        have c1' := same_tup s5 c1
        have et5 := s5 _ _ (s4 _ _ et)
        have s35 := s4.trans s5
        generalize upd H4 p2 (.tup [.str n]) = H5 at s5 c2 c1' et5 s35 ⊢
        refine i_catT c1' (SqT.of c2) (by simp) (by simp) (by simp) (fun p3 hp3 => ?_)
        have e12 : ((h :: V.str m.name :: rest).take (Int.toNat 1) ++ [V.str n]) = [h, .str n] := rfl
        rw [e12]
        have s6 := same_of_upd (o := .tup [h, .str n]) hp3
        have c3 := upd_same (H := H5) (a := p3) (o := .tup [h, .str n])
        have et6 := s6 _ _ et5
        have s36 := s35.trans s6
        generalize upd H5 p3 (.tup [h, .str n]) = H6 at s6 c3 et6 s36 ⊢
        walk_at "go"
        refine i_slA (SqT.of et6) (fun p4 H7 s7 c4 => ?_)
        rw [cut_drop2] at c4
        have s37 := s36.trans s7
        refine i_catT (SqT.of (s7 _ _ c3)) c4 (by simp) nr (by simp; omega) (fun p5 hp5 => ?_)
        have s8 := same_of_upd (o := .tup ([h, .str n] ++ rest)) hp5
        have c5 := upd_same (H := H7) (a := p5) (o := .tup ([h, .str n] ++ rest))
        have s38 := s37.trans s8
        have e12' : (h :: V.str m.name :: rest).drop 2 = rest := rfl
        rw [e12']
        generalize upd H7 p5 (.tup ([h, .str n] ++ rest)) = H8 at s8 c5 s38 ⊢
        walk_at "go"
        refine i_append (s38 _ _ e3) (lt_sz (by omega)) ?_
        have nl9 := nl_upd (o' := .lst (vs ++ [.ref p5])) (s38 _ _ e3) rfl
        refine ⟨_, _, rfl, same_in_upd (s3.trans s38) hR, _, upd_same, ?_⟩
        rw [tk]
        exact (a3.mono fun _ _ _ _ z => (z.nl (same_nl s38)).nl nl9).snoc ((rowOk H8 p5 s38 c5).nl nl9)
      refine i_gtup (SqT.of eT) rfl ?_
      refine i_gc ?_
      (with_reducible apply K19.i_name)
      (case h => walk_at "ls")
      refine i_gc ?_
      (with_reducible apply K19.i_name)
      (case h => walk_at "ls")
      refine i_gn ?_
      rcases body with ⟨d, d1, d2, et⟩ | ⟨d, g, et, hg⟩
      · exact fin _ _ et (by simp) (by simp) fun H4 p _ e => ⟨p, rfl, .inl ⟨d, d1, d2, e⟩⟩
      · exact fin _ _ et (by simp) (by simp) fun H4 p s e => ⟨p, rfl, .inr ⟨d, g, e, hg.nl (same_nl s)⟩⟩
    · rintro σ H2 ⟨u3, u4, rfl, s2, vs, e2, a2⟩
      walk_at "go"
      rw [lr, ← ren_length lmn, List.take_length] at a2
      exact k R H2 hR s2 ⟨vs, e2, a2⟩
end
end K19
namespace K19
open PySem L2
open PyProof.Rows (envOfC)
section
variable {P : Program} {w : World} {K : PySem.W.Frag} {mg : Str → Option Value} {base : Heap}
def spNamedBy : Sp := fun vs H Q _ => ∃ (v : V) (l : Addr) (xs : List V) (a : Nat) (o : Option Nat) (x : V), vs = [v, .ref l] ∧ ToldAt H v (some (a, o)) ∧ H l = some (.lst xs) ∧ xs[a]? = some x ∧ (∀ b, o = some b → ∃ y, xs[b]? = some y) ∧
  ∀ q y H', Same H H' → H' q = some (.lst [x, y]) → ((o = none ∧ y = .non) ∨ ∃ b, o = some b ∧ xs[b]? = some y) → Q (.ref q) H'
theorem ok_lNamedBy (F : Fx K mg "_law_named_by" s_lNamedBy a_lNamedBy) : Cal P w K mg base 1 "_law_named_by" a_lNamedBy spNamedBy := by
  refine cal_of F sc_lNamedBy (fun vs H Q E h => ?_) (fun f cdv A outer s H vs Q E hr h => ?_)
  · obtain ⟨v, l, xs, a, o, x, rfl, _⟩ := h
    rfl
  · obtain ⟨v, l, xs, a, o, x, rfl, told, el, ex, ob, k⟩ := h
    obtain ⟨t, z, y, rfl, et, zy⟩ : ∃ t z y, v = .ref t ∧ H t = some (.tup [.int (a : Nat), z]) ∧ ((o = none ∧ z = .non ∧ y = .non) ∨ ∃ b : Nat, o = some b ∧ z = .int b ∧ xs[b]? = some y) := by
      cases o with
      | none =>
        obtain ⟨t, rfl, e⟩ := told
        exact ⟨t, _, .non, rfl, e, .inl ⟨rfl, rfl, rfl⟩⟩
      | some b =>
        obtain ⟨t, rfl, e⟩ := told
        obtain ⟨y, ey⟩ := ob b rfl
        exact ⟨t, _, y, rfl, e, .inr ⟨b, rfl, rfl, ey⟩⟩
    refine ⟨_, (pss_cons (ps_if (pt_cmpR op_isN (pv 0) pe_non (nomark _))
  (pss_one (ps_ret pe_non))
  pss_nil)
  (pss_one (ps_ret (pe_lc (own := [("_law_place", 2)]) (tt := tYes) (te := (tIf _ _ (tOp (rIxL K) _ _))) rfl sc_lNamedBy.nd (pi_tup (pv 0)) (blkOk_by (N := n_lNamedBy) (sc := defScope s_lNamedBy) (by decide +kernel)) (fun _ _ _ _ _ => (pg_name (i := 2) sc_lNamedBy.nd rfl (Or.inl rfl))) (fun _ _ _ _ _ => pts_nil) (fun _ _ _ _ _ => (pe_ifExp (pt_cmpR op_isN (pv 2) pe_non (nomark _)) pe_non (pe_ix ix_list (pv 1) (pv 2) (fun _ _ => rfl)))))))), ?_⟩
    try dsimp only [cxOf]
    refine at_ [some (.ref t), some (.ref l), none] rfl ?_
    walk_at "go"
    refine ⟨rfl, ?_⟩
    walk_at "go"
    refine i_decF (fun z => nomatch z) ?_
    walk_at "go"
    refine ⟨⟨_, SqT.of et⟩, fun D hD => lc_j walk_tup (fun _ _ _ _ _ _ y => y) (lt_sz (by simp)) hD (σ0 := [some (.ref t), some (.ref l), none]) rfl (fun i acc _ => acc = [x, y].take i) (fun _ _ _ _ _ h => h) rfl (fun H' s => same_tup s (SqT.of et)) (fun i it acc H' R hx s1 ea k1 => ?_) (fun acc H' s1 eD ea _ => ?_)⟩
    · have el1 := s1 _ _ el
      have a0 := atN ex
      match i, hx, ea, k1 with
      | 0, hx, ea, k1 =>
        cases hx
        have q1 := k1 (some x) H' (Same.refl H') (by rw [ea]; rfl)
        walk_at "go"
        refine ⟨rfl, ?_⟩
        walk_at "go"
        refine ⟨rfl, ?_⟩
        walk_at "go"
        refine i_decF (fun z => nomatch z) ?_
        walk_at "go"
        exact q1
      | 1, hx, ea, k1 =>
        cases hx
        have q1 := k1 (some y) H' (Same.refl H') (by rw [ea]; rfl)
        rcases zy with ⟨_, rfl, rfl⟩ | ⟨b, _, rfl, ey⟩
        · walk_at "go"
          refine ⟨rfl, ?_⟩
          walk_at "go"
          refine ⟨rfl, ?_⟩
          walk_at "go"
          refine i_decT rfl ?_
          walk_at "go"
          exact q1
        · have a1 := atN ey
          walk_at "go"
          refine ⟨rfl, ?_⟩
          walk_at "go"
          refine ⟨rfl, ?_⟩
          walk_at "go"
          refine i_decF (fun z => nomatch z) ?_
          walk_at "go"
          exact q1
      | i + 2, hx, _, _ => exact absurd hx (by simp)
    · rw [show [x, y].take [V.int (a : Nat), z].length = [x, y] from rfl] at ea
      subst ea
      walk_at "go"
      refine k D y H' s1 eD (zy.imp (fun q => ⟨q.1, q.2.2⟩) fun ⟨b, q1, _, q2⟩ => ⟨b, q1, q2⟩)
end
end K19
namespace K19
open PySem L2
open PyProof.Rows (envOfC)
section
variable {P : Program} {w : World} {K : PySem.W.Frag} {mg : Str → Option Value} {base : Heap}
def spFits : Sp := fun vs H Q _ => ∃ (v : V) (l q : Addr) (ms : List Mem) (xs : List V) (ws : List Wk) (r : Option (Nat × Option Nat)), vs = [v, .ref l, .ref q] ∧ RowsAt H q ms ∧ CrewOk ms ∧ H l = some (.lst xs) ∧ All2 (WorkT H) xs ws ∧ WorksOk ms ws ∧ ws ≠ [] ∧ ServedIs ms ws r ∧ ToldAt H v r ∧
  ∀ H', Same H H' → Q (.bl true) H'
theorem ok_lFits (F : Fx K mg "_law_fits" s_lFits a_lFits) (T : Txt K mg) (C_lRowOf : Cal P w K mg base 1 "_law_row_of" a_lRowOf spRowOf) (C_lDue : Cal P w K mg base 1 "_law_due" a_lDue spDue) : Cal P w K mg base 2 "_law_fits" a_lFits spFits := by
  refine cal_of F sc_lFits (fun vs H Q E h => ?_) (fun f cdv A outer s H vs Q E hr h => ?_)
  · obtain ⟨v, l, q, ms, xs, ws, r, rfl, _⟩ := h
    rfl
  · obtain ⟨v, l, q, ms, xs, ws, r, rfl, hrow, ok, el, wa, wok, ne, sv, told, k⟩ := h
    have few := wok.few
    have lx : xs.length = ws.length := wa.1
    obtain ⟨a, ka, ea, least, cases_⟩ := law_fit ok wok ne sv
    obtain ⟨t, x0, x1, rfl, et, body⟩ : ∃ t x0 x1, v = .ref t ∧ H t = some (.tup [x0, x1]) ∧ ((x0 = .int (a : Nat) ∧ x1 = .non) ∨ ∃ (b : Nat) (l : Wk), x0 = .int b ∧ x1 = .int (a : Nat) ∧ ws[b]? = some l ∧ ka.done = 0 ∧ l.done ≠ 0 ∧ b ≠ a) := by
      rcases cases_ with rfl | ⟨b, l, eb, rfl, z⟩
      · obtain ⟨t, e, h⟩ := told
        exact ⟨t, _, _, e, h, .inl ⟨rfl, rfl⟩⟩
      · obtain ⟨t, e, h⟩ := told
        exact ⟨t, _, _, e, h, .inr ⟨b, l, rfl, rfl, eb, z⟩⟩
    refine ⟨_, (pss_cons (ps_setLc (i := 3) (own := [("_law_one", 4)]) (tt := tYes) (te := (tOp _ (tOp (rIxT K) _ _) (tCall _ _ _ (tCons (tCall _ _ _ (tCons _ (tCons (tOp (rIxT K) _ _) tNil))) tNil)))) rfl sc_lFits.nd rfl rfl (sw_true rfl rfl rfl (by decide +kernel)) (pi_list (pv 1)) (blkOk_by (N := n_lFits) (sc := defScope s_lFits) (by decide +kernel)) (fun _ _ _ _ _ => (pg_name (i := 4) sc_lFits.nd rfl (Or.inl rfl))) (fun _ _ _ _ _ => pts_nil) (fun _ _ _ _ _ => (pe_op op_add (pe_ix ix_tup (pv 4) pe_int (fun _ _ => rfl)) (pe_cal C_lDue (hr.mono (by decide)) (pa_cons (pe_cal C_lRowOf (hr.mono (by decide)) (pa_cons (pv 2) (pa_cons (pe_ix ix_tup (pv 4) pe_int (fun _ _ => rfl)) pa_nil))) pa_nil)))))
  (pss_cons (ps_if (pt_cmpR op_isN (pe_ix ix_tup (pv 0) pe_int (fun _ _ => rfl)) pe_non (nomark _))
  (pss_one (ps_ret (pe_cmpR op_eq (pe_ix ix_list (pv 3) (pe_ix ix_tup (pv 0) pe_int (fun _ _ => rfl)) (fun _ _ => rfl)) (pe_callB (cr_min rfl) (by rfl) T.min (by decide +kernel) (pa_cons (pv 3) pa_nil)) (nomark _))))
  pss_nil)
  (pss_cons (ps_if (PW.pt (pw_or (pt_cmpR op_ne (pe_ix ix_tup (pe_ix ix_list (pv 1) (pe_ix ix_tup (pv 0) pe_int (fun _ _ => rfl)) (fun _ _ => rfl)) pe_int (fun _ _ => rfl)) pe_int (nomark _)) (pw_or (pt_cmpR op_eq (pe_ix ix_tup (pe_ix ix_list (pv 1) (pe_ix ix_tup (pv 0) pe_int (fun _ _ => rfl)) (fun _ _ => rfl)) pe_int (fun _ _ => rfl)) pe_int (nomark _)) (pw_or1 (pt_cmpR op_eq (pe_ix ix_tup (pv 0) pe_int (fun _ _ => rfl)) (pe_ix ix_tup (pv 0) pe_int (fun _ _ => rfl)) (nomark _))))))
  (pss_one (ps_ret pe_bl))
  pss_nil)
  (pss_one (ps_ret (pe_cmpR op_eq (pe_ix ix_list (pv 3) (pe_ix ix_tup (pv 0) pe_int (fun _ _ => rfl)) (fun _ _ => rfl)) (pe_callB (cr_min rfl) (by rfl) T.min (by decide +kernel) (pa_cons (pv 3) pa_nil)) (nomark _))))))), ?_⟩
    try dsimp only [cxOf]
    refine at_ [some (.ref t), some (.ref l), some (.ref q), none, none] rfl ?_
    walk_at "go"
    refine ⟨⟨_, SqL.of el⟩, fun D hD => lc_j walk_list (fun _ _ _ _ _ _ y => y) (lt_sz (by omega)) hD (σ0 := [some (.ref t), some (.ref l), some (.ref q), none, none]) rfl (fun i acc _ => acc = (ws.take i).map fun k => V.int (k.comes + dueOf ms k.name)) (fun _ _ _ _ _ h => h) rfl (fun H' s => s.seq (SqL.of el)) (fun i x acc H' R hx s1 eacc k1 => ?_) (fun acc H' s1 eD eacc _ => ?_)⟩
    · obtain ⟨kk, hk, r0⟩ := wa.get hx
      obtain ⟨tx, rfl, etx⟩ := r0.nl (same_nl s1)
      obtain ⟨m, i', hm, hi', en, _, du, _⟩ := wk_facts ok (wok.each kk (List.mem_of_getElem? hk))
      have q1 := fun H' s => k1 (some (.int (kk.comes + m.due))) H' s (by rw [eacc, List.take_add_one, hk, ← du]; simp)
      walk_at "go"
      refine ⟨rfl, ?_⟩
      walk_at "go"
      refine ⟨q, _, ms, m, rfl, hrow.same s1, ok, hm, en, fun v H3 s3 rv => ?_⟩
      walk_at "go"
      refine ⟨v, m, rfl, rv, ?_⟩
      walk_at "go"
      exact q1 H3 s3
    rw [lx, List.take_length] at eacc
    subst eacc
    have et2 := s1 _ _ et
    have el2 := s1 _ _ el
    have endAt : ∀ {j : Nat} {k : Wk}, ws[j]? = some k → atI ((ws.map fun k => k.comes + dueOf ms k.name).map V.int) ((j : Nat) : Int) = some (.int (k.comes + dueOf ms k.name)) := fun {j k} e => atN (by rw [List.map_map, List.getElem?_map, e]; rfl)
    have eD2 : SqL K H' D ((ws.map fun k => k.comes + dueOf ms k.name).map V.int) := by
      rw [List.map_map]
      exact SqL.of eD
    have lw : 0 < (ws.map fun k => k.comes + dueOf ms k.name).length := by
      rw [List.length_map]
      exact List.length_pos_iff.mpr ne
    have isMin : ∀ m, m ∈ (ws.map fun k => k.comes + dueOf ms k.name) → (∀ y ∈ (ws.map fun k => k.comes + dueOf ms k.name), m ≤ y) → decide (V.int (ka.comes + dueOf ms ka.name) = V.int m) = true := fun m hm hl => by
      obtain ⟨k', hk', rfl⟩ := List.mem_map.mp hm
      have q1 := least k' hk'
      have q2 := hl _ (List.mem_map.mpr ⟨ka, List.mem_of_getElem? ea, rfl⟩)
      have : ka.comes + dueOf ms ka.name = k'.comes + dueOf ms k'.name := by omega
      rw [this]
      exact decide_eq_true rfl
    have at1 : atI [x0, x1] 1 = some x1 := at_of (j := 1) rfl rfl
    have at0 : atI [x0, x1] 0 = some x0 := at_of (j := 0) rfl rfl
    have ena := endAt ea
    walk_at "go"
    refine ⟨rfl, ?_⟩
    walk_at "go"
    rcases body with ⟨rfl, rfl⟩ | ⟨b, lb, rfl, rfl, eb, d0, dn, nab⟩
    · refine i_decT rfl ?_
      walk_at "go"
      refine ⟨D, _, rfl, eD2, lw, fun m hm hl => ?_⟩
      walk_at "go"
      rw [isMin m hm hl]
      exact k H' s1
    · refine i_decF (fun z => nomatch z) ?_
      obtain ⟨va, hva, ra⟩ := wa.get' ea
      obtain ⟨ta, rfl, eta⟩ := ra.nl (same_nl s1)
      obtain ⟨vb, hvb, rb⟩ := wa.get' eb
      obtain ⟨tb, rfl, etb⟩ := rb.nl (same_nl s1)
      have aa := atN hva
      have ab := atN hvb
      walk_at "go"
      refine i_nDecT (by rw [d0]) ?_
      walk_at "go"
      refine i_decF (fun z => dn (V.int.inj z)) ?_
      walk_at "go"
      refine i_decF (fun z => nab (by have := V.int.inj z; omega)) ?_
      walk_at "go"
      refine ⟨D, _, rfl, eD2, lw, fun m hm hl => ?_⟩
      walk_at "go"
      rw [isMin m hm hl]
      exact k H' s1
end
end K19
namespace K19
open PySem L2
open PyProof.Rows (envOfC)
/-- the value of the def's statement i, an assignment -/
def asgVal (st : Stmt) (i : Nat) : Expr := match (defBody st).getD i (.Pass ⟨0, 0, 0, 0⟩) with
  | .Assign _ e _ => e
  | _ => .Constant .none 0 ⟨0, 0, 0, 0⟩
/-- all but the tables and what lies at p stays -/
def KeepN (p : Addr) (H H' : Hp) : Prop := ∀ b o, b ≠ p → (∀ ps, o ≠ .tbl ps) → H b = some o → H' b = some o
theorem KeepN.trans {p : Addr} {H H1 H2 : Hp} (a : KeepN p H H1) (b : KeepN p H1 H2) : KeepN p H H2 := fun c o n t e => b c o n t (a c o n t e)
theorem KeepN.x {p : Addr} {H H' : Hp} (a : KeepX p H H') : KeepN p H H' := fun c o n _ e => a c o n e
theorem KeepN.s {p : Addr} {H H' : Hp} (a : Same H H') : KeepN p H H' := fun c o _ _ e => a c o e
theorem KeepN.n {p : Addr} {H H' : Hp} (a : LamX.ExtN H H') : KeepN p H H' := fun c o _ t e => a c o e t
theorem Pu.ext {H H' : Hp} {p : Addr} (s : LamX.ExtN H H') (u : Pu H p) : Pu H' p := by
  obtain ⟨a, b, c, e⟩ := u
  exact ⟨a, b, c, s _ _ e fun _ z => nomatch z⟩
theorem tabs_keep {T0 : List (Addr × Str)} {H H' : Hp} {p : Addr} (t : LamX.Tabs T0 H) (k : KeepX p H H') (u : Pu H p) : LamX.Tabs T0 H' := by
  obtain ⟨a, b, c, eu⟩ := u
  intro q hq
  obtain ⟨ps, h1, h2, h3⟩ := t q hq
  refine ⟨ps, k _ _ (fun z => ?_) h1, h2, fun pos cv hc => ?_⟩
  · rw [z, eu] at h1
    cases h1
  · obtain ⟨cc, e1, e2⟩ := h3 pos cv hc
    refine ⟨cc, e1, k _ _ (fun z => ?_) e2⟩
    rw [z, eu] at e2
    cases e2
theorem RowsAt.keep {H H' : Hp} {p q : Addr} {ms : List Mem} (r : RowsAt H q ms) (k : KeepX p H H') (u : Pu H p) (n : q ≠ p) : RowsAt H' q ms := by
  obtain ⟨xs, e, z⟩ := r
  exact ⟨xs, k _ _ n e, z.mono fun _ _ _ _ => RowAt.nl (k.nl u)⟩
/-- what the trial has in hand -/
structure RS (gT gD gC p q l : Addr) (c v : V) (ms : List Mem) (xs : List V) (ws : List Wk) (r : Option (Nat × Option Nat)) (H : Hp) : Prop where
  pu : Pu H p
  rows : RowsAt H q ms
  lst : H l = some (.lst xs)
  works : All2 (WorkT H) xs ws
  crew : CrewAt gT gD gC H c ms
  told : ToldAt H v r
theorem ToldAt.nl {H H' : Hp} {v : V} {r : Option (Nat × Option Nat)} (n : NL H H') (t : ToldAt H v r) : ToldAt H' v r := by
  match r, t with
  | none, t => exact t
  | some (a, none), ⟨x, e, h⟩ => exact ⟨x, e, n _ _ rfl h⟩
  | some (a, some b), ⟨x, e, h⟩ => exact ⟨x, e, n _ _ rfl h⟩
section
variable {gT gD gC p q l : Addr} {c v : V} {ms : List Mem} {xs : List V} {ws : List Wk} {r : Option (Nat × Option Nat)} {H H' : Hp}
theorem RS.same (h : RS gT gD gC p q l c v ms xs ws r H) (s : Same H H') : RS gT gD gC p q l c v ms xs ws r H' :=
  ⟨h.pu.same s, h.rows.same s, s _ _ h.lst, h.works.mono fun _ _ _ _ => WorkT.nl (same_nl s), h.crew.nl (same_nl s), h.told.nl (same_nl s)⟩
theorem RS.keep (h : RS gT gD gC p q l c v ms xs ws r H) (k : KeepX p H H') (u : Pu H' p) (nq : q ≠ p) (nl : l ≠ p) : RS gT gD gC p q l c v ms xs ws r H' :=
  ⟨u, h.rows.keep k h.pu nq, k _ _ nl h.lst, h.works.mono fun _ _ _ _ => WorkT.nl (k.nl h.pu), h.crew.nl (k.nl h.pu), h.told.nl (k.nl h.pu)⟩
end
def farW (far : Int) (k : Wk) : Wk := ⟨k.name, k.comes + far, k.done⟩
theorem law_farW {ms : List Mem} {ws : List Wk} {far : Int} (ok : CrewOk ms) (wok : WorksOk ms ws) (wok' : WorksOk ms (ws.map (farW far))) (ne : ws ≠ []) {r r' : Option (Nat × Option Nat)} (h : ServedIs ms ws r) (h' : ServedIs ms (ws.map (farW far)) r') : r' = r := law_far ok wok wok' ne h h'
def wkD (k : Wk) : PyData := .tuple [.str k.name, .int k.comes, .int k.done]
def oD : Option Wk → PyData
  | none => .none
  | some k => wkD k
theorem dp_wk {K : PySem.W.Frag} {H : Hp} {v : V} {k : Wk} (h : WorkT H v k) : Dp K H v (wkD k) := by
  obtain ⟨t, rfl, e⟩ := h
  exact .tup (SqT.of e) (.cons (.str _) (.cons (.int _) (.cons (.int _) .nil)))
theorem dp_pick {K : PySem.W.Frag} {H : Hp} {xs : List V} {ws : List Wk} (wa : All2 (WorkT H) xs ws) {q : Addr} {x y : V} (e : H q = some (.lst [x, y])) {a : Nat} {o : Option Nat} {k : Wk} {ok : Option Wk} (ex : xs[a]? = some x) (ek : ws[a]? = some k) (hy : (o = none ∧ y = .non) ∨ ∃ b, o = some b ∧ xs[b]? = some y)
    (hk : (o = none ∧ ok = none) ∨ ∃ b k', o = some b ∧ ok = some k' ∧ ws[b]? = some k') : Dp K H (.ref q) (.list [wkD k, oD ok]) := by
  have dx := dp_wk (K := K) (wa.2 a x k ex ek)
  rcases hk with ⟨rfl, rfl⟩ | ⟨b, k', rfl, rfl, ek'⟩
  · rcases hy with ⟨_, rfl⟩ | ⟨b, z, _⟩
    · exact .lst (SqL.of e) (.cons dx (.cons .non .nil))
    · cases z
  · rcases hy with ⟨z, _⟩ | ⟨b', z, ey⟩
    · cases z
    · cases z
      exact .lst (SqL.of e) (.cons dx (.cons (dp_wk (wa.2 b y k' ey ek')) .nil))
theorem shaped_pick {ms : List Mem} (cok : CrewOk ms) {k : Wk} {ok : Option Wk} (h : WkOk ms k) (h' : ∀ k', ok = some k' → WkOk ms k') : SeqAt.shaped (.list [wkD k, oD ok]) = true := by
  have nm : ∀ {k : Wk}, WkOk ms k → PyData.strOk k.name = true := fun {k} h => by
    obtain ⟨m, hm, en, _⟩ := h.2.2
    rw [← en]
    exact strOk_name (cok.each m hm).name
  have n1 := nm h
  cases ok with
  | none => simp [SeqAt.shaped, wkD, oD, PyData.canLay0, PyData.canLayAll0, PyData.depth, PyData.depthAll, n1]
  | some k' =>
    have n2 := nm (h' k' rfl)
    simp [SeqAt.shaped, wkD, oD, PyData.canLay0, PyData.canLayAll0, PyData.depth, PyData.depthAll, n1, n2]
/-- an answer as data -/
def rD : Option (Nat × Option Nat) → PyData
  | none => .none
  | some (a, none) => .tuple [.int (a : Nat), .none]
  | some (a, some b) => .tuple [.int (a : Nat), .int (b : Nat)]
theorem dp_told {K : PySem.W.Frag} {H : Hp} {v : V} {r : Option (Nat × Option Nat)} (t : ToldAt H v r) : Dp K H v (rD r) := by
  match r, t with
  | none, t =>
    have : v = .non := t
    subst this
    exact .non
  | some (a, none), ⟨x, e, h⟩ =>
    subst e
    exact .tup (SqT.of h) (.cons (.int _) (.cons .non .nil))
  | some (a, some b), ⟨x, e, h⟩ =>
    subst e
    exact .tup (SqT.of h) (.cons (.int _) (.cons (.int _) .nil))
theorem shaped_r (r : Option (Nat × Option Nat)) : SeqAt.shaped (rD r) = true := by
  match r with
  | none => simp [SeqAt.shaped, rD, PyData.canLay0, PyData.depth]
  | some (a, none) => simp [SeqAt.shaped, rD, PyData.canLay0, PyData.canLayAll0, PyData.depth, PyData.depthAll]
  | some (a, some b) => simp [SeqAt.shaped, rD, PyData.canLay0, PyData.canLayAll0, PyData.depth, PyData.depthAll]
theorem eqv_self {d : PyData} (h : SeqAt.shaped d = true) : PyData.eqv d d = true := PySem.SeqAt.eqv_refl d (SeqAt.canLay_of_shaped h)
section
variable {P : Program} {w : World} {K : PySem.W.Frag} {mg : Str → Option Value} {base : Heap} {T0 : List (Addr × Str)} {gT gD gC : Addr}
def spRight (T0 : List (Addr × Str)) : Sp := fun vs H Q _ => ∃ p, vs = [.ref p] ∧ Pu H p ∧ LamX.Tabs T0 H ∧ ∀ H', KeepN p H H' → LamX.Tabs T0 H' → Q (.bl true) H'
theorem ok_lRight (F : Fx K mg "_law_right" s_lRight a_lRight) (T : Txt K mg) (C_lTake : Cal P w K mg base 1 "_law_take" a_lTake spTakeP) (C_lRows : Cal P w K mg base 4 "_law_rows" a_lRows spRows) (C_lComings : Cal P w K mg base 2 "_law_comings" a_lComings spComings) (C_lInTurn : Cal P w K mg base 4 "_law_in_turn" a_lInTurn (spInTurn T0))
    (C_lRun : Cal P w K mg base 7 "_law_run" a_lRun (spRun T0)) (C_lCrew : Cal P w K mg base 8 "_law_crew" a_lCrew (spCrew gT gD gC)) (C_pServed : Cal P w K mg base 5 "served" a_pServed (spServed gT gD gC)) (C_lFits : Cal P w K mg base 2 "_law_fits" a_lFits spFits)
    (C_lTurned : Cal P w K mg base 2 "_law_turned" a_lTurned spTurned) (C_lNamedBy : Cal P w K mg base 1 "_law_named_by" a_lNamedBy spNamedBy) (C_lWords : Cal P w K mg base 2 "_law_words" a_lWords spWords) (C_lRenamed : Cal P w K mg base 1 "_law_renamed" a_lRenamed spRenamed) : Cal P w K mg base 9 "_law_right" a_lRight (spRight T0) := by
  refine cal_of F sc_lRight (fun vs H Q E h => ?_) (fun f cdv A outer s H vs Q E hr h => ?_)
  · obtain ⟨p, rfl, _⟩ := h
    rfl
  · obtain ⟨p, rfl, pu, tabs, k⟩ := h
    have hu : (A.deeper (envOfC "_law_right" (defScope s_lRight) s.heap.objs.size f cdv)).units + 1 < cLine := by
      have := hr.units
      omega
    have hu64 : (A.deeper (envOfC "_law_right" (defScope s_lRight) s.heap.objs.size f cdv)).units + 64 < cLine := by
      have := hr.units
      omega
    refine ⟨_, (pss_cons (ps_set (i := 1) sc_lRight.nd rfl (Or.inr rfl) (pe_cal C_lRows (hr.mono (by decide)) (pa_cons (pv 0) (pa_cons pe_int (pa_cons pe_int (pa_cons (pe_op op_add pe_int (pe_cal C_lTake (hr.mono (by decide)) (pa_cons (pv 0) (pa_cons pe_int pa_nil)))) (pa_cons (pe_cmpR op_eq (pe_cal C_lTake (hr.mono (by decide)) (pa_cons (pv 0) (pa_cons pe_int pa_nil))) pe_int (nomark _)) pa_nil)))))))
  (pss_cons (ps_set (i := 2) sc_lRight.nd rfl (Or.inl rfl) (pe_cal C_lInTurn (hr.mono (by decide)) (pa_cons (pv 1) (pa_cons (pe_cal C_lComings (hr.mono (by decide)) (pa_cons (pv 0) (pa_cons (pv 1) (pa_cons pe_int pa_nil)))) pa_nil))))
  (pss_cons (ps_set (i := 3) sc_lRight.nd rfl (Or.inl rfl) (pe_cal C_lRun (hr.mono (by decide)) (pa_cons (pv 1) (pa_cons (pv 2) (pa_cons (pe_op op_add pe_int (pe_cal C_lTake (hr.mono (by decide)) (pa_cons (pv 0) (pa_cons pe_int pa_nil)))) pa_nil)))))
  (pss_cons (ps_setLc (i := 4) (own := [("_law_work", 5)]) (tt := tYes) (te := (tTup (tCons (tOp (rIxL K) _ _) (tCons (tOp (rIxL K) _ _) (tCons (tOp (rIxL K) _ _) tNil))))) rfl sc_lRight.nd rfl rfl (sw_true rfl rfl rfl (by decide +kernel)) (pi_list (pe_dget hu (pv 3) pe_str (fun _ _ => rfl))) (blkOk_by (N := n_lRight) (sc := defScope s_lRight) (by decide +kernel)) (fun _ _ _ _ _ => (pg_name (i := 5) sc_lRight.nd rfl (Or.inl rfl))) (fun _ _ _ _ _ => pts_nil) (fun _ _ _ _ _ => (pe_tup (pa_cons (pe_ix ix_list (pv 5) pe_int (fun _ _ => rfl)) (pa_cons (pe_ix ix_list (pv 5) pe_int (fun _ _ => rfl)) (pa_cons (pe_ix ix_list (pv 5) pe_int (fun _ _ => rfl)) pa_nil))))))
  (pss_cons (ps_set (i := 6) sc_lRight.nd rfl (Or.inl rfl) (pe_cal C_lCrew (hr.mono (by decide)) (pa_cons (pv 1) pa_nil)))
  (pss_cons (ps_set (i := 7) sc_lRight.nd rfl (Or.inl rfl) (pe_cal C_pServed (hr.mono (by decide)) (pa_cons (pv 6) (pa_cons (pe_tupleOf (by rfl) T.tuple (pv 4)) pa_nil))))
  (pss_cons (ps_if (pt_cmpR (op_eqNil hr.units0) (pv 4) (pe_lst pa_nil) (nomark _))
  (pss_one (ps_ret (pe_cmpR op_isN (pv 7) pe_non (nomark _))))
  pss_nil)
  (pss_cons (ps_if (pt_not (pt_val (pe_cal C_lFits (hr.mono (by decide)) (pa_cons (pv 7) (pa_cons (pv 4) (pa_cons (pv 1) pa_nil))))))
  (pss_one (ps_ret pe_bl))
  pss_nil)
  (pss_cons (ps_set (i := 8) sc_lRight.nd rfl (Or.inl rfl) (pe_cal C_lTurned (hr.mono (by decide)) (pa_cons (pv 0) (pa_cons (pv 4) pa_nil))))
  (pss_cons (ps_if (pt_cmpR (op_neD hu64) (pe_cal C_lNamedBy (hr.mono (by decide)) (pa_cons (pe_cal C_pServed (hr.mono (by decide)) (pa_cons (pv 6) (pa_cons (pe_tupleOf (by rfl) T.tuple (pv 8)) pa_nil))) (pa_cons (pv 8) pa_nil))) (pe_cal C_lNamedBy (hr.mono (by decide)) (pa_cons (pv 7) (pa_cons (pv 4) pa_nil))) (nomark _))
  (pss_one (ps_ret pe_bl))
  pss_nil)
  (pss_cons (ps_set (i := 9) sc_lRight.nd rfl (Or.inl rfl) (pe_tup (pa_cons (pe_ix ix_tup (pe_ix ix_list (pv 1) (pe_un un_neg pe_int) (fun _ _ => rfl)) pe_int (fun _ _ => rfl)) (pa_cons (pe_op op_pow pe_int pe_int) (pa_cons pe_int pa_nil)))))
  (pss_cons (ps_if (pt_cmpR (op_neD hu64) (pe_cal C_pServed (hr.mono (by decide)) (pa_cons (pv 6) (pa_cons (pe_tupleOf (by rfl) T.tuple (pe_op op_cat (pv 4) (pe_lst (pa_cons (pv 9) pa_nil)))) pa_nil))) (pv 7) (nomark _))
  (pss_one (ps_ret pe_bl))
  pss_nil)
  (pss_cons (ps_set (i := 10) sc_lRight.nd rfl (Or.inr rfl) (pe_op op_add pe_int (pe_cal C_lTake (hr.mono (by decide)) (pa_cons (pv 0) (pa_cons (pe_op op_pow pe_int pe_int) pa_nil)))))
  (pss_cons (ps_if (pt_cmpR (op_neD hu64) (pe_cal C_pServed (hr.mono (by decide)) (pa_cons (pv 6) (pa_cons (pe_tupleOf (by rfl) T.tuple (pe_lc (own := [("_law_name", 11), ("_law_point", 12), ("_law_done", 13)]) (g := gTup K 3 (gCons (gName 11) (gCons (gName 12) (gCons (gName 13) gNil)))) (tt := tYes) (te := _) rfl sc_lRight.nd (pi_list (pv 4)) (blkOk_by (N := n_lRight) (sc := defScope s_lRight) (by decide +kernel)) (fun _ _ _ _ _ => (pg_tup rfl (pgs_cons (pg_name (i := 11) sc_lRight.nd rfl (Or.inl rfl)) (pgs_cons (pg_name (i := 12) sc_lRight.nd rfl (Or.inl rfl)) (pgs_cons (pg_name (i := 13) sc_lRight.nd rfl (Or.inl rfl)) pgs_nil))))) (fun _ _ _ _ _ => pts_nil) (fun _ _ _ _ _ => (pe_tup (pa_cons (pv 11) (pa_cons (pe_op op_add (pv 12) (pv 10)) (pa_cons (pv 13) pa_nil))))))) pa_nil))) (pv 7) (nomark _))
  (pss_one (ps_ret pe_bl))
  pss_nil)
  (pss_cons (ps_set (i := 14) sc_lRight.nd rfl (Or.inr rfl) (pe_cal C_lWords (hr.mono (by decide)) (pa_cons (pv 0) (pa_cons pe_int pa_nil))))
  (pss_cons (ps_set (i := 15) sc_lRight.nd rfl (Or.inl rfl) (pe_cal C_lRenamed (hr.mono (by decide)) (pa_cons (pv 1) (pa_cons (pv 14) pa_nil))))
  (pss_cons (ps_setLc (i := 16) (own := [("_law_one", 18)]) (tt := tYes) (te := (tOp (rCatT K) (tTup (tCons (tOp (rIxL K) _ (tBM K "list" (rIndex K) (tLc (iList K _) _ tYes (tOp (rIxT K) _ _) _) (tCons (tOp (rIxT K) _ _) tNil))) tNil)) (tSl (rSlA K) _ _ _))) rfl sc_lRight.nd rfl rfl (sw_true rfl rfl rfl (by decide +kernel)) (pi_list (pv 4)) (blkOk_by (N := n_lRight) (sc := defScope s_lRight) (by decide +kernel)) (fun _ _ _ _ _ => (pg_name (i := 18) sc_lRight.nd rfl (Or.inl rfl))) (fun _ _ _ _ _ => pts_nil) (fun _ _ _ _ _ => (pe_op op_catT (pe_tup (pa_cons (pe_ix ix_list (pv 14) (pe_bm PySem.F.plainAttrs_list PySem.F.slot_list_index PySem.F.type_list_index mt_index (pe_lc (own := [("_law_row", 17)]) (tt := tYes) (te := (tOp (rIxT K) _ _)) rfl sc_lRight.nd (pi_list (pv 1)) (blkOk_by (N := n_lRight) (sc := relabel (lcSc (asgVal s_lRight 16)) (envOfC "_law_right" (defScope s_lRight) 0 0 .none)) (by decide +kernel)) (fun _ _ _ _ _ => (pg_name (i := 17) sc_lRight.nd rfl (Or.inl rfl))) (fun _ _ _ _ _ => pts_nil) (fun _ _ _ _ _ => (pe_ix ix_tup (pv 17) pe_int (fun _ _ => rfl)))) (pa_cons (pe_ix ix_tup (pv 18) pe_int (fun _ _ => rfl)) pa_nil)) (fun _ _ => rfl)) pa_nil)) (pe_slice sl_tupA (pv 18) (po_some pe_int) po_none))))
  (pss_one (ps_ret (pe_cmpR (op_eqD hu64) (pe_cal C_pServed (hr.mono (by decide)) (pa_cons (pe_cal C_lCrew (hr.mono (by decide)) (pa_cons (pv 15) pa_nil)) (pa_cons (pe_tupleOf (by rfl) T.tuple (pv 16)) pa_nil))) (pv 7) (nomark _))))))))))))))))))))), ?_⟩
    try dsimp only [cxOf]
    refine at_ [some (.ref p), none, none, none, none, none, none, none, none, none, none, none, none, none, none, none, none, none, none] rfl ?_
    walk_at "go"
    refine ⟨p, 3, rfl, pu, by omega, by omega, fun r1 H1 r10 r11 k1 pu1 => ?_⟩
    walk_at "go"
    refine ⟨p, 2, rfl, pu1, by omega, by omega, fun r2 H2 r20 r21 k2 pu2 => ?_⟩
    walk_at "go"
    refine ⟨p, 1 + r1, _, rfl, pu2, by omega, by omega, fun q ms H3 hq k3 pu3 rows3 ok l1 l7 => ?_⟩
    have nq : q ≠ p := pu2.ne hq
    walk_at "go"
    refine ⟨p, q, ms, rfl, pu3, rows3, nq, ok, fun l0 cs0 ks0 H4 hl0 k4 pu4 el0 wa0 cg0 => ?_⟩
    have rows4 := rows3.keep k4 pu3 nq
    have k04 : KeepX p H H4 := k1.trans (k2.trans (k3.trans k4))
    have tabs4 := tabs_keep tabs k04 pu
    walk_at "go"
    refine ⟨q, l0, ms, cs0, ks0, rfl, rows4, ok, el0, wa0, fun k hk => by obtain ⟨m, hm, en, _⟩ := cg0.each k hk; exact ⟨m, hm, en⟩, tabs4, fun l2 cs ks H5 x5 tabs5 el2 wa2 perm => ?_⟩
    have rows5 := extN_row x5 rows4
    have pu5 := pu4.ext x5
    have kn5 : KeepN p H H5 := (KeepN.x k04).trans (KeepN.n x5)
    have cg := cg0.perm perm
    have nl2 : l2 ≠ p := fun z => by
      obtain ⟨a, b, c, e⟩ := pu5
      rw [z, e] at el2
      cases el2
      obtain ⟨_, _, r⟩ := wa2.get (i := 0) rfl
      obtain ⟨t, e, _⟩ := r
      cases e
    walk_at "go"
    refine ⟨p, 40, rfl, pu5, by omega, by omega, fun r6 H6 r60 r61 k6 pu6 => ?_⟩
    have rows6 := rows5.keep k6 pu5 nq
    have tabs6 := tabs_keep tabs5 k6 pu5
    have el6 := k6 _ _ nl2 el2
    have wa6 : All2 (WorkT H6) cs ks := wa2.mono fun _ _ _ _ => WorkT.nl (k6.nl pu5)
    walk_at "go"
    refine ⟨ms, q, l2, cs, ks, 1 + r6, rfl, rows6, ok, el6, wa6, cg, by omega, by omega, tabs6, fun st wl gs H7 x7 tabs7 gw ew jobs nd len => ?_⟩
    have rows7 := extN_row x7 rows6
    have pu7 := pu6.ext x7
    have kn7 : KeepN p H H7 := kn5.trans ((KeepN.x k6).trans (KeepN.n x7))
    obtain ⟨ws, aw⟩ := all2_ex (R := fun g (k : Wk) => WaitAt ms H7 g k.done ∧ k.name = g.2.1 ∧ k.comes = g.2.2.1) (xs := gs) (fun g hg => by
      obtain ⟨d, h⟩ := jobs g hg
      exact ⟨⟨g.2.1, g.2.2.1, d⟩, h, rfl, rfl⟩)
    have lgw : gs.length = ws.length := aw.1
    have few40 : ∀ k ∈ ws, k.comes ≤ 40 := fun k hk => by
      obtain ⟨g, hg, ⟨_, _, _, _, _, _, _, _, c40, _⟩, _, e2⟩ := aw.right hk
      rw [e2]
      exact c40
    have wok : WorksOk ms ws := by
      refine ⟨by omega, fun k hk => ?_, ?_⟩
      · obtain ⟨g, hg, ⟨_, _, _, _, _, d0, dw, c0, c40, m, hm, en, wc⟩, e1, e2⟩ := aw.right hk
        exact ⟨⟨by omega, by omega⟩, d0, m, hm, by rw [e1, en], by omega⟩
      · have e : ws.map Wk.key = gs.map gkey := by
          refine List.ext_getElem? fun i => ?_
          rw [List.getElem?_map, List.getElem?_map]
          by_cases li : i < ws.length
          · obtain ⟨g, hg, _, e1, e2⟩ := aw.get' (List.getElem?_eq_getElem li)
            rw [hg, List.getElem?_eq_getElem li]
            simp only [Option.map_some, Wk.key, gkey, e1, e2]
          · rw [List.getElem?_eq_none (by omega), List.getElem?_eq_none (by omega)]
            rfl
        rw [e]
        exact nd
    walk_at "go"
    refine i_dget ?_
    walk_at "go"
    refine ⟨st, _, rfl, gw, ?_⟩
    walk_at "go"
    refine ⟨⟨_, SqL.of ew⟩, fun D hD => lc_j walk_list (fun _ _ _ _ _ _ y => y) (lt_sz (by simp; omega)) hD (σ0 := [some (.ref p), some (.ref q), some (.ref l2), some (.ref st), none, none, none, none, none, none, none, none, none, none, none, none, none, none, none]) rfl (fun i acc H' => All2 (WorkT H') acc (ws.take i)) (fun _ _ _ _ n h => h.mono fun _ _ _ _ => WorkT.nl n) All2.nil (fun H' s => s.seq (SqL.of ew)) (fun i x acc H' R hx s1 ea k1 => ?_) (fun xs H8 s8 eD wa8 _ => ?_)⟩
    · rw [List.getElem?_map] at hx
      obtain ⟨g, hg, rfl⟩ := Option.map_eq_some_iff.mp hx
      obtain ⟨kk, hk, ⟨num, due, y1, y2, eg, _⟩, e1, e2⟩ := aw.get hg
      have eg1 := s1 _ _ eg
      walk_at "go"
      refine ⟨rfl, ?_⟩
      walk_at "go"
      refine ⟨le_sz (by simp), fun t ht => ?_⟩
      have st1 := same_of_upd (o := .tup [.str g.2.1, .int g.2.2.1, .int kk.done]) ht
      refine k1 (some (.ref t)) _ st1 ?_
      rw [List.take_add_one, hk]
      exact (ea.mono fun _ _ _ _ => WorkT.nl (same_nl st1)).snoc ⟨t, rfl, by rw [upd_same, e1, e2]⟩
    rw [show (gs.map fun g => V.ref g.1).length = ws.length by rw [List.length_map, lgw], List.take_length] at wa8
    have rows8 := rows7.same s8
    have pu8 := pu7.same s8
    have tabs8 := tabs7.ext s8
    have nDp := pu7.ne hD
    walk_at "go"
    refine ⟨q, ms, rfl, rows8, ok, fun cr H9 s9 crew9 => ?_⟩
    have eD9 := s9 _ _ eD
    have wa9 : All2 (WorkT H9) xs ws := wa8.mono fun _ _ _ _ => WorkT.nl (same_nl s9)
    walk_at "go"
    refine i_kTupL (SqL.of eD9) fun t9 ht9 => ?_
    have st9 := same_of_upd (o := .tup xs) ht9
    have et9 := upd_same (H := H9) (a := t9) (o := .tup xs)
    have s79 := (s8.trans s9).trans st9
    have wt9 := wa9.mono fun _ _ _ _ => WorkT.nl (same_nl st9)
    have eD10 := st9 _ _ eD9
    have crew10 := crew9.nl (same_nl st9)
    generalize upd H9 t9 (.tup xs) = H10 at st9 et9 s79 wt9 eD10 crew10 ⊢
    walk_at "go"
    refine ⟨cr, t9, ms, ws, rfl, crew10, ok, ⟨xs, et9, wt9⟩, wok, fun r v H11 sv s11 told => ?_⟩
    have s7b := s79.trans s11
    have rs11 : RS gT gD gC p q D cr v ms xs ws r H11 := ⟨pu7.same s7b, rows7.same s7b, s11 _ _ eD10, wt9.mono fun _ _ _ _ => WorkT.nl (same_nl s11), crew10.nl (same_nl s11), told⟩
    have kn11 : KeepN p H H11 := kn7.trans (KeepN.s s7b)
    have tabs11 := tabs7.ext s7b
    walk_at "go"
    refine ⟨le_sz (by simp), fun N hN => ?_⟩
    have sN := same_of_upd (o := .lst []) hN
    have eN := upd_same (H := H11) (a := N) (o := .lst [])
    have rs12 := rs11.same sN
    have kn12 := kn11.trans (KeepN.s sN)
    have tabs12 := tabs11.ext sN
    generalize upd H11 N (.lst []) = H12 at sN eN rs12 kn12 tabs12 ⊢
    have lxw : xs.length = ws.length := rs12.works.1
    refine ⟨N, rfl, SqL.of eN, .inl ⟨D, xs, rfl, SqL.of rs12.lst, _, rfl, ?_⟩⟩
    refine i_boo (fun he => ?_) (fun hne => ?_)
    · have wn : ws = [] := by
        cases xs with
        | nil => exact List.length_eq_zero_iff.mp (by rw [← lxw]; rfl)
        | cons _ _ => cases he
      have rn : r = none := by
        rcases sv with ⟨_, e⟩ | ⟨a, k, ⟨e, _⟩, _⟩
        · exact e
        · rw [wn] at e
          simp at e
      subst rn
      have vn : v = .non := rs12.told
      subst vn
      walk_at "go"
      refine ⟨rfl, ?_⟩
      walk_at "go"
      exact k H12 kn12 tabs12
    have wne : ws ≠ [] := fun z => by
      rw [z] at lxw
      cases xs with
      | nil => cases hne
      | cons _ _ => simp at lxw
    clear rs11 kn11 tabs11 s7b told eD10 wt9 et9 crew10 st9 s79 eD9 crew9 wa9 wa8
    walk_at "go"
    refine ⟨v, D, q, ms, xs, ws, r, rfl, rs12.rows, ok, rs12.lst, rs12.works, wok, wne, sv, rs12.told, fun H13 s13 => ⟨true, rfl, ?_⟩⟩
    have rs13 := rs12.same s13
    have kn13 := kn12.trans (KeepN.s s13)
    have tabs13 := tabs12.ext s13
    walk_at "go"
    refine ⟨p, D, xs, rfl, rs13.pu, rs13.lst, nDp, by have := wok.few; omega, fun q2 ys H14 hq2 k14 pu14 eq2 perm => ?_⟩
    have rs14 := rs13.keep k14 pu14 nq nDp
    have kn14 := kn13.trans (KeepN.x k14)
    have tabs14 := tabs_keep tabs13 k14 rs13.pu
    obtain ⟨ws2, pw, wa2'⟩ := rs14.works.perm perm
    have wok2 : WorksOk ms ws2 := ⟨by rw [pw.length_eq]; exact wok.few, fun k hk => wok.each k (pw.mem_iff.mp hk), (pw.map _).nodup_iff.mpr wok.nd⟩
    walk_at "go"
    refine i_kTupL (SqL.of eq2) fun t15 ht15 => ?_
    have s15 := same_of_upd (o := .tup ys) ht15
    have et15 := upd_same (H := H14) (a := t15) (o := .tup ys)
    have rs15 := rs14.same s15
    have wa15 := wa2'.mono fun _ _ _ _ => WorkT.nl (same_nl s15)
    have eq15 := s15 _ _ eq2
    generalize upd H14 t15 (.tup ys) = H15 at s15 et15 rs15 wa15 eq15 ⊢
    walk_at "go"
    refine ⟨cr, t15, ms, ws2, rfl, rs15.crew, ok, ⟨ys, et15, wa15⟩, wok2, fun r2 v2 H16 sv2 s16 told2 => ?_⟩
    have al := law_turn ok wok pw wne sv sv2
    have rs16 := rs15.same s16
    have wa16 := wa15.mono fun _ _ _ _ => WorkT.nl (same_nl s16)
    have eq16 := s16 _ _ eq15
    obtain ⟨a, o, ka, oka, a', o', er, er', ea, ea', ho, ho'⟩ : ∃ a o ka oka a' o', r = some (a, o) ∧ r2 = some (a', o') ∧ ws[a]? = some ka ∧ ws2[a']? = some ka ∧ ((o = none ∧ oka = none) ∨ ∃ b k', o = some b ∧ oka = some k' ∧ ws[b]? = some k') ∧ ((o' = none ∧ oka = none) ∨ ∃ b k', o' = some b ∧ oka = some k' ∧ ws2[b]? = some k') := by
      obtain ⟨a, a', ⟨ka, e1, e2⟩, z⟩ := al
      rcases z with ⟨e3, e4⟩ | ⟨b, b', ⟨kb, e5, e6⟩, e3, e4⟩
      · exact ⟨a, none, ka, none, a', none, e3, e4, e1, e2, .inl ⟨rfl, rfl⟩, .inl ⟨rfl, rfl⟩⟩
      · exact ⟨b, some a, kb, some ka, b', some a', e3, e4, e5, e6, .inr ⟨a, ka, rfl, rfl, e1⟩, .inr ⟨a', ka, rfl, rfl, e2⟩⟩
    have inW : ∀ {H : Hp} {xs : List V} {ws : List Wk} {o : Option Nat} {oka : Option Wk}, All2 (WorkT H) xs ws → ((o = none ∧ oka = none) ∨ ∃ b k', o = some b ∧ oka = some k' ∧ ws[b]? = some k') → ∀ b, o = some b → ∃ y, xs[b]? = some y := fun {H xs ws o oka} wa h b eb => by
      rcases h with ⟨z, _⟩ | ⟨b', k', z, _, ek⟩
      · rw [eb] at z
        cases z
      · rw [eb] at z
        cases z
        obtain ⟨x, ex, _⟩ := wa.get' ek
        exact ⟨x, ex⟩
    obtain ⟨x2, ex2, _⟩ := wa16.get' ea'
    rw [er'] at told2
    walk_at "go"
    refine ⟨v2, q2, ys, a', o', x2, rfl, told2, eq16, ex2, inW wa16 ho', fun n2 y2 H17 s17 en2 hy2 => ?_⟩
    have rs17 := rs16.same s17
    have wa17 := wa16.mono fun _ _ _ _ => WorkT.nl (same_nl s17)
    obtain ⟨x1, ex1, _⟩ := rs17.works.get' ea
    have told17 := rs17.told
    rw [er] at told17
    walk_at "go"
    refine ⟨v, D, xs, a, o, x1, rfl, told17, rs17.lst, ex1, inW rs17.works ho, fun n1 y1 H18 s18 en1 hy1 => ?_⟩
    have rs18 := rs17.same s18
    have wa18 := wa17.mono fun _ _ _ _ => WorkT.nl (same_nl s18)
    have kaOk := wok.each ka (List.mem_of_getElem? ea)
    have sh := shaped_pick ok kaOk (ok := oka) (fun k' hk' => by
      rcases ho with ⟨_, z⟩ | ⟨b, kz, _, z, ek⟩
      · rw [z] at hk'
        cases hk'
      · rw [z] at hk'
        cases hk'
        exact wok.each _ (List.mem_of_getElem? ek))
    have eqv := eqv_self sh
    refine ⟨_, _, dp_pick wa18 (s18 _ _ en2) ex2 ea' hy2 ho', dp_pick rs18.works en1 ex1 ea hy1 ho, sh, sh, _, rfl, ?_⟩
    rw [eqv]
    have s1418 := ((s15.trans s16).trans s17).trans s18
    have kn18 := kn14.trans (KeepN.s s1418)
    have tabs18 := tabs14.ext s1418
    clear rs12 rs13 rs14 rs15 rs16 rs17 kn12 kn13 kn14 tabs12 tabs13 tabs14 s1418
    obtain ⟨rs, erows, ra⟩ := rs18.rows
    obtain ⟨ri, rl, erl⟩ : ∃ i v, rs = i ++ [v] := by
      rcases List.eq_nil_or_concat rs with h | ⟨i, v, h⟩
      · have := ra.1
        rw [h] at this
        simp at this
        omega
      · exact ⟨i, v, by rw [h, List.concat_eq_append]⟩
    have al1 : atI rs (-1) = some rl := by rw [erl]; exact at_last ri rl
    obtain ⟨mz, hmz, rowz⟩ := ra.left (x := rl) (by rw [erl]; simp)
    obtain ⟨tz, xz, rfl, etz, _, az1, _⟩ := rowz.at
    walk_at "go"
    have p6 : ((10 : Int) ^ (Int.toNat 6)) = 1000000 := by decide
    rw [p6]
    refine ⟨le_sz (by simp), fun tl htl => ?_⟩
    have s19 := same_of_upd (o := .tup [.str mz.name, .int 1000000, .int 0]) htl
    have etl := upd_same (H := H18) (a := tl) (o := .tup [.str mz.name, .int 1000000, .int 0])
    have rs19 := rs18.same s19
    generalize upd H18 tl (.tup [.str mz.name, .int 1000000, .int 0]) = H19 at s19 etl rs19 ⊢
    walk_at "go"
    refine ⟨le_sz (by simp), fun p20 hp20 => ?_⟩
    have s20 := same_of_upd (o := .lst [.ref tl]) hp20
    have e20 := upd_same (H := H19) (a := p20) (o := .lst [.ref tl])
    have rs20 := rs19.same s20
    have etl20 := s20 _ _ etl
    generalize upd H19 p20 (.lst [.ref tl]) = H20 at s20 e20 rs20 etl20 ⊢
    have fw := wok.few
    refine ⟨D, p20, xs, _, rfl, rfl, rs20.lst, e20, le_sz (by simp; omega), fun p21 hp21 => ?_⟩
    have s21 := same_of_upd (o := .lst (xs ++ [.ref tl])) hp21
    have e21 := upd_same (H := H20) (a := p21) (o := .lst (xs ++ [.ref tl]))
    have rs21 := rs20.same s21
    have etl21 := s21 _ _ etl20
    generalize upd H20 p21 (.lst (xs ++ [.ref tl])) = H21 at s21 e21 rs21 etl21 ⊢
    refine i_kTupL (SqL.of e21) fun p22 hp22 => ?_
    have s22 := same_of_upd (o := .tup (xs ++ [.ref tl])) hp22
    have e22 := upd_same (H := H21) (a := p22) (o := .tup (xs ++ [.ref tl]))
    have rs22 := rs21.same s22
    have etl22 := s22 _ _ etl21
    generalize upd H21 p22 (.tup (xs ++ [.ref tl])) = H22 at s22 e22 rs22 etl22 ⊢
    have wokz : WorksOk ms (ws ++ [⟨mz.name, 1000000, 0⟩]) := by
      refine ⟨by simp; omega, fun k hk => ?_, ?_⟩
      · rcases List.mem_append.mp hk with z | z
        · exact wok.each k z
        · rw [List.mem_singleton.mp z]
          exact ⟨⟨by show (0 : Int) ≤ 1000000; omega, by show (1000000 : Int) ≤ 1000000000000; omega⟩, Int.le_refl _, mz, hmz, rfl, by have := (ok.each mz hmz).cost; dsimp only; omega⟩
      · rw [List.map_append, List.nodup_append]
        refine ⟨wok.nd, by simp, fun x hx y hy => ?_⟩
        obtain ⟨k, hk, rfl⟩ := List.mem_map.mp hx
        have hy2 : y = (mz.name, 1000000) := by simpa [Wk.key] using hy
        rw [hy2]
        intro z
        have z2 : k.comes = 1000000 := congrArg Prod.snd z
        have := few40 k hk
        omega
    have wa22 : All2 (WorkT H22) (xs ++ [.ref tl]) (ws ++ [⟨mz.name, 1000000, 0⟩]) := rs22.works.snoc ⟨tl, rfl, etl22⟩
    walk_at "go"
    refine ⟨cr, p22, ms, _, rfl, rs22.crew, ok, ⟨_, e22, wa22⟩, wokz, fun r3 v3 H23 sv3 s23 told3 => ?_⟩
    have re := law_late ok wokz few40 rfl rfl wne sv sv3
    rw [re] at told3
    have rs23 := rs22.same s23
    walk_at "go"
    refine ⟨_, _, dp_told told3, dp_told rs23.told, shaped_r r, shaped_r r, _, rfl, ?_⟩
    rw [eqv_self (shaped_r r)]
    have s1823 := (((s19.trans s20).trans s21).trans s22).trans s23
    have kn23 := kn18.trans (KeepN.s s1823)
    have tabs23 := tabs18.ext s1823
    clear rs19 rs20 rs21 rs22 wa22 s1823 kn18 tabs18
    walk_at "go"
    have p9 : ((10 : Int) ^ (Int.toNat 9)) = 1000000000 := by decide
    rw [p9]
    refine ⟨p, 1000000000, rfl, rs23.pu, by omega, by omega, fun far H24 f0 f1 k24 pu24 => ?_⟩
    have rs24 := rs23.keep k24 pu24 nq nDp
    have kn24 := kn23.trans (KeepN.x k24)
    have tabs24 := tabs_keep tabs23 k24 rs23.pu
    clear rs23 kn23 tabs23
    walk_at "go"
    refine ⟨⟨_, SqL.of rs24.lst⟩, fun D2 hD2 => lc_j walk_list (fun _ _ _ _ _ _ y => y) (lt_sz (by omega)) hD2 (σ0 := [some (.ref p), some (.ref q), some (.ref l2), some (.ref st), some (.ref D), none, some cr, some v, some (.ref q2), some (.ref tl), some (.int (1 + far)), none, none, none, none, none, none, none, none]) rfl (fun i acc H' => All2 (WorkT H') acc ((ws.map (farW (1 + far))).take i)) (fun _ _ _ _ n h => h.mono fun _ _ _ _ => WorkT.nl n) All2.nil (fun H' s => s.seq (SqL.of rs24.lst)) (fun i x acc H' R hx s1 ea k1 => ?_) (fun xs2 H25 s25 eD2 wa25 _ => ?_)⟩
    · obtain ⟨kk, hk, r0⟩ := (rs24.same s1).works.get hx
      obtain ⟨tx, rfl, etx⟩ := r0
      walk_at "go"
      refine ⟨rfl, ?_⟩
      walk_at "go"
      refine ⟨le_sz (by simp), fun t ht => ?_⟩
      have st1 := same_of_upd (o := .tup [.str kk.name, .int (kk.comes + (1 + far)), .int kk.done]) ht
      refine k1 (some (.ref t)) _ st1 ?_
      rw [List.take_add_one, List.getElem?_map, hk]
      exact (ea.mono fun _ _ _ _ => WorkT.nl (same_nl st1)).snoc ⟨t, rfl, upd_same⟩
    rw [lxw, show ws.length = (ws.map (farW (1 + far))).length by rw [List.length_map], List.take_length] at wa25
    have rs25 := rs24.same s25
    refine i_kTupL (SqL.of eD2) fun p26 hp26 => ?_
    have s26 := same_of_upd (o := .tup xs2) hp26
    have e26 := upd_same (H := H25) (a := p26) (o := .tup xs2)
    have rs26 := rs25.same s26
    have wa26 : All2 (WorkT (upd H25 p26 (.tup xs2))) xs2 (ws.map (farW (1 + far))) := wa25.mono fun _ _ _ _ => WorkT.nl (same_nl s26)
    generalize upd H25 p26 (.tup xs2) = H26 at s26 e26 rs26 wa26 ⊢
    have wokf : WorksOk ms (ws.map (farW (1 + far))) := by
      refine ⟨by simpa using wok.few, fun k hk => ?_, ?_⟩
      · obtain ⟨k', hk', rfl⟩ := List.mem_map.mp hk
        obtain ⟨⟨c0, _⟩, d0, z⟩ := wok.each k' hk'
        have := few40 k' hk'
        exact ⟨⟨by show 0 ≤ k'.comes + (1 + far); omega, by show k'.comes + (1 + far) ≤ 1000000000000; omega⟩, d0, z⟩
      · rw [List.map_map]
        refine List.pairwise_map.mpr (List.Pairwise.imp (fun {a b} n e => n ?_) (List.Pairwise.of_map (S := fun x y => x ≠ y) (R := fun a b : Wk => Wk.key a ≠ Wk.key b) Wk.key (fun a b n => n) wok.nd))
        have e1 : a.name = b.name := congrArg Prod.fst e
        have e2 : a.comes + (1 + far) = b.comes + (1 + far) := congrArg Prod.snd e
        unfold Wk.key
        rw [e1, show a.comes = b.comes by omega]
    walk_at "go"
    refine ⟨cr, p26, ms, _, rfl, rs26.crew, ok, ⟨_, e26, wa26⟩, wokf, fun r4 v4 H27 sv4 s27 told4 => ?_⟩
    have re4 := law_farW ok wok wokf wne sv sv4
    rw [re4] at told4
    have rs27 := rs26.same s27
    walk_at "go"
    refine ⟨_, _, dp_told told4, dp_told rs27.told, shaped_r r, shaped_r r, _, rfl, ?_⟩
    rw [eqv_self (shaped_r r)]
    have s2427 := (s25.trans s26).trans s27
    have kn27 := kn24.trans (KeepN.s s2427)
    have tabs27 := tabs24.ext s2427
    clear rs24 rs25 rs26 wa25 wa26 kn24 tabs24 s2427
    walk_at "go"
    refine ⟨p, rfl, rs27.pu, fun cl ns H28 hcl k28 pu28 ecl lns nd_ns nm_ns => ?_⟩
    have ncl : cl ≠ p := rs27.pu.ne hcl
    have rs28 := rs27.keep k28 pu28 nq nDp
    have kn28 := kn27.trans (KeepN.x k28)
    have tabs28 := tabs_keep tabs27 k28 rs27.pu
    walk_at "go"
    refine ⟨q, cl, ms, ns, rfl, rs28.rows, ecl, by omega, by omega, fun q3 H29 hq3 s29 rows29 => ?_⟩
    have rs29 := rs28.same s29
    have ecl29 := s29 _ _ ecl
    have kn29 := kn28.trans (KeepN.s s29)
    have tabs29 := tabs28.ext s29
    have lmn : ms.length ≤ ns.length := by omega
    clear rs27 rs28 kn27 kn28 tabs27 tabs28
    walk_at "go"
    refine ⟨⟨_, SqL.of rs29.lst⟩, fun D3 hD3 => lc_j walk_list (fun _ _ _ _ _ _ y => y) (lt_sz (by omega)) hD3 (σ0 := [some (.ref p), some (.ref q), some (.ref l2), some (.ref st), some (.ref D), none, some cr, some v, some (.ref q2), some (.ref tl), some (.int (1 + far)), none, none, none, some (.ref cl), some (.ref q3), none, none, none]) rfl (fun i acc H' => All2 (WorkT H') acc ((ws.map (renW ms ns)).take i)) (fun _ _ _ _ n h => h.mono fun _ _ _ _ => WorkT.nl n) All2.nil (fun H' s => s.seq (SqL.of rs29.lst)) (fun i x acc H' R hx s1 ea3 k1 => ?_) (fun xs3 H30 s30 eD3 wa30 _ => ?_)⟩
    · have rs1 := rs29.same s1
      obtain ⟨kk, hk, r0⟩ := rs1.works.get hx
      obtain ⟨tx, rfl, etx⟩ := r0
      have kOk := wok.each kk (List.mem_of_getElem? hk)
      obtain ⟨mm, ip, nn, hmi, enm, pl, hni, rw_, _⟩ := renW_facts ok lmn nd_ns nm_ns kOk
      obtain ⟨p1, _, p3⟩ := place_at (ms := ms) (n := kk.name) ⟨mm, List.mem_of_getElem? hmi, enm⟩
      obtain ⟨rsx, erx, rax⟩ := rs1.rows
      have ecl1 := s1 _ _ ecl29
      have k2 : ∀ H'', Same H' H'' → ∀ t, H'' t = some (.tup [.str nn, .int kk.comes, .int kk.done]) → R (some (.ref t)) H'' := fun H'' s'' t et => by
        refine k1 (some (.ref t)) H'' s'' ?_
        rw [List.take_add_one, List.getElem?_map, hk]
        refine (ea3.mono fun _ _ _ _ => WorkT.nl (same_nl s'')).snoc ⟨t, rfl, ?_⟩
        rw [rw_]
        exact et
      walk_at "go"
      refine ⟨rfl, ?_⟩
      walk_at "go"
      refine ⟨⟨_, SqL.of erx⟩, fun D4 hD4 => lcm_l (SqL.of erx) hD4 rax.1 (by omega) [some (.ref p), some (.ref q), some (.ref l2), some (.ref st), some (.ref D), none, some cr, some v, some (.ref q2), some (.ref tl), some (.int (1 + far)), none, none, none, some (.ref cl), some (.ref q3), none, none, some (.ref tx)] rfl (fun m => some (V.str m.name)) (fun i x m H2 R2 hx2 hmi2 s2 k3 => ?_) fun H2 s2 e => ?_⟩
      · obtain ⟨t, xs', rfl, et', a0, a1, a2, a3⟩ := ((rax.2 i x m hx2 hmi2).nl (same_nl s2)).at
        have q2' := k3 _ (Same.refl H2)
        walk_at "go"
        refine ⟨rfl, ?_⟩
        walk_at "go"
        exact q2'
      rw [fm_some] at e
      have e2 : H2 D4 = some (.lst ((ms.map Mem.name).map V.str)) := by
        rw [List.map_map]
        exact e
      have etx2 := s2 _ _ etx
      have ecl2 := s2 _ _ ecl1
      have acl : atI (ns.map V.str) ((placeOf ms kk.name : Nat) : Int) = some (.str nn) := atN (by rw [List.getElem?_map, pl, hni]; rfl)
      refine ⟨.inl ⟨rfl, _, SqL.of e2⟩, ?_⟩
      walk_at "go"
      refine ⟨D4, _, _, placeOf ms kk.name, .str kk.name, rfl, rfl, SqL.of e2, rfl, flat_strs _, by rw [List.getElem?_map, p1]; rfl, by simp [eqV], fun i z hi hz => ?_, ?_⟩
      · rw [List.getElem?_map] at hz
        obtain ⟨n, hn, rfl⟩ := Option.map_eq_some_iff.mp hz
        have ne := p3 i hi
        rw [hn] at ne
        have ne2 : ¬ n = kk.name := fun z => ne (by rw [z])
        simp [eqV, ne2]
      walk_at "go"
      refine ⟨le_sz (by simp), fun p5 hp5 => ?_⟩
      have s5 := same_of_upd (o := .tup [.str nn]) hp5
      have e5 := upd_same (H := H2) (a := p5) (o := .tup [.str nn])
      have etx5 := s5 _ _ etx2
      have s25' := s2.trans s5
      generalize upd H2 p5 (.tup [.str nn]) = H5' at s5 e5 etx5 s25' ⊢
      walk_at "go"
      refine i_slA (SqT.of etx5) (fun p6' H6' s6 c6 => ?_)
      rw [cut_tail] at c6
      refine i_catT (SqT.of (s6 _ _ e5)) c6 (by simp) (by simp) (by simp) (fun p7 hp7 => ?_)
      exact k2 _ ((s25'.trans s6).trans (same_of_upd hp7)) p7 upd_same
    rw [lxw, show ws.length = (ws.map (renW ms ns)).length by rw [List.length_map], List.take_length] at wa30
    have rok := ren_ok ok lmn nd_ns nm_ns
    have rs30 := rs29.same s30
    walk_at "go"
    refine ⟨q3, ren ms ns, rfl, rows29.same s30, rok, fun cr2 H31 s31 crew31 => ?_⟩
    have eD31 := s31 _ _ eD3
    have wa31 : All2 (WorkT H31) xs3 (ws.map (renW ms ns)) := wa30.mono fun _ _ _ _ => WorkT.nl (same_nl s31)
    have rs31 := rs30.same s31
    walk_at "go"
    refine i_kTupL (SqL.of eD31) fun p32 hp32 => ?_
    have s32 := same_of_upd (o := .tup xs3) hp32
    have e32 := upd_same (H := H31) (a := p32) (o := .tup xs3)
    have wa32 : All2 (WorkT (upd H31 p32 (.tup xs3))) xs3 (ws.map (renW ms ns)) := wa31.mono fun _ _ _ _ => WorkT.nl (same_nl s32)
    have crew32 := crew31.nl (same_nl s32)
    have rs32 := rs31.same s32
    generalize upd H31 p32 (.tup xs3) = H32 at s32 e32 wa32 crew32 rs32 ⊢
    walk_at "go"
    refine ⟨cr2, p32, ren ms ns, _, rfl, crew32, rok, ⟨_, e32, wa32⟩, renWs_ok ok lmn nd_ns nm_ns wok, fun r5 v5 H33 sv5 s33 told5 => ?_⟩
    have re5 := law_names ok lmn nd_ns nm_ns wok wne sv sv5
    rw [re5] at told5
    have rs33 := rs32.same s33
    walk_at "go"
    refine ⟨_, _, dp_told told5, dp_told rs33.told, shaped_r r, shaped_r r, ?_⟩
    rw [eqv_self (shaped_r r)]
    have s2933 := ((s30.trans s31).trans s32).trans s33
    exact k H33 (kn29.trans (KeepN.s s2933)) (tabs29.ext s2933)
end
end K19
namespace K19
open PySem L2
open PyProof.Rows (envOfC)
section
variable {P : Program} {w : World} {K : PySem.W.Frag} {mg : Str → Option Value} {base : Heap} {T0 : List (Addr × Str)}
theorem ext_seq {H H' : Hp} {a : Addr} {xs : List V} (e : LamX.ExtN H H') (h : SqL K H a xs) : SqL K H' a xs := by
  rcases h with h | h
  · rcases h with h | ⟨o, h⟩
    · exact .inl (.inl (e _ _ h fun _ z => nomatch z))
    · exact .inl (.inr ⟨o, e _ _ h fun _ z => nomatch z⟩)
  · exact .inr h
theorem fn_ofN {f : Addr} {fd : FuncData} {x : Str} {st : Stmt} {ps N : List Str} {k : Nat} {sp : Sp} (G : FunD K x x (defArgs st) (defBody st) (defScope st) [] [] f fd) (S : FnScope N ps (defScope st)) (len : ∀ vs H Q E, sp vs H Q E → vs.length = ps.length)
    (hbody : ∀ (f : Addr) (cdv : Value) (A : Around) (outer : List Env) (s : Shared) (H : Hp) (vs : List V) (Q : VK) (E : XK), Room k (A.deeper (envOfC x (defScope st) s.heap.objs.size f cdv)) → sp vs H Q E →
      ∃ t, PSs (cxOf CX0 P w K mg base N x (defScope st) f cdv A outer s H E).nox (defBody st) t ∧ t { nx := fun _ H' => Q .non H', rt := Q } (start N vs) H) : FnOk P w K mg base CX0 (k + 1) f fd ps sp := by
  refine G.ok S len fun cdv A outer s H vs Q E hr h => ?_
  obtain ⟨t, ht, q⟩ := hbody f cdv A outer s H vs Q E hr h
  exact ⟨t, ht.nox, q⟩
def spLaw (T0 : List (Addr × Str)) (K : PySem.W.Frag) : Sp := fun vs H Q _ => ∃ (a : Addr) (ns : List Int), vs = [.ref a] ∧ SqL K H a (ns.map V.int) ∧ LamX.Tabs T0 H ∧ ∀ H', Q (.bl true) H'
theorem ok_lLaw {fL : Addr} {fdL : FuncData} (F : FunD K "law" "law" (defArgs s_lLaw) (defBody s_lLaw) (defScope s_lLaw) [] [] fL fdL) (T : Txt K mg) (C_lRight : Cal P w K mg base 9 "_law_right" a_lRight (spRight T0)) (C_lPurse : Cal P w K mg base 1 "_law_purse" a_lPurse spPurse) (C_lCell : Cal P w K mg base 1 "_law_cell" a_lCell (spCell K)) : FnOk P w K mg base CX0 10 fL fdL a_lLaw (spLaw T0 K) := by
  refine fn_ofN F sc_lLaw (fun vs H Q E h => ?_) (fun f cdv A outer s H vs Q E hr h => ?_)
  · obtain ⟨a, ns, rfl, _⟩ := h
    rfl
  · obtain ⟨a, ns, rfl, sq, tabs, k⟩ := h
    refine ⟨_, (pss_cons (ps_set (i := 1) sc_lLaw.nd rfl (Or.inl rfl) (pe_callB (call_max2 rfl) (by rfl) T.max (by decide +kernel) (pa_cons pe_int (pa_cons (pe_callB (call_min2 rfl) (by rfl) T.min (by decide +kernel) (pa_cons (pe_callB call_len_seq (by rfl) T.len (by decide +kernel) (pa_cons (pv 0) pa_nil)) (pa_cons pe_int pa_nil))) pa_nil))))
  (pss_one (ps_ret (pe_callB (cr_all rfl) (by rfl) T.all (by decide +kernel) (pa_cons (pe_lc (own := [("_law_k", 2)]) (tt := tYes) (te := _) rfl sc_lLaw.nd (pi_range1 rfl T.range (pa_cons (pv 1) pa_nil)) (blkOk_by (N := n_lLaw) (sc := defScope s_lLaw) (by decide +kernel)) (fun _ _ _ _ _ => (pg_name (i := 2) sc_lLaw.nd rfl (Or.inl rfl))) (fun _ _ _ _ _ => pts_nil) (fun _ _ _ _ _ => (pe_cal C_lRight (hr.mono (by decide)) (pa_cons (pe_cal C_lPurse (hr.mono (by decide)) (pa_cons (pe_cal C_lCell (hr.mono (by decide)) (pa_cons (pv 0) (pa_cons (pv 2) pa_nil))) pa_nil)) pa_nil)))) pa_nil))))), ?_⟩
    try dsimp only [cxOf]
    refine at_ [some (.ref a), none, none] rfl ?_
    walk_at "go"
    have many : ∀ L : Int, 0 ≤ L → ∃ n : Nat, n ≤ 8 ∧ (if (if 8 < L then 8 else L) > 2 then if 8 < L then 8 else L else 2) = (n : Int) := fun L hL => by
      refine ⟨(if (if 8 < L then 8 else L) > 2 then if 8 < L then 8 else L else 2).toNat, ?_, ?_⟩
      · split <;> split <;> omega
      · split <;> split <;> omega
    obtain ⟨n, n8, en⟩ := many ((List.map V.int ns).length : Nat) (by omega)
    rw [en]
    clear many en
    refine ⟨by omega, by omega, fun D hD => ?_⟩
    have eD := upd_same (H := H) (a := D) (o := .lst [])
    have sD := same_of_upd (o := .lst []) hD
    refine lc_it walk_range (fun i H' => LamX.ExtN H H' ∧ LamX.Tabs T0 H' ∧ H' D = some (.lst (List.replicate i (V.bl true)))) ⟨extN_same sD, tabs.ext sD, eD⟩ (fun _ _ _ _ => trivial) ?_ ?_
    · rintro i x H1 H1' hi ⟨x1, t1, e1⟩ ⟨rfl, rfl⟩
      walk_at "go"
      refine ⟨rfl, ?_⟩
      walk_at "go"
      refine ⟨a, _, ns, rfl, by omega, by omega, ext_seq x1 sq, fun z H2 s2 => ?_⟩
      walk_at "go"
      refine ⟨z, rfl, fun p pa pb pd hp => ?_⟩
      have s3 := same_of_upd (o := .lst [.int pa, .int pb, .int pd]) hp
      have e3 := upd_same (H := H2) (a := p) (o := .lst [.int pa, .int pb, .int pd])
      generalize upd H2 p (.lst [.int pa, .int pb, .int pd]) = H3 at s3 e3 ⊢
      have s13 := s2.trans s3
      walk_at "go"
      refine ⟨p, rfl, ⟨pa, pb, pd, e3⟩, t1.ext s13, fun H4 k4 t4 => ?_⟩
      have pn : ∀ b o, H2 b = some o → b ≠ p := fun b o e z => by rw [z, hp] at e; cases e
      have x14 : LamX.ExtN H1' H4 := fun b o e nt => k4 b o (pn b o (s2 _ _ e)) nt (s13 _ _ e)
      have e4 := x14 _ _ e1 fun _ z => nomatch z
      have nDo : H D = none := hD
      walk_at "go"
      refine ⟨_, e4, lt_sz (by simp; omega), fun b o e nt => ?_, tabs_upd t4 e4 rfl (fun _ z => nomatch z), ?_⟩
      · exact upd_ne2 (fun z => by rw [z, hD] at e; cases e) (x14 _ _ (x1 _ _ e nt) nt)
      · rw [upd_same, List.replicate_succ']
    · rintro H1 ⟨x1, t1, e1⟩
      walk_at "go"
      refine ⟨D, List.replicate n true, rfl, SqL.of (by rw [e1, List.map_replicate, Int.toNat_natCast]), ?_⟩
      rw [show (List.replicate n true).all id = true by simp]
      exact k H1
end
end K19
namespace K19
open PySem L2
open PyProof.Rows (envOfC)
theorem isiB_ok {K : PySem.W.Frag} {C : Addr} (h : isiB K C = true) : IsiC K C := by
  obtain ⟨h1, h⟩ := He.ba h
  obtain ⟨h2, h⟩ := He.ba h
  obtain ⟨h3, h4⟩ := He.ba h
  exact ⟨of_decide_eq_true h1, of_decide_eq_true h2, of_decide_eq_true h3, of_decide_eq_true h4⟩
end K19
namespace K19
open PySem L2
open PyProof.Rows (envOfC)
section
variable {P : Program} {w : World} {K : PySem.W.Frag} {h base : Heap} {mg : Str → Option Value}
theorem txt_of (c : He.SaysX fa fn [] tf ex w h K) (X : K.In base) (G : base.Ns mainGlobals mg) : Txt K mg := ⟨He.free_ok X G (c.t.d.fact 52 (f := .free "len") rfl),
  He.free_ok X G (c.t.d.fact 53 (f := .free "abs") rfl),
  He.free_ok X G (c.t.d.fact 54 (f := .free "all") rfl),
  He.free_ok X G (c.t.d.fact 55 (f := .free "any") rfl),
  He.free_ok X G (c.t.d.fact 56 (f := .free "min") rfl),
  He.free_ok X G (c.t.d.fact 57 (f := .free "max") rfl),
  He.free_ok X G (c.t.d.fact 58 (f := .free "isinstance") rfl),
  He.free_ok X G (c.t.d.fact 59 (f := .free "int") rfl),
  He.free_ok X G (c.t.d.fact 60 (f := .free "bool") rfl),
  He.free_ok X G (c.t.d.fact 61 (f := .free "str") rfl),
  He.free_ok X G (c.t.d.fact 62 (f := .free "tuple") rfl),
  He.free_ok X G (c.t.d.fact 63 (f := .free "list") rfl),
  He.free_ok X G (c.t.d.fact 64 (f := .free "set") rfl),
  He.free_ok X G (c.t.d.fact 65 (f := .free "sorted") rfl),
  He.free_ok X G (c.t.d.fact 66 (f := .free "range") rfl),
  He.free_ok X G (c.t.d.fact 67 (f := .free "zip") rfl),
  He.free_ok X G (c.t.d.fact 68 (f := .free "enumerate") rfl),
  He.int_ok X G (c.t.d.fact 69 (f := .int "MOST_LETTERS" 8) rfl),
  He.int_ok X G (c.t.d.fact 70 (f := .int "MOST_COST" 99) rfl),
  He.int_ok X G (c.t.d.fact 71 (f := .int "MOST_GAP" 600) rfl),
  He.int_ok X G (c.t.d.fact 72 (f := .int "MOST_HOLDS" 4) rfl),
  He.int_ok X G (c.t.d.fact 73 (f := .int "MOST_MEMBERS" 8) rfl),
  He.int_ok X G (c.t.d.fact 74 (f := .int "LAST_POINT" 1000000000000) rfl),
  He.str_ok X G (c.t.d.fact 75 (f := .str "LETTERS" "abcdefghijklmnopqrstuvwxyz") rfl)⟩
theorem kl_of (c : He.SaysX fa fn [] tf ex w h K) (X : K.In base) (G : base.Ns mainGlobals mg) : Kl K mg (He.ga K "Task") (He.ga K "Door") (He.ga K "Crew") := by
  obtain ⟨h1, m⟩ := He.ba c.more
  obtain ⟨h2, m⟩ := He.ba m
  obtain ⟨h3, m⟩ := He.ba m
  obtain ⟨h4, m⟩ := He.ba m
  obtain ⟨h5, _⟩ := He.ba m
  exact ⟨He.glo_ok X G (c.t.d.fact 49 (f := .glo "Task") rfl),
    He.glo_ok X G (c.t.d.fact 50 (f := .glo "Door") rfl),
    He.glo_ok X G (c.t.d.fact 51 (f := .glo "Crew") rfl),
    He.cls_ok (c.t.d.fact 76 (f := .cls "Task") rfl),
    He.cls_ok (c.t.d.fact 77 (f := .cls "Door") rfl),
    He.cls_ok (c.t.d.fact 78 (f := .cls "Crew") rfl),
    isiB_ok h1, isiB_ok h2, isiB_ok h3,
    He.noat_ok (c.t.d.fact 79 (f := .noat "Task" "name") rfl),
    He.noat_ok (c.t.d.fact 80 (f := .noat "Task" "cost") rfl),
    He.noat_ok (c.t.d.fact 81 (f := .noat "Task" "gap") rfl),
    He.noat_ok (c.t.d.fact 82 (f := .noat "Task" "due") rfl),
    He.noat_ok (c.t.d.fact 83 (f := .noat "Task" "holds") rfl),
    He.noat_ok (c.t.d.fact 84 (f := .noat "Task" "spans") rfl),
    He.noat_ok (c.t.d.fact 85 (f := .noat "Door" "name") rfl),
    He.noat_ok (c.t.d.fact 86 (f := .noat "Door" "room") rfl),
    He.noat_ok (c.t.d.fact 87 (f := .noat "Door" "gap") rfl),
    He.noat_ok (c.t.d.fact 88 (f := .noat "Door" "spans") rfl),
    He.noat_ok (c.t.d.fact 89 (f := .noat "Crew" "members") rfl), of_decide_eq_true h4, of_decide_eq_true h5⟩
theorem tabs_ne (c : He.SaysX fa fn [] tf ex w h K) : (He.cT K tf1).2 ≠ (He.cT K tf2).2 := by
  obtain ⟨_, m⟩ := He.ba c.more
  obtain ⟨_, m⟩ := He.ba m
  obtain ⟨_, m⟩ := He.ba m
  obtain ⟨_, m⟩ := He.ba m
  obtain ⟨_, m⟩ := He.ba m
  intro z
  rw [decide_eq_true z] at m
  cases m
theorem fx_pIsWhole (c : He.SaysX fa fn [] tf ex w h K) (X : K.In base) (G : base.Ns mainGlobals mg) : Fx K mg "is_whole" s_pIsWhole a_pIsWhole := by
  obtain ⟨fd, F⟩ := c.t.d.def_ 0 (d := d_pIsWhole) rfl
  exact ⟨_, fd, F, He.glo_ok X G (c.t.d.fact 0 (f := .glo "is_whole") rfl), FunD.bindsN (ps := a_pIsWhole) F (fun _ _ _ _ _ _ us hl => match us, hl with | [_], _ => rfl)⟩
theorem fx_pIsWithin (c : He.SaysX fa fn [] tf ex w h K) (X : K.In base) (G : base.Ns mainGlobals mg) : Fx K mg "is_within" s_pIsWithin a_pIsWithin := by
  obtain ⟨fd, F⟩ := c.t.d.def_ 1 (d := d_pIsWithin) rfl
  exact ⟨_, fd, F, He.glo_ok X G (c.t.d.fact 1 (f := .glo "is_within") rfl), FunD.bindsN (ps := a_pIsWithin) F (fun _ _ _ _ _ _ us hl => match us, hl with | [_, _, _], _ => rfl)⟩
theorem fx_pIsName (c : He.SaysX fa fn [] tf ex w h K) (X : K.In base) (G : base.Ns mainGlobals mg) : Fx K mg "is_name" s_pIsName a_pIsName := by
  obtain ⟨fd, F⟩ := c.t.d.def_ 2 (d := d_pIsName) rfl
  exact ⟨_, fd, F, He.glo_ok X G (c.t.d.fact 2 (f := .glo "is_name") rfl), FunD.bindsN (ps := a_pIsName) F (fun _ _ _ _ _ _ us hl => match us, hl with | [_], _ => rfl)⟩
theorem fx_pIsHold (c : He.SaysX fa fn [] tf ex w h K) (X : K.In base) (G : base.Ns mainGlobals mg) : Fx K mg "is_hold" s_pIsHold a_pIsHold := by
  obtain ⟨fd, F⟩ := c.t.d.def_ 3 (d := d_pIsHold) rfl
  exact ⟨_, fd, F, He.glo_ok X G (c.t.d.fact 3 (f := .glo "is_hold") rfl), FunD.bindsN (ps := a_pIsHold) F (fun _ _ _ _ _ _ us hl => match us, hl with | [_, _], _ => rfl)⟩
theorem fx_pAreHolds (c : He.SaysX fa fn [] tf ex w h K) (X : K.In base) (G : base.Ns mainGlobals mg) : Fx K mg "are_holds" s_pAreHolds a_pAreHolds := by
  obtain ⟨fd, F⟩ := c.t.d.def_ 4 (d := d_pAreHolds) rfl
  exact ⟨_, fd, F, He.glo_ok X G (c.t.d.fact 4 (f := .glo "are_holds") rfl), FunD.bindsN (ps := a_pAreHolds) F (fun _ _ _ _ _ _ us hl => match us, hl with | [_, _], _ => rfl)⟩
theorem fx_pIsMember (c : He.SaysX fa fn [] tf ex w h K) (X : K.In base) (G : base.Ns mainGlobals mg) : Fx K mg "is_member" s_pIsMember a_pIsMember := by
  obtain ⟨fd, F⟩ := c.t.d.def_ 7 (d := d_pIsMember) rfl
  exact ⟨_, fd, F, He.glo_ok X G (c.t.d.fact 5 (f := .glo "is_member") rfl), FunD.bindsN (ps := a_pIsMember) F (fun _ _ _ _ _ _ us hl => match us, hl with | [_], _ => rfl)⟩
theorem fx_pCostOf (c : He.SaysX fa fn [] tf ex w h K) (X : K.In base) (G : base.Ns mainGlobals mg) : Fx K mg "cost_of" s_pCostOf a_pCostOf := by
  obtain ⟨fd, F⟩ := c.t.d.def_ 8 (d := d_pCostOf) rfl
  exact ⟨_, fd, F, He.glo_ok X G (c.t.d.fact 6 (f := .glo "cost_of") rfl), FunD.bindsN (ps := a_pCostOf) F (fun _ _ _ _ _ _ us hl => match us, hl with | [_], _ => rfl)⟩
theorem fx_pDueOf (c : He.SaysX fa fn [] tf ex w h K) (X : K.In base) (G : base.Ns mainGlobals mg) : Fx K mg "due_of" s_pDueOf a_pDueOf := by
  obtain ⟨fd, F⟩ := c.t.d.def_ 9 (d := d_pDueOf) rfl
  exact ⟨_, fd, F, He.glo_ok X G (c.t.d.fact 7 (f := .glo "due_of") rfl), FunD.bindsN (ps := a_pDueOf) F (fun _ _ _ _ _ _ us hl => match us, hl with | [_], _ => rfl)⟩
theorem fx_pHoldsOf (c : He.SaysX fa fn [] tf ex w h K) (X : K.In base) (G : base.Ns mainGlobals mg) : Fx K mg "holds_of" s_pHoldsOf a_pHoldsOf := by
  obtain ⟨fd, F⟩ := c.t.d.def_ 10 (d := d_pHoldsOf) rfl
  exact ⟨_, fd, F, He.glo_ok X G (c.t.d.fact 8 (f := .glo "holds_of") rfl), FunD.bindsN (ps := a_pHoldsOf) F (fun _ _ _ _ _ _ us hl => match us, hl with | [_], _ => rfl)⟩
theorem fx_pToolLevels (c : He.SaysX fa fn [] tf ex w h K) (X : K.In base) (G : base.Ns mainGlobals mg) : Fx K mg "tool_levels" s_pToolLevels a_pToolLevels := by
  obtain ⟨fd, F⟩ := c.t.d.def_ 11 (d := d_pToolLevels) rfl
  exact ⟨_, fd, F, He.glo_ok X G (c.t.d.fact 9 (f := .glo "tool_levels") rfl), FunD.bindsN (ps := a_pToolLevels) F (fun _ _ _ _ _ _ us hl => match us, hl with | [_], _ => rfl)⟩
theorem fx_pCheckCrew (c : He.SaysX fa fn [] tf ex w h K) (X : K.In base) (G : base.Ns mainGlobals mg) : Fx K mg "check_crew" s_pCheckCrew a_pCheckCrew := by
  obtain ⟨fd, F⟩ := c.t.d.def_ 15 (d := d_pCheckCrew) rfl
  exact ⟨_, fd, F, He.glo_ok X G (c.t.d.fact 10 (f := .glo "check_crew") rfl), FunD.bindsN (ps := a_pCheckCrew) F (fun _ _ _ _ _ _ us hl => match us, hl with | [_], _ => rfl)⟩
theorem fx_pRankOf (c : He.SaysX fa fn [] tf ex w h K) (X : K.In base) (G : base.Ns mainGlobals mg) : Fx K mg "rank_of" s_pRankOf a_pRankOf := by
  obtain ⟨fd, F⟩ := c.t.d.def_ 16 (d := d_pRankOf) rfl
  exact ⟨_, fd, F, He.glo_ok X G (c.t.d.fact 11 (f := .glo "rank_of") rfl), FunD.bindsN (ps := a_pRankOf) F (fun _ _ _ _ _ _ us hl => match us, hl with | [_, _, _], _ => rfl)⟩
theorem fx_pToolsAt (c : He.SaysX fa fn [] tf ex w h K) (X : K.In base) (G : base.Ns mainGlobals mg) : Fx K mg "tools_at" s_pToolsAt a_pToolsAt := by
  obtain ⟨fd, F⟩ := c.t.d.def_ 17 (d := d_pToolsAt) rfl
  exact ⟨_, fd, F, He.glo_ok X G (c.t.d.fact 12 (f := .glo "tools_at") rfl), FunD.bindsN (ps := a_pToolsAt) F (fun _ _ _ _ _ _ us hl => match us, hl with | [_, _], _ => rfl)⟩
theorem fx_pIsHeldUp (c : He.SaysX fa fn [] tf ex w h K) (X : K.In base) (G : base.Ns mainGlobals mg) : Fx K mg "is_held_up" s_pIsHeldUp a_pIsHeldUp := by
  obtain ⟨fd, F⟩ := c.t.d.def_ 18 (d := d_pIsHeldUp) rfl
  exact ⟨_, fd, F, He.glo_ok X G (c.t.d.fact 13 (f := .glo "is_held_up") rfl), FunD.bindsN (ps := a_pIsHeldUp) F (fun _ _ _ _ _ _ us hl => match us, hl with | [_, _, _], _ => rfl)⟩
theorem fx_pIsWork (c : He.SaysX fa fn [] tf ex w h K) (X : K.In base) (G : base.Ns mainGlobals mg) : Fx K mg "is_work" s_pIsWork a_pIsWork := by
  obtain ⟨fd, F⟩ := c.t.d.def_ 19 (d := d_pIsWork) rfl
  exact ⟨_, fd, F, He.glo_ok X G (c.t.d.fact 14 (f := .glo "is_work") rfl), FunD.bindsN (ps := a_pIsWork) F (fun _ _ _ _ _ _ us hl => match us, hl with | [_, _], _ => rfl)⟩
theorem fx_pCheckWorks (c : He.SaysX fa fn [] tf ex w h K) (X : K.In base) (G : base.Ns mainGlobals mg) : Fx K mg "check_works" s_pCheckWorks a_pCheckWorks := by
  obtain ⟨fd, F⟩ := c.t.d.def_ 20 (d := d_pCheckWorks) rfl
  exact ⟨_, fd, F, He.glo_ok X G (c.t.d.fact 15 (f := .glo "check_works") rfl), FunD.bindsN (ps := a_pCheckWorks) F (fun _ _ _ _ _ _ us hl => match us, hl with | [_, _], _ => rfl)⟩
theorem fx_pServed (c : He.SaysX fa fn [] tf ex w h K) (X : K.In base) (G : base.Ns mainGlobals mg) : Fx K mg "served" s_pServed a_pServed := by
  obtain ⟨fd, F⟩ := c.t.d.def_ 21 (d := d_pServed) rfl
  exact ⟨_, fd, F, He.glo_ok X G (c.t.d.fact 16 (f := .glo "served") rfl), FunD.bindsN (ps := a_pServed) F (fun _ _ _ _ _ _ us hl => match us, hl with | [_, _], _ => rfl)⟩
theorem fx_lCell (c : He.SaysX fa fn [] tf ex w h K) (X : K.In base) (G : base.Ns mainGlobals mg) : Fx K mg "_law_cell" s_lCell a_lCell := by
  obtain ⟨fd, F⟩ := c.t.d.def_ 22 (d := d_lCell) rfl
  exact ⟨_, fd, F, He.glo_ok X G (c.t.d.fact 17 (f := .glo "_law_cell") rfl), FunD.bindsN (ps := a_lCell) F (fun _ _ _ _ _ _ us hl => match us, hl with | [_, _], _ => rfl)⟩
theorem fx_lPurse (c : He.SaysX fa fn [] tf ex w h K) (X : K.In base) (G : base.Ns mainGlobals mg) : Fx K mg "_law_purse" s_lPurse a_lPurse := by
  obtain ⟨fd, F⟩ := c.t.d.def_ 23 (d := d_lPurse) rfl
  exact ⟨_, fd, F, He.glo_ok X G (c.t.d.fact 18 (f := .glo "_law_purse") rfl), FunD.bindsN (ps := a_lPurse) F (fun _ _ _ _ _ _ us hl => match us, hl with | [_], _ => rfl)⟩
theorem fx_lTake (c : He.SaysX fa fn [] tf ex w h K) (X : K.In base) (G : base.Ns mainGlobals mg) : Fx K mg "_law_take" s_lTake a_lTake := by
  obtain ⟨fd, F⟩ := c.t.d.def_ 24 (d := d_lTake) rfl
  exact ⟨_, fd, F, He.glo_ok X G (c.t.d.fact 19 (f := .glo "_law_take") rfl), FunD.bindsN (ps := a_lTake) F (fun _ _ _ _ _ _ us hl => match us, hl with | [_, _], _ => rfl)⟩
theorem fx_lWords (c : He.SaysX fa fn [] tf ex w h K) (X : K.In base) (G : base.Ns mainGlobals mg) : Fx K mg "_law_words" s_lWords a_lWords := by
  obtain ⟨fd, F⟩ := c.t.d.def_ 25 (d := d_lWords) rfl
  exact ⟨_, fd, F, He.glo_ok X G (c.t.d.fact 20 (f := .glo "_law_words") rfl), FunD.bindsN (ps := a_lWords) F (fun _ _ _ _ _ _ us hl => match us, hl with | [_, _], _ => rfl)⟩
theorem fx_lHolds (c : He.SaysX fa fn [] tf ex w h K) (X : K.In base) (G : base.Ns mainGlobals mg) : Fx K mg "_law_holds" s_lHolds a_lHolds := by
  obtain ⟨fd, F⟩ := c.t.d.def_ 26 (d := d_lHolds) rfl
  exact ⟨_, fd, F, He.glo_ok X G (c.t.d.fact 21 (f := .glo "_law_holds") rfl), FunD.bindsN (ps := a_lHolds) F (fun _ _ _ _ _ _ us hl => match us, hl with | [_, _, _], _ => rfl)⟩
theorem fx_lTask (c : He.SaysX fa fn [] tf ex w h K) (X : K.In base) (G : base.Ns mainGlobals mg) : Fx K mg "_law_task" s_lTask a_lTask := by
  obtain ⟨fd, F⟩ := c.t.d.def_ 27 (d := d_lTask) rfl
  exact ⟨_, fd, F, He.glo_ok X G (c.t.d.fact 22 (f := .glo "_law_task") rfl), FunD.bindsN (ps := a_lTask) F (fun _ _ _ _ _ _ us hl => match us, hl with | [_, _, _, _], _ => rfl)⟩
theorem fx_lDoor (c : He.SaysX fa fn [] tf ex w h K) (X : K.In base) (G : base.Ns mainGlobals mg) : Fx K mg "_law_door" s_lDoor a_lDoor := by
  obtain ⟨fd, F⟩ := c.t.d.def_ 28 (d := d_lDoor) rfl
  exact ⟨_, fd, F, He.glo_ok X G (c.t.d.fact 23 (f := .glo "_law_door") rfl), FunD.bindsN (ps := a_lDoor) F (fun _ _ _ _ _ _ us hl => match us, hl with | [_, _, _], _ => rfl)⟩
theorem fx_lRows (c : He.SaysX fa fn [] tf ex w h K) (X : K.In base) (G : base.Ns mainGlobals mg) : Fx K mg "_law_rows" s_lRows a_lRows := by
  obtain ⟨fd, F⟩ := c.t.d.def_ 29 (d := d_lRows) rfl
  exact ⟨_, fd, F, He.glo_ok X G (c.t.d.fact 24 (f := .glo "_law_rows") rfl), FunD.bindsN (ps := a_lRows) F (fun _ _ _ _ _ _ us hl => match us, hl with | [_, _, _, _, _], _ => rfl)⟩
theorem fx_lMember (c : He.SaysX fa fn [] tf ex w h K) (X : K.In base) (G : base.Ns mainGlobals mg) : Fx K mg "_law_member" s_lMember a_lMember := by
  obtain ⟨fd, F⟩ := c.t.d.def_ 30 (d := d_lMember) rfl
  exact ⟨_, fd, F, He.glo_ok X G (c.t.d.fact 25 (f := .glo "_law_member") rfl), FunD.bindsN (ps := a_lMember) F (fun _ _ _ _ _ _ us hl => match us, hl with | [_], _ => rfl)⟩
theorem fx_lCrew (c : He.SaysX fa fn [] tf ex w h K) (X : K.In base) (G : base.Ns mainGlobals mg) : Fx K mg "_law_crew" s_lCrew a_lCrew := by
  obtain ⟨fd, F⟩ := c.t.d.def_ 31 (d := d_lCrew) rfl
  exact ⟨_, fd, F, He.glo_ok X G (c.t.d.fact 26 (f := .glo "_law_crew") rfl), FunD.bindsN (ps := a_lCrew) F (fun _ _ _ _ _ _ us hl => match us, hl with | [_], _ => rfl)⟩
theorem fx_lDue (c : He.SaysX fa fn [] tf ex w h K) (X : K.In base) (G : base.Ns mainGlobals mg) : Fx K mg "_law_due" s_lDue a_lDue := by
  obtain ⟨fd, F⟩ := c.t.d.def_ 32 (d := d_lDue) rfl
  exact ⟨_, fd, F, He.glo_ok X G (c.t.d.fact 27 (f := .glo "_law_due") rfl), FunD.bindsN (ps := a_lDue) F (fun _ _ _ _ _ _ us hl => match us, hl with | [_], _ => rfl)⟩
theorem fx_lLevel (c : He.SaysX fa fn [] tf ex w h K) (X : K.In base) (G : base.Ns mainGlobals mg) : Fx K mg "_law_level" s_lLevel a_lLevel := by
  obtain ⟨fd, F⟩ := c.t.d.def_ 33 (d := d_lLevel) rfl
  exact ⟨_, fd, F, He.glo_ok X G (c.t.d.fact 28 (f := .glo "_law_level") rfl), FunD.bindsN (ps := a_lLevel) F (fun _ _ _ _ _ _ us hl => match us, hl with | [_, _], _ => rfl)⟩
theorem fx_lHeld (c : He.SaysX fa fn [] tf ex w h K) (X : K.In base) (G : base.Ns mainGlobals mg) : Fx K mg "_law_held" s_lHeld a_lHeld := by
  obtain ⟨fd, F⟩ := c.t.d.def_ 34 (d := d_lHeld) rfl
  exact ⟨_, fd, F, He.glo_ok X G (c.t.d.fact 29 (f := .glo "_law_held") rfl), FunD.bindsN (ps := a_lHeld) F (fun _ _ _ _ _ _ us hl => match us, hl with | [_, _], _ => rfl)⟩
theorem fx_lRowOf (c : He.SaysX fa fn [] tf ex w h K) (X : K.In base) (G : base.Ns mainGlobals mg) : Fx K mg "_law_row_of" s_lRowOf a_lRowOf := by
  obtain ⟨fd, F⟩ := c.t.d.def_ 35 (d := d_lRowOf) rfl
  exact ⟨_, fd, F, He.glo_ok X G (c.t.d.fact 30 (f := .glo "_law_row_of") rfl), FunD.bindsN (ps := a_lRowOf) F (fun _ _ _ _ _ _ us hl => match us, hl with | [_, _], _ => rfl)⟩
theorem fx_lComings (c : He.SaysX fa fn [] tf ex w h K) (X : K.In base) (G : base.Ns mainGlobals mg) : Fx K mg "_law_comings" s_lComings a_lComings := by
  obtain ⟨fd, F⟩ := c.t.d.def_ 36 (d := d_lComings) rfl
  exact ⟨_, fd, F, He.glo_ok X G (c.t.d.fact 31 (f := .glo "_law_comings") rfl), FunD.bindsN (ps := a_lComings) F (fun _ _ _ _ _ _ us hl => match us, hl with | [_, _, _], _ => rfl)⟩
theorem fx_lInTurn (c : He.SaysX fa fn [] tf ex w h K) (X : K.In base) (G : base.Ns mainGlobals mg) (tb : LamX.TabB base mg (He.cT K tf1).1 (He.cT K tf1).2) : FxT K mg base "_law_in_turn" s_lInTurn a_lInTurn (He.cT K tf1).1 (He.cT K tf1).2 := by
  obtain ⟨fd, F⟩ := c.t.d.def_ 37 (d := d_lInTurn) rfl
  refine ⟨_, fd, F, He.glo_ok X G (c.t.d.fact 32 (f := .glo "_law_in_turn") rfl), FunD.bindsN (ps := a_lInTurn) F (fun _ _ _ _ _ _ us hl => match us, hl with | [_, _], _ => rfl), ?_, tb⟩
  obtain ⟨oc, od, dV, kV, doc, pm, an, cdv, ct, osl, e, lk, hcd, _, _⟩ := F.ex
  obtain ⟨cc, ec⟩ := He.codeIn_ref hcd
  have e1 : fd.code = .ref cc := by
    rw [e]
    exact ec
  rw [e1]
  exact congrArg Value.ref (He.codeOf_eq lk e1).symm
theorem fx_lKey (c : He.SaysX fa fn [] tf ex w h K) (X : K.In base) (G : base.Ns mainGlobals mg) : Fx K mg "_law_key" s_lKey a_lKey := by
  obtain ⟨fd, F⟩ := c.t.d.def_ 38 (d := d_lKey) rfl
  exact ⟨_, fd, F, He.glo_ok X G (c.t.d.fact 33 (f := .glo "_law_key") rfl), FunD.bindsN (ps := a_lKey) F (fun _ _ _ _ _ _ us hl => match us, hl with | [_, _], _ => rfl)⟩
theorem fx_lIsHeldUp (c : He.SaysX fa fn [] tf ex w h K) (X : K.In base) (G : base.Ns mainGlobals mg) : Fx K mg "_law_is_held_up" s_lIsHeldUp a_lIsHeldUp := by
  obtain ⟨fd, F⟩ := c.t.d.def_ 39 (d := d_lIsHeldUp) rfl
  exact ⟨_, fd, F, He.glo_ok X G (c.t.d.fact 34 (f := .glo "_law_is_held_up") rfl), FunD.bindsN (ps := a_lIsHeldUp) F (fun _ _ _ _ _ _ us hl => match us, hl with | [_, _, _], _ => rfl)⟩
theorem fx_lChosen (c : He.SaysX fa fn [] tf ex w h K) (X : K.In base) (G : base.Ns mainGlobals mg) (tb : LamX.TabB base mg (He.cT K tf2).1 (He.cT K tf2).2) : FxT K mg base "_law_chosen" s_lChosen a_lChosen (He.cT K tf2).1 (He.cT K tf2).2 := by
  obtain ⟨fd, F⟩ := c.t.d.def_ 40 (d := d_lChosen) rfl
  refine ⟨_, fd, F, He.glo_ok X G (c.t.d.fact 35 (f := .glo "_law_chosen") rfl), FunD.bindsN (ps := a_lChosen) F (fun _ _ _ _ _ _ us hl => match us, hl with | [_, _], _ => rfl), ?_, tb⟩
  obtain ⟨oc, od, dV, kV, doc, pm, an, cdv, ct, osl, e, lk, hcd, _, _⟩ := F.ex
  obtain ⟨cc, ec⟩ := He.codeIn_ref hcd
  have e1 : fd.code = .ref cc := by
    rw [e]
    exact ec
  rw [e1]
  exact congrArg Value.ref (He.codeOf_eq lk e1).symm
theorem fx_lNew (c : He.SaysX fa fn [] tf ex w h K) (X : K.In base) (G : base.Ns mainGlobals mg) : Fx K mg "_law_new" s_lNew a_lNew := by
  obtain ⟨fd, F⟩ := c.t.d.def_ 41 (d := d_lNew) rfl
  exact ⟨_, fd, F, He.glo_ok X G (c.t.d.fact 36 (f := .glo "_law_new") rfl), FunD.bindsN (ps := a_lNew) F (fun _ _ _ _ _ _ us hl => match us, hl with | [_, _, _, _, _], _ => rfl)⟩
theorem fx_lEnds (c : He.SaysX fa fn [] tf ex w h K) (X : K.In base) (G : base.Ns mainGlobals mg) : Fx K mg "_law_ends" s_lEnds a_lEnds := by
  obtain ⟨fd, F⟩ := c.t.d.def_ 42 (d := d_lEnds) rfl
  exact ⟨_, fd, F, He.glo_ok X G (c.t.d.fact 37 (f := .glo "_law_ends") rfl), FunD.bindsN (ps := a_lEnds) F (fun _ _ _ _ _ _ us hl => match us, hl with | [_, _], _ => rfl)⟩
theorem fx_lCome (c : He.SaysX fa fn [] tf ex w h K) (X : K.In base) (G : base.Ns mainGlobals mg) : Fx K mg "_law_come" s_lCome a_lCome := by
  obtain ⟨fd, F⟩ := c.t.d.def_ 43 (d := d_lCome) rfl
  exact ⟨_, fd, F, He.glo_ok X G (c.t.d.fact 38 (f := .glo "_law_come") rfl), FunD.bindsN (ps := a_lCome) F (fun _ _ _ _ _ _ us hl => match us, hl with | [_, _, _, _], _ => rfl)⟩
theorem fx_lPortions (c : He.SaysX fa fn [] tf ex w h K) (X : K.In base) (G : base.Ns mainGlobals mg) : Fx K mg "_law_portions" s_lPortions a_lPortions := by
  obtain ⟨fd, F⟩ := c.t.d.def_ 44 (d := d_lPortions) rfl
  exact ⟨_, fd, F, He.glo_ok X G (c.t.d.fact 39 (f := .glo "_law_portions") rfl), FunD.bindsN (ps := a_lPortions) F (fun _ _ _ _ _ _ us hl => match us, hl with | [_, _, _], _ => rfl)⟩
theorem fx_lServe (c : He.SaysX fa fn [] tf ex w h K) (X : K.In base) (G : base.Ns mainGlobals mg) : Fx K mg "_law_serve" s_lServe a_lServe := by
  obtain ⟨fd, F⟩ := c.t.d.def_ 45 (d := d_lServe) rfl
  exact ⟨_, fd, F, He.glo_ok X G (c.t.d.fact 40 (f := .glo "_law_serve") rfl), FunD.bindsN (ps := a_lServe) F (fun _ _ _ _ _ _ us hl => match us, hl with | [_, _, _], _ => rfl)⟩
theorem fx_lIsOver (c : He.SaysX fa fn [] tf ex w h K) (X : K.In base) (G : base.Ns mainGlobals mg) : Fx K mg "_law_is_over" s_lIsOver a_lIsOver := by
  obtain ⟨fd, F⟩ := c.t.d.def_ 46 (d := d_lIsOver) rfl
  exact ⟨_, fd, F, He.glo_ok X G (c.t.d.fact 41 (f := .glo "_law_is_over") rfl), FunD.bindsN (ps := a_lIsOver) F (fun _ _ _ _ _ _ us hl => match us, hl with | [_, _, _], _ => rfl)⟩
theorem fx_lRun (c : He.SaysX fa fn [] tf ex w h K) (X : K.In base) (G : base.Ns mainGlobals mg) : Fx K mg "_law_run" s_lRun a_lRun := by
  obtain ⟨fd, F⟩ := c.t.d.def_ 47 (d := d_lRun) rfl
  exact ⟨_, fd, F, He.glo_ok X G (c.t.d.fact 42 (f := .glo "_law_run") rfl), FunD.bindsN (ps := a_lRun) F (fun _ _ _ _ _ _ us hl => match us, hl with | [_, _, _], _ => rfl)⟩
theorem fx_lTurned (c : He.SaysX fa fn [] tf ex w h K) (X : K.In base) (G : base.Ns mainGlobals mg) : Fx K mg "_law_turned" s_lTurned a_lTurned := by
  obtain ⟨fd, F⟩ := c.t.d.def_ 48 (d := d_lTurned) rfl
  exact ⟨_, fd, F, He.glo_ok X G (c.t.d.fact 43 (f := .glo "_law_turned") rfl), FunD.bindsN (ps := a_lTurned) F (fun _ _ _ _ _ _ us hl => match us, hl with | [_, _], _ => rfl)⟩
theorem fx_lRenamed (c : He.SaysX fa fn [] tf ex w h K) (X : K.In base) (G : base.Ns mainGlobals mg) : Fx K mg "_law_renamed" s_lRenamed a_lRenamed := by
  obtain ⟨fd, F⟩ := c.t.d.def_ 49 (d := d_lRenamed) rfl
  exact ⟨_, fd, F, He.glo_ok X G (c.t.d.fact 44 (f := .glo "_law_renamed") rfl), FunD.bindsN (ps := a_lRenamed) F (fun _ _ _ _ _ _ us hl => match us, hl with | [_, _], _ => rfl)⟩
theorem fx_lNamedBy (c : He.SaysX fa fn [] tf ex w h K) (X : K.In base) (G : base.Ns mainGlobals mg) : Fx K mg "_law_named_by" s_lNamedBy a_lNamedBy := by
  obtain ⟨fd, F⟩ := c.t.d.def_ 50 (d := d_lNamedBy) rfl
  exact ⟨_, fd, F, He.glo_ok X G (c.t.d.fact 45 (f := .glo "_law_named_by") rfl), FunD.bindsN (ps := a_lNamedBy) F (fun _ _ _ _ _ _ us hl => match us, hl with | [_, _], _ => rfl)⟩
theorem fx_lFits (c : He.SaysX fa fn [] tf ex w h K) (X : K.In base) (G : base.Ns mainGlobals mg) : Fx K mg "_law_fits" s_lFits a_lFits := by
  obtain ⟨fd, F⟩ := c.t.d.def_ 51 (d := d_lFits) rfl
  exact ⟨_, fd, F, He.glo_ok X G (c.t.d.fact 46 (f := .glo "_law_fits") rfl), FunD.bindsN (ps := a_lFits) F (fun _ _ _ _ _ _ us hl => match us, hl with | [_, _, _], _ => rfl)⟩
theorem fx_lRight (c : He.SaysX fa fn [] tf ex w h K) (X : K.In base) (G : base.Ns mainGlobals mg) : Fx K mg "_law_right" s_lRight a_lRight := by
  obtain ⟨fd, F⟩ := c.t.d.def_ 52 (d := d_lRight) rfl
  exact ⟨_, fd, F, He.glo_ok X G (c.t.d.fact 47 (f := .glo "_law_right") rfl), FunD.bindsN (ps := a_lRight) F (fun _ _ _ _ _ _ us hl => match us, hl with | [_], _ => rfl)⟩
end
end K19
namespace K19
open PySem L2
open PyProof.Rows (envOfC)
section
variable {P : Program} {w : World} {K : PySem.W.Frag} {h base : Heap} {mg : Str → Option Value}
theorem mk_door (c : He.SaysX fa fn [] tf ex w h K) (T : Txt K mg) (Z : Kl K mg (He.ga K "Task") (He.ga K "Door") (He.ga K "Crew")) (C_pIsName : Cal P w K mg base 1 "is_name" a_pIsName spIsName) (C_pIsWithin : Cal P w K mg base 2 "is_within" a_pIsWithin spWithin) :
    Mks P w K mg base (He.ga K "Door") 3 a_pDoorInit (spDoorInit (He.ga K "Door")) := by
  obtain ⟨fd, F⟩ := c.t.d.defs (d := d_pDoorInit) (by unfold fn fn0; simp)
  exact ⟨_, fd, He.mkr_ok (c.t.d.facts (f := .mkr "Door") (by unfold fa; simp [fa0, fa1, fa2])), ok_pDoorInit F T Z C_pIsName C_pIsWithin, FunD.bindsN (ps := a_pDoorInit) F (fun _ _ _ _ _ _ us hl => match us, hl with | [_, _, _, _], _ => rfl)⟩
theorem mk_crew (c : He.SaysX fa fn [] tf ex w h K) (T : Txt K mg) (Z : Kl K mg (He.ga K "Task") (He.ga K "Door") (He.ga K "Crew")) (C_pIsMember : Cal P w K mg base 1 "is_member" a_pIsMember (spIsMember (He.ga K "Task") (He.ga K "Door"))) :
    Mks P w K mg base (He.ga K "Crew") 2 a_pCrewInit (spCrewInit (He.ga K "Task") (He.ga K "Door") (He.ga K "Crew")) := by
  obtain ⟨fd, F⟩ := c.t.d.defs (d := d_pCrewInit) (by unfold fn fn0; simp)
  obtain ⟨ds, hv, hb⟩ := FunD.binds1 (ps := a_pCrewInit) F 2 1 (by simp [d_pCrewInit, He.DefD.dvs]) rfl (fun T kV doc pm an cdv ct us its hl h1 => match us, hl, its, h1 with | [_, _], _, [_], _ => ⟨_, rfl, rfl⟩)
  cases hv
  exact ⟨_, fd, He.mkr_ok (c.t.d.facts (f := .mkr "Crew") (by unfold fa; simp [fa0, fa1, fa2])), ok_pCrewInit F T Z C_pIsMember, hb⟩
theorem mk_task (c : He.SaysX fa fn [] tf ex w h K) (T : Txt K mg) (Z : Kl K mg (He.ga K "Task") (He.ga K "Door") (He.ga K "Crew")) (C_pIsName : Cal P w K mg base 1 "is_name" a_pIsName spIsName) (C_pIsWithin : Cal P w K mg base 2 "is_within" a_pIsWithin spWithin) (C_pAreHolds : Cal P w K mg base 4 "are_holds" a_pAreHolds spAreHolds) :
    MksK P w K mg base (He.ga K "Task") 5 a_pTaskInit ["due", "holds"] (spTaskInit (He.ga K "Task")) := by
  obtain ⟨fd, F⟩ := c.t.d.defs (d := d_pTaskInit) (by unfold fn fn0; simp)
  obtain ⟨mv, hb⟩ := FunD.kbinds0 (ps := a_pTaskInit) F 4 ["due", "holds"] [] (fun us _ ws => us ++ ws) (by simp [d_pTaskInit, He.DefD.kws]) (fun _ h => nomatch h) (fun a _ b => a.append b) (fun D doc pm an cdv ct us mv ws hl h1 h2 => match us, hl, mv, h1, ws, h2 with | [_, _, _, _], _, [], _, [_, _], _ => rfl)
  exact ⟨_, fd, He.mkr_ok (c.t.d.facts (f := .mkr "Task") (by unfold fa; simp [fa0, fa1, fa2])), ok_pTaskInit F T Z C_pIsName C_pIsWithin C_pAreHolds, hb⟩
end
end K19
namespace K19
open PySem L2
open PyProof.Rows (envOfC)
def T0 (K : PySem.W.Frag) : List (Addr × Str) := [((He.cT K tf1).2, lamQ "_law_in_turn" s_lInTurn), ((He.cT K tf2).2, lamQ "_law_chosen" s_lChosen)]
section
variable {P : Program} {w : World} {K : PySem.W.Frag} {h base : Heap} {mg : Str → Option Value}
theorem law_fn (c : He.SaysX fa fn [] tf ex w h K) (X : K.In base) (G : base.Ns mainGlobals mg) (tb1 : LamX.TabB base mg (He.cT K tf1).1 (He.cT K tf1).2) (tb2 : LamX.TabB base mg (He.cT K tf2).1 (He.cT K tf2).2)
    {fL : Addr} {fdL : FuncData} (F : FunD K "law" "law" (defArgs s_lLaw) (defBody s_lLaw) (defScope s_lLaw) [] [] fL fdL) : FnOk P w K mg base CX0 10 fL fdL a_lLaw (spLaw (T0 K) K) := by
  have T := txt_of c X G
  have Z := kl_of c X G
  have c1 := ok_pIsWhole (P := P) (w := w) (base := base) (fx_pIsWhole c X G) T
  have c2 := ok_pIsWithin (fx_pIsWithin c X G) T c1
  have c3 := ok_pIsName (P := P) (w := w) (base := base) (fx_pIsName c X G) T
  have c4 := ok_pIsHold (fx_pIsHold c X G) T c3 c2
  have c5 := ok_pAreHolds (fx_pAreHolds c X G) T c4
  have c6 := ok_pIsMember (P := P) (w := w) (base := base) (fx_pIsMember c X G) T Z
  have c7 := ok_pCostOf (P := P) (w := w) (base := base) (fx_pCostOf c X G) T Z
  have c8 := ok_pDueOf (P := P) (w := w) (base := base) (fx_pDueOf c X G) T Z
  have c9 := ok_pHoldsOf (P := P) (w := w) (base := base) (fx_pHoldsOf c X G) T Z
  have c10 := ok_pCheckCrew (P := P) (w := w) (base := base) (fx_pCheckCrew c X G) T Z
  have mD := mk_door c T Z c3 c2
  have mC := mk_crew c T Z c6
  have mT := mk_task c T Z c3 c2 c5
  have m1 : CalM P w K mg base (He.ga K "Crew") 1 "names" a_pCrewNames (spNames (He.ga K "Task") (He.ga K "Door") (He.ga K "Crew")) := by
    obtain ⟨fd, F⟩ := c.t.d.defs (d := d_pCrewNames) (by unfold fn fn0; simp)
    exact ⟨_, fd, ok_pCrewNames F T Z, He.meth_ok (c.t.d.facts (f := .meth "Crew" "names") (by unfold fa; simp [fa0, fa1, fa2])), FunD.bindsN (ps := a_pCrewNames) F (fun _ _ _ _ _ _ us hl => match us, hl with | [_], _ => rfl)⟩
  have m2 : CalM P w K mg base (He.ga K "Crew") 1 "named" a_pCrewNamed (spNamed (He.ga K "Task") (He.ga K "Door") (He.ga K "Crew")) := by
    obtain ⟨fd, F⟩ := c.t.d.defs (d := d_pCrewNamed) (by unfold fn fn0; simp)
    exact ⟨_, fd, ok_pCrewNamed F T Z, He.meth_ok (c.t.d.facts (f := .meth "Crew" "named") (by unfold fa; simp [fa0, fa1, fa2])), FunD.bindsN (ps := a_pCrewNamed) F (fun _ _ _ _ _ _ us hl => match us, hl with | [_, _], _ => rfl)⟩
  have c11 := ok_pToolLevels (fx_pToolLevels c X G) T c9 c8
  have c12 := ok_pRankOf (P := P) (w := w) (base := base) (fx_pRankOf c X G)
  have c13 := ok_pToolsAt (fx_pToolsAt c X G) T c9
  have c14 := ok_pIsHeldUp (P := P) (w := w) (base := base) (fx_pIsHeldUp c X G) T
  have c15 := ok_pIsWork (fx_pIsWork c X G) T Z m1 m2 c2 c7
  have c16 := ok_pCheckWorks (fx_pCheckWorks c X G) T c15
  have c17 := ok_pServed (fx_pServed c X G) T Z c10 c16 m1 m2 c12 c8 c13 c14 c11
  have l1 := takeP (ok_lTake (P := P) (w := w) (base := base) (fx_lTake c X G))
  have l2 := ok_lPurse (P := P) (w := w) (base := base) (fx_lPurse c X G) T
  have l3 := ok_lCell (P := P) (w := w) (base := base) (fx_lCell c X G) T
  have l4 := ok_lWords (fx_lWords c X G) T l1
  have l5 := ok_lHolds (fx_lHolds c X G) T l1
  have l6 := ok_lTask (fx_lTask c X G) T l1 l5
  have l7 := ok_lDoor (fx_lDoor c X G) T l1
  have l8 := ok_lRows (fx_lRows c X G) T l1 l4 l7 l6
  have l9 := ok_lMember (fx_lMember c X G) T Z mD mT
  have l10 := ok_lCrew (fx_lCrew c X G) T Z l9 mC
  have l11 := ok_lDue (P := P) (w := w) (base := base) (fx_lDue c X G)
  have l12 := ok_lRowOf (P := P) (w := w) (base := base) (fx_lRowOf c X G)
  have l13 := ok_lHeld (P := P) (w := w) (base := base) (fx_lHeld c X G) T
  have l14 := ok_lLevel (P := P) (w := w) (base := base) (fx_lLevel c X G) T
  have l15 := ok_lKey (P := P) (w := w) (base := base) (fx_lKey c X G) T
  have l16 := ok_lIsHeldUp (fx_lIsHeldUp c X G) T l11 l12 l13 l14
  have ne := tabs_ne c
  have l17 := ok_lInTurn (P := P) (w := w) (T0 := T0 K) (fx_lInTurn c X G tb1) T (by simp [T0]) (fun p hp e => by
    rcases List.mem_cons.mp hp with rfl | hp
    · rfl
    · rw [List.mem_singleton.mp hp] at e
      exact absurd e.symm ne)
  have l18 := ok_lChosen (P := P) (w := w) (T0 := T0 K) (fx_lChosen c X G tb2) T (by simp [T0]) (fun p hp e => by
    rcases List.mem_cons.mp hp with rfl | hp
    · exact absurd e ne
    · rw [List.mem_singleton.mp hp]) l15 l16
  have l19 := ok_lComings (fx_lComings c X G) T l1
  have l20 := ok_lNew (P := P) (w := w) (base := base) (T0 := T0 K) (fx_lNew c X G) T
  have l21 := ok_lEnds (P := P) (w := w) (base := base) (T0 := T0 K) (fx_lEnds c X G) T
  have l22 := ok_lCome (fx_lCome c X G) T l12 l20
  have l23 := ok_lPortions (fx_lPortions c X G) T l20
  have l24 := ok_lServe (fx_lServe c X G) T l18 l15
  have l25 := ok_lIsOver (P := P) (w := w) (base := base) (fx_lIsOver c X G)
  have l26 := ok_lRun (fx_lRun c X G) T l21 l25 l22 l23 l24
  have l27 := ok_lTurned (fx_lTurned c X G) T l1
  have l28 := ok_lRenamed (P := P) (w := w) (base := base) (fx_lRenamed c X G) T
  have l29 := ok_lNamedBy (P := P) (w := w) (base := base) (fx_lNamedBy c X G)
  have l30 := ok_lFits (fx_lFits c X G) T l12 l11
  have l31 := ok_lRight (fx_lRight c X G) T l1 l8 l19 l17 l26 l10 c17 l30 l27 l29 l4 l28
  exact ok_lLaw F T l31 l2 l3
end
end K19
namespace K19
open PySem L2
open PyProof.Rows (envOfC)
end K19
open PySem PySem.W PySem.Calls PyProof.Rows
theorem PySem.Challenge.cw_duetimes_k19_whole_rule_and_orders_holds : PySem.Challenge.rw_duetimes_k19_whole_rule_and_orders.Holds := by
  w_on; o_law
  refine HandSHeadRun.head_any (r := OpenLaw.row PySem.Challenge.rw_duetimes_k19_whole_rule_and_orders) (q := view (OpenLaw.row PySem.Challenge.rw_duetimes_k19_whole_rule_and_orders).prog [76]) (H := K19.hk) (ob := K19.ob) (M := 20000) (loose := K19.loose) (d := HandSHeadRun.topDef (OpenLaw.row PySem.Challenge.rw_duetimes_k19_whole_rule_and_orders).prog 76) (kwd := []) K19.ob_eq
    (by kernel_rfl) (fun s => by kernel_rfl) K19.run (by kernel_rfl) (by kernel_rfl) (by kernel_rfl) (by rfl) (by first | assumption | decide +kernel) (by decide +kernel) ⟨rfl, rfl, rfl, rfl, rfl, by decide +kernel⟩ ?hw ?hc
  case hw => w_witness2
  case hc =>
    refine LamX.walk_ofTsE (l := PySem.Challenge.rw_duetimes_k19_whole_rule_and_orders) (k := 10) (x := "_law_script") (CX := fun _ => L2.CX0) rfl (by decide) (by kernel_rfl) ⟨rfl, by decide, by decide⟩ ?F (fun _ _ _ _ _ z => z)
    intro w mg fa h Y G hmg0
    obtain ⟨K, KX, c⟩ := Y
    have hmg : mg ("law" : PySem.Str) = some (.ref fa) := by
      have e : (HandSHeadRun.topDef (OpenLaw.row PySem.Challenge.rw_duetimes_k19_whole_rule_and_orders).prog 76).name = ("law" : PySem.Str) := by kernel_rfl
      rw [← e]
      exact hmg0
    obtain ⟨fd, F⟩ := c.t.d.defs (d := K19.d_lLaw) (by unfold K19.fn K19.fn0 K19.fn1; simp)
    have e := hmg.symm.trans (He.glo_ok KX G (c.t.d.facts (f := .glo "law") (by unfold K19.fa; simp [K19.fa0, K19.fa1, K19.fa2])))
    cases e
    refine ⟨K, KX, fd, K19.tf.map (He.cT K), K19.spLaw (K19.T0 K) K, fun p hp => ?_, fun p hp => ?_, fun p hp => ?_, fun s u => ?_, fun H a ns _ _ hT hS => ⟨a, ns, rfl, hS, ?_, fun _ => rfl⟩, fun base hB hG hTb => ?_⟩
    · obtain ⟨q, hq, rfl⟩ := List.mem_map.mp hp
      exact c.empty q hq
    · obtain ⟨q, hq, rfl⟩ := List.mem_map.mp hp
      exact c.out q hq
    · obtain ⟨q, hq, rfl⟩ := List.mem_map.mp hp
      exact PySem.W.codeHd_of_K KX (c.hd q hq)
    · exact L2.FunD.bindsA (ps := K19.a_lLaw) F (fun _ _ _ _ _ _ us hl => match us, hl with | [_], _ => rfl) s [u] rfl
    · intro p hp
      have hp2 : H p.1 = some (.tbl #[]) := by
        rcases List.mem_cons.mp hp with rfl | hp
        · exact hT _ (by simp [K19.tf])
        · rw [List.mem_singleton.mp hp]
          exact hT _ (by simp [K19.tf])
      exact ⟨#[], hp2, by trivial, fun pos cv hc => nomatch hc⟩
    · exact K19.law_fn c hB hG (hTb _ (by simp [K19.tf])) (hTb _ (by simp [K19.tf])) F

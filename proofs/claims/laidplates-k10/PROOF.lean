import PyProof.Rows.All
import Wide.All
import OpenK.AllK
import Wide.FinOn
import KE.KStateDown
import HandS.Head0
import HandS.Head1
import HandS.Head2
import HandS.HeadEnd
import HandS.HeadHook1
import HandS.HeadHook2
import HandS.ForMost
import HandS.Defaults
import HandS.TupSets
import KE.KeyNested
import HandS.IsInst
import HandS.TupAny
import HandS.TupLe
import HandS.Conv
import HandS.Deep
import HandS.Flow
import KE.GoesMore
import KE.GoesEnum
import HandS.Comp
import HandS.SortInts
import HandS.SetFor
import HandS.More
import HandS.ExcValue
import HandS.ExcOwn
import KE.SortData
import KE.KDictSum
import HandS.Strs
import HandS.DictComp
import KE.DataCmp
import HandS.DictTup
import KE.KDictCopyH
import PyProof.Rows.TupDisplay
import HandS.TupMul
import PySem.Challenge.RW_laidplates_k10_whole_sound_tables_never
set_option Elab.async false
set_option linter.all false
set_option maxRecDepth 100000
set_option maxHeartbeats 0
/-! LpTop -/
namespace Lp
open PySem L2
def top (i : Nat) : Stmt := PySem.Challenge.pw_laidplates_k10_whole_sound_tables_never.main.body.getD i (.Pass ⟨0, 0, 0, 0⟩)
abbrev FnP (K : PySem.W.Frag) (x q : Str) (st : Stmt) (f : Addr) (fd : FuncData) : Prop := FunD K x q (defArgs st) (defBody st) (defScope st) [] [] f fd
abbrev sIsInteger : Stmt := top 7
abbrev sIsWithin : Stmt := top 8
abbrev sIsPair : Stmt := top 9
abbrev sIsLot : Stmt := top 10
abbrev sIsKind : Stmt := top 16
abbrev sTableInit : Stmt := inClass (top 17) 0
abbrev sIsJournal : Stmt := top 18
abbrev sCheckJournal : Stmt := top 19
abbrev sBeginOf : Stmt := top 20
abbrev sAllFresh : Stmt := top 21
abbrev sHistoryInit : Stmt := inClass (top 22) 0
abbrev sIsVersionOf : Stmt := top 23
abbrev sArePlates : Stmt := top 24
abbrev sCheckPlates : Stmt := top 25
abbrev sClosure : Stmt := top 27
abbrev sIsAllThere : Stmt := top 28
abbrev sCheckSafe : Stmt := top 29
abbrev sLaid : Stmt := top 31
abbrev sAllLaid : Stmt := top 32
abbrev sLeftOf : Stmt := top 33
abbrev sLayingsInit : Stmt := inClass (top 34) 0
abbrev sLayingsIsSafeWith : Stmt := inClass (top 34) 1
abbrev sLayingsStepsFrom : Stmt := inClass (top 34) 2
abbrev sLayingsCount : Stmt := inClass (top 34) 3
abbrev sLayingsOrder : Stmt := inClass (top 34) 4
abbrev sWithCell : Stmt := top 35
abbrev sOrderFrom : Stmt := top 36
abbrev sLayOut : Stmt := top 37
abbrev sChanging : Stmt := top 39
abbrev sTies : Stmt := top 40
abbrev sLedFrom : Stmt := top 41
abbrev sKnotList : Stmt := top 42
abbrev sBeside : Stmt := top 43
abbrev sRowIn : Stmt := top 44
abbrev sReadsTwo : Stmt := top 45
abbrev sIsSound : Stmt := top 46
abbrev sKnots : Stmt := top 47
abbrev sSound : Stmt := top 48
abbrev sNeverSticks : Stmt := top 62
abbrev sSticking : Stmt := top 63
abbrev sSticks : Stmt := top 64
abbrev sIsSticking : Stmt := top 65
abbrev sLawHand : Stmt := top 67
abbrev sLawDraw : Stmt := top 68
abbrev sLawAny : Stmt := top 69
abbrev sLawIsInt : Stmt := top 70
abbrev sLawHistory : Stmt := top 71
abbrev sLawClosure : Stmt := top 72
abbrev sLawLost : Stmt := top 73
abbrev sLawWith : Stmt := top 74
abbrev sLawWanted : Stmt := top 75
abbrev sLawWays : Stmt := top 76
abbrev sLawManyWays : Stmt := top 77
abbrev sLawIsLaying : Stmt := top 78
abbrev sLawJournal : Stmt := top 79
abbrev sLawTies : Stmt := top 80
abbrev sLawLed : Stmt := top 81
abbrev sLawKnots : Stmt := top 82
abbrev sLawRows : Stmt := top 83
abbrev sLawIsSound : Stmt := top 84
abbrev sLawFresh : Stmt := top 85
abbrev sLawSoundTable : Stmt := top 86
abbrev sLaw : Stmt := top 87
theorem scIsInteger : FnScope ["thing"] ["thing"] (defScope sIsInteger) := ⟨rfl, rfl, rfl, by decide +kernel, rfl, by decide +kernel, by decide +kernel⟩
theorem scIsWithin : FnScope ["thing", "least", "most"] ["thing", "least", "most"] (defScope sIsWithin) := ⟨rfl, rfl, rfl, by decide +kernel, rfl, by decide +kernel, by decide +kernel⟩
theorem scIsPair : FnScope ["thing"] ["thing"] (defScope sIsPair) := ⟨rfl, rfl, rfl, by decide +kernel, rfl, by decide +kernel, by decide +kernel⟩
theorem scIsLot : FnScope ["thing", "least", "most", "last", "number"] ["thing", "least", "most"] (defScope sIsLot) := ⟨rfl, rfl, rfl, by decide +kernel, rfl, by decide +kernel, by decide +kernel⟩
theorem scIsKind : FnScope ["cells", "thing"] ["cells", "thing"] (defScope sIsKind) := ⟨rfl, rfl, rfl, by decide +kernel, rfl, by decide +kernel, by decide +kernel⟩
theorem scTableInit : FnScope ["self", "cells", "kinds", "at", "kind"] ["self", "cells", "kinds"] (defScope sTableInit) := ⟨rfl, rfl, rfl, by decide +kernel, rfl, by decide +kernel, by decide +kernel⟩
theorem scIsJournal : FnScope ["table", "thing", "number"] ["table", "thing"] (defScope sIsJournal) := ⟨rfl, rfl, rfl, by decide +kernel, rfl, by decide +kernel, by decide +kernel⟩
theorem scCheckJournal : FnScope ["table", "thing"] ["table", "thing"] (defScope sCheckJournal) := ⟨rfl, rfl, rfl, by decide +kernel, rfl, by decide +kernel, by decide +kernel⟩
theorem scBeginOf : FnScope ["cell"] ["cell"] (defScope sBeginOf) := ⟨rfl, rfl, rfl, by decide +kernel, rfl, by decide +kernel, by decide +kernel⟩
theorem scAllFresh : FnScope ["table", "cell"] ["table"] (defScope sAllFresh) := ⟨rfl, rfl, rfl, by decide +kernel, rfl, by decide +kernel, by decide +kernel⟩
theorem scHistoryInit : FnScope ["self", "table", "journal", "last", "deed", "number", "cell", "reads", "one"] ["self", "table", "journal"] (defScope sHistoryInit) := ⟨rfl, rfl, rfl, by decide +kernel, rfl, by decide +kernel, by decide +kernel⟩
theorem scIsVersionOf : FnScope ["history", "cell", "thing"] ["history", "cell", "thing"] (defScope sIsVersionOf) := ⟨rfl, rfl, rfl, by decide +kernel, rfl, by decide +kernel, by decide +kernel⟩
theorem scArePlates : FnScope ["table", "history", "thing", "cell", "version"] ["table", "history", "thing"] (defScope sArePlates) := ⟨rfl, rfl, rfl, by decide +kernel, rfl, by decide +kernel, by decide +kernel⟩
theorem scCheckPlates : FnScope ["table", "journal", "thing", "history"] ["table", "journal", "thing"] (defScope sCheckPlates) := ⟨rfl, rfl, rfl, by decide +kernel, rfl, by decide +kernel, by decide +kernel⟩
theorem scClosure : FnScope ["history", "plates", "found", "version", "deed", "some", "source"] ["history", "plates"] (defScope sClosure) := ⟨rfl, rfl, rfl, by decide +kernel, rfl, by decide +kernel, by decide +kernel⟩
theorem scIsAllThere : FnScope ["history", "plates", "found", "version"] ["history", "plates"] (defScope sIsAllThere) := ⟨rfl, rfl, rfl, by decide +kernel, rfl, by decide +kernel, by decide +kernel⟩
theorem scCheckSafe : FnScope ["table", "journal", "plates", "history"] ["table", "journal", "plates"] (defScope sCheckSafe) := ⟨rfl, rfl, rfl, by decide +kernel, rfl, by decide +kernel, by decide +kernel⟩
theorem scLaid : FnScope ["history", "plates", "cell"] ["history", "plates", "cell"] (defScope sLaid) := ⟨rfl, rfl, rfl, by decide +kernel, rfl, by decide +kernel, by decide +kernel⟩
theorem scAllLaid : FnScope ["history", "plates", "cells", "found", "cell"] ["history", "plates", "cells"] (defScope sAllLaid) := ⟨rfl, rfl, rfl, by decide +kernel, rfl, by decide +kernel, by decide +kernel⟩
theorem scLeftOf : FnScope ["history", "plates", "cell", "version"] ["history", "plates"] (defScope sLeftOf) := ⟨rfl, rfl, rfl, by decide +kernel, rfl, by decide +kernel, by decide +kernel⟩
theorem scLayingsInit : FnScope ["self", "history", "plates"] ["self", "history", "plates"] (defScope sLayingsInit) := ⟨rfl, rfl, rfl, by decide +kernel, rfl, by decide +kernel, by decide +kernel⟩
theorem scLayingsIsSafeWith : FnScope ["self", "lot"] ["self", "lot"] (defScope sLayingsIsSafeWith) := ⟨rfl, rfl, rfl, by decide +kernel, rfl, by decide +kernel, by decide +kernel⟩
theorem scLayingsStepsFrom : FnScope ["self", "lot", "cell"] ["self", "lot"] (defScope sLayingsStepsFrom) := ⟨rfl, rfl, rfl, by decide +kernel, rfl, by decide +kernel, by decide +kernel⟩
theorem scLayingsCount : FnScope ["self", "lot", "cell"] ["self", "lot"] (defScope sLayingsCount) := ⟨rfl, rfl, rfl, by decide +kernel, rfl, by decide +kernel, by decide +kernel⟩
theorem scLayingsOrder : FnScope ["self", "found", "lot", "cell", "one"] ["self"] (defScope sLayingsOrder) := ⟨rfl, rfl, rfl, by decide +kernel, rfl, by decide +kernel, by decide +kernel⟩
theorem scWithCell : FnScope ["lot", "cell"] ["lot", "cell"] (defScope sWithCell) := ⟨rfl, rfl, rfl, by decide +kernel, rfl, by decide +kernel, by decide +kernel⟩
theorem scOrderFrom : FnScope ["history", "plates"] ["history", "plates"] (defScope sOrderFrom) := ⟨rfl, rfl, rfl, by decide +kernel, rfl, by decide +kernel, by decide +kernel⟩
theorem scLayOut : FnScope ["table", "journal", "plates"] ["table", "journal", "plates"] (defScope sLayOut) := ⟨rfl, rfl, rfl, by decide +kernel, rfl, by decide +kernel, by decide +kernel⟩
theorem scChanging : FnScope ["table", "cell", "reads"] ["table"] (defScope sChanging) := ⟨rfl, rfl, rfl, by decide +kernel, rfl, by decide +kernel, by decide +kernel⟩
theorem scTies : FnScope ["table", "some", "found", "cell", "reads", "one"] ["table"] (defScope sTies) := ⟨rfl, rfl, rfl, by decide +kernel, rfl, by decide +kernel, by decide +kernel⟩
theorem scLedFrom : FnScope ["web", "cell", "found", "done", "one", "later"] ["web", "cell"] (defScope sLedFrom) := ⟨rfl, rfl, rfl, by decide +kernel, rfl, by decide +kernel, by decide +kernel⟩
theorem scKnotList : FnScope ["table", "web", "ways", "cell", "found", "one"] ["table"] (defScope sKnotList) := ⟨rfl, rfl, rfl, by decide +kernel, rfl, by decide +kernel, by decide +kernel⟩
theorem scBeside : FnScope ["table", "knot", "found", "cell", "one", "other", "neighbour"] ["table", "knot"] (defScope sBeside) := ⟨rfl, rfl, rfl, by decide +kernel, rfl, by decide +kernel, by decide +kernel⟩
theorem scRowIn : FnScope ["table", "knot", "near", "ends", "cell", "found"] ["table", "knot"] (defScope sRowIn) := ⟨rfl, rfl, rfl, by decide +kernel, rfl, by decide +kernel, by decide +kernel⟩
theorem scReadsTwo : FnScope ["table", "knot", "number", "kind", "cell", "reads", "one"] ["table", "knot"] (defScope sReadsTwo) := ⟨rfl, rfl, rfl, by decide +kernel, rfl, by decide +kernel, by decide +kernel⟩
theorem scIsSound : FnScope ["table", "knot"] ["table", "knot"] (defScope sIsSound) := ⟨rfl, rfl, rfl, by decide +kernel, rfl, by decide +kernel, by decide +kernel⟩
theorem scKnots : FnScope ["table"] ["table"] (defScope sKnots) := ⟨rfl, rfl, rfl, by decide +kernel, rfl, by decide +kernel, by decide +kernel⟩
theorem scSound : FnScope ["table", "knot"] ["table"] (defScope sSound) := ⟨rfl, rfl, rfl, by decide +kernel, rfl, by decide +kernel, by decide +kernel⟩
theorem scNeverSticks : FnScope ["table", "knot"] ["table"] (defScope sNeverSticks) := ⟨rfl, rfl, rfl, by decide +kernel, rfl, by decide +kernel, by decide +kernel⟩
theorem scSticking : FnScope ["table", "knot"] ["table"] (defScope sSticking) := ⟨rfl, rfl, rfl, by decide +kernel, rfl, by decide +kernel, by decide +kernel⟩
theorem scSticks : FnScope ["table", "journal"] ["table", "journal"] (defScope sSticks) := ⟨rfl, rfl, rfl, by decide +kernel, rfl, by decide +kernel, by decide +kernel⟩
theorem scIsSticking : FnScope ["table", "thing"] ["table", "thing"] (defScope sIsSticking) := ⟨rfl, rfl, rfl, by decide +kernel, rfl, by decide +kernel, by decide +kernel⟩
theorem scLawHand : FnScope ["_law_script", "_law_cells", "_law_cell"] ["_law_script"] (defScope sLawHand) := ⟨rfl, rfl, rfl, by decide +kernel, rfl, by decide +kernel, by decide +kernel⟩
theorem scLawDraw : FnScope ["_law_hand_here", "_law_many", "_law_cell", "_law_digit", "_law_number"] ["_law_hand_here", "_law_many"] (defScope sLawDraw) := ⟨rfl, rfl, rfl, by decide +kernel, rfl, by decide +kernel, by decide +kernel⟩
theorem scLawAny : FnScope ["_law_hand_here", "_law_some"] ["_law_hand_here", "_law_some"] (defScope sLawAny) := ⟨rfl, rfl, rfl, by decide +kernel, rfl, by decide +kernel, by decide +kernel⟩
theorem scLawIsInt : FnScope ["_law_thing", "_law_least", "_law_most"] ["_law_thing", "_law_least", "_law_most"] (defScope sLawIsInt) := ⟨rfl, rfl, rfl, by decide +kernel, rfl, by decide +kernel, by decide +kernel⟩
theorem scLawHistory : FnScope ["_law_cells", "_law_kinds", "_law_journal_here", "_law_last", "_law_cell", "_law_written", "_law_read", "_law_deed", "_law_number", "_law_reads", "_law_one"] ["_law_cells", "_law_kinds", "_law_journal_here"] (defScope sLawHistory) := ⟨rfl, rfl, rfl, by decide +kernel, rfl, by decide +kernel, by decide +kernel⟩
theorem scLawClosure : FnScope ["_law_read", "_law_plates", "_law_found", "_law_version", "_law_deed", "_law_some", "_law_source"] ["_law_read", "_law_plates"] (defScope sLawClosure) := ⟨rfl, rfl, rfl, by decide +kernel, rfl, by decide +kernel, by decide +kernel⟩
theorem scLawLost : FnScope ["_law_history_here", "_law_plates", "_law_found", "_law_cell", "_law_version"] ["_law_history_here", "_law_plates"] (defScope sLawLost) := ⟨rfl, rfl, rfl, by decide +kernel, rfl, by decide +kernel, by decide +kernel⟩
theorem scLawWith : FnScope ["_law_history_here", "_law_plates", "_law_cells", "_law_cell", "_law_version"] ["_law_history_here", "_law_plates", "_law_cells"] (defScope sLawWith) := ⟨rfl, rfl, rfl, by decide +kernel, rfl, by decide +kernel, by decide +kernel⟩
theorem scLawWanted : FnScope ["_law_history_here", "_law_plates", "_law_cell", "_law_version"] ["_law_history_here", "_law_plates"] (defScope sLawWanted) := ⟨rfl, rfl, rfl, by decide +kernel, rfl, by decide +kernel, by decide +kernel⟩
theorem scLawWays : FnScope ["_law_history_here", "_law_plates", "_law_wanted_here", "_law_found", "_law_here", "_law_turn", "_law_later", "_law_lot", "_law_cell", "_law_more"] ["_law_history_here", "_law_plates"] (defScope sLawWays) := ⟨rfl, rfl, rfl, by decide +kernel, rfl, by decide +kernel, by decide +kernel⟩
theorem scLawManyWays : FnScope ["_law_history_here", "_law_plates"] ["_law_history_here", "_law_plates"] (defScope sLawManyWays) := ⟨rfl, rfl, rfl, by decide +kernel, rfl, by decide +kernel, by decide +kernel⟩
theorem scLawIsLaying : FnScope ["_law_history_here", "_law_plates", "_law_thing", "_law_wanted_here", "_law_cell", "_law_at"] ["_law_history_here", "_law_plates", "_law_thing"] (defScope sLawIsLaying) := ⟨rfl, rfl, rfl, by decide +kernel, rfl, by decide +kernel, by decide +kernel⟩
theorem scLawJournal : FnScope ["_law_hand_here", "_law_kinds", "_law_most", "_law_turn"] ["_law_hand_here", "_law_kinds", "_law_most"] (defScope sLawJournal) := ⟨rfl, rfl, rfl, by decide +kernel, rfl, by decide +kernel, by decide +kernel⟩
theorem scLawTies : FnScope ["_law_kinds", "_law_some", "_law_cell", "_law_reads", "_law_found", "_law_one"] ["_law_kinds"] (defScope sLawTies) := ⟨rfl, rfl, rfl, by decide +kernel, rfl, by decide +kernel, by decide +kernel⟩
theorem scLawLed : FnScope ["_law_web", "_law_cell", "_law_found", "_law_turn", "_law_one", "_law_two"] ["_law_web", "_law_cell"] (defScope sLawLed) := ⟨rfl, rfl, rfl, by decide +kernel, rfl, by decide +kernel, by decide +kernel⟩
theorem scLawKnots : FnScope ["_law_kinds", "_law_web", "_law_some", "_law_cell", "_law_reads", "_law_found", "_law_one"] ["_law_kinds"] (defScope sLawKnots) := ⟨rfl, rfl, rfl, by decide +kernel, rfl, by decide +kernel, by decide +kernel⟩
theorem scLawRows : FnScope ["_law_web", "_law_knot", "_law_pairs", "_law_pair", "_law_found", "_law_cell", "_law_turn", "_law_later", "_law_row", "_law_near", "_law_one"] ["_law_web", "_law_knot"] (defScope sLawRows) := ⟨rfl, rfl, rfl, by decide +kernel, rfl, by decide +kernel, by decide +kernel⟩
theorem scLawIsSound : FnScope ["_law_kinds", "_law_knot", "_law_one", "_law_cell", "_law_reads"] ["_law_kinds", "_law_knot"] (defScope sLawIsSound) := ⟨rfl, rfl, rfl, by decide +kernel, rfl, by decide +kernel, by decide +kernel⟩
theorem scLawFresh : FnScope ["_law_cells", "_law_cell"] ["_law_cells"] (defScope sLawFresh) := ⟨rfl, rfl, rfl, by decide +kernel, rfl, by decide +kernel, by decide +kernel⟩
theorem scLawSoundTable : FnScope ["_law_hand_here", "_law_cells", "_law_left", "_law_order", "_law_cell", "_law_still", "_law_ahead", "_law_kinds", "_law_at", "_law_row", "_law_place", "_law_near", "_law_one", "_law_own", "_law_reads", "_law_turn"] ["_law_hand_here"] (defScope sLawSoundTable) := ⟨rfl, rfl, rfl, by decide +kernel, rfl, by decide +kernel, by decide +kernel⟩
theorem scLaw : FnScope ["_law_script", "_law_hand_here", "_law_turn", "_law_cells", "_law_kinds", "_law_table", "_law_knot", "_law_again", "_law_line", "_law_deed", "_law_history_here"] ["_law_script"] (defScope sLaw) := ⟨rfl, rfl, rfl, by decide +kernel, rfl, by decide +kernel, by decide +kernel⟩
def dIsInteger : He.DefD := ⟨("is_integer", none), "is_integer", "is_integer", defArgs sIsInteger, defBody sIsInteger, defScope sIsInteger, [], []⟩
def dIsWithin : He.DefD := ⟨("is_within", none), "is_within", "is_within", defArgs sIsWithin, defBody sIsWithin, defScope sIsWithin, [], []⟩
def dIsPair : He.DefD := ⟨("is_pair", none), "is_pair", "is_pair", defArgs sIsPair, defBody sIsPair, defScope sIsPair, [], []⟩
def dIsLot : He.DefD := ⟨("is_lot", none), "is_lot", "is_lot", defArgs sIsLot, defBody sIsLot, defScope sIsLot, [], []⟩
def dIsKind : He.DefD := ⟨("is_kind", none), "is_kind", "is_kind", defArgs sIsKind, defBody sIsKind, defScope sIsKind, [], []⟩
def dTableInit : He.DefD := ⟨("Table", some "__init__"), "__init__", "Table.__init__", defArgs sTableInit, defBody sTableInit, defScope sTableInit, [], []⟩
def dIsJournal : He.DefD := ⟨("is_journal", none), "is_journal", "is_journal", defArgs sIsJournal, defBody sIsJournal, defScope sIsJournal, [], []⟩
def dCheckJournal : He.DefD := ⟨("check_journal", none), "check_journal", "check_journal", defArgs sCheckJournal, defBody sCheckJournal, defScope sCheckJournal, [], []⟩
def dBeginOf : He.DefD := ⟨("begin_of", none), "begin_of", "begin_of", defArgs sBeginOf, defBody sBeginOf, defScope sBeginOf, [], []⟩
def dAllFresh : He.DefD := ⟨("all_fresh", none), "all_fresh", "all_fresh", defArgs sAllFresh, defBody sAllFresh, defScope sAllFresh, [], []⟩
def dHistoryInit : He.DefD := ⟨("History", some "__init__"), "__init__", "History.__init__", defArgs sHistoryInit, defBody sHistoryInit, defScope sHistoryInit, [], []⟩
def dIsVersionOf : He.DefD := ⟨("is_version_of", none), "is_version_of", "is_version_of", defArgs sIsVersionOf, defBody sIsVersionOf, defScope sIsVersionOf, [], []⟩
def dArePlates : He.DefD := ⟨("are_plates", none), "are_plates", "are_plates", defArgs sArePlates, defBody sArePlates, defScope sArePlates, [], []⟩
def dCheckPlates : He.DefD := ⟨("check_plates", none), "check_plates", "check_plates", defArgs sCheckPlates, defBody sCheckPlates, defScope sCheckPlates, [], []⟩
def dClosure : He.DefD := ⟨("closure", none), "closure", "closure", defArgs sClosure, defBody sClosure, defScope sClosure, [], []⟩
def dIsAllThere : He.DefD := ⟨("is_all_there", none), "is_all_there", "is_all_there", defArgs sIsAllThere, defBody sIsAllThere, defScope sIsAllThere, [], []⟩
def dCheckSafe : He.DefD := ⟨("check_safe", none), "check_safe", "check_safe", defArgs sCheckSafe, defBody sCheckSafe, defScope sCheckSafe, [], []⟩
def dLaid : He.DefD := ⟨("laid", none), "laid", "laid", defArgs sLaid, defBody sLaid, defScope sLaid, [], []⟩
def dAllLaid : He.DefD := ⟨("all_laid", none), "all_laid", "all_laid", defArgs sAllLaid, defBody sAllLaid, defScope sAllLaid, [], []⟩
def dLeftOf : He.DefD := ⟨("left_of", none), "left_of", "left_of", defArgs sLeftOf, defBody sLeftOf, defScope sLeftOf, [], []⟩
def dLayingsInit : He.DefD := ⟨("Layings", some "__init__"), "__init__", "Layings.__init__", defArgs sLayingsInit, defBody sLayingsInit, defScope sLayingsInit, [], []⟩
def dLayingsIsSafeWith : He.DefD := ⟨("Layings", some "is_safe_with"), "is_safe_with", "Layings.is_safe_with", defArgs sLayingsIsSafeWith, defBody sLayingsIsSafeWith, defScope sLayingsIsSafeWith, [], []⟩
def dLayingsStepsFrom : He.DefD := ⟨("Layings", some "steps_from"), "steps_from", "Layings.steps_from", defArgs sLayingsStepsFrom, defBody sLayingsStepsFrom, defScope sLayingsStepsFrom, [], []⟩
def dLayingsCount : He.DefD := ⟨("Layings", some "count"), "count", "Layings.count", defArgs sLayingsCount, defBody sLayingsCount, defScope sLayingsCount, [], []⟩
def dLayingsOrder : He.DefD := ⟨("Layings", some "order"), "order", "Layings.order", defArgs sLayingsOrder, defBody sLayingsOrder, defScope sLayingsOrder, [], []⟩
def dWithCell : He.DefD := ⟨("with_cell", none), "with_cell", "with_cell", defArgs sWithCell, defBody sWithCell, defScope sWithCell, [], []⟩
def dOrderFrom : He.DefD := ⟨("order_from", none), "order_from", "order_from", defArgs sOrderFrom, defBody sOrderFrom, defScope sOrderFrom, [], []⟩
def dLayOut : He.DefD := ⟨("lay_out", none), "lay_out", "lay_out", defArgs sLayOut, defBody sLayOut, defScope sLayOut, [], []⟩
def dChanging : He.DefD := ⟨("changing", none), "changing", "changing", defArgs sChanging, defBody sChanging, defScope sChanging, [], []⟩
def dTies : He.DefD := ⟨("ties", none), "ties", "ties", defArgs sTies, defBody sTies, defScope sTies, [], []⟩
def dLedFrom : He.DefD := ⟨("led_from", none), "led_from", "led_from", defArgs sLedFrom, defBody sLedFrom, defScope sLedFrom, [], []⟩
def dKnotList : He.DefD := ⟨("knot_list", none), "knot_list", "knot_list", defArgs sKnotList, defBody sKnotList, defScope sKnotList, [], []⟩
def dBeside : He.DefD := ⟨("beside", none), "beside", "beside", defArgs sBeside, defBody sBeside, defScope sBeside, [], []⟩
def dRowIn : He.DefD := ⟨("row_in", none), "row_in", "row_in", defArgs sRowIn, defBody sRowIn, defScope sRowIn, [], []⟩
def dReadsTwo : He.DefD := ⟨("reads_two", none), "reads_two", "reads_two", defArgs sReadsTwo, defBody sReadsTwo, defScope sReadsTwo, [], []⟩
def dIsSound : He.DefD := ⟨("is_sound", none), "is_sound", "is_sound", defArgs sIsSound, defBody sIsSound, defScope sIsSound, [], []⟩
def dKnots : He.DefD := ⟨("knots", none), "knots", "knots", defArgs sKnots, defBody sKnots, defScope sKnots, [], []⟩
def dSound : He.DefD := ⟨("sound", none), "sound", "sound", defArgs sSound, defBody sSound, defScope sSound, [], []⟩
def dNeverSticks : He.DefD := ⟨("never_sticks", none), "never_sticks", "never_sticks", defArgs sNeverSticks, defBody sNeverSticks, defScope sNeverSticks, [], []⟩
def dSticking : He.DefD := ⟨("sticking", none), "sticking", "sticking", defArgs sSticking, defBody sSticking, defScope sSticking, [], []⟩
def dSticks : He.DefD := ⟨("sticks", none), "sticks", "sticks", defArgs sSticks, defBody sSticks, defScope sSticks, [], []⟩
def dIsSticking : He.DefD := ⟨("is_sticking", none), "is_sticking", "is_sticking", defArgs sIsSticking, defBody sIsSticking, defScope sIsSticking, [], []⟩
def dLawHand : He.DefD := ⟨("_law_hand", none), "_law_hand", "_law_hand", defArgs sLawHand, defBody sLawHand, defScope sLawHand, [], []⟩
def dLawDraw : He.DefD := ⟨("_law_draw", none), "_law_draw", "_law_draw", defArgs sLawDraw, defBody sLawDraw, defScope sLawDraw, [], []⟩
def dLawAny : He.DefD := ⟨("_law_any", none), "_law_any", "_law_any", defArgs sLawAny, defBody sLawAny, defScope sLawAny, [], []⟩
def dLawIsInt : He.DefD := ⟨("_law_is_int", none), "_law_is_int", "_law_is_int", defArgs sLawIsInt, defBody sLawIsInt, defScope sLawIsInt, [], []⟩
def dLawHistory : He.DefD := ⟨("_law_history", none), "_law_history", "_law_history", defArgs sLawHistory, defBody sLawHistory, defScope sLawHistory, [], []⟩
def dLawClosure : He.DefD := ⟨("_law_closure", none), "_law_closure", "_law_closure", defArgs sLawClosure, defBody sLawClosure, defScope sLawClosure, [], []⟩
def dLawLost : He.DefD := ⟨("_law_lost", none), "_law_lost", "_law_lost", defArgs sLawLost, defBody sLawLost, defScope sLawLost, [], []⟩
def dLawWith : He.DefD := ⟨("_law_with", none), "_law_with", "_law_with", defArgs sLawWith, defBody sLawWith, defScope sLawWith, [], []⟩
def dLawWanted : He.DefD := ⟨("_law_wanted", none), "_law_wanted", "_law_wanted", defArgs sLawWanted, defBody sLawWanted, defScope sLawWanted, [], []⟩
def dLawWays : He.DefD := ⟨("_law_ways", none), "_law_ways", "_law_ways", defArgs sLawWays, defBody sLawWays, defScope sLawWays, [], []⟩
def dLawManyWays : He.DefD := ⟨("_law_many_ways", none), "_law_many_ways", "_law_many_ways", defArgs sLawManyWays, defBody sLawManyWays, defScope sLawManyWays, [], []⟩
def dLawIsLaying : He.DefD := ⟨("_law_is_laying", none), "_law_is_laying", "_law_is_laying", defArgs sLawIsLaying, defBody sLawIsLaying, defScope sLawIsLaying, [], []⟩
def dLawJournal : He.DefD := ⟨("_law_journal", none), "_law_journal", "_law_journal", defArgs sLawJournal, defBody sLawJournal, defScope sLawJournal, [], []⟩
def dLawTies : He.DefD := ⟨("_law_ties", none), "_law_ties", "_law_ties", defArgs sLawTies, defBody sLawTies, defScope sLawTies, [], []⟩
def dLawLed : He.DefD := ⟨("_law_led", none), "_law_led", "_law_led", defArgs sLawLed, defBody sLawLed, defScope sLawLed, [], []⟩
def dLawKnots : He.DefD := ⟨("_law_knots", none), "_law_knots", "_law_knots", defArgs sLawKnots, defBody sLawKnots, defScope sLawKnots, [], []⟩
def dLawRows : He.DefD := ⟨("_law_rows", none), "_law_rows", "_law_rows", defArgs sLawRows, defBody sLawRows, defScope sLawRows, [], []⟩
def dLawIsSound : He.DefD := ⟨("_law_is_sound", none), "_law_is_sound", "_law_is_sound", defArgs sLawIsSound, defBody sLawIsSound, defScope sLawIsSound, [], []⟩
def dLawFresh : He.DefD := ⟨("_law_fresh", none), "_law_fresh", "_law_fresh", defArgs sLawFresh, defBody sLawFresh, defScope sLawFresh, [], []⟩
def dLawSoundTable : He.DefD := ⟨("_law_sound_table", none), "_law_sound_table", "_law_sound_table", defArgs sLawSoundTable, defBody sLawSoundTable, defScope sLawSoundTable, [], []⟩
def dLaw : He.DefD := ⟨("law", none), "law", "law", defArgs sLaw, defBody sLaw, defScope sLaw, [], []⟩
def fn_0 : List He.DefD := [dIsInteger, dIsWithin, dIsPair, dIsLot, dIsKind, dTableInit, dIsJournal, dCheckJournal, dBeginOf, dAllFresh, dHistoryInit, dIsVersionOf, dArePlates, dCheckPlates, dClosure, dIsAllThere, dCheckSafe, dLaid, dAllLaid, dLeftOf]
def fn_1 : List He.DefD := [dLayingsInit, dLayingsIsSafeWith, dLayingsStepsFrom, dLayingsCount, dLayingsOrder, dWithCell, dOrderFrom, dLayOut, dChanging, dTies, dLedFrom, dKnotList, dBeside, dRowIn, dReadsTwo, dIsSound, dKnots, dSound, dNeverSticks, dSticking]
def fn_2 : List He.DefD := [dSticks, dIsSticking, dLawHand, dLawDraw, dLawAny, dLawIsInt, dLawHistory, dLawClosure, dLawLost, dLawWith, dLawWanted, dLawWays, dLawManyWays, dLawIsLaying, dLawJournal, dLawTies, dLawLed, dLawKnots, dLawRows, dLawIsSound]
def fn_3 : List He.DefD := [dLawFresh, dLawSoundTable, dLaw]
def fn : List He.DefD := fn_0 ++ fn_1 ++ fn_2 ++ fn_3
def fa_0 : List He.Fa := [.glo "is_integer", .glo "is_within", .glo "is_pair", .glo "is_lot", .glo "is_kind", .glo "is_journal", .glo "check_journal", .glo "begin_of", .glo "all_fresh", .glo "is_version_of", .glo "are_plates", .glo "check_plates", .glo "closure", .glo "is_all_there", .glo "check_safe", .glo "laid", .glo "all_laid", .glo "left_of", .glo "with_cell", .glo "order_from"]
def fa_1 : List He.Fa := [.glo "lay_out", .glo "changing", .glo "ties", .glo "led_from", .glo "knot_list", .glo "beside", .glo "row_in", .glo "reads_two", .glo "is_sound", .glo "knots", .glo "sound", .glo "never_sticks", .glo "sticking", .glo "sticks", .glo "is_sticking", .glo "_law_hand", .glo "_law_draw", .glo "_law_any", .glo "_law_is_int", .glo "_law_history"]
def fa_2 : List He.Fa := [.glo "_law_closure", .glo "_law_lost", .glo "_law_with", .glo "_law_wanted", .glo "_law_ways", .glo "_law_many_ways", .glo "_law_is_laying", .glo "_law_journal", .glo "_law_ties", .glo "_law_led", .glo "_law_knots", .glo "_law_rows", .glo "_law_is_sound", .glo "_law_fresh", .glo "_law_sound_table", .glo "law", .glo "Table", .glo "History", .glo "Layings", .free "isinstance"]
def fa_3 : List He.Fa := [.free "int", .free "bool", .free "tuple", .free "len", .free "all", .free "any", .free "enumerate", .free "range", .free "list", .free "sorted", .free "set", .free "dict", .free "sum", .free "abs", .free "min", .int "MOST_CELLS" 8, .int "MOST_KINDS" 40, .int "MOST_READS" 3, .int "MOST_DEEDS" 400, .cls "Table"]
def fa_4 : List He.Fa := [.mkr "Table", .noat "Table" "cells", .noat "Table" "kinds", .cls "History", .mkr "History", .noat "History" "cells_written", .noat "History" "read", .noat "History" "last", .cls "Layings", .mkr "Layings", .noat "Layings" "history", .noat "Layings" "plates", .noat "Layings" "wanted", .noat "Layings" "known", .meth "Layings" "is_safe_with", .meth "Layings" "steps_from", .meth "Layings" "count", .meth "Layings" "order"]
def fa : List He.Fa := fa_0 ++ fa_1 ++ fa_2 ++ fa_3 ++ fa_4
/-- what the top has left -/
structure Tp (K : PySem.W.Frag) (mg : Str → Option Value) : Prop where
  ex : ∃ h : Heap, K.In h ∧ h.Ns mainGlobals mg ∧ He.SaysD fa fn K
section
variable {K : PySem.W.Frag} {mg : Str → Option Value}
theorem Tp.defIsInteger (T : Tp K mg) : ∃ fd, FnP K "is_integer" "is_integer" sIsInteger (He.fAd K ("is_integer", none)) fd ∧ Binds K fd ["thing"] [] := by
  obtain ⟨h, X, G, c⟩ := T.ex
  obtain ⟨fd, F⟩ := c.def_ 0 (d := dIsInteger) rfl
  exact ⟨fd, F, FunD.bindsN F fun _ _ _ _ _ _ us hl => match us, hl with | [_], _ => rfl⟩
theorem Tp.defIsWithin (T : Tp K mg) : ∃ fd, FnP K "is_within" "is_within" sIsWithin (He.fAd K ("is_within", none)) fd ∧ Binds K fd ["thing", "least", "most"] [] := by
  obtain ⟨h, X, G, c⟩ := T.ex
  obtain ⟨fd, F⟩ := c.def_ 1 (d := dIsWithin) rfl
  exact ⟨fd, F, FunD.bindsN F fun _ _ _ _ _ _ us hl => match us, hl with | [_, _, _], _ => rfl⟩
theorem Tp.defIsPair (T : Tp K mg) : ∃ fd, FnP K "is_pair" "is_pair" sIsPair (He.fAd K ("is_pair", none)) fd ∧ Binds K fd ["thing"] [] := by
  obtain ⟨h, X, G, c⟩ := T.ex
  obtain ⟨fd, F⟩ := c.def_ 2 (d := dIsPair) rfl
  exact ⟨fd, F, FunD.bindsN F fun _ _ _ _ _ _ us hl => match us, hl with | [_], _ => rfl⟩
theorem Tp.defIsLot (T : Tp K mg) : ∃ fd, FnP K "is_lot" "is_lot" sIsLot (He.fAd K ("is_lot", none)) fd ∧ Binds K fd ["thing", "least", "most"] [] := by
  obtain ⟨h, X, G, c⟩ := T.ex
  obtain ⟨fd, F⟩ := c.def_ 3 (d := dIsLot) rfl
  exact ⟨fd, F, FunD.bindsN F fun _ _ _ _ _ _ us hl => match us, hl with | [_, _, _], _ => rfl⟩
theorem Tp.defIsKind (T : Tp K mg) : ∃ fd, FnP K "is_kind" "is_kind" sIsKind (He.fAd K ("is_kind", none)) fd ∧ Binds K fd ["cells", "thing"] [] := by
  obtain ⟨h, X, G, c⟩ := T.ex
  obtain ⟨fd, F⟩ := c.def_ 4 (d := dIsKind) rfl
  exact ⟨fd, F, FunD.bindsN F fun _ _ _ _ _ _ us hl => match us, hl with | [_, _], _ => rfl⟩
theorem Tp.defTableInit (T : Tp K mg) : ∃ fd, FnP K "__init__" "Table.__init__" sTableInit (He.fAd K ("Table", some "__init__")) fd ∧ Binds K fd ["self", "cells", "kinds"] [] := by
  obtain ⟨h, X, G, c⟩ := T.ex
  obtain ⟨fd, F⟩ := c.def_ 5 (d := dTableInit) rfl
  exact ⟨fd, F, FunD.bindsN F fun _ _ _ _ _ _ us hl => match us, hl with | [_, _, _], _ => rfl⟩
theorem Tp.defIsJournal (T : Tp K mg) : ∃ fd, FnP K "is_journal" "is_journal" sIsJournal (He.fAd K ("is_journal", none)) fd ∧ Binds K fd ["table", "thing"] [] := by
  obtain ⟨h, X, G, c⟩ := T.ex
  obtain ⟨fd, F⟩ := c.def_ 6 (d := dIsJournal) rfl
  exact ⟨fd, F, FunD.bindsN F fun _ _ _ _ _ _ us hl => match us, hl with | [_, _], _ => rfl⟩
theorem Tp.defCheckJournal (T : Tp K mg) : ∃ fd, FnP K "check_journal" "check_journal" sCheckJournal (He.fAd K ("check_journal", none)) fd ∧ Binds K fd ["table", "thing"] [] := by
  obtain ⟨h, X, G, c⟩ := T.ex
  obtain ⟨fd, F⟩ := c.def_ 7 (d := dCheckJournal) rfl
  exact ⟨fd, F, FunD.bindsN F fun _ _ _ _ _ _ us hl => match us, hl with | [_, _], _ => rfl⟩
theorem Tp.defBeginOf (T : Tp K mg) : ∃ fd, FnP K "begin_of" "begin_of" sBeginOf (He.fAd K ("begin_of", none)) fd ∧ Binds K fd ["cell"] [] := by
  obtain ⟨h, X, G, c⟩ := T.ex
  obtain ⟨fd, F⟩ := c.def_ 8 (d := dBeginOf) rfl
  exact ⟨fd, F, FunD.bindsN F fun _ _ _ _ _ _ us hl => match us, hl with | [_], _ => rfl⟩
theorem Tp.defAllFresh (T : Tp K mg) : ∃ fd, FnP K "all_fresh" "all_fresh" sAllFresh (He.fAd K ("all_fresh", none)) fd ∧ Binds K fd ["table"] [] := by
  obtain ⟨h, X, G, c⟩ := T.ex
  obtain ⟨fd, F⟩ := c.def_ 9 (d := dAllFresh) rfl
  exact ⟨fd, F, FunD.bindsN F fun _ _ _ _ _ _ us hl => match us, hl with | [_], _ => rfl⟩
theorem Tp.defHistoryInit (T : Tp K mg) : ∃ fd, FnP K "__init__" "History.__init__" sHistoryInit (He.fAd K ("History", some "__init__")) fd ∧ Binds K fd ["self", "table", "journal"] [] := by
  obtain ⟨h, X, G, c⟩ := T.ex
  obtain ⟨fd, F⟩ := c.def_ 10 (d := dHistoryInit) rfl
  exact ⟨fd, F, FunD.bindsN F fun _ _ _ _ _ _ us hl => match us, hl with | [_, _, _], _ => rfl⟩
theorem Tp.defIsVersionOf (T : Tp K mg) : ∃ fd, FnP K "is_version_of" "is_version_of" sIsVersionOf (He.fAd K ("is_version_of", none)) fd ∧ Binds K fd ["history", "cell", "thing"] [] := by
  obtain ⟨h, X, G, c⟩ := T.ex
  obtain ⟨fd, F⟩ := c.def_ 11 (d := dIsVersionOf) rfl
  exact ⟨fd, F, FunD.bindsN F fun _ _ _ _ _ _ us hl => match us, hl with | [_, _, _], _ => rfl⟩
theorem Tp.defArePlates (T : Tp K mg) : ∃ fd, FnP K "are_plates" "are_plates" sArePlates (He.fAd K ("are_plates", none)) fd ∧ Binds K fd ["table", "history", "thing"] [] := by
  obtain ⟨h, X, G, c⟩ := T.ex
  obtain ⟨fd, F⟩ := c.def_ 12 (d := dArePlates) rfl
  exact ⟨fd, F, FunD.bindsN F fun _ _ _ _ _ _ us hl => match us, hl with | [_, _, _], _ => rfl⟩
theorem Tp.defCheckPlates (T : Tp K mg) : ∃ fd, FnP K "check_plates" "check_plates" sCheckPlates (He.fAd K ("check_plates", none)) fd ∧ Binds K fd ["table", "journal", "thing"] [] := by
  obtain ⟨h, X, G, c⟩ := T.ex
  obtain ⟨fd, F⟩ := c.def_ 13 (d := dCheckPlates) rfl
  exact ⟨fd, F, FunD.bindsN F fun _ _ _ _ _ _ us hl => match us, hl with | [_, _, _], _ => rfl⟩
theorem Tp.defClosure (T : Tp K mg) : ∃ fd, FnP K "closure" "closure" sClosure (He.fAd K ("closure", none)) fd ∧ Binds K fd ["history", "plates"] [] := by
  obtain ⟨h, X, G, c⟩ := T.ex
  obtain ⟨fd, F⟩ := c.def_ 14 (d := dClosure) rfl
  exact ⟨fd, F, FunD.bindsN F fun _ _ _ _ _ _ us hl => match us, hl with | [_, _], _ => rfl⟩
theorem Tp.defIsAllThere (T : Tp K mg) : ∃ fd, FnP K "is_all_there" "is_all_there" sIsAllThere (He.fAd K ("is_all_there", none)) fd ∧ Binds K fd ["history", "plates"] [] := by
  obtain ⟨h, X, G, c⟩ := T.ex
  obtain ⟨fd, F⟩ := c.def_ 15 (d := dIsAllThere) rfl
  exact ⟨fd, F, FunD.bindsN F fun _ _ _ _ _ _ us hl => match us, hl with | [_, _], _ => rfl⟩
theorem Tp.defCheckSafe (T : Tp K mg) : ∃ fd, FnP K "check_safe" "check_safe" sCheckSafe (He.fAd K ("check_safe", none)) fd ∧ Binds K fd ["table", "journal", "plates"] [] := by
  obtain ⟨h, X, G, c⟩ := T.ex
  obtain ⟨fd, F⟩ := c.def_ 16 (d := dCheckSafe) rfl
  exact ⟨fd, F, FunD.bindsN F fun _ _ _ _ _ _ us hl => match us, hl with | [_, _, _], _ => rfl⟩
theorem Tp.defLaid (T : Tp K mg) : ∃ fd, FnP K "laid" "laid" sLaid (He.fAd K ("laid", none)) fd ∧ Binds K fd ["history", "plates", "cell"] [] := by
  obtain ⟨h, X, G, c⟩ := T.ex
  obtain ⟨fd, F⟩ := c.def_ 17 (d := dLaid) rfl
  exact ⟨fd, F, FunD.bindsN F fun _ _ _ _ _ _ us hl => match us, hl with | [_, _, _], _ => rfl⟩
theorem Tp.defAllLaid (T : Tp K mg) : ∃ fd, FnP K "all_laid" "all_laid" sAllLaid (He.fAd K ("all_laid", none)) fd ∧ Binds K fd ["history", "plates", "cells"] [] := by
  obtain ⟨h, X, G, c⟩ := T.ex
  obtain ⟨fd, F⟩ := c.def_ 18 (d := dAllLaid) rfl
  exact ⟨fd, F, FunD.bindsN F fun _ _ _ _ _ _ us hl => match us, hl with | [_, _, _], _ => rfl⟩
theorem Tp.defLeftOf (T : Tp K mg) : ∃ fd, FnP K "left_of" "left_of" sLeftOf (He.fAd K ("left_of", none)) fd ∧ Binds K fd ["history", "plates"] [] := by
  obtain ⟨h, X, G, c⟩ := T.ex
  obtain ⟨fd, F⟩ := c.def_ 19 (d := dLeftOf) rfl
  exact ⟨fd, F, FunD.bindsN F fun _ _ _ _ _ _ us hl => match us, hl with | [_, _], _ => rfl⟩
theorem Tp.defLayingsInit (T : Tp K mg) : ∃ fd, FnP K "__init__" "Layings.__init__" sLayingsInit (He.fAd K ("Layings", some "__init__")) fd ∧ Binds K fd ["self", "history", "plates"] [] := by
  obtain ⟨h, X, G, c⟩ := T.ex
  obtain ⟨fd, F⟩ := c.def_ 20 (d := dLayingsInit) rfl
  exact ⟨fd, F, FunD.bindsN F fun _ _ _ _ _ _ us hl => match us, hl with | [_, _, _], _ => rfl⟩
theorem Tp.defLayingsIsSafeWith (T : Tp K mg) : ∃ fd, FnP K "is_safe_with" "Layings.is_safe_with" sLayingsIsSafeWith (He.fAd K ("Layings", some "is_safe_with")) fd ∧ Binds K fd ["self", "lot"] [] := by
  obtain ⟨h, X, G, c⟩ := T.ex
  obtain ⟨fd, F⟩ := c.def_ 21 (d := dLayingsIsSafeWith) rfl
  exact ⟨fd, F, FunD.bindsN F fun _ _ _ _ _ _ us hl => match us, hl with | [_, _], _ => rfl⟩
theorem Tp.defLayingsStepsFrom (T : Tp K mg) : ∃ fd, FnP K "steps_from" "Layings.steps_from" sLayingsStepsFrom (He.fAd K ("Layings", some "steps_from")) fd ∧ Binds K fd ["self", "lot"] [] := by
  obtain ⟨h, X, G, c⟩ := T.ex
  obtain ⟨fd, F⟩ := c.def_ 22 (d := dLayingsStepsFrom) rfl
  exact ⟨fd, F, FunD.bindsN F fun _ _ _ _ _ _ us hl => match us, hl with | [_, _], _ => rfl⟩
theorem Tp.defLayingsCount (T : Tp K mg) : ∃ fd, FnP K "count" "Layings.count" sLayingsCount (He.fAd K ("Layings", some "count")) fd ∧ Binds K fd ["self", "lot"] [] := by
  obtain ⟨h, X, G, c⟩ := T.ex
  obtain ⟨fd, F⟩ := c.def_ 23 (d := dLayingsCount) rfl
  exact ⟨fd, F, FunD.bindsN F fun _ _ _ _ _ _ us hl => match us, hl with | [_, _], _ => rfl⟩
theorem Tp.defLayingsOrder (T : Tp K mg) : ∃ fd, FnP K "order" "Layings.order" sLayingsOrder (He.fAd K ("Layings", some "order")) fd ∧ Binds K fd ["self"] [] := by
  obtain ⟨h, X, G, c⟩ := T.ex
  obtain ⟨fd, F⟩ := c.def_ 24 (d := dLayingsOrder) rfl
  exact ⟨fd, F, FunD.bindsN F fun _ _ _ _ _ _ us hl => match us, hl with | [_], _ => rfl⟩
theorem Tp.defWithCell (T : Tp K mg) : ∃ fd, FnP K "with_cell" "with_cell" sWithCell (He.fAd K ("with_cell", none)) fd ∧ Binds K fd ["lot", "cell"] [] := by
  obtain ⟨h, X, G, c⟩ := T.ex
  obtain ⟨fd, F⟩ := c.def_ 25 (d := dWithCell) rfl
  exact ⟨fd, F, FunD.bindsN F fun _ _ _ _ _ _ us hl => match us, hl with | [_, _], _ => rfl⟩
theorem Tp.defOrderFrom (T : Tp K mg) : ∃ fd, FnP K "order_from" "order_from" sOrderFrom (He.fAd K ("order_from", none)) fd ∧ Binds K fd ["history", "plates"] [] := by
  obtain ⟨h, X, G, c⟩ := T.ex
  obtain ⟨fd, F⟩ := c.def_ 26 (d := dOrderFrom) rfl
  exact ⟨fd, F, FunD.bindsN F fun _ _ _ _ _ _ us hl => match us, hl with | [_, _], _ => rfl⟩
theorem Tp.defLayOut (T : Tp K mg) : ∃ fd, FnP K "lay_out" "lay_out" sLayOut (He.fAd K ("lay_out", none)) fd ∧ Binds K fd ["table", "journal", "plates"] [] := by
  obtain ⟨h, X, G, c⟩ := T.ex
  obtain ⟨fd, F⟩ := c.def_ 27 (d := dLayOut) rfl
  exact ⟨fd, F, FunD.bindsN F fun _ _ _ _ _ _ us hl => match us, hl with | [_, _, _], _ => rfl⟩
theorem Tp.defChanging (T : Tp K mg) : ∃ fd, FnP K "changing" "changing" sChanging (He.fAd K ("changing", none)) fd ∧ Binds K fd ["table"] [] := by
  obtain ⟨h, X, G, c⟩ := T.ex
  obtain ⟨fd, F⟩ := c.def_ 28 (d := dChanging) rfl
  exact ⟨fd, F, FunD.bindsN F fun _ _ _ _ _ _ us hl => match us, hl with | [_], _ => rfl⟩
theorem Tp.defTies (T : Tp K mg) : ∃ fd, FnP K "ties" "ties" sTies (He.fAd K ("ties", none)) fd ∧ Binds K fd ["table"] [] := by
  obtain ⟨h, X, G, c⟩ := T.ex
  obtain ⟨fd, F⟩ := c.def_ 29 (d := dTies) rfl
  exact ⟨fd, F, FunD.bindsN F fun _ _ _ _ _ _ us hl => match us, hl with | [_], _ => rfl⟩
theorem Tp.defLedFrom (T : Tp K mg) : ∃ fd, FnP K "led_from" "led_from" sLedFrom (He.fAd K ("led_from", none)) fd ∧ Binds K fd ["web", "cell"] [] := by
  obtain ⟨h, X, G, c⟩ := T.ex
  obtain ⟨fd, F⟩ := c.def_ 30 (d := dLedFrom) rfl
  exact ⟨fd, F, FunD.bindsN F fun _ _ _ _ _ _ us hl => match us, hl with | [_, _], _ => rfl⟩
theorem Tp.defKnotList (T : Tp K mg) : ∃ fd, FnP K "knot_list" "knot_list" sKnotList (He.fAd K ("knot_list", none)) fd ∧ Binds K fd ["table"] [] := by
  obtain ⟨h, X, G, c⟩ := T.ex
  obtain ⟨fd, F⟩ := c.def_ 31 (d := dKnotList) rfl
  exact ⟨fd, F, FunD.bindsN F fun _ _ _ _ _ _ us hl => match us, hl with | [_], _ => rfl⟩
theorem Tp.defBeside (T : Tp K mg) : ∃ fd, FnP K "beside" "beside" sBeside (He.fAd K ("beside", none)) fd ∧ Binds K fd ["table", "knot"] [] := by
  obtain ⟨h, X, G, c⟩ := T.ex
  obtain ⟨fd, F⟩ := c.def_ 32 (d := dBeside) rfl
  exact ⟨fd, F, FunD.bindsN F fun _ _ _ _ _ _ us hl => match us, hl with | [_, _], _ => rfl⟩
theorem Tp.defRowIn (T : Tp K mg) : ∃ fd, FnP K "row_in" "row_in" sRowIn (He.fAd K ("row_in", none)) fd ∧ Binds K fd ["table", "knot"] [] := by
  obtain ⟨h, X, G, c⟩ := T.ex
  obtain ⟨fd, F⟩ := c.def_ 33 (d := dRowIn) rfl
  exact ⟨fd, F, FunD.bindsN F fun _ _ _ _ _ _ us hl => match us, hl with | [_, _], _ => rfl⟩
theorem Tp.defReadsTwo (T : Tp K mg) : ∃ fd, FnP K "reads_two" "reads_two" sReadsTwo (He.fAd K ("reads_two", none)) fd ∧ Binds K fd ["table", "knot"] [] := by
  obtain ⟨h, X, G, c⟩ := T.ex
  obtain ⟨fd, F⟩ := c.def_ 34 (d := dReadsTwo) rfl
  exact ⟨fd, F, FunD.bindsN F fun _ _ _ _ _ _ us hl => match us, hl with | [_, _], _ => rfl⟩
theorem Tp.defIsSound (T : Tp K mg) : ∃ fd, FnP K "is_sound" "is_sound" sIsSound (He.fAd K ("is_sound", none)) fd ∧ Binds K fd ["table", "knot"] [] := by
  obtain ⟨h, X, G, c⟩ := T.ex
  obtain ⟨fd, F⟩ := c.def_ 35 (d := dIsSound) rfl
  exact ⟨fd, F, FunD.bindsN F fun _ _ _ _ _ _ us hl => match us, hl with | [_, _], _ => rfl⟩
theorem Tp.defKnots (T : Tp K mg) : ∃ fd, FnP K "knots" "knots" sKnots (He.fAd K ("knots", none)) fd ∧ Binds K fd ["table"] [] := by
  obtain ⟨h, X, G, c⟩ := T.ex
  obtain ⟨fd, F⟩ := c.def_ 36 (d := dKnots) rfl
  exact ⟨fd, F, FunD.bindsN F fun _ _ _ _ _ _ us hl => match us, hl with | [_], _ => rfl⟩
theorem Tp.defSound (T : Tp K mg) : ∃ fd, FnP K "sound" "sound" sSound (He.fAd K ("sound", none)) fd ∧ Binds K fd ["table"] [] := by
  obtain ⟨h, X, G, c⟩ := T.ex
  obtain ⟨fd, F⟩ := c.def_ 37 (d := dSound) rfl
  exact ⟨fd, F, FunD.bindsN F fun _ _ _ _ _ _ us hl => match us, hl with | [_], _ => rfl⟩
theorem Tp.defNeverSticks (T : Tp K mg) : ∃ fd, FnP K "never_sticks" "never_sticks" sNeverSticks (He.fAd K ("never_sticks", none)) fd ∧ Binds K fd ["table"] [] := by
  obtain ⟨h, X, G, c⟩ := T.ex
  obtain ⟨fd, F⟩ := c.def_ 38 (d := dNeverSticks) rfl
  exact ⟨fd, F, FunD.bindsN F fun _ _ _ _ _ _ us hl => match us, hl with | [_], _ => rfl⟩
theorem Tp.defSticking (T : Tp K mg) : ∃ fd, FnP K "sticking" "sticking" sSticking (He.fAd K ("sticking", none)) fd ∧ Binds K fd ["table"] [] := by
  obtain ⟨h, X, G, c⟩ := T.ex
  obtain ⟨fd, F⟩ := c.def_ 39 (d := dSticking) rfl
  exact ⟨fd, F, FunD.bindsN F fun _ _ _ _ _ _ us hl => match us, hl with | [_], _ => rfl⟩
theorem Tp.defSticks (T : Tp K mg) : ∃ fd, FnP K "sticks" "sticks" sSticks (He.fAd K ("sticks", none)) fd ∧ Binds K fd ["table", "journal"] [] := by
  obtain ⟨h, X, G, c⟩ := T.ex
  obtain ⟨fd, F⟩ := c.def_ 40 (d := dSticks) rfl
  exact ⟨fd, F, FunD.bindsN F fun _ _ _ _ _ _ us hl => match us, hl with | [_, _], _ => rfl⟩
theorem Tp.defIsSticking (T : Tp K mg) : ∃ fd, FnP K "is_sticking" "is_sticking" sIsSticking (He.fAd K ("is_sticking", none)) fd ∧ Binds K fd ["table", "thing"] [] := by
  obtain ⟨h, X, G, c⟩ := T.ex
  obtain ⟨fd, F⟩ := c.def_ 41 (d := dIsSticking) rfl
  exact ⟨fd, F, FunD.bindsN F fun _ _ _ _ _ _ us hl => match us, hl with | [_, _], _ => rfl⟩
theorem Tp.defLawHand (T : Tp K mg) : ∃ fd, FnP K "_law_hand" "_law_hand" sLawHand (He.fAd K ("_law_hand", none)) fd ∧ Binds K fd ["_law_script"] [] := by
  obtain ⟨h, X, G, c⟩ := T.ex
  obtain ⟨fd, F⟩ := c.def_ 42 (d := dLawHand) rfl
  exact ⟨fd, F, FunD.bindsN F fun _ _ _ _ _ _ us hl => match us, hl with | [_], _ => rfl⟩
theorem Tp.defLawDraw (T : Tp K mg) : ∃ fd, FnP K "_law_draw" "_law_draw" sLawDraw (He.fAd K ("_law_draw", none)) fd ∧ Binds K fd ["_law_hand_here", "_law_many"] [] := by
  obtain ⟨h, X, G, c⟩ := T.ex
  obtain ⟨fd, F⟩ := c.def_ 43 (d := dLawDraw) rfl
  exact ⟨fd, F, FunD.bindsN F fun _ _ _ _ _ _ us hl => match us, hl with | [_, _], _ => rfl⟩
theorem Tp.defLawAny (T : Tp K mg) : ∃ fd, FnP K "_law_any" "_law_any" sLawAny (He.fAd K ("_law_any", none)) fd ∧ Binds K fd ["_law_hand_here", "_law_some"] [] := by
  obtain ⟨h, X, G, c⟩ := T.ex
  obtain ⟨fd, F⟩ := c.def_ 44 (d := dLawAny) rfl
  exact ⟨fd, F, FunD.bindsN F fun _ _ _ _ _ _ us hl => match us, hl with | [_, _], _ => rfl⟩
theorem Tp.defLawIsInt (T : Tp K mg) : ∃ fd, FnP K "_law_is_int" "_law_is_int" sLawIsInt (He.fAd K ("_law_is_int", none)) fd ∧ Binds K fd ["_law_thing", "_law_least", "_law_most"] [] := by
  obtain ⟨h, X, G, c⟩ := T.ex
  obtain ⟨fd, F⟩ := c.def_ 45 (d := dLawIsInt) rfl
  exact ⟨fd, F, FunD.bindsN F fun _ _ _ _ _ _ us hl => match us, hl with | [_, _, _], _ => rfl⟩
theorem Tp.defLawHistory (T : Tp K mg) : ∃ fd, FnP K "_law_history" "_law_history" sLawHistory (He.fAd K ("_law_history", none)) fd ∧ Binds K fd ["_law_cells", "_law_kinds", "_law_journal_here"] [] := by
  obtain ⟨h, X, G, c⟩ := T.ex
  obtain ⟨fd, F⟩ := c.def_ 46 (d := dLawHistory) rfl
  exact ⟨fd, F, FunD.bindsN F fun _ _ _ _ _ _ us hl => match us, hl with | [_, _, _], _ => rfl⟩
theorem Tp.defLawClosure (T : Tp K mg) : ∃ fd, FnP K "_law_closure" "_law_closure" sLawClosure (He.fAd K ("_law_closure", none)) fd ∧ Binds K fd ["_law_read", "_law_plates"] [] := by
  obtain ⟨h, X, G, c⟩ := T.ex
  obtain ⟨fd, F⟩ := c.def_ 47 (d := dLawClosure) rfl
  exact ⟨fd, F, FunD.bindsN F fun _ _ _ _ _ _ us hl => match us, hl with | [_, _], _ => rfl⟩
theorem Tp.defLawLost (T : Tp K mg) : ∃ fd, FnP K "_law_lost" "_law_lost" sLawLost (He.fAd K ("_law_lost", none)) fd ∧ Binds K fd ["_law_history_here", "_law_plates"] [] := by
  obtain ⟨h, X, G, c⟩ := T.ex
  obtain ⟨fd, F⟩ := c.def_ 48 (d := dLawLost) rfl
  exact ⟨fd, F, FunD.bindsN F fun _ _ _ _ _ _ us hl => match us, hl with | [_, _], _ => rfl⟩
theorem Tp.defLawWith (T : Tp K mg) : ∃ fd, FnP K "_law_with" "_law_with" sLawWith (He.fAd K ("_law_with", none)) fd ∧ Binds K fd ["_law_history_here", "_law_plates", "_law_cells"] [] := by
  obtain ⟨h, X, G, c⟩ := T.ex
  obtain ⟨fd, F⟩ := c.def_ 49 (d := dLawWith) rfl
  exact ⟨fd, F, FunD.bindsN F fun _ _ _ _ _ _ us hl => match us, hl with | [_, _, _], _ => rfl⟩
theorem Tp.defLawWanted (T : Tp K mg) : ∃ fd, FnP K "_law_wanted" "_law_wanted" sLawWanted (He.fAd K ("_law_wanted", none)) fd ∧ Binds K fd ["_law_history_here", "_law_plates"] [] := by
  obtain ⟨h, X, G, c⟩ := T.ex
  obtain ⟨fd, F⟩ := c.def_ 50 (d := dLawWanted) rfl
  exact ⟨fd, F, FunD.bindsN F fun _ _ _ _ _ _ us hl => match us, hl with | [_, _], _ => rfl⟩
theorem Tp.defLawWays (T : Tp K mg) : ∃ fd, FnP K "_law_ways" "_law_ways" sLawWays (He.fAd K ("_law_ways", none)) fd ∧ Binds K fd ["_law_history_here", "_law_plates"] [] := by
  obtain ⟨h, X, G, c⟩ := T.ex
  obtain ⟨fd, F⟩ := c.def_ 51 (d := dLawWays) rfl
  exact ⟨fd, F, FunD.bindsN F fun _ _ _ _ _ _ us hl => match us, hl with | [_, _], _ => rfl⟩
theorem Tp.defLawManyWays (T : Tp K mg) : ∃ fd, FnP K "_law_many_ways" "_law_many_ways" sLawManyWays (He.fAd K ("_law_many_ways", none)) fd ∧ Binds K fd ["_law_history_here", "_law_plates"] [] := by
  obtain ⟨h, X, G, c⟩ := T.ex
  obtain ⟨fd, F⟩ := c.def_ 52 (d := dLawManyWays) rfl
  exact ⟨fd, F, FunD.bindsN F fun _ _ _ _ _ _ us hl => match us, hl with | [_, _], _ => rfl⟩
theorem Tp.defLawIsLaying (T : Tp K mg) : ∃ fd, FnP K "_law_is_laying" "_law_is_laying" sLawIsLaying (He.fAd K ("_law_is_laying", none)) fd ∧ Binds K fd ["_law_history_here", "_law_plates", "_law_thing"] [] := by
  obtain ⟨h, X, G, c⟩ := T.ex
  obtain ⟨fd, F⟩ := c.def_ 53 (d := dLawIsLaying) rfl
  exact ⟨fd, F, FunD.bindsN F fun _ _ _ _ _ _ us hl => match us, hl with | [_, _, _], _ => rfl⟩
theorem Tp.defLawJournal (T : Tp K mg) : ∃ fd, FnP K "_law_journal" "_law_journal" sLawJournal (He.fAd K ("_law_journal", none)) fd ∧ Binds K fd ["_law_hand_here", "_law_kinds", "_law_most"] [] := by
  obtain ⟨h, X, G, c⟩ := T.ex
  obtain ⟨fd, F⟩ := c.def_ 54 (d := dLawJournal) rfl
  exact ⟨fd, F, FunD.bindsN F fun _ _ _ _ _ _ us hl => match us, hl with | [_, _, _], _ => rfl⟩
theorem Tp.defLawTies (T : Tp K mg) : ∃ fd, FnP K "_law_ties" "_law_ties" sLawTies (He.fAd K ("_law_ties", none)) fd ∧ Binds K fd ["_law_kinds"] [] := by
  obtain ⟨h, X, G, c⟩ := T.ex
  obtain ⟨fd, F⟩ := c.def_ 55 (d := dLawTies) rfl
  exact ⟨fd, F, FunD.bindsN F fun _ _ _ _ _ _ us hl => match us, hl with | [_], _ => rfl⟩
theorem Tp.defLawLed (T : Tp K mg) : ∃ fd, FnP K "_law_led" "_law_led" sLawLed (He.fAd K ("_law_led", none)) fd ∧ Binds K fd ["_law_web", "_law_cell"] [] := by
  obtain ⟨h, X, G, c⟩ := T.ex
  obtain ⟨fd, F⟩ := c.def_ 56 (d := dLawLed) rfl
  exact ⟨fd, F, FunD.bindsN F fun _ _ _ _ _ _ us hl => match us, hl with | [_, _], _ => rfl⟩
theorem Tp.defLawKnots (T : Tp K mg) : ∃ fd, FnP K "_law_knots" "_law_knots" sLawKnots (He.fAd K ("_law_knots", none)) fd ∧ Binds K fd ["_law_kinds"] [] := by
  obtain ⟨h, X, G, c⟩ := T.ex
  obtain ⟨fd, F⟩ := c.def_ 57 (d := dLawKnots) rfl
  exact ⟨fd, F, FunD.bindsN F fun _ _ _ _ _ _ us hl => match us, hl with | [_], _ => rfl⟩
theorem Tp.defLawRows (T : Tp K mg) : ∃ fd, FnP K "_law_rows" "_law_rows" sLawRows (He.fAd K ("_law_rows", none)) fd ∧ Binds K fd ["_law_web", "_law_knot"] [] := by
  obtain ⟨h, X, G, c⟩ := T.ex
  obtain ⟨fd, F⟩ := c.def_ 58 (d := dLawRows) rfl
  exact ⟨fd, F, FunD.bindsN F fun _ _ _ _ _ _ us hl => match us, hl with | [_, _], _ => rfl⟩
theorem Tp.defLawIsSound (T : Tp K mg) : ∃ fd, FnP K "_law_is_sound" "_law_is_sound" sLawIsSound (He.fAd K ("_law_is_sound", none)) fd ∧ Binds K fd ["_law_kinds", "_law_knot"] [] := by
  obtain ⟨h, X, G, c⟩ := T.ex
  obtain ⟨fd, F⟩ := c.def_ 59 (d := dLawIsSound) rfl
  exact ⟨fd, F, FunD.bindsN F fun _ _ _ _ _ _ us hl => match us, hl with | [_, _], _ => rfl⟩
theorem Tp.defLawFresh (T : Tp K mg) : ∃ fd, FnP K "_law_fresh" "_law_fresh" sLawFresh (He.fAd K ("_law_fresh", none)) fd ∧ Binds K fd ["_law_cells"] [] := by
  obtain ⟨h, X, G, c⟩ := T.ex
  obtain ⟨fd, F⟩ := c.def_ 60 (d := dLawFresh) rfl
  exact ⟨fd, F, FunD.bindsN F fun _ _ _ _ _ _ us hl => match us, hl with | [_], _ => rfl⟩
theorem Tp.defLawSoundTable (T : Tp K mg) : ∃ fd, FnP K "_law_sound_table" "_law_sound_table" sLawSoundTable (He.fAd K ("_law_sound_table", none)) fd ∧ Binds K fd ["_law_hand_here"] [] := by
  obtain ⟨h, X, G, c⟩ := T.ex
  obtain ⟨fd, F⟩ := c.def_ 61 (d := dLawSoundTable) rfl
  exact ⟨fd, F, FunD.bindsN F fun _ _ _ _ _ _ us hl => match us, hl with | [_], _ => rfl⟩
theorem Tp.defLaw (T : Tp K mg) : ∃ fd, FnP K "law" "law" sLaw (He.fAd K ("law", none)) fd ∧ Binds K fd ["_law_script"] [] := by
  obtain ⟨h, X, G, c⟩ := T.ex
  obtain ⟨fd, F⟩ := c.def_ 62 (d := dLaw) rfl
  exact ⟨fd, F, FunD.bindsN F fun _ _ _ _ _ _ us hl => match us, hl with | [_], _ => rfl⟩
theorem Tp.gIsInteger (T : Tp K mg) : mg "is_integer" = some (.ref (He.ga K "is_integer")) := by
  obtain ⟨h, X, G, c⟩ := T.ex
  exact He.glo_ok X G (c.fact 0 (f := .glo "is_integer") rfl)
theorem Tp.gIsWithin (T : Tp K mg) : mg "is_within" = some (.ref (He.ga K "is_within")) := by
  obtain ⟨h, X, G, c⟩ := T.ex
  exact He.glo_ok X G (c.fact 1 (f := .glo "is_within") rfl)
theorem Tp.gIsPair (T : Tp K mg) : mg "is_pair" = some (.ref (He.ga K "is_pair")) := by
  obtain ⟨h, X, G, c⟩ := T.ex
  exact He.glo_ok X G (c.fact 2 (f := .glo "is_pair") rfl)
theorem Tp.gIsLot (T : Tp K mg) : mg "is_lot" = some (.ref (He.ga K "is_lot")) := by
  obtain ⟨h, X, G, c⟩ := T.ex
  exact He.glo_ok X G (c.fact 3 (f := .glo "is_lot") rfl)
theorem Tp.gIsKind (T : Tp K mg) : mg "is_kind" = some (.ref (He.ga K "is_kind")) := by
  obtain ⟨h, X, G, c⟩ := T.ex
  exact He.glo_ok X G (c.fact 4 (f := .glo "is_kind") rfl)
theorem Tp.gIsJournal (T : Tp K mg) : mg "is_journal" = some (.ref (He.ga K "is_journal")) := by
  obtain ⟨h, X, G, c⟩ := T.ex
  exact He.glo_ok X G (c.fact 5 (f := .glo "is_journal") rfl)
theorem Tp.gCheckJournal (T : Tp K mg) : mg "check_journal" = some (.ref (He.ga K "check_journal")) := by
  obtain ⟨h, X, G, c⟩ := T.ex
  exact He.glo_ok X G (c.fact 6 (f := .glo "check_journal") rfl)
theorem Tp.gBeginOf (T : Tp K mg) : mg "begin_of" = some (.ref (He.ga K "begin_of")) := by
  obtain ⟨h, X, G, c⟩ := T.ex
  exact He.glo_ok X G (c.fact 7 (f := .glo "begin_of") rfl)
theorem Tp.gAllFresh (T : Tp K mg) : mg "all_fresh" = some (.ref (He.ga K "all_fresh")) := by
  obtain ⟨h, X, G, c⟩ := T.ex
  exact He.glo_ok X G (c.fact 8 (f := .glo "all_fresh") rfl)
theorem Tp.gIsVersionOf (T : Tp K mg) : mg "is_version_of" = some (.ref (He.ga K "is_version_of")) := by
  obtain ⟨h, X, G, c⟩ := T.ex
  exact He.glo_ok X G (c.fact 9 (f := .glo "is_version_of") rfl)
theorem Tp.gArePlates (T : Tp K mg) : mg "are_plates" = some (.ref (He.ga K "are_plates")) := by
  obtain ⟨h, X, G, c⟩ := T.ex
  exact He.glo_ok X G (c.fact 10 (f := .glo "are_plates") rfl)
theorem Tp.gCheckPlates (T : Tp K mg) : mg "check_plates" = some (.ref (He.ga K "check_plates")) := by
  obtain ⟨h, X, G, c⟩ := T.ex
  exact He.glo_ok X G (c.fact 11 (f := .glo "check_plates") rfl)
theorem Tp.gClosure (T : Tp K mg) : mg "closure" = some (.ref (He.ga K "closure")) := by
  obtain ⟨h, X, G, c⟩ := T.ex
  exact He.glo_ok X G (c.fact 12 (f := .glo "closure") rfl)
theorem Tp.gIsAllThere (T : Tp K mg) : mg "is_all_there" = some (.ref (He.ga K "is_all_there")) := by
  obtain ⟨h, X, G, c⟩ := T.ex
  exact He.glo_ok X G (c.fact 13 (f := .glo "is_all_there") rfl)
theorem Tp.gCheckSafe (T : Tp K mg) : mg "check_safe" = some (.ref (He.ga K "check_safe")) := by
  obtain ⟨h, X, G, c⟩ := T.ex
  exact He.glo_ok X G (c.fact 14 (f := .glo "check_safe") rfl)
theorem Tp.gLaid (T : Tp K mg) : mg "laid" = some (.ref (He.ga K "laid")) := by
  obtain ⟨h, X, G, c⟩ := T.ex
  exact He.glo_ok X G (c.fact 15 (f := .glo "laid") rfl)
theorem Tp.gAllLaid (T : Tp K mg) : mg "all_laid" = some (.ref (He.ga K "all_laid")) := by
  obtain ⟨h, X, G, c⟩ := T.ex
  exact He.glo_ok X G (c.fact 16 (f := .glo "all_laid") rfl)
theorem Tp.gLeftOf (T : Tp K mg) : mg "left_of" = some (.ref (He.ga K "left_of")) := by
  obtain ⟨h, X, G, c⟩ := T.ex
  exact He.glo_ok X G (c.fact 17 (f := .glo "left_of") rfl)
theorem Tp.gWithCell (T : Tp K mg) : mg "with_cell" = some (.ref (He.ga K "with_cell")) := by
  obtain ⟨h, X, G, c⟩ := T.ex
  exact He.glo_ok X G (c.fact 18 (f := .glo "with_cell") rfl)
theorem Tp.gOrderFrom (T : Tp K mg) : mg "order_from" = some (.ref (He.ga K "order_from")) := by
  obtain ⟨h, X, G, c⟩ := T.ex
  exact He.glo_ok X G (c.fact 19 (f := .glo "order_from") rfl)
theorem Tp.gLayOut (T : Tp K mg) : mg "lay_out" = some (.ref (He.ga K "lay_out")) := by
  obtain ⟨h, X, G, c⟩ := T.ex
  exact He.glo_ok X G (c.fact 20 (f := .glo "lay_out") rfl)
theorem Tp.gChanging (T : Tp K mg) : mg "changing" = some (.ref (He.ga K "changing")) := by
  obtain ⟨h, X, G, c⟩ := T.ex
  exact He.glo_ok X G (c.fact 21 (f := .glo "changing") rfl)
theorem Tp.gTies (T : Tp K mg) : mg "ties" = some (.ref (He.ga K "ties")) := by
  obtain ⟨h, X, G, c⟩ := T.ex
  exact He.glo_ok X G (c.fact 22 (f := .glo "ties") rfl)
theorem Tp.gLedFrom (T : Tp K mg) : mg "led_from" = some (.ref (He.ga K "led_from")) := by
  obtain ⟨h, X, G, c⟩ := T.ex
  exact He.glo_ok X G (c.fact 23 (f := .glo "led_from") rfl)
theorem Tp.gKnotList (T : Tp K mg) : mg "knot_list" = some (.ref (He.ga K "knot_list")) := by
  obtain ⟨h, X, G, c⟩ := T.ex
  exact He.glo_ok X G (c.fact 24 (f := .glo "knot_list") rfl)
theorem Tp.gBeside (T : Tp K mg) : mg "beside" = some (.ref (He.ga K "beside")) := by
  obtain ⟨h, X, G, c⟩ := T.ex
  exact He.glo_ok X G (c.fact 25 (f := .glo "beside") rfl)
theorem Tp.gRowIn (T : Tp K mg) : mg "row_in" = some (.ref (He.ga K "row_in")) := by
  obtain ⟨h, X, G, c⟩ := T.ex
  exact He.glo_ok X G (c.fact 26 (f := .glo "row_in") rfl)
theorem Tp.gReadsTwo (T : Tp K mg) : mg "reads_two" = some (.ref (He.ga K "reads_two")) := by
  obtain ⟨h, X, G, c⟩ := T.ex
  exact He.glo_ok X G (c.fact 27 (f := .glo "reads_two") rfl)
theorem Tp.gIsSound (T : Tp K mg) : mg "is_sound" = some (.ref (He.ga K "is_sound")) := by
  obtain ⟨h, X, G, c⟩ := T.ex
  exact He.glo_ok X G (c.fact 28 (f := .glo "is_sound") rfl)
theorem Tp.gKnots (T : Tp K mg) : mg "knots" = some (.ref (He.ga K "knots")) := by
  obtain ⟨h, X, G, c⟩ := T.ex
  exact He.glo_ok X G (c.fact 29 (f := .glo "knots") rfl)
theorem Tp.gSound (T : Tp K mg) : mg "sound" = some (.ref (He.ga K "sound")) := by
  obtain ⟨h, X, G, c⟩ := T.ex
  exact He.glo_ok X G (c.fact 30 (f := .glo "sound") rfl)
theorem Tp.gNeverSticks (T : Tp K mg) : mg "never_sticks" = some (.ref (He.ga K "never_sticks")) := by
  obtain ⟨h, X, G, c⟩ := T.ex
  exact He.glo_ok X G (c.fact 31 (f := .glo "never_sticks") rfl)
theorem Tp.gSticking (T : Tp K mg) : mg "sticking" = some (.ref (He.ga K "sticking")) := by
  obtain ⟨h, X, G, c⟩ := T.ex
  exact He.glo_ok X G (c.fact 32 (f := .glo "sticking") rfl)
theorem Tp.gSticks (T : Tp K mg) : mg "sticks" = some (.ref (He.ga K "sticks")) := by
  obtain ⟨h, X, G, c⟩ := T.ex
  exact He.glo_ok X G (c.fact 33 (f := .glo "sticks") rfl)
theorem Tp.gIsSticking (T : Tp K mg) : mg "is_sticking" = some (.ref (He.ga K "is_sticking")) := by
  obtain ⟨h, X, G, c⟩ := T.ex
  exact He.glo_ok X G (c.fact 34 (f := .glo "is_sticking") rfl)
theorem Tp.gLawHand (T : Tp K mg) : mg "_law_hand" = some (.ref (He.ga K "_law_hand")) := by
  obtain ⟨h, X, G, c⟩ := T.ex
  exact He.glo_ok X G (c.fact 35 (f := .glo "_law_hand") rfl)
theorem Tp.gLawDraw (T : Tp K mg) : mg "_law_draw" = some (.ref (He.ga K "_law_draw")) := by
  obtain ⟨h, X, G, c⟩ := T.ex
  exact He.glo_ok X G (c.fact 36 (f := .glo "_law_draw") rfl)
theorem Tp.gLawAny (T : Tp K mg) : mg "_law_any" = some (.ref (He.ga K "_law_any")) := by
  obtain ⟨h, X, G, c⟩ := T.ex
  exact He.glo_ok X G (c.fact 37 (f := .glo "_law_any") rfl)
theorem Tp.gLawIsInt (T : Tp K mg) : mg "_law_is_int" = some (.ref (He.ga K "_law_is_int")) := by
  obtain ⟨h, X, G, c⟩ := T.ex
  exact He.glo_ok X G (c.fact 38 (f := .glo "_law_is_int") rfl)
theorem Tp.gLawHistory (T : Tp K mg) : mg "_law_history" = some (.ref (He.ga K "_law_history")) := by
  obtain ⟨h, X, G, c⟩ := T.ex
  exact He.glo_ok X G (c.fact 39 (f := .glo "_law_history") rfl)
theorem Tp.gLawClosure (T : Tp K mg) : mg "_law_closure" = some (.ref (He.ga K "_law_closure")) := by
  obtain ⟨h, X, G, c⟩ := T.ex
  exact He.glo_ok X G (c.fact 40 (f := .glo "_law_closure") rfl)
theorem Tp.gLawLost (T : Tp K mg) : mg "_law_lost" = some (.ref (He.ga K "_law_lost")) := by
  obtain ⟨h, X, G, c⟩ := T.ex
  exact He.glo_ok X G (c.fact 41 (f := .glo "_law_lost") rfl)
theorem Tp.gLawWith (T : Tp K mg) : mg "_law_with" = some (.ref (He.ga K "_law_with")) := by
  obtain ⟨h, X, G, c⟩ := T.ex
  exact He.glo_ok X G (c.fact 42 (f := .glo "_law_with") rfl)
theorem Tp.gLawWanted (T : Tp K mg) : mg "_law_wanted" = some (.ref (He.ga K "_law_wanted")) := by
  obtain ⟨h, X, G, c⟩ := T.ex
  exact He.glo_ok X G (c.fact 43 (f := .glo "_law_wanted") rfl)
theorem Tp.gLawWays (T : Tp K mg) : mg "_law_ways" = some (.ref (He.ga K "_law_ways")) := by
  obtain ⟨h, X, G, c⟩ := T.ex
  exact He.glo_ok X G (c.fact 44 (f := .glo "_law_ways") rfl)
theorem Tp.gLawManyWays (T : Tp K mg) : mg "_law_many_ways" = some (.ref (He.ga K "_law_many_ways")) := by
  obtain ⟨h, X, G, c⟩ := T.ex
  exact He.glo_ok X G (c.fact 45 (f := .glo "_law_many_ways") rfl)
theorem Tp.gLawIsLaying (T : Tp K mg) : mg "_law_is_laying" = some (.ref (He.ga K "_law_is_laying")) := by
  obtain ⟨h, X, G, c⟩ := T.ex
  exact He.glo_ok X G (c.fact 46 (f := .glo "_law_is_laying") rfl)
theorem Tp.gLawJournal (T : Tp K mg) : mg "_law_journal" = some (.ref (He.ga K "_law_journal")) := by
  obtain ⟨h, X, G, c⟩ := T.ex
  exact He.glo_ok X G (c.fact 47 (f := .glo "_law_journal") rfl)
theorem Tp.gLawTies (T : Tp K mg) : mg "_law_ties" = some (.ref (He.ga K "_law_ties")) := by
  obtain ⟨h, X, G, c⟩ := T.ex
  exact He.glo_ok X G (c.fact 48 (f := .glo "_law_ties") rfl)
theorem Tp.gLawLed (T : Tp K mg) : mg "_law_led" = some (.ref (He.ga K "_law_led")) := by
  obtain ⟨h, X, G, c⟩ := T.ex
  exact He.glo_ok X G (c.fact 49 (f := .glo "_law_led") rfl)
theorem Tp.gLawKnots (T : Tp K mg) : mg "_law_knots" = some (.ref (He.ga K "_law_knots")) := by
  obtain ⟨h, X, G, c⟩ := T.ex
  exact He.glo_ok X G (c.fact 50 (f := .glo "_law_knots") rfl)
theorem Tp.gLawRows (T : Tp K mg) : mg "_law_rows" = some (.ref (He.ga K "_law_rows")) := by
  obtain ⟨h, X, G, c⟩ := T.ex
  exact He.glo_ok X G (c.fact 51 (f := .glo "_law_rows") rfl)
theorem Tp.gLawIsSound (T : Tp K mg) : mg "_law_is_sound" = some (.ref (He.ga K "_law_is_sound")) := by
  obtain ⟨h, X, G, c⟩ := T.ex
  exact He.glo_ok X G (c.fact 52 (f := .glo "_law_is_sound") rfl)
theorem Tp.gLawFresh (T : Tp K mg) : mg "_law_fresh" = some (.ref (He.ga K "_law_fresh")) := by
  obtain ⟨h, X, G, c⟩ := T.ex
  exact He.glo_ok X G (c.fact 53 (f := .glo "_law_fresh") rfl)
theorem Tp.gLawSoundTable (T : Tp K mg) : mg "_law_sound_table" = some (.ref (He.ga K "_law_sound_table")) := by
  obtain ⟨h, X, G, c⟩ := T.ex
  exact He.glo_ok X G (c.fact 54 (f := .glo "_law_sound_table") rfl)
theorem Tp.gLaw (T : Tp K mg) : mg "law" = some (.ref (He.ga K "law")) := by
  obtain ⟨h, X, G, c⟩ := T.ex
  exact He.glo_ok X G (c.fact 55 (f := .glo "law") rfl)
theorem Tp.gTable (T : Tp K mg) : mg "Table" = some (.ref (He.ga K "Table")) := by
  obtain ⟨h, X, G, c⟩ := T.ex
  exact He.glo_ok X G (c.fact 56 (f := .glo "Table") rfl)
theorem Tp.gHistory (T : Tp K mg) : mg "History" = some (.ref (He.ga K "History")) := by
  obtain ⟨h, X, G, c⟩ := T.ex
  exact He.glo_ok X G (c.fact 57 (f := .glo "History") rfl)
theorem Tp.gLayings (T : Tp K mg) : mg "Layings" = some (.ref (He.ga K "Layings")) := by
  obtain ⟨h, X, G, c⟩ := T.ex
  exact He.glo_ok X G (c.fact 58 (f := .glo "Layings") rfl)
theorem Tp.fIsinstance (T : Tp K mg) : mg "isinstance" = none := by
  obtain ⟨h, X, G, c⟩ := T.ex
  exact He.free_ok X G (c.fact 59 (f := .free "isinstance") rfl)
theorem Tp.fInt (T : Tp K mg) : mg "int" = none := by
  obtain ⟨h, X, G, c⟩ := T.ex
  exact He.free_ok X G (c.fact 60 (f := .free "int") rfl)
theorem Tp.fBool (T : Tp K mg) : mg "bool" = none := by
  obtain ⟨h, X, G, c⟩ := T.ex
  exact He.free_ok X G (c.fact 61 (f := .free "bool") rfl)
theorem Tp.fTuple (T : Tp K mg) : mg "tuple" = none := by
  obtain ⟨h, X, G, c⟩ := T.ex
  exact He.free_ok X G (c.fact 62 (f := .free "tuple") rfl)
theorem Tp.fLen (T : Tp K mg) : mg "len" = none := by
  obtain ⟨h, X, G, c⟩ := T.ex
  exact He.free_ok X G (c.fact 63 (f := .free "len") rfl)
theorem Tp.fAll (T : Tp K mg) : mg "all" = none := by
  obtain ⟨h, X, G, c⟩ := T.ex
  exact He.free_ok X G (c.fact 64 (f := .free "all") rfl)
theorem Tp.fAny (T : Tp K mg) : mg "any" = none := by
  obtain ⟨h, X, G, c⟩ := T.ex
  exact He.free_ok X G (c.fact 65 (f := .free "any") rfl)
theorem Tp.fEnumerate (T : Tp K mg) : mg "enumerate" = none := by
  obtain ⟨h, X, G, c⟩ := T.ex
  exact He.free_ok X G (c.fact 66 (f := .free "enumerate") rfl)
theorem Tp.fRange (T : Tp K mg) : mg "range" = none := by
  obtain ⟨h, X, G, c⟩ := T.ex
  exact He.free_ok X G (c.fact 67 (f := .free "range") rfl)
theorem Tp.fList (T : Tp K mg) : mg "list" = none := by
  obtain ⟨h, X, G, c⟩ := T.ex
  exact He.free_ok X G (c.fact 68 (f := .free "list") rfl)
theorem Tp.fSorted (T : Tp K mg) : mg "sorted" = none := by
  obtain ⟨h, X, G, c⟩ := T.ex
  exact He.free_ok X G (c.fact 69 (f := .free "sorted") rfl)
theorem Tp.fSet (T : Tp K mg) : mg "set" = none := by
  obtain ⟨h, X, G, c⟩ := T.ex
  exact He.free_ok X G (c.fact 70 (f := .free "set") rfl)
theorem Tp.fDict (T : Tp K mg) : mg "dict" = none := by
  obtain ⟨h, X, G, c⟩ := T.ex
  exact He.free_ok X G (c.fact 71 (f := .free "dict") rfl)
theorem Tp.fSum (T : Tp K mg) : mg "sum" = none := by
  obtain ⟨h, X, G, c⟩ := T.ex
  exact He.free_ok X G (c.fact 72 (f := .free "sum") rfl)
theorem Tp.fAbs (T : Tp K mg) : mg "abs" = none := by
  obtain ⟨h, X, G, c⟩ := T.ex
  exact He.free_ok X G (c.fact 73 (f := .free "abs") rfl)
theorem Tp.fMin (T : Tp K mg) : mg "min" = none := by
  obtain ⟨h, X, G, c⟩ := T.ex
  exact He.free_ok X G (c.fact 74 (f := .free "min") rfl)
theorem Tp.iMOSTCELLS (T : Tp K mg) : ∃ t, mg "MOST_CELLS" = some (.int 8 t) := by
  obtain ⟨h, X, G, c⟩ := T.ex
  exact He.int_ok X G (c.fact 75 (f := .int "MOST_CELLS" 8) rfl)
theorem Tp.iMOSTKINDS (T : Tp K mg) : ∃ t, mg "MOST_KINDS" = some (.int 40 t) := by
  obtain ⟨h, X, G, c⟩ := T.ex
  exact He.int_ok X G (c.fact 76 (f := .int "MOST_KINDS" 40) rfl)
theorem Tp.iMOSTREADS (T : Tp K mg) : ∃ t, mg "MOST_READS" = some (.int 3 t) := by
  obtain ⟨h, X, G, c⟩ := T.ex
  exact He.int_ok X G (c.fact 77 (f := .int "MOST_READS" 3) rfl)
theorem Tp.iMOSTDEEDS (T : Tp K mg) : ∃ t, mg "MOST_DEEDS" = some (.int 400 t) := by
  obtain ⟨h, X, G, c⟩ := T.ex
  exact He.int_ok X G (c.fact 78 (f := .int "MOST_DEEDS" 400) rfl)
theorem Tp.cTable (T : Tp K mg) : Cls K (He.ga K "Table") := by
  obtain ⟨h, X, G, c⟩ := T.ex
  exact He.cls_ok (c.fact 79 (f := .cls "Table") rfl)
theorem Tp.kTable (T : Tp K mg) : Mk K (He.ga K "Table") (He.ma K (He.ga K "Table") "__init__") := by
  obtain ⟨h, X, G, c⟩ := T.ex
  exact He.mkr_ok (c.fact 80 (f := .mkr "Table") rfl)
theorem Tp.nTableCells (T : Tp K mg) : NoAttr K (He.ga K "Table") "cells" := by
  obtain ⟨h, X, G, c⟩ := T.ex
  exact He.noat_ok (c.fact 81 (f := .noat "Table" "cells") rfl)
theorem Tp.nTableKinds (T : Tp K mg) : NoAttr K (He.ga K "Table") "kinds" := by
  obtain ⟨h, X, G, c⟩ := T.ex
  exact He.noat_ok (c.fact 82 (f := .noat "Table" "kinds") rfl)
theorem Tp.cHistory (T : Tp K mg) : Cls K (He.ga K "History") := by
  obtain ⟨h, X, G, c⟩ := T.ex
  exact He.cls_ok (c.fact 83 (f := .cls "History") rfl)
theorem Tp.kHistory (T : Tp K mg) : Mk K (He.ga K "History") (He.ma K (He.ga K "History") "__init__") := by
  obtain ⟨h, X, G, c⟩ := T.ex
  exact He.mkr_ok (c.fact 84 (f := .mkr "History") rfl)
theorem Tp.nHistoryCellsWritten (T : Tp K mg) : NoAttr K (He.ga K "History") "cells_written" := by
  obtain ⟨h, X, G, c⟩ := T.ex
  exact He.noat_ok (c.fact 85 (f := .noat "History" "cells_written") rfl)
theorem Tp.nHistoryRead (T : Tp K mg) : NoAttr K (He.ga K "History") "read" := by
  obtain ⟨h, X, G, c⟩ := T.ex
  exact He.noat_ok (c.fact 86 (f := .noat "History" "read") rfl)
theorem Tp.nHistoryLast (T : Tp K mg) : NoAttr K (He.ga K "History") "last" := by
  obtain ⟨h, X, G, c⟩ := T.ex
  exact He.noat_ok (c.fact 87 (f := .noat "History" "last") rfl)
theorem Tp.cLayings (T : Tp K mg) : Cls K (He.ga K "Layings") := by
  obtain ⟨h, X, G, c⟩ := T.ex
  exact He.cls_ok (c.fact 88 (f := .cls "Layings") rfl)
theorem Tp.kLayings (T : Tp K mg) : Mk K (He.ga K "Layings") (He.ma K (He.ga K "Layings") "__init__") := by
  obtain ⟨h, X, G, c⟩ := T.ex
  exact He.mkr_ok (c.fact 89 (f := .mkr "Layings") rfl)
theorem Tp.nLayingsHistory (T : Tp K mg) : NoAttr K (He.ga K "Layings") "history" := by
  obtain ⟨h, X, G, c⟩ := T.ex
  exact He.noat_ok (c.fact 90 (f := .noat "Layings" "history") rfl)
theorem Tp.nLayingsPlates (T : Tp K mg) : NoAttr K (He.ga K "Layings") "plates" := by
  obtain ⟨h, X, G, c⟩ := T.ex
  exact He.noat_ok (c.fact 91 (f := .noat "Layings" "plates") rfl)
theorem Tp.nLayingsWanted (T : Tp K mg) : NoAttr K (He.ga K "Layings") "wanted" := by
  obtain ⟨h, X, G, c⟩ := T.ex
  exact He.noat_ok (c.fact 92 (f := .noat "Layings" "wanted") rfl)
theorem Tp.nLayingsKnown (T : Tp K mg) : NoAttr K (He.ga K "Layings") "known" := by
  obtain ⟨h, X, G, c⟩ := T.ex
  exact He.noat_ok (c.fact 93 (f := .noat "Layings" "known") rfl)
theorem Tp.mLayingsIsSafeWith (T : Tp K mg) : Meth K (He.ga K "Layings") "is_safe_with" (He.ma K (He.ga K "Layings") "is_safe_with") := by
  obtain ⟨h, X, G, c⟩ := T.ex
  exact He.meth_ok (c.fact 94 (f := .meth "Layings" "is_safe_with") rfl)
theorem Tp.mLayingsStepsFrom (T : Tp K mg) : Meth K (He.ga K "Layings") "steps_from" (He.ma K (He.ga K "Layings") "steps_from") := by
  obtain ⟨h, X, G, c⟩ := T.ex
  exact He.meth_ok (c.fact 95 (f := .meth "Layings" "steps_from") rfl)
theorem Tp.mLayingsCount (T : Tp K mg) : Meth K (He.ga K "Layings") "count" (He.ma K (He.ga K "Layings") "count") := by
  obtain ⟨h, X, G, c⟩ := T.ex
  exact He.meth_ok (c.fact 96 (f := .meth "Layings" "count") rfl)
theorem Tp.mLayingsOrder (T : Tp K mg) : Meth K (He.ga K "Layings") "order" (He.ma K (He.ga K "Layings") "order") := by
  obtain ⟨h, X, G, c⟩ := T.ex
  exact He.meth_ok (c.fact 97 (f := .meth "Layings" "order") rfl)
end
end Lp
/-! LpHead -/
namespace Lp
open PySem PySem.Spec PyProof.Rows L2
def loose_0 : List Str := ["PlateError", "BadTable", "NoJournal", "NoPlates", "NotSafe", "is_integer", "is_within", "is_pair", "is_lot", "MOST_CELLS", "MOST_KINDS", "MOST_READS", "MOST_DEEDS", "is_kind", "Table", "is_journal", "check_journal", "begin_of", "all_fresh", "History", "is_version_of", "are_plates", "check_plates", "closure", "is_all_there", "check_safe", "laid", "all_laid", "left_of", "Layings"]
def loose_1 : List Str := ["with_cell", "order_from", "lay_out", "changing", "ties", "led_from", "knot_list", "beside", "row_in", "reads_two", "is_sound", "knots", "sound", "least_kind", "writing_kind", "moves_from", "way_between", "web_in", "copied", "along", "led_back", "led_over", "put_together", "written_anew", "journal_for", "never_sticks", "sticking", "sticks", "is_sticking", "_law_hand"]
def loose_2 : List Str := ["_law_draw", "_law_any", "_law_is_int", "_law_history", "_law_closure", "_law_lost", "_law_with", "_law_wanted", "_law_ways", "_law_many_ways", "_law_is_laying", "_law_journal", "_law_ties", "_law_led", "_law_knots", "_law_rows", "_law_is_sound", "_law_fresh", "_law_sound_table", "__name__"]
def loose : List Str := loose_0 ++ loose_1 ++ loose_2
abbrev R : PySem.W.OpenRow := PySem.W.OpenLaw.row PySem.Challenge.rw_laidplates_k10_whole_sound_tables_never
abbrev hk : PySem.W.Hook := He.hookD 4 fa fn
def ob (s : PySem.W.SharedT) : He.AlD := He.obsDG 4 fa fn (HandSHeadRun.getT s)
theorem ob_eq (s : PySem.W.SharedT) : ob s = hk.obs s.abs := He.obsDG_eq (HandSHeadRun.getT_eq s)
theorem run (w : World) : HandSHeadRun.RunEq R (PySem.W.view R.prog [87]) hk ob 20000 loose w := by
  intro os
  kernel_rfl
end Lp
/-! LpSet -/
/-! Sets of tuples of whole numbers and of such tuples, however long the list is that they are made of (fewer than 64 unlike ones). -/
namespace Lq
open PySem PySem.Spec PyProof.Rows L2
abbrev NK := NestedKey
mutual
def nums : NK → Bool
  | .num _ => true
  | .tup ks => numsA ks
  | _ => false
def numsA : List NK → Bool
  | [] => true
  | k :: ks => nums k && numsA ks
end
section
variable {P : Program} {w : World} {A : Around} {E : Value → Shared → Prop} {s : Shared}
/-- the tuple at b is the key k, of numbers alone -/
structure IsN (h : Heap) (k : NK) (b : Addr) : Prop where
  nest : NestedIs h k (.ref b)
  deep : k.depth ≤ 8
  num : nums k = true
theorem IsN.inj {h : Heap} {k k' : NK} {b : Addr} (x : IsN h k b) (y : IsN h k' b) : k = k' := NestedIs.inj _ _ _ x.nest y.nest
theorem IsN.stay {h h' : Heap} {k : NK} {b : Addr} (x : IsN h k b) (keep : ∀ c o vs n, h.get? c = some o → o.data = .seq vs n → h'.get? c = some o) : IsN h' k b := ⟨NestedIs.at keep k _ x.nest, x.deep, x.num⟩
theorem IsN.stayAll {h h' : Heap} {k : NK} {b : Addr} (x : IsN h k b) (keep : ∀ c o, h.get? c = some o → h'.get? c = some o) : IsN h' k b := x.stay fun c o _ _ e _ => keep c o e
/-- where the set at a alone has changed -/
theorem IsN.stayBut {h h' : Heap} {k : NK} {a b : Addr} {o : Obj} {es : Array (Int × Value)} {ep : Nat} {t : SetTable} (x : IsN h k b) (ho : h.get? a = some o) (hd : o.data = .set es ep t) (hs : Heap.SameBut a h h') : IsN h' k b :=
  x.stay fun c u vs n e ed => (hs.2 c fun z => by
    rw [z, ho] at e
    rw [← Option.some.inj e, hd] at ed
    cases ed).trans e
theorem IsN.eq {k k' : NK} {b c : Addr} {Q : Bool → Shared → Prop} (x : IsN s.heap k b) (y : IsN s.heap k' c) (hu : A.units + 8 < cLine) (q : Q (decide (k = k')) s) : wpAny (model P w) A (eqBool (.ref b) (.ref c)) Q E s :=
  (nestedKind P w).eqBool hu ⟨x.nest, x.deep⟩ ⟨y.nest, y.deep⟩ q
theorem IsN.hash {k : NK} {b : Addr} {Q : Int → Shared → Prop} (x : IsN s.heap k b) (hu : A.units + 8 < cLine) (q : Q (k.hash w) { s with toks := s.toks + k.draws }) : wpAny (model P w) A (pyHash (.ref b)) Q E s :=
  (nestedKind P w).pyHash hu ⟨x.nest, x.deep⟩ q
theorem IsN.quiet {k : NK} {b : Addr} {Q : Bool → Shared → Prop} (x : IsN s.heap k b) (q : Q true s) : wpAny (model P w) A (eqIsQuiet 8 (.ref b)) Q E s := (nestedKind P w).quiet ⟨x.nest, x.deep⟩ q

mutual
theorem cls_of : ∀ (k : NK) (v : Value) (n : Nat) (s : Shared) (E : Value → Shared → Prop) (Q : Bool → Shared → Prop), NestedIs s.heap k v → k.depth ≤ n → Q false s → wpAny (model P w) A (ofAClassStatement n v) Q E s
  | .none, _, n, s, E, Q, x, _, q => by cases x; cases n <;> exact wpAny_pure q
  | .num i, _, n, s, E, Q, x, _, q => by cases x <;> cases n <;> exact wpAny_pure q
  | .text y, _, n, s, E, Q, x, _, q => by cases x; cases n <;> exact wpAny_pure q
  | .tup ks, _, n, s, E, Q, x, hn, q => by
    cases x with
    | @tup b o vs m ks hg hc hd hk =>
      simp only [NestedKey.depth] at hn
      cases n with
      | zero => omega
      | succ n =>
        have isT : s.TypeIs (.ref b) "tuple" := ⟨o, hg, hc⟩
        unfold ofAClassStatement
        refine wpAny_bind (wpAny_typeOf isT ?_)
        dsimp only
        have tt : (("tuple" : String) == "tuple") = true := by decide
        simp only [tt, if_true, Bool.not_true, Bool.false_eq_true, if_false]
        try refine wpAny_bind (wpAny_pure ?_)
        try simp only [Bool.not_true, Bool.false_eq_true, if_false]
        show wpAny _ _ (seqItems? (.ref b) >>= _) _ _ s
        refine wpAny_bind (wpAny_seqItems hg hd ?_)
        dsimp only
        refine wpAny_bind ?_
        show wpAny _ _ (forIn vs _ _) _ _ s
        rw [← Array.forIn_toList]
        refine wpAny_forIn_list _ (fun left r s' => r.1 = none ∧ s' = s ∧ ∃ ls, NestedAll s.heap ls left ∧ NestedKey.depthAll ls ≤ n ∧ ∀ (v : Value) (hv : v ∈ left) (Q' : Bool → Shared → Prop), Q' false s → wpAny (model P w) A (ofAClassStatement n v) Q' E s) _ ?_ ?_ _ _ ⟨rfl, rfl, ks, hk, by omega, cls_all ks vs.toList n s E hk (by omega)⟩
        · rintro v left r s' ⟨hr, rfl, ls, hls, hdl, each⟩
          refine wpAny_bind (each v List.mem_cons_self _ ?_)
          simp only [Bool.false_eq_true, if_false]
          cases hls with
          | cons a1 a2 =>
            simp only [NestedKey.depthAll] at hdl
            exact wpAny_pure ⟨rfl, rfl, _, a2, by omega, fun u hu' => each u (List.mem_cons_of_mem _ hu')⟩
        · rintro ⟨r1, r2⟩ s' ⟨hr, rfl, _⟩
          simp only at hr
          subst hr
          exact wpAny_pure q
theorem cls_all : ∀ (ks : List NK) (vs : List Value) (n : Nat) (s : Shared) (E : Value → Shared → Prop), NestedAll s.heap ks vs → NestedKey.depthAll ks ≤ n → ∀ (v : Value) (hv : v ∈ vs) (Q : Bool → Shared → Prop), Q false s → wpAny (model P w) A (ofAClassStatement n v) Q E s
  | [], _, n, s, E, x, _, v, hv, _, _ => by cases x; cases hv
  | k :: ks, _, n, s, E, x, hn, v, hv, Q, q => by
    cases x with
    | cons x1 x2 =>
      simp only [NestedKey.depthAll] at hn
      rcases List.mem_cons.mp hv with e | hv
      · rw [e]; exact cls_of k _ n s E Q x1 (by omega) q
      · exact cls_all ks _ n s E x2 (by omega) v hv Q q
end
mutual
theorem byv_of : ∀ (k : NK) (v : Value) (n : Nat) (s : Shared) (E : Value → Shared → Prop) (Q : Bool → Shared → Prop), NestedIs s.heap k v → k.depth ≤ n → nums k = true → Q true s → wpAny (model P w) A (hashByValue n v) Q E s
  | .none, _, n, s, E, Q, x, _, hm, q => by simp [nums] at hm
  | .num i, _, n, s, E, Q, x, _, _, q => by cases x <;> cases n <;> exact wpAny_pure q
  | .text y, _, n, s, E, Q, x, _, hm, q => by simp [nums] at hm
  | .tup ks, _, n, s, E, Q, x, hn, hm, q => by
    cases x with
    | @tup b o vs m ks hg hc hd hk =>
      simp only [NestedKey.depth] at hn
      simp only [nums] at hm
      cases n with
      | zero => omega
      | succ n =>
        have isT : s.TypeIs (.ref b) "tuple" := ⟨o, hg, hc⟩
        unfold hashByValue
        refine wpAny_bind (wpAny_specialOf isT F.slot_tuple_hash.lookup ?_)
        show wpAny _ _ (seqItems? (.ref b) >>= _) _ _ s
        refine wpAny_bind (wpAny_seqItems hg hd ?_)
        refine wpAny_bind ?_
        show wpAny _ _ (forIn vs _ _) _ _ s
        rw [← Array.forIn_toList]
        refine wpAny_forIn_list _ (fun left r s' => r.1 = none ∧ s' = s ∧ ∀ (v : Value) (hv : v ∈ left) (Q' : Bool → Shared → Prop), Q' true s → wpAny (model P w) A (hashByValue n v) Q' E s) _ ?_ ?_ _ _ ⟨rfl, rfl, byv_all ks vs.toList n s E hk (by omega) hm⟩
        · rintro v left r s' ⟨hr, rfl, each⟩
          refine wpAny_bind (each v List.mem_cons_self _ ?_)
          simp only [Bool.not_true, Bool.false_eq_true, if_false]
          exact wpAny_pure ⟨rfl, rfl, fun u hu' => each u (List.mem_cons_of_mem _ hu')⟩
        · rintro ⟨r1, r2⟩ s' ⟨hr, rfl, _⟩
          simp only at hr
          subst hr
          exact wpAny_pure q
theorem byv_all : ∀ (ks : List NK) (vs : List Value) (n : Nat) (s : Shared) (E : Value → Shared → Prop), NestedAll s.heap ks vs → NestedKey.depthAll ks ≤ n → numsA ks = true → ∀ (v : Value) (hv : v ∈ vs) (Q : Bool → Shared → Prop), Q true s → wpAny (model P w) A (hashByValue n v) Q E s
  | [], _, n, s, E, x, _, _, v, hv, _, _ => by cases x; cases hv
  | k :: ks, _, n, s, E, x, hn, hm, v, hv, Q, q => by
    cases x with
    | cons x1 x2 =>
      simp only [NestedKey.depthAll] at hn
      simp only [numsA, Bool.and_eq_true] at hm
      rcases List.mem_cons.mp hv with e | hv
      · rw [e]; exact byv_of k _ n s E Q x1 (by omega) hm.1 q
      · exact byv_all ks _ n s E x2 (by omega) hm.2 v hv Q q
end
theorem IsN.cls {k : NK} {b : Addr} {Q : Bool → Shared → Prop} (x : IsN s.heap k b) (q : Q false s) : wpAny (model P w) A (ofAClassStatement 8 (.ref b)) Q E s := cls_of k _ 8 s E Q x.nest x.deep q
theorem IsN.byv {k : NK} {b : Addr} {Q : Bool → Shared → Prop} (x : IsN s.heap k b) (q : Q true s) : wpAny (model P w) A (hashByValue 8 (.ref b)) Q E s := byv_of k _ 8 s E Q x.nest x.deep x.num q
/-- nothing is seen of a search among such keys -/
theorem seen_none {k : NK} {b : Addr} {Q : Bool → Shared → Prop} (x : IsN s.heap k b) {others : List Value} (ho : ∀ y, y ∈ others → ∃ k' c, y = Value.ref c ∧ IsN s.heap k' c) (q : Q false s) : wpAny (model P w) A (searchCouldBeSeen (.ref b) others) Q E s := by
  unfold searchCouldBeSeen
  refine wpAny_bind (wpAny_forIn_list _ (fun left r s' => r.1 = none ∧ s' = s ∧ ∀ y, y ∈ left → ∃ k' c, y = Value.ref c ∧ IsN s.heap k' c) _ ?_ ?_ _ _ ⟨rfl, rfl, ho⟩)
  · rintro v left r s' ⟨hr, rfl, each⟩
    obtain ⟨k', c, rfl, y⟩ := each v List.mem_cons_self
    have on : ∀ z, z ∈ left → ∃ k' c, z = Value.ref c ∧ IsN s'.heap k' c := fun z hz => each z (List.mem_cons_of_mem _ hz)
    dsimp only
    by_cases hv : (b == c || (carriedByValue (.ref b) && carriedByValue (.ref c))) = true
    · exact wp_if_pos hv (wpAny_pure ⟨rfl, rfl, on⟩)
    · refine wp_if_neg hv (wpAny_bind (x.quiet ?_))
      simp only [Bool.not_true, Bool.false_eq_true, if_false]
      refine wpAny_bind (y.quiet ?_)
      simp only [Bool.not_true, Bool.false_eq_true, if_false]
      refine wpAny_bind (x.cls ?_)
      simp only [Bool.false_eq_true, if_false]
      refine wpAny_bind (y.cls ?_)
      simp only [Bool.false_eq_true, if_false]
      exact wpAny_pure ⟨rfl, rfl, on⟩
  · rintro ⟨r1, r2⟩ s' ⟨hr, rfl, _⟩
    simp only at hr
    subst hr
    exact wpAny_pure q

/-! ### the set -/
/-- an element, as the table's row -/
def rowN (w : World) (p : Addr × NK) : Int × Value := (p.2.hash w, Value.ref p.1)
structure NSet (w : World) (h : Heap) (a : Addr) (L : List (Addr × NK)) (es : Array (Int × Value)) (ep : Nat) (t : SetTable) : Prop where
  obj : ∃ o, h.get? a = some o ∧ o.ExactSet ∧ o.data = .set es ep t
  row : es.toList = L.map (rowN w)
  tab : TabOk t (L.map fun p => p.2.hash w)
  unlike : (L.map Prod.snd).Nodup
  key : ∀ p, p ∈ L → IsN h p.2 p.1
  pl : t.plain = true
  led : w.params.followText "set-order" = true ∨ t.led = true
  spare : L.length * 5 < t.mask * 3
  few : L.length < 64
theorem len_rows {L : List (Addr × NK)} {es : Array (Int × Value)} (h : es.toList = L.map (rowN w)) : es.size = L.length := by
  rw [← Array.length_toList, h, List.length_map]
theorem at_row {L : List (Addr × NK)} {es : Array (Int × Value)} (h : es.toList = L.map (rowN w)) {i : Nat} {p : Addr × NK} (hi : L[i]? = some p) : es[i]? = some (rowN w p) := by
  rw [← Array.getElem?_toList, h, List.getElem?_map, hi]; rfl
section
variable {a : Addr} {L : List (Addr × NK)} {es : Array (Int × Value)} {ep : Nat} {t : SetTable}
theorem NSet.places (R : NSet w s.heap a L es ep t) : t.place.size = L.length := by
  have q := R.tab.sz
  rwa [List.length_map] at q
theorem NSet.fit (R : NSet w s.heap a L es ep t) : t.fits es.size = true := by
  have n1 := R.places
  have n2 := len_rows R.row
  have n3 := R.spare
  unfold SetTable.fits SetTable.fill
  simp only [R.tab.dm, Bool.and_eq_true, beq_iff_eq, decide_eq_true_eq]
  exact ⟨by omega, by show t.place.size + 0 ≤ t.mask; omega⟩
theorem NSet.stands (R : NSet w s.heap a L es ep t) : ¬ t.gaveWay = true := by
  simp [SetTable.gaveWay, mask_odd R.tab.mok]

/-- the c-th probe for a hash -/
abbrev pr (m : Nat) (g : Int) (c : Nat) : SetTable.Probe := nth m (runAt m (SetTable.bits g % (m + 1)) (SetTable.bits g)) c
theorem pr_add (m : Nat) (g : Int) (c q : Nat) : nth m (pr m g c) q = pr m g (c + q) := (nth_add m c _ q).symm
theorem pr_dummy (m : Nat) (g : Int) : ∀ c, (pr m g c).dummy = none := by
  have go : ∀ (n : Nat) (p : SetTable.Probe), p.dummy = none → (nth m p n).dummy = none := by
    intro n
    induction n with
    | zero => exact fun p h => h
    | succ n ih => exact fun p h => ih (adv m p) (by unfold adv; split <;> exact h)
  exact fun c => go c _ rfl
/-- THE SEARCH, from the c-th probe on; K the first empty place on the way -/
theorem find_from (R : NSet w s.heap a L es ep t) {x : Addr} {k : NK} (hx : IsN s.heap k x) (hu : A.units + 8 < cLine) {K : Nat} (bound : K < 10 * SetTable.turns t.mask)
    (free : way t.mask (k.hash w) K ∉ t.place.toList) (taken : ∀ c, c < K → way t.mask (k.hash w) c ∈ t.place.toList) {Q : SetFound → Shared → Prop}
    (isIn : k ∈ L.map Prod.snd → Q (.there none) s) (isOut : k ∉ L.map Prod.snd → Q (.free (way t.mask (k.hash w) K) false) s) :
    ∀ (fuel c : Nat) (from_ : Option SetTable.Probe), from_.getD (t.probeStart (k.hash w)) = pr t.mask (k.hash w) c → c ≤ K → K - c < fuel →
      (∀ (i : Nat) p, L[i]? = some p → p.2 = k → ∃ c', c ≤ c' ∧ c' < K ∧ t.place.toList[i]? = some (way t.mask (k.hash w) c')) →
      wpAny (model P w) A (setSearchFrom a (.ref x) (k.hash w) true fuel from_) Q E s
  | 0, c, _, _, _, hf, _ => absurd hf (Nat.not_lt_zero _)
  | fuel + 1, c, from_, start_, cK, hf, ahead => by
    obtain ⟨o, ho, hex, hd⟩ := R.obj
    have at_ : ∀ q, (nth t.mask (pr t.mask (k.hash w) c) q).j = way t.mask (k.hash w) (c + q) := fun q => congrArg SetTable.Probe.j (pr_add ..)
    have hashes : ∀ (i : Nat) p, L[i]? = some p → (es[i]?.map (fun r => r.1)).getD 0 = p.2.hash w := fun i p hp => by rw [at_row R.row hp]; rfl
    have found := go_spec t R.tab.ris R.tab.dm (fun i => (es[i]?.map (fun r => r.1)).getD 0) (k.hash w) (10 * SetTable.turns t.mask) (K - c) (pr t.mask (k.hash w) c) (pr_dummy ..) (by omega)
      (fun q hq => by rw [at_]; exact taken _ (by omega)) (by rw [at_, Nat.add_sub_cancel' cK]; exact free)
    rw [setSearchFrom_succ]
    refine wpAny_bind (wpAny_setState_of ho hd R.fit ?_)
    dsimp only
    refine wp_if_neg R.stands ?_
    try refine wpAny_bind (wpAny_pure ?_)
    rcases found with ⟨q, i, hq, hi, _, none_ahead, probe⟩ | ⟨none_ahead, probe⟩
    · -- an entry of this hash
      rw [at_] at hi
      have probe' : t.probe (fun i => (es[i]?.map (fun r => r.1)).getD 0) (k.hash w) (from_.getD (t.probeStart (k.hash w))) = some (.candidate (way t.mask (k.hash w) (c + q)) i (pr t.mask (k.hash w) (c + (q + 1)))) := by
        rw [start_, ← at_, ← pr_add]
        exact probe
      rw [probe']
      dsimp only
      have iL : i < L.length := by
        have b1 := (List.getElem?_eq_some_iff.mp hi).1
        have b2 := R.places
        rw [Array.length_toList] at b1
        omega
      obtain ⟨p, hp⟩ : ∃ p, L[i]? = some p := ⟨_, List.getElem?_eq_getElem iL⟩
      have pL : p ∈ L := List.mem_of_getElem? hp
      have on : wpAny (model P w) A (searchRest a (.ref x) (k.hash w) true fuel es t (way t.mask (k.hash w) (c + q)) i (pr t.mask (k.hash w) (c + (q + 1)))) Q E s := by
        have live : t.slot (way t.mask (k.hash w) (c + q)) = .live i := slot_live R.tab.ris hi
        unfold searchRest
        rw [at_row R.row hp]
        dsimp only [rowN]
        refine wpAny_bind (wpAny_holding ((R.key p pL).eq hx hu ?_))
        refine wpAny_bind (wpAny_setState_of ho hd R.fit ?_)
        dsimp only
        by_cases same : p.2 = k
        · exact wp_if_pos (by simp [same]) (wpAny_pure (isIn (List.mem_map.mpr ⟨p, pL, same⟩)))
        · refine wp_if_neg (by simp [same]) ?_
          try refine wpAny_bind (wpAny_pure ?_)
          rw [sameMem]
          dsimp only
          simp only [if_true, live, at_row R.row hp, rowN]
          refine wpAny_bind (wpAny_isSame_ref_self (wpAny_bind (wpAny_pure ?_)))
          simp only [if_true]
          refine wp_if_neg (by simp [same]) (find_from R hx hu bound free taken isIn isOut fuel (c + (q + 1)) _ rfl (by omega) (by omega) fun i0 p0 h0 k0 => ?_)
          obtain ⟨c', l1, l2, l3⟩ := ahead i0 p0 h0 k0
          refine ⟨c', ?_, l2, l3⟩
          rcases Nat.lt_trichotomy c' (c + q) with lt | eq | gt
          · refine absurd ((hashes i0 p0 h0).trans (congrArg (fun k => NestedKey.hash w k) k0)) (none_ahead (c' - c) i0 (by omega) ?_)
            rw [at_, Nat.add_sub_cancel' l1]
            exact l3
          · rw [eq] at l3
            have live2 := slot_live R.tab.ris l3
            rw [live] at live2
            injection live2 with e
            rw [← e, hp] at h0
            exact absurd ((congrArg Prod.snd (Option.some.inj h0)).trans k0) same
          · omega
      by_cases hl : t.led = true
      · refine wp_if_neg (by simp [hl]) ?_
        try refine wpAny_bind (wpAny_pure ?_)
        exact on
      · refine wp_if_pos (by simp [hl]) (wpAny_bind (seen_none hx (fun y hy => ?_) ?_))
        · obtain ⟨e, he, rfl⟩ := List.mem_map.mp hy
          have he' : e ∈ es ∧ e.1 = k.hash w := by simpa using he
          have he2 : e ∈ L.map (rowN w) := by rw [← R.row]; simpa using he'.1
          obtain ⟨p2, hp2, rfl⟩ := List.mem_map.mp he2
          exact ⟨p2.2, p2.1, rfl, R.key p2 hp2⟩
        · refine wp_if_neg (by decide) ?_
          try refine wpAny_bind (wpAny_pure ?_)
          exact on
    · -- the empty place
      have probe' : t.probe (fun i => (es[i]?.map (fun r => r.1)).getD 0) (k.hash w) (from_.getD (t.probeStart (k.hash w))) = some (.empty (way t.mask (k.hash w) K) none) := by
        have e := at_ (K - c)
        rw [Nat.add_sub_cancel' cK] at e
        rw [start_, ← e]
        exact probe
      rw [probe']
      dsimp only
      refine wpAny_pure (isOut fun hm => ?_)
      obtain ⟨p0, m0, k0⟩ := List.mem_map.mp hm
      obtain ⟨i0, b0, e0⟩ := List.getElem_of_mem m0
      have h0 : L[i0]? = some p0 := by rw [List.getElem?_eq_getElem b0, e0]
      obtain ⟨c', l1, l2, l3⟩ := ahead i0 p0 h0 k0
      refine none_ahead (c' - c) i0 (by omega) ?_ ((hashes i0 p0 h0).trans (congrArg (fun k => NestedKey.hash w k) k0))
      rw [at_, Nat.add_sub_cancel' l1]
      exact l3
theorem find_at (R : NSet w s.heap a L es ep t) {x : Addr} {k : NK} (hx : IsN s.heap k x) (hu : A.units + 8 < cLine) {Q : SetFound → Shared → Prop} (isIn : k ∈ L.map Prod.snd → Q (.there none) s)
    (isOut : ∀ K, k ∉ L.map Prod.snd → way t.mask (k.hash w) K ∉ t.place.toList → (∀ c, c < K → way t.mask (k.hash w) c ∈ t.place.toList) → Q (.free (way t.mask (k.hash w) K) false) s) :
    wpAny (model P w) A (setSearch a (.ref x) (k.hash w) true) Q E s := by
  have sp := R.spare
  obtain ⟨K, bound, free, taken⟩ := R.tab.first (by rw [List.length_map]; omega) (k.hash w)
  have small : K < 100000 := by
    unfold SetTable.turns at bound
    rcases R.tab.mok with e | e | e <;> omega
  unfold setSearch
  refine find_from R hx hu bound free taken isIn (fun no => isOut K no free taken) 100000 0 none rfl (Nat.zero_le _) (by omega) fun i p hp hk => ?_
  have b1 : i < t.place.toList.length := by
    have := (List.getElem?_eq_some_iff.mp hp).1
    rw [Array.length_toList, R.places]
    exact this
  obtain ⟨c, hc, e⟩ := R.tab.before (i := i) free (by rw [List.getElem?_map, hp, ← hk]; rfl) (List.getElem?_eq_getElem b1)
  exact ⟨c, Nat.zero_le _, hc, by rw [List.getElem?_eq_getElem b1, e]⟩

/-! ### the table laid anew -/
theorem pick_all {α : Type} : ∀ l : List α, (List.range l.length).filterMap (fun i => l[i]?) = l
  | [] => rfl
  | x :: l => by
    rw [List.length_cons, List.range_succ_eq_map]
    show x :: List.filterMap (fun i => (x :: l)[i]?) ((List.range l.length).map Nat.succ) = x :: l
    rw [List.filterMap_map]
    exact congrArg (x :: ·) (pick_all l)
theorem pick_perm {α β : Type} {G : α → β} {L : List α} {es : Array β} {order : Array Nat} (he : es.toList = L.map G) (hp : order.toList.Perm (List.range L.length)) :
    ∃ L2 : List α, (order.filterMap (fun i => es[i]?)).toList = L2.map G ∧ L2.Perm L ∧ ∀ (f : β → Int), L2.map (fun x => f (G x)) = order.toList.map fun i => (es.map f).getD i 0 := by
  have e1 : ∀ i : Nat, es[i]? = (L[i]?).map G := fun i => by rw [← Array.getElem?_toList, he, List.getElem?_map]
  refine ⟨order.toList.filterMap fun i => L[i]?, ?_, ?_, fun f => ?_⟩
  · rw [Array.toList_filterMap, List.map_filterMap]
    exact congrArg (fun g => order.toList.filterMap g) (funext e1)
  · have := hp.filterMap fun i => L[i]?
    rwa [pick_all] at this
  · have small : ∀ i, i ∈ order.toList → i < L.length := fun i hi => List.mem_range.mp (hp.mem_iff.mp hi)
    generalize order.toList = l at small
    induction l with
    | nil => rfl
    | cons i l ih =>
      have hi := small i List.mem_cons_self
      have e2 : (es.map f).getD i 0 = f (G L[i]) := by
        have e3 : (es.map f)[i]? = some (f (G L[i])) := by rw [Array.getElem?_map, e1, List.getElem?_eq_getElem hi]; rfl
        simp [Array.getD_eq_getD_getElem?, e3]
      rw [List.filterMap_cons_some (List.getElem?_eq_getElem hi), List.map_cons, List.map_cons, e2, ih fun j hj => small j (List.mem_cons_of_mem _ hj)]
theorem lay_again {o : Obj} (ho : s.heap.get? a = some o) (hex : o.ExactSet) (hd : o.data = .set es ep t) (hrow : es.toList = L.map (rowN w)) (hsz : t.place.size = es.size) (hdm : t.dummies = #[]) (hfl : es.size ≤ t.mask)
    (unlike : (L.map Prod.snd).Nodup) (key : ∀ p, p ∈ L → IsN s.heap p.2 p.1) (pl : t.plain = true) (led : w.params.followText "set-order" = true ∨ t.led = true) (few : L.length < 64) {size M : Nat}
    (h1 : SetTable.sizeAbove size - 1 = M) (hM : MaskOk M) (h2 : SetTable.sizeAbove size ≤ 128) (h3 : L.length * 5 < M * 3) {Q : Unit → Shared → Prop}
    (done : ∀ h' L' es' ep' t', Heap.SameBut a s.heap h' → NSet w h' a L' es' ep' t' → L'.Perm L → Q () { s with heap := h' }) : wpAny (model P w) A (setRelay a size) Q E s := by
  have n1 := len_rows hrow
  have fit : t.fits es.size = true := by
    unfold SetTable.fits SetTable.fill
    simp only [hdm, Bool.and_eq_true, beq_iff_eq, decide_eq_true_eq]
    exact ⟨by omega, by show t.place.size + 0 ≤ t.mask; omega⟩
  obtain ⟨t', order, e, hp, T, em, el, epl, edm⟩ := relaid_ok t (hs := es.map (fun r => r.1)) (wanted := size) h1 hM (by rw [Array.size_map, n1]; omega)
  rw [Array.size_map, n1] at hp
  obtain ⟨L2, r1, r2, r3⟩ := pick_perm hrow hp
  have r3' := r3 fun r => r.1
  have T' : TabOk t' (L2.map fun p => p.2.hash w) := by
    have e9 : (L2.map fun p => p.2.hash w) = L2.map (fun x => (rowN w x).1) := rfl
    rw [e9, r3']
    exact T
  have n2 : (order.filterMap (fun i => es[i]?)).size = es.size := by rw [len_rows r1, r2.length_eq, n1]
  rw [setRelay_eq]
  refine wpAny_bind (wpAny_setState_of ho hd fit ?_)
  dsimp only
  refine wp_if_neg (by rw [sizeLine_eq]; omega) ?_
  try refine wpAny_bind (wpAny_pure ?_)
  rw [e]
  dsimp only
  refine wpAny_bind (wp_if_neg (by rw [n2]; simp) ?_)
  try refine wpAny_bind (wpAny_pure ?_)
  refine wpAny_pure ?_
  dsimp only
  refine wpAny_storeSet_of ho hd ?_ (by rw [n2, n1, sizeLine_eq]; omega)
  have sb : Heap.SameBut a s.heap (s.heap.update a (Obj.putSet (order.filterMap (fun i => es[i]?)) t')) := Heap.SameBut.update ..
  exact done _ L2 (order.filterMap (fun i => es[i]?)) (ep + 1) t' sb ⟨⟨_, store_at ho hd, ⟨hex.1, hex.2.1, hex.2.2⟩, rfl⟩, r1, T', (r2.map Prod.snd).nodup_iff.mpr unlike, fun p hpm => (key p (r2.mem_iff.mp hpm)).stayBut ho hd sb,
    epl.trans pl, by rw [el]; exact led, by rw [r2.length_eq, em]; exact h3, by rw [r2.length_eq]; exact few⟩ r2

/-! ### adding -/
theorem rows_in (L : List (Addr × NK)) (n : Nat) (p : Addr × NK) : (L.take n ++ p :: L.drop n).map (rowN w) = (L.map (rowN w)).take n ++ rowN w p :: (L.map (rowN w)).drop n := by
  simp [List.map_take, List.map_drop]
theorem hash_in (L : List (Addr × NK)) (n : Nat) (p : Addr × NK) : (L.take n ++ p :: L.drop n).map (fun q => NestedKey.hash w q.2) = (L.map fun q => NestedKey.hash w q.2).take n ++ NestedKey.hash w p.2 :: (L.map fun q => NestedKey.hash w q.2).drop n := by
  simp [List.map_take, List.map_drop]
theorem put_key (R : NSet w s.heap a L es ep t) {x : Addr} {k : NK} (hx : IsN s.heap k x) (hu : A.units + 8 < cLine) (room : k ∉ L.map Prod.snd → L.length + 1 < 64) {Q : Bool → Shared → Prop}
    (done : ∀ b h' L' es' ep' t', Heap.SameBut a s.heap h' → NSet w h' a L' es' ep' t' → (k ∈ L.map Prod.snd → L' = L) → (k ∉ L.map Prod.snd → L'.Perm ((x, k) :: L)) → Q b { s with heap := h' }) :
    wpAny (model P w) A (setAddHashed a (.ref x) (k.hash w)) Q E s := by
  obtain ⟨o, ho, hex, hd⟩ := R.obj
  have n1 := len_rows R.row
  have sp := R.spare
  unfold setAddHashed
  refine wpAny_holding ?_
  rw [show (100000 : Nat) = 99999 + 1 from rfl, setAddHashedIn_succ]
  refine wpAny_bind (wpAny_setState_of ho hd R.fit ?_)
  dsimp only
  refine wp_if_neg (by simp [byScan, Value.scannable]) ?_
  try refine wpAny_bind (wpAny_pure ?_)
  refine wpAny_bind (find_at R hx hu (fun yes => ?_) fun K no free taken => ?_)
  · dsimp only
    exact wpAny_pure (done false s.heap L es ep t (Heap.SameBut.refl a s.heap) R (fun _ => rfl) fun z => absurd yes z)
  dsimp only
  refine wpAny_bind (wpAny_setState_of ho hd R.fit ?_)
  dsimp only
  have fewer := room no
  obtain ⟨q1, q2, q3, q4, q5, q6, q7, q8, q9⟩ := R.tab.put free taken
  have plain1 : (t.put (way t.mask (k.hash w) K)).1.plain = true := q6.trans R.pl
  generalize t.put (way t.mask (k.hash w) K) = pt at q1 q3 q4 q5 q6 q7 q8 q9 plain1 ⊢
  obtain ⟨t1, n⟩ := pt
  dsimp only at q1 q3 q4 q5 q6 q7 q8 q9 plain1 ⊢
  subst q1
  first
    | (refine wpAny_bind ?_; refine wp_if_pos plain1 ?_; refine hx.byv ?_)
    | refine wp_if_pos plain1 (wpAny_bind (hx.byv ?_))
  simp only [if_true]
  have row1 : (SetTable.insertAt es (SetTable.below t.place (way t.mask (k.hash w) K)) (k.hash w, Value.ref x)).toList = (L.take (SetTable.below t.place (way t.mask (k.hash w) K)) ++ (x, k) :: L.drop (SetTable.below t.place (way t.mask (k.hash w) K))).map (rowN w) := by
    rw [SetTable.toList_insertAt, rows_in, R.row]; rfl
  generalize SetTable.below t.place (way t.mask (k.hash w) K) = n at q2 q3 row1 ⊢
  have perm1 : (L.take n ++ (x, k) :: L.drop n).Perm ((x, k) :: L) := put_perm L n (x, k)
  have len1 : (L.take n ++ (x, k) :: L.drop n).length = L.length + 1 := perm1.length_eq
  rw [← hash_in L n (x, k)] at q3
  have unlike1 : ((L.take n ++ (x, k) :: L.drop n).map Prod.snd).Nodup := (perm1.map Prod.snd).nodup_iff.mpr (List.nodup_cons.mpr ⟨no, R.unlike⟩)
  have size1 : (SetTable.insertAt es n (k.hash w, Value.ref x)).size = L.length + 1 := by rw [len_rows row1, len1]
  generalize SetTable.insertAt es n (k.hash w, Value.ref x) = es1 at row1 size1 ⊢
  generalize L.take n ++ (x, k) :: L.drop n = L1 at perm1 len1 q3 unlike1 row1
  refine wpAny_bind (wpAny_storeSet_of ho hd ?_ (by rw [size1, sizeLine_eq]; omega))
  have sb : Heap.SameBut a s.heap (s.heap.update a (Obj.putSet es1 t1)) := Heap.SameBut.update ..
  have ho1 := store_at (es' := es1) (t' := t1) ho hd
  generalize s.heap.update a (Obj.putSet es1 t1) = h1 at sb ho1 ⊢
  have key1 : ∀ p, p ∈ L1 → IsN h1 p.2 p.1 := fun p hp => by
    rcases List.mem_cons.mp (perm1.mem_iff.mp hp) with e | hp
    · rw [e]; exact hx.stayBut ho hd sb
    · exact (R.key p hp).stayBut ho hd sb
  have led1 : w.params.followText "set-order" = true ∨ t1.led = true := by rw [q5]; exact R.led
  by_cases full : t1.tooFull = true
  · first
      | (refine wpAny_bind ?_; refine wp_if_pos (by simp [full]) ?_)
      | (refine wp_if_pos (by simp [full]) ?_; refine wpAny_bind ?_)
    have full' : (L.length + 1) * 5 ≥ t1.mask * 3 := by
      unfold SetTable.tooFull at full
      rw [decide_eq_true_eq, q9, List.length_map] at full
      exact full
    rw [n1]
    have places1 : t1.place.size = es1.size := by
      have z := q3.sz
      rw [List.length_map, len1] at z
      rw [z, size1]
    have two : (t.mask = 7 ∧ L.length = 4) ∨ (t.mask = 31 ∧ L.length = 18) := by
      rw [q4] at full'
      rcases R.tab.mok with e | e | e
      · exact .inl ⟨e, by rw [e] at full' sp; omega⟩
      · exact .inr ⟨e, by rw [e] at full' sp; omega⟩
      · rw [e] at full'; omega
    have go : ∀ M, SetTable.sizeAbove (SetTable.grown (L.length + 1)) - 1 = M → MaskOk M → SetTable.sizeAbove (SetTable.grown (L.length + 1)) ≤ 128 → (L.length + 1) * 5 < M * 3 →
        wpAny (model P w) A (setRelay a (SetTable.grown (L.length + 1))) (fun _ s' => wpAny (model P w) A (pure true) Q E s') E { s with heap := h1 } := fun M m1 m2 m3 m4 =>
      lay_again (s := { s with heap := h1 }) ho1 ⟨hex.1, hex.2.1, hex.2.2⟩ rfl row1 places1 q3.dm (by rw [size1, q4]; rcases two with ⟨e, e2⟩ | ⟨e, e2⟩ <;> omega) unlike1 key1 plain1 led1 (by rw [len1]; exact fewer) m1 m2 m3 (by rw [len1]; exact m4)
        fun h2 L2 es2 ep2 t2 sb2 R2 pm2 => wpAny_pure (done true h2 L2 es2 ep2 t2 (sb.trans sb2) R2 (fun z => absurd z no) fun _ => pm2.trans perm1)
    rcases two with ⟨_, e2⟩ | ⟨_, e2⟩
    · exact go 31 (by rw [e2, size_20]) (.inr (.inl rfl)) (by rw [e2, size_20]; decide) (by omega)
    · exact go 127 (by rw [e2, size_76]) (.inr (.inr rfl)) (by rw [e2, size_76]; decide) (by omega)
  · first
      | refine wp_if_neg (by simp [full]) ?_
      | (refine wpAny_bind ?_; refine wp_if_neg (by simp [full]) ?_; refine wpAny_pure ?_)
    refine wpAny_pure (done true h1 L1 es1 (ep + 1) t1 sb ⟨⟨_, ho1, ⟨hex.1, hex.2.1, hex.2.2⟩, rfl⟩, row1, q3, unlike1, key1, plain1, led1, ?_, by rw [len1]; exact fewer⟩ (fun z => absurd z no) fun _ => perm1)
    unfold SetTable.tooFull at full
    rw [decide_eq_true_eq, q9, List.length_map] at full
    rw [len1]
    omega
theorem NSet.stay {h h' : Heap} (R : NSet w h a L es ep t) (ha : ∀ o, h.get? a = some o → h'.get? a = some o) (hk : ∀ p, p ∈ L → IsN h' p.2 p.1) : NSet w h' a L es ep t := by
  obtain ⟨o, ho, more⟩ := R.obj
  exact ⟨⟨o, ha o ho, more⟩, R.row, R.tab, R.unlike, hk, R.pl, R.led, R.spare, R.few⟩
theorem nset_new {h : Heap} (ho : h.get? a = some { cls := .type "set", dict := none, data := .set #[] 0 (.fresh 0 0 (!w.params.followText "set-order")) }) : NSet w h a [] #[] 0 (.fresh 0 0 (!w.params.followText "set-order")) where
  obj := ⟨_, ho, ⟨rfl, rfl, rfl⟩, rfl⟩
  row := rfl
  tab := ⟨List.Pairwise.nil, rfl, rfl, .inl rfl, fun _ h => (by cases h), fun _ _ _ h => (by simp at h)⟩
  unlike := List.nodup_nil
  key := fun _ h => nomatch h
  pl := rfl
  led := by
    show _ ∨ (!w.params.followText "set-order") = true
    cases w.params.followText "set-order" <;> simp
  spare := by show 0 * 5 < 7 * 3; decide
  few := by show 0 < 64; decide
end
/-- what the set holds of the first i items: each of its keys is one of theirs, and each of theirs is one of its -/
structure Has (ks : List (Addr × NK)) (i : Nat) (L : List (Addr × NK)) : Prop where
  from_ : ∀ p, p ∈ L → p ∈ ks
  all : ∀ (j : Nat) p, j < i → ks[j]? = some p → p.2 ∈ L.map Prod.snd
theorem Has.next {ks L L' : List (Addr × NK)} {i : Nat} {p : Addr × NK} (g : Has ks i L) (hp : ks[i]? = some p) (sub : ∀ q, q ∈ L' → q = p ∨ q ∈ L) (sup : ∀ k, k ∈ L.map Prod.snd → k ∈ L'.map Prod.snd) (is : p.2 ∈ L'.map Prod.snd) : Has ks (i + 1) L' where
  from_ := fun q hq => by
    rcases sub q hq with e | hq
    · rw [e]; exact List.mem_of_getElem? hp
    · exact g.from_ q hq
  all := fun j q hj hq => by
    by_cases e : j = i
    · rw [e, hp] at hq
      rw [← Option.some.inj hq]; exact is
    · exact sup _ (g.all j q (by omega) hq)
/-- a list without repeats, all of it out of another, is no longer -/
theorem few_of {α : Type} [DecidableEq α] {l D : List α} (nd : l.Nodup) (h : ∀ x, x ∈ l → x ∈ D) : l.length ≤ D.length := by
  induction l generalizing D with
  | nil => exact Nat.zero_le _
  | cons x l ih =>
    have hx := h x List.mem_cons_self
    have nd' := List.nodup_cons.mp nd
    have := ih (D := D.erase x) nd'.2 fun y hy => (List.mem_erase_of_ne fun e => nd'.1 (by rw [← e]; exact hy)).mpr (h y (List.mem_cons_of_mem _ hy))
    rw [List.length_erase_of_mem hx] at this
    have pos : 0 < D.length := List.length_pos_of_mem hx
    rw [List.length_cons]
    omega
/-- the loop of set.update -/
theorem upd_keys {I : Addr} {fp wr : List Addr} {G : Array GenState → Array GenState → Prop} {n : Nat} {Pv : Nat → Value → Prop} {St : Nat → Shared → Prop} {R : Result → Shared → Prop}
    (W : WalksS P w A.in1 I fp wr G n Pv St) (S : Addr) (Sf : S ∉ fp) (ks : List (Addr × NK)) (hn : n = ks.length) (Dom : List NK) (dom : Dom.length < 64) (inDom : ∀ p, p ∈ ks → p.2 ∈ Dom) (val : ∀ i v, Pv i v → ∃ p, ks[i]? = some p ∧ v = .ref p.1)
    (h0 : Heap) (keys : ∀ p, p ∈ ks → IsN h0 p.2 p.1) (S0 : h0.get? S = none) (w0 : ∀ b, b ∈ wr → h0.get? b = none) (hu : A.in1.units + 8 < cLine) :
    ∀ (left i : Nat) (s : Shared), n - i = left → i ≤ n → St i s → (∀ b o, h0.get? b = some o → s.heap.get? b = some o) → (∃ L es ep t, NSet w s.heap S L es ep t ∧ Has ks i L) →
      (∀ s' L es ep t, Moved (S :: wr) G s s' → NSet w s'.heap S L es ep t → Has ks n L → (∀ b o, h0.get? b = some o → s'.heap.get? b = some o) → R (.ok (.ret .none)) s') →
      codeAny (model P w) A (.builtin "set.update.loop" ⟨[.ref S, .ref I], []⟩) R s := by
  have Sw : S ∉ wr := fun h => Sf (W.sub _ h)
  have sub : ∀ b, b ∈ wr → b ∈ S :: wr := fun b hb => List.mem_cons_of_mem _ hb
  have on : ∀ {s s' : Shared}, Moved wr G s s' → (∀ b o, h0.get? b = some o → s.heap.get? b = some o) → ∀ b o, h0.get? b = some o → s'.heap.get? b = some o := fun hm kp b o e =>
    hm.heap b o (fun hb => by rw [w0 b hb] at e; cases e) (kp b o e)
  intro left
  induction left with
  | zero =>
    intro i s hl hi hst kp ⟨L, es, ep, t, R0, g⟩ fin
    obtain rfl : i = n := by omega
    refine codeAny_builtin F.entry_set_update_loop ?_
    rw [Around.under_plainId F.plain_set_update_loop _]
    show wpAny _ A.in1 (pyNext (.ref I) >>= _) _ _ s
    refine wpAny_bind (W.done s _ _ hst fun s' hm => ?_)
    show wpAny _ A.in1 (ret Value.none) _ _ s'
    have kp' := on hm kp
    exact wpAny_pure (fin s' L es ep t (hm.mono sub) (R0.stay (fun o e => hm.heap S o Sw e) fun p hp => (keys p (g.from_ p hp)).stayAll kp') g kp')
  | succ left ih =>
    intro i s hl hi hst kp ⟨L, es, ep, t, R0, g⟩ fin
    have lt : i < n := by omega
    refine codeAny_builtin F.entry_set_update_loop ?_
    rw [Around.under_plainId F.plain_set_update_loop _]
    show wpAny _ A.in1 (pyNext (.ref I) >>= _) _ _ s
    refine wpAny_bind (W.item i s _ _ lt hst fun v s' hP hst' hm => ?_)
    obtain ⟨p, hp, rfl⟩ := val i v hP
    have kp' := on hm kp
    have R1 : NSet w s'.heap S L es ep t := R0.stay (fun o e => hm.heap S o Sw e) fun q hq => (keys q (g.from_ q hq)).stayAll kp'
    have pm : p ∈ ks := List.mem_of_getElem? hp
    have hx : IsN s'.heap p.2 p.1 := (keys p pm).stayAll kp'
    show wpAny _ A.in1 (holding [Value.ref p.1] (setAdd S (.ref p.1)) >>= _) _ _ s'
    refine wpAny_bind (wpAny_holding ?_)
    unfold setAdd
    refine wpAny_holding (wpAny_bind (hx.hash (w := w) hu ?_))
    have room : p.2 ∉ L.map Prod.snd → L.length + 1 < 64 := fun no => by
      have nd : (p.2 :: L.map Prod.snd).Nodup := List.nodup_cons.mpr ⟨no, R1.unlike⟩
      have := few_of nd (D := Dom) fun k hk => by
        rcases List.mem_cons.mp hk with e | hk
        · rw [e]; exact inDom p pm
        · obtain ⟨q, hq, rfl⟩ := List.mem_map.mp hk
          exact inDom q (g.from_ q hq)
      rw [List.length_cons, List.length_map] at this
      omega
    refine put_key (s := { s' with toks := s'.toks + p.2.draws }) R1 hx hu room fun b h' L' es' ep' t' sb R2 c1 c2 => ?_
    have g' : Has ks (i + 1) L' := by
      by_cases c : p.2 ∈ L.map Prod.snd
      · rw [c1 c]; exact g.next hp (fun q hq => .inr hq) (fun _ h => h) c
      · have pm2 := c2 c
        exact g.next hp (fun q hq => List.mem_cons.mp (pm2.mem_iff.mp hq)) (fun k hk => ((pm2.map Prod.snd).mem_iff).mpr (List.mem_cons_of_mem _ hk)) (((pm2.map Prod.snd).mem_iff).mpr List.mem_cons_self)
    have kp2 : ∀ b o, h0.get? b = some o → h'.get? b = some o := fun b o e => (sb.2 b (fun z => by rw [z, S0] at e; cases e)).trans (kp' b o e)
    refine wpAny_pure ⟨plainId_quiet F.plain_set_update_loop _, ih (i + 1) _ (by omega) lt (W.frame _ s' _ _ hst' (Nat.le_add_right _ _) fun b hb o e => ?_) kp2 ⟨L', es', ep', t', R2, g'⟩ fun s2 L2 es2 ep2 t2 hm2 R3 g3 kp3 => ?_⟩
    · rw [sb.2 b (fun h : b = S => Sf (by rw [← h]; exact hb))]; exact e
    · refine fin s2 L2 es2 ep2 t2 (Moved.trans W.gtrans ((hm.mono sub).then_heap (Nat.le_add_right _ _) fun b o hb e => ?_) hm2) R3 g3 kp3
      rw [sb.2 b (fun h : b = S => hb (by rw [h]; exact List.mem_cons_self))]; exact e

/-- a set as it is made -/
abbrev newSet (w : World) : Obj := { cls := .type "set", dict := none, data := .set #[] 0 (.fresh 0 0 (!w.params.followText "set-order")) }
abbrev newIt (l : Addr) : Obj := { cls := .type "list_iterator", data := .fields #[.ref l, .int 0 0] }
/-- set(xs), xs a list: what the loop leaves, told -/
theorem set_by {l : Addr} {items : Array Value} {Post : Shared → Prop} {Q : Value → Shared → Prop} (hh : A.handled = none) (hl : s.heap.IsList l items)
    (loop : ∀ (A' : Around) (R : Result → Shared → Prop), A'.handled = none → A'.in1.units ≤ A.units + 8 → (∀ s', Post s' → R (.ok (.ret .none)) s') →
      codeAny (model P w) A' (.builtin "set.update.loop" ⟨[.ref s.heap.objs.size, .ref (s.heap.push (newSet w)).objs.size], []⟩) R { s with heap := (s.heap.push (newSet w)).push (newIt l) })
    (fin : ∀ s', Post s' → Q (.ref s.heap.objs.size) s') : wpAny (model P w) A (call (.type "set") [.ref l]) Q E s := by
  obtain ⟨c, tl, hmro⟩ := F.called_set.mro
  have made := F.called_set.made
  have under := F.called_set.sub
  refine wpAny_call (codeAny_of_tree ?_)
  show wpAny _ _ (callAny (.type "set") _) _ _ _
  refine wpAny_pure ⟨Code.quiet_builtin _ (by decide +kernel), codeAny_builtin F.entry_type_call ?_⟩
  rw [Around.under_plain (weight_type_call_type "set" [.ref l] []) rfl]
  have g1 := F.called_set.notType
  have g2 := F.called_set.canCreate
  have g3 := F.typeCall_set_1 (.ref l)
  repeat (any_goals (first | assumption | wp_step))
  refine codeAny_mono (code_set_led1 (.ref l) (E := E) (Q₁ := fun x s1 => x = .ref s.heap.objs.size ∧ s1 = { s with heap := s.heap.push (newSet w) }) ⟨rfl, rfl⟩) fun r s1 hr => ?_
  cases r with
  | error e => exact hr
  | ok fl =>
    cases fl with
    | ret x =>
      obtain ⟨rfl, rfl⟩ := hr
      have got : (s.heap.push (newSet w)).get? s.heap.objs.size = some (newSet w) := Heap.get?_push_size _ rfl
      have isSet : Shared.TypeIs { s with heap := s.heap.push (newSet w) } (.ref s.heap.objs.size) "set" := ⟨_, got, rfl⟩
      have g4 := F.called_set.init.lookup
      have g5 := F.called_set.init.bind (.ref s.heap.objs.size)
      repeat (any_goals (first | assumption | wp_step))
      refine codeAny_mono (codeAny_call_builtin (R := wants (fun r s2 => r = .none ∧ Post s2) E) F.called_set.init.plain F.entry_set_init (check_set_init_1 isSet ?_)) fun r2 s2 h2 => ?_
      · obtain ⟨ol, at_l, cls_l, nl, dat_l⟩ := hl
        obtain ⟨ocls, odict, odata, oslots⟩ := ol
        simp only at cls_l dat_l
        subst cls_l
        subst dat_l
        have there : (s.heap.push (newSet w)).get? l = some { cls := .type "list", dict := odict, data := .seq items nl, slots := oslots } := Heap.get?_push_of_some _ at_l
        have g6 := F.sub_list_set
        have g7 := F.sub_list_frozenset
        have g8 : (Value.type "list" == Value.type "dict") = false := by decide
        have isL : (s.heap.push (newSet w)).IsList l items := ⟨_, there, rfl, nl, rfl⟩
        unfold Builtin.«set.__init__» noKeywords Builtin.Frozenset.updateFrom
        generalize hPI : pyIter = PI
        wp_walk
        subst hPI
        refine wpAny_pyIter_list isL (wpAny_bind (wpAny_runValue ?_))
        refine loop _ _ (by simp [hh]) (by show _ ≤ _; simp [Around.in1]) fun s' post => ?_
        refine wpAny_pure ?_
        show wpAny _ _ (ret Value.none) _ _ _
        exact wpAny_pure ⟨rfl, post⟩
      · cases r2 with
        | error e => exact h2
        | ok fl2 =>
          cases fl2 with
          | ret r =>
            obtain ⟨rfl, post⟩ := h2
            repeat (any_goals (first | assumption | wp_step))
            exact fin _ post
          | _ => exact h2.elim
    | _ => exact hr.elim
end
end Lq
/-! LpData -/
/-! A typed reading: what a name, an expression, a statement is worth, as a predicate that stays while the heap only grows. -/
namespace Lp
open PySem PySem.Spec PyProof.Rows L2

structure Ty where
  is : V → Hp → Prop
  up : ∀ {v : V} {H H' : Hp}, Same H H' → is v H → is v H'
def tV (v : V) : Ty := ⟨fun u _ => u = v, fun _ h => h⟩
abbrev tI (i : Int) : Ty := tV (.int i)
abbrev tBo (b : Bool) : Ty := tV (.bl b)
abbrev tNo : Ty := tV .non
theorem Same.seqT {K : PySem.W.Frag} {H H' : Hp} {a : Addr} {xs : List V} (e : Same H H') (h : SqT K H a xs) : SqT K H' a xs := by
  rcases h with (h | ⟨o, h⟩) | h
  · exact .inl (.inl (e _ _ h))
  · exact .inl (.inr ⟨o, e _ _ h⟩)
  · exact .inr h
theorem Same.new {H : Hp} {p : Addr} {o : HO} (h : H p = none) : Same H (upd H p o) := fun a u e => by rw [upd_ne (ne_of_none e h)]; exact e
/-- an object that H does not know may change -/
theorem Same.mut {H H' : Hp} {p : Addr} {o : HO} (e : Same H H') (h : H p = none) : Same H (upd H' p o) := fun a u ha => by rw [upd_ne (ne_of_none ha h)]; exact e a u ha
mutual
theorem Dp.up {K : PySem.W.Frag} {H H' : Hp} (e : Same H H') : ∀ {v : V} {d : PyData}, Dp K H v d → Dp K H' v d
  | _, _, .non => .non
  | _, _, .bl b => .bl b
  | _, _, .int i => .int i
  | _, _, .str x => .str x
  | _, _, .lst h a => .lst (e.seq h) (DpAll.up e a)
  | _, _, .tup h a => .tup (Same.seqT e h) (DpAll.up e a)
theorem DpAll.up {K : PySem.W.Frag} {H H' : Hp} (e : Same H H') : ∀ {vs : List V} {ds : List PyData}, DpAll K H vs ds → DpAll K H' vs ds
  | _, _, .nil => .nil
  | _, _, .cons h a => .cons (Dp.up e h) (DpAll.up e a)
end
def tD (K : PySem.W.Frag) (d : PyData) : Ty := ⟨fun v H => Dp K H v d, fun e h => Dp.up e h⟩

inductive AllY : List Ty → List V → Hp → Prop
  | nil {H : Hp} : AllY [] [] H
  | cons {τ : Ty} {τs : List Ty} {v : V} {vs : List V} {H : Hp} : τ.is v H → AllY τs vs H → AllY (τ :: τs) (v :: vs) H
theorem AllY.up {H H' : Hp} (e : Same H H') : ∀ {τs : List Ty} {vs : List V}, AllY τs vs H → AllY τs vs H'
  | _, _, .nil => .nil
  | _, _, .cons h a => .cons (Ty.up _ e h) (AllY.up e a)
theorem AllY.len {H : Hp} : ∀ {τs : List Ty} {vs : List V}, AllY τs vs H → vs.length = τs.length
  | _, _, .nil => rfl
  | _, _, .cons _ a => by simp [AllY.len a]
theorem AllY.get {H : Hp} : ∀ {τs : List Ty} {vs : List V} {i : Nat} {τ : Ty}, AllY τs vs H → τs[i]? = some τ → ∃ v, vs[i]? = some v ∧ τ.is v H
  | _, _, _, _, .nil, e => by simp at e
  | _, _, 0, _, .cons h _, e => by simp at e; subst e; exact ⟨_, rfl, h⟩
  | _, _, i + 1, τ, .cons _ a, e => by
    obtain ⟨v, h1, h2⟩ := AllY.get (i := i) (τ := τ) a (by simpa using e)
    exact ⟨v, by simpa using h1, h2⟩
theorem AllY.at {H : Hp} : ∀ {τs : List Ty} {vs : List V} {i : Nat} {v : V}, AllY τs vs H → vs[i]? = some v → ∃ τ, τs[i]? = some τ ∧ τ.is v H
  | _, _, _, _, .nil, e => by simp at e
  | _, _, 0, _, .cons h _, e => by simp at e; subst e; exact ⟨_, rfl, h⟩
  | _, _, i + 1, v, .cons _ a, e => by
    obtain ⟨τ, h1, h2⟩ := AllY.at (i := i) (v := v) a (by simpa using e)
    exact ⟨τ, by simpa using h1, h2⟩
theorem AllY.snoc {H : Hp} {τ : Ty} {v : V} : ∀ {τs : List Ty} {vs : List V}, AllY τs vs H → τ.is v H → AllY (τs ++ [τ]) (vs ++ [v]) H
  | _, _, .nil, h => .cons h .nil
  | _, _, .cons h a, h' => .cons h (AllY.snoc a h')
theorem AllY.data {K : PySem.W.Frag} {H : Hp} : ∀ {ds : List PyData} {vs : List V}, AllY (ds.map (tD K)) vs H → DpAll K H vs ds
  | [], _, .nil => .nil
  | _ :: _, _, .cons h a => .cons h (AllY.data a)
theorem AllY.ofData {K : PySem.W.Frag} {H : Hp} : ∀ {ds : List PyData} {vs : List V}, DpAll K H vs ds → AllY (ds.map (tD K)) vs H
  | _, _, .nil => .nil
  | _, _, .cons h a => .cons h (AllY.ofData a)
/-- a list, a tuple of such things -/
def tLst (K : PySem.W.Frag) (τs : List Ty) : Ty := ⟨fun v H => ∃ a xs, v = .ref a ∧ SqL K H a xs ∧ AllY τs xs H, fun e ⟨a, xs, h1, h2, h3⟩ => ⟨a, xs, h1, e.seq h2, h3.up e⟩⟩
def tTup' (K : PySem.W.Frag) (τs : List Ty) : Ty := ⟨fun v H => ∃ a xs, v = .ref a ∧ SqT K H a xs ∧ AllY τs xs H, fun e ⟨a, xs, h1, h2, h3⟩ => ⟨a, xs, h1, Same.seqT e h2, h3.up e⟩⟩
theorem dp_lst {K : PySem.W.Frag} {H : Hp} {v : V} {ds : List PyData} (h : Dp K H v (.list ds)) : ∃ a xs, v = .ref a ∧ SqL K H a xs ∧ DpAll K H xs ds := by
  cases h with
  | lst h1 h2 => exact ⟨_, _, rfl, h1, h2⟩
theorem dp_tup {K : PySem.W.Frag} {H : Hp} {v : V} {ds : List PyData} (h : Dp K H v (.tuple ds)) : ∃ a xs, v = .ref a ∧ SqT K H a xs ∧ DpAll K H xs ds := by
  cases h with
  | tup h1 h2 => exact ⟨_, _, rfl, h1, h2⟩
theorem dp_int {K : PySem.W.Frag} {H : Hp} {v : V} {i : Int} (h : Dp K H v (.int i)) : v = .int i := by cases h; rfl
theorem dp_bool {K : PySem.W.Frag} {H : Hp} {v : V} {b : Bool} (h : Dp K H v (.bool b)) : v = .bl b := by cases h; rfl
theorem dpAll_ints {K : PySem.W.Frag} {H : Hp} : ∀ {is : List Int} {vs : List V}, DpAll K H vs (is.map PyData.int) → vs = is.map V.int
  | [], _, .nil => rfl
  | i :: is, _, .cons h a => by rw [dp_int h, dpAll_ints a]; rfl
theorem dpAll_bools {K : PySem.W.Frag} {H : Hp} : ∀ {is : List Bool} {vs : List V}, DpAll K H vs (is.map PyData.bool) → vs = is.map V.bl
  | [], _, .nil => rfl
  | i :: is, _, .cons h a => by rw [dp_bool h, dpAll_bools a]; rfl
theorem ints_dpAll {K : PySem.W.Frag} {H : Hp} : ∀ (is : List Int), DpAll K H (is.map V.int) (is.map PyData.int)
  | [] => .nil
  | i :: is => .cons (.int i) (ints_dpAll is)
theorem dpAll_len {K : PySem.W.Frag} {H : Hp} : ∀ {vs : List V} {ds : List PyData}, DpAll K H vs ds → vs.length = ds.length
  | _, _, .nil => rfl
  | _, _, .cons _ a => by simp [dpAll_len a]
theorem dpAll_get {K : PySem.W.Frag} {H : Hp} : ∀ {vs : List V} {ds : List PyData} {i : Nat} {d : PyData}, DpAll K H vs ds → ds[i]? = some d → ∃ v, vs[i]? = some v ∧ Dp K H v d
  | _, _, _, _, .nil, e => by simp at e
  | _, _, 0, _, .cons h _, e => by simp at e; subst e; exact ⟨_, rfl, h⟩
  | _, _, i + 1, d, .cons _ a, e => by
    obtain ⟨v, h1, h2⟩ := dpAll_get (i := i) (d := d) a (by simpa using e)
    exact ⟨v, by simpa using h1, h2⟩
theorem dpAll_at {K : PySem.W.Frag} {H : Hp} : ∀ {vs : List V} {ds : List PyData} {i : Nat} {v : V}, DpAll K H vs ds → vs[i]? = some v → ∃ d, ds[i]? = some d ∧ Dp K H v d
  | _, _, _, _, .nil, e => by simp at e
  | _, _, 0, _, .cons h _, e => by simp at e; subst e; exact ⟨_, rfl, h⟩
  | _, _, i + 1, v, .cons _ a, e => by
    obtain ⟨d, h1, h2⟩ := dpAll_at (i := i) (v := v) a (by simpa using e)
    exact ⟨d, by simpa using h1, h2⟩
theorem dpAll_app {K : PySem.W.Frag} {H : Hp} : ∀ {vs ws : List V} {ds es : List PyData}, DpAll K H vs ds → DpAll K H ws es → DpAll K H (vs ++ ws) (ds ++ es)
  | _, _, _, _, .nil, h => h
  | _, _, _, _, .cons h a, h' => .cons h (dpAll_app a h')
theorem dpAll_drop {K : PySem.W.Frag} {H : Hp} : ∀ (n : Nat) {vs : List V} {ds : List PyData}, DpAll K H vs ds → DpAll K H (vs.drop n) (ds.drop n)
  | 0, _, _, h => h
  | _ + 1, _, _, .nil => .nil
  | n + 1, _, _, .cons _ a => dpAll_drop n a
theorem dpAll_take {K : PySem.W.Frag} {H : Hp} : ∀ (n : Nat) {vs : List V} {ds : List PyData}, DpAll K H vs ds → DpAll K H (vs.take n) (ds.take n)
  | 0, _, _, _ => .nil
  | _ + 1, _, _, .nil => .nil
  | n + 1, _, _, .cons h a => .cons h (dpAll_take n a)

/-! ### names -/
abbrev Cxt := List (Option Ty)
structure Env (Γ : Cxt) (σ : L2.St) (H : Hp) : Prop where
  len : σ.length = Γ.length
  at_ : ∀ (i : Nat) (τ : Ty), Γ[i]? = some (some τ) → ∃ v, σ[i]? = some (some v) ∧ τ.is v H
theorem Env.up {Γ : Cxt} {σ : L2.St} {H H' : Hp} (e : Env Γ σ H) (s : Same H H') : Env Γ σ H' := ⟨e.len, fun i τ h => let ⟨v, h1, h2⟩ := e.at_ i τ h; ⟨v, h1, τ.up s h2⟩⟩
theorem Env.set {Γ : Cxt} {σ : L2.St} {H : Hp} {i : Nat} {τ : Ty} {v : V} (e : Env Γ σ H) (h : τ.is v H) : Env (Γ.set i (some τ)) (σ.set i (some v)) H := by
  refine ⟨by simp [e.len], fun j τ' hj => ?_⟩
  by_cases ij : i = j
  · subst ij
    by_cases hi : i < Γ.length
    · rw [List.getElem?_set_self hi] at hj
      cases hj
      exact ⟨v, List.getElem?_set_self (by rw [e.len]; exact hi), h⟩
    · rw [List.getElem?_eq_none (by simp; omega)] at hj
      cases hj
  · rw [List.getElem?_set_ne ij] at hj
    obtain ⟨v', h1, h2⟩ := e.at_ j τ' hj
    exact ⟨v', by rw [List.getElem?_set_ne ij]; exact h1, h2⟩
def wipeC (Γ : Cxt) : List Nat → Cxt
  | [] => Γ
  | i :: r => (wipeC Γ r).set i none
theorem wipe_cons (σ : L2.St) (i : Nat) (r : List Nat) : wipe σ (i :: r) = (wipe σ r).set i none := rfl
theorem Env.wipe {Γ : Cxt} {σ : L2.St} {H : Hp} (e : Env Γ σ H) : ∀ vs : List Nat, Env (wipeC Γ vs) (L2.wipe σ vs) H
  | [] => e
  | i :: r => by
    have ih := e.wipe r
    rw [wipe_cons]
    refine ⟨by simp [wipeC, ih.len], fun j τ hj => ?_⟩
    have hj' : ((wipeC Γ r).set i none)[j]? = some (some τ) := hj
    by_cases ij : i = j
    · subst ij
      by_cases hi : i < (wipeC Γ r).length
      · rw [List.getElem?_set_self hi] at hj'; cases hj'
      · rw [List.getElem?_eq_none (by simp; omega)] at hj'; cases hj'
    · rw [List.getElem?_set_ne ij] at hj'
      obtain ⟨v, h1, h2⟩ := ih.at_ j τ hj'
      exact ⟨v, by rw [List.getElem?_set_ne ij]; exact h1, h2⟩
theorem set_comm {α : Type} (l : List α) (i j : Nat) (a b : α) (h : i ≠ j) : (l.set i a).set j b = (l.set j b).set i a := List.set_comm _ _ h
theorem wipe_set {i : Nat} {a : Option V} : ∀ {vs : List Nat} {σ : L2.St}, i ∈ vs → wipe (σ.set i a) vs = wipe σ vs
  | j :: r, σ, h => by
    rw [wipe_cons, wipe_cons]
    by_cases e : i = j
    · subst e
      by_cases hr : i ∈ r
      · rw [wipe_set hr]
      · have go : ∀ {r : List Nat} {σ : L2.St}, i ∉ r → wipe (σ.set i a) r = (wipe σ r).set i a := by
          intro r
          induction r with
          | nil => intro σ _; rfl
          | cons k r ih =>
            intro σ hk
            rw [wipe_cons, wipe_cons, ih fun z => hk (List.mem_cons_of_mem _ z)]
            exact set_comm _ _ _ _ _ fun e => hk (by rw [e]; exact List.mem_cons_self)
        rw [go hr, List.set_set]
    · rw [wipe_set ((List.mem_cons.mp h).resolve_left e)]

/-! ### typed readings -/
def tY (Γ : Cxt) (τ : Ty) : TE := fun σ H Q => Env Γ σ H ∧ ∀ v H', Same H H' → τ.is v H' → Q v H'
def tYT (Γ : Cxt) (b : Bool) : TT := fun σ H Q => Env Γ σ H ∧ ∀ H', Same H H' → Q b H'
def tYA (Γ : Cxt) (τs : List Ty) : TA := fun σ H Q => Env Γ σ H ∧ ∀ vs H', Same H H' → AllY τs vs H' → Q vs H'
/-- always hands back -/
def tYR (Γ : Cxt) (τ : Ty) : TS := fun D σ H => Env Γ σ H ∧ ∀ v H', Same H H' → τ.is v H' → D.rt v H'
/-- goes on -/
def tYN (Γ Γ' : Cxt) : TS := fun D σ H => Env Γ σ H ∧ ∀ σ' H', Same H H' → Env Γ' σ' H' → D.nx σ' H'
section
variable {X : Cx}
theorem PE.imp {e : Expr} {t t' : TE} (h : PE X e t) (w : ∀ σ H Q, t' σ H Q → t σ H Q) : PE X e t' := ⟨fun pins s σ H Q I q => h.run pins s σ H Q I (w _ _ _ q)⟩
theorem PT.imp {e : Expr} {t t' : TT} (h : PT X e t) (w : ∀ σ H Q, t' σ H Q → t σ H Q) : PT X e t' := ⟨fun pins s σ H Q I q => h.run pins s σ H Q I (w _ _ _ q)⟩
theorem PW.imp {e : Expr} {t t' : TT} (h : PW X e t) (w : ∀ σ H Q, t' σ H Q → t σ H Q) : PW X e t' := ⟨fun wh pins s σ H Q I q => h.run wh pins s σ H Q I (w _ _ _ q)⟩
theorem PA.imp {es : List Expr} {t t' : TA} (h : PA X es t) (w : ∀ σ H Q, t' σ H Q → t σ H Q) : PA X es t' := ⟨fun pos pins s σ H Q I q => h.run pos pins s σ H Q I (w _ _ _ q)⟩
theorem PS.imp {st : Stmt} {t t' : TS} (h : PS X st t) (w : ∀ D σ H, t' D σ H → t D σ H) : PS X st t' := ⟨fun pins s σ H D I q => h.run pins s σ H D I (w _ _ _ q)⟩
theorem PSs.imp {st : List Stmt} {t t' : TS} (h : PSs X st t) (w : ∀ D σ H, t' D σ H → t D σ H) : PSs X st t' := ⟨fun pins s σ H D I q => h.run pins s σ H D I (w _ _ _ q)⟩
theorem PI.imp {tg it : Expr} {t t' : TI} (h : PI X tg it t) (w : ∀ σ H R, t' σ H R → t σ H R) : PI X tg it t' := ⟨fun pins s σ H R I q => h.run pins s σ H R I (w _ _ _ q)⟩
theorem PTs.imp {es : List Expr} {t t' : TT} (h : PTs X es t) (w : ∀ σ H Q, t' σ H Q → t σ H Q) : PTs X es t' := ⟨fun pins s σ H Q I q => h.run pins s σ H Q I (w _ _ _ q)⟩
abbrev PY (X : Cx) (e : Expr) (Γ : Cxt) (τ : Ty) : Prop := PE X e (tY Γ τ)
abbrev PYT (X : Cx) (e : Expr) (Γ : Cxt) (b : Bool) : Prop := PT X e (tYT Γ b)
abbrev PYA (X : Cx) (es : List Expr) (Γ : Cxt) (τs : List Ty) : Prop := PA X es (tYA Γ τs)
variable {Γ Γ' : Cxt} {τ τ' : Ty} {e a b c : Expr} {pos : Pos}
theorem PY.to (h : PY X e Γ τ) (q : ∀ v H, τ.is v H → τ'.is v H) : PY X e Γ τ' := PE.imp h fun σ H Q ⟨g, k⟩ => ⟨g, fun v H' s hv => k v H' s (q v H' hv)⟩
theorem PY.eq (h : PY X e Γ τ) (q : τ = τ') : PY X e Γ τ' := q ▸ h
theorem PYT.eq {k k' : Bool} (h : PYT X e Γ k) (q : k = k') : PYT X e Γ k' := q ▸ h
theorem PY.int {K : PySem.W.Frag} {i : Int} (h : PY X e Γ (tD K (.int i))) : PY X e Γ (tI i) := PY.to h fun _ _ q => dp_int q
theorem PY.bool {K : PySem.W.Frag} {i : Bool} (h : PY X e Γ (tD K (.bool i))) : PY X e Γ (tBo i) := PY.to h fun _ _ q => dp_bool q
theorem PY.ofInt {K : PySem.W.Frag} {i : Int} (h : PY X e Γ (tI i)) : PY X e Γ (tD K (.int i)) := PY.to h fun _ _ q => by rw [show _ = V.int i from q]; exact .int i
theorem PY.ofBool {K : PySem.W.Frag} {i : Bool} (h : PY X e Γ (tBo i)) : PY X e Γ (tD K (.bool i)) := PY.to h fun _ _ q => by rw [show _ = V.bl i from q]; exact .bl i
theorem PY.ofNone {K : PySem.W.Frag} (h : PY X e Γ tNo) : PY X e Γ (tD K .none) := PY.to h fun _ _ q => by rw [show _ = V.non from q]; exact .non

/-! ### names, constants -/
theorem yv (i : Nat) {x : Str} (hN : X.N[i]? = some x := by rfl) (hΓ : Γ[i]? = some (some τ) := by rfl) (hv : Vis X.env.scope x := by first | exact Or.inl rfl | exact Or.inr (Or.inl rfl) | exact Or.inr (Or.inr rfl))
    (hd : (x == ("__debug__" : Str)) = false := by decide) (hcd : (x == ("__classdict__" : Str)) = false := by decide) : PY X (.Name x pos) Γ τ :=
  PE.imp (pe_var hN hv hd hcd) fun σ H Q ⟨g, k⟩ => by
    obtain ⟨v, h1, h2⟩ := g.at_ i τ hΓ
    exact ⟨v, h1, k v H (Same.refl H) h2⟩
theorem yc {v : V} (h : PE X e (tC v)) : PY X e Γ (tV v) := PE.imp h fun σ H Q ⟨_, k⟩ => k v H (Same.refl H) rfl
theorem y_int {i : Int} {j : Nat} : PY X (.Constant (.int i) j pos) Γ (tI i) := yc pe_int
theorem y_bl {i : Bool} {j : Nat} : PY X (.Constant (.bool i) j pos) Γ (tBo i) := yc pe_bl
theorem y_non {j : Nat} : PY X (.Constant .none j pos) Γ tNo := yc pe_non
theorem y_glob {x : Str} {v : V} {u : Value} (hg : Gl X x) (hm : X.mg x = some u) (r : RelV v u) (hd : (x == ("__debug__" : Str)) = false := by decide) : PY X (.Name x pos) Γ (tV v) := yc (pe_glob hg hm r hd)

/-! ### operators -/
theorem y_op {op : Operator} {r : R2} {σ1 σ2 : Ty} (ho : OpR X (binaryOp op) r) (ha : PY X a Γ σ1) (hb : PY X b Γ σ2) (q : ∀ x y H (Q : VK), σ1.is x H → σ2.is y H → (∀ v H', Same H H' → τ.is v H' → Q v H') → r x y H Q) : PY X (.BinOp a op b pos) Γ τ :=
  PE.imp (pe_op ho ha hb) fun σ H Q ⟨g, k⟩ => ⟨g, fun x H1 s1 hx => ⟨g.up s1, fun y H2 s2 hy => q x y H2 Q (σ1.up s2 hx) hy fun v H' s3 hv => k v H' ((s1.trans s2).trans s3) hv⟩⟩
theorem y_add {i j : Int} (ha : PY X a Γ (tI i)) (hb : PY X b Γ (tI j)) : PY X (.BinOp a .Add b pos) Γ (tI (i + j)) := y_op op_add ha hb fun x y H Q hx hy k => ⟨i, j, hx, hy, k _ H (Same.refl H) rfl⟩
theorem y_sub {i j : Int} (ha : PY X a Γ (tI i)) (hb : PY X b Γ (tI j)) : PY X (.BinOp a .Sub b pos) Γ (tI (i - j)) := y_op op_sub ha hb fun x y H Q hx hy k => ⟨i, j, hx, hy, k _ H (Same.refl H) rfl⟩
/-- a comparison: as a value, as a test -/
structure CmpY (X : Cx) (op : CmpOp) (a b : Expr) (Γ : Cxt) (k : Bool) : Prop where
  val : ∀ pos : Pos, PY X (.Compare a [op] [b] pos) Γ (tBo k)
  tst : ∀ pos : Pos, PYT X (.Compare a [op] [b] pos) Γ k
theorem CmpY.eq {op : CmpOp} {k k' : Bool} (h : CmpY X op a b Γ k) (q : k = k') : CmpY X op a b Γ k' := q ▸ h
theorem c_by {op : CmpOp} {r : R2} {σ1 σ2 : Ty} {k : Bool} (ho : OpR X (compareOp op) r) (hm : behindInMarks op b = false) (ha : PY X a Γ σ1) (hb : PY X b Γ σ2)
    (q : ∀ x y H (Q : VK), σ1.is x H → σ2.is y H → (∀ v H', Same H H' → (tBo k).is v H' → Q v H') → r x y H Q) : CmpY X op a b Γ k where
  val := fun pos => PE.imp (pe_cmpR ho ha hb hm) fun σ H Q ⟨g, k⟩ => ⟨g, fun x H1 s1 hx => ⟨g.up s1, fun y H2 s2 hy => q x y H2 Q (σ1.up s2 hx) hy fun v H' s3 hv => k v H' ((s1.trans s2).trans s3) hv⟩⟩
  tst := fun pos => PT.imp (pt_cmpR ho ha hb hm) fun σ H Q ⟨g, k'⟩ => ⟨g, fun x H1 s1 hx => ⟨g.up s1, fun y H2 s2 hy => q x y H2 _ (σ1.up s2 hx) hy fun v H' s3 hv => ⟨k, hv, k' H' ((s1.trans s2).trans s3)⟩⟩⟩
/-- an expression that gives True or False, as a test -/
theorem y_t {k : Bool} (h : PY X e Γ (tBo k)) (he : ∀ w : Sem Value, isTrue e X.env w = (do let v ← w; standAt e.pos; holding [v] (truthy v)) := by intro _; rfl) : PYT X e Γ k := PT.imp (pt_val h he) fun σ H Q ⟨g, q⟩ => ⟨g, fun v H' s hv => ⟨k, hv, q H' s⟩⟩
theorem q_i0 {g : Int → Int → V} {i j : Int} (x y : V) (H : Hp) (Q : VK) (hx : (tI i).is x H) (hy : (tI j).is y H) (k : ∀ v H', Same H H' → (tV (g i j)).is v H' → Q v H') : rI0 g x y H Q := ⟨i, j, hx, hy, k _ H (Same.refl H) rfl⟩
theorem c_lt {i j : Int} (ha : PY X a Γ (tI i)) (hb : PY X b Γ (tI j)) : CmpY X .Lt a b Γ (decide (i < j)) := c_by op_lt (nomark _) ha hb (q_i0 (g := fun i j => .bl (decide (i < j))))
theorem c_le {i j : Int} (ha : PY X a Γ (tI i)) (hb : PY X b Γ (tI j)) : CmpY X .LtE a b Γ (decide (i ≤ j)) := c_by op_le (nomark _) ha hb (q_i0 (g := fun i j => .bl (decide (i ≤ j))))
theorem c_gt {i j : Int} (ha : PY X a Γ (tI i)) (hb : PY X b Γ (tI j)) : CmpY X .Gt a b Γ (decide (j < i)) := c_by op_gt (nomark _) ha hb (q_i0 (g := fun i j => .bl (decide (j < i))))
theorem c_ge {i j : Int} (ha : PY X a Γ (tI i)) (hb : PY X b Γ (tI j)) : CmpY X .GtE a b Γ (decide (j ≤ i)) := c_by op_ge (nomark _) ha hb (q_i0 (g := fun i j => .bl (decide (j ≤ i))))
theorem c_eq {x y : V} (hs : scal x y = true) (ha : PY X a Γ (tV x)) (hb : PY X b Γ (tV y)) : CmpY X .Eq a b Γ (decide (x = y)) :=
  c_by op_eq (nomark _) ha hb fun x' y' H Q hx hy k => by rw [show x' = x from hx, show y' = y from hy]; exact ⟨hs, k _ H (Same.refl H) rfl⟩
theorem c_ne {x y : V} (hs : scal x y = true) (ha : PY X a Γ (tV x)) (hb : PY X b Γ (tV y)) : CmpY X .NotEq a b Γ (!decide (x = y)) :=
  c_by op_ne (nomark _) ha hb fun x' y' H Q hx hy k => by rw [show x' = x from hx, show y' = y from hy]; exact ⟨hs, k _ H (Same.refl H) rfl⟩
theorem V_int_eq (i j : Int) : decide (V.int i = V.int j) = decide (i = j) := decide_eq_decide.mpr ⟨fun e => V.int.inj e, fun e => by rw [e]⟩
theorem c_eqI {i j : Int} (ha : PY X a Γ (tI i)) (hb : PY X b Γ (tI j)) : CmpY X .Eq a b Γ (decide (i = j)) := CmpY.eq (c_eq rfl ha hb) (V_int_eq i j)
theorem c_neI {i j : Int} (ha : PY X a Γ (tI i)) (hb : PY X b Γ (tI j)) : CmpY X .NotEq a b Γ (!decide (i = j)) := CmpY.eq (c_ne rfl ha hb) (by rw [V_int_eq])
theorem c_isN {x : V} (ha : PY X a Γ (tV x)) (hb : PY X b Γ tNo) : CmpY X .Is a b Γ (decide (x = .non)) :=
  c_by op_isN (nomark _) ha hb fun x' y' H Q hx hy k => by rw [show x' = x from hx]; exact ⟨hy, k _ H (Same.refl H) rfl⟩
theorem c_notN {x : V} (ha : PY X a Γ (tV x)) (hb : PY X b Γ tNo) : CmpY X .IsNot a b Γ (!decide (x = .non)) :=
  c_by op_notN (nomark _) ha hb fun x' y' H Q hx hy k => by rw [show x' = x from hx]; exact ⟨hy, k _ H (Same.refl H) rfl⟩
/-- a reference is not None -/
theorem c_isNr {σ1 : Ty} (ref : ∀ v H, σ1.is v H → v ≠ .non) (ha : PY X a Γ σ1) (hb : PY X b Γ tNo) : CmpY X .Is a b Γ false :=
  c_by op_isN (nomark _) ha hb fun x' y' H Q hx hy k => ⟨hy, by rw [decide_eq_false (ref _ _ hx)]; exact k _ H (Same.refl H) rfl⟩
theorem c_notNr {σ1 : Ty} (ref : ∀ v H, σ1.is v H → v ≠ .non) (ha : PY X a Γ σ1) (hb : PY X b Γ tNo) : CmpY X .IsNot a b Γ true :=
  c_by op_notN (nomark _) ha hb fun x' y' H Q hx hy k => ⟨hy, by rw [decide_eq_false (ref _ _ hx)]; exact k _ H (Same.refl H) rfl⟩
theorem c_isnotB {x y : Bool} (ha : PY X a Γ (tBo x)) (hb : PY X b Γ (tBo y)) : CmpY X .IsNot a b Γ (!decide (x = y)) :=
  c_by op_isnot_bl (nomark _) ha hb fun x' y' H Q hx hy k => ⟨x, y, hx, hy, k _ H (Same.refl H) rfl⟩
/-- x in xs, of whole numbers -/
theorem inV_ints (i : Int) (is : List Int) : inV (.int i) (is.map V.int) = decide (i ∈ is) := by
  unfold inV
  induction is with
  | nil => rfl
  | cons j is ih =>
    rw [List.map_cons, List.any_cons, ih]
    have e : eqV (.int j) (.int i) = decide (i = j) := by
      show _ = _
      by_cases h : i = j
      · subst h; simp [eqV]
      · simp [eqV, h, Ne.symm h]
    rw [e]
    by_cases h : i = j <;> simp [h]
theorem flat_ints (is : List Int) : (is.map V.int).all flatV = true := by
  rw [List.all_map]; exact List.all_eq_true.mpr fun _ _ => rfl
theorem c_inI {i : Int} {is : List Int} (ha : PY X a Γ (tI i)) (hb : PY X b Γ (tD X.K (.list (is.map .int)))) (hm : behindInMarks .In b = false := by rfl) : CmpY X .In a b Γ (decide (i ∈ is)) :=
  c_by op_in_seq hm ha hb fun x' y' H Q hx hy k => by
    obtain ⟨p, xs, rfl, h1, h2⟩ := dp_lst hy
    rw [dpAll_ints h2] at h1
    rw [show x' = V.int i from hx]
    exact ⟨p, _, rfl, .inl h1, rfl, flat_ints is, by rw [if_neg (by decide), inV_ints]; exact k _ H (Same.refl H) rfl⟩
theorem c_ninI {i : Int} {is : List Int} (ha : PY X a Γ (tI i)) (hb : PY X b Γ (tD X.K (.list (is.map .int)))) (hm : behindInMarks .NotIn b = false := by rfl) : CmpY X .NotIn a b Γ (!decide (i ∈ is)) :=
  c_by op_notIn_seq hm ha hb fun x' y' H Q hx hy k => by
    obtain ⟨p, xs, rfl, h1, h2⟩ := dp_lst hy
    rw [dpAll_ints h2] at h1
    rw [show x' = V.int i from hx]
    exact ⟨p, _, rfl, .inl h1, rfl, flat_ints is, by rw [if_pos rfl, inV_ints]; exact k _ H (Same.refl H) rfl⟩
theorem c_inT {i : Int} {is : List Int} (ha : PY X a Γ (tI i)) (hb : PY X b Γ (tD X.K (.tuple (is.map .int)))) (hm : behindInMarks .In b = false := by rfl) : CmpY X .In a b Γ (decide (i ∈ is)) :=
  c_by op_in_seq hm ha hb fun x' y' H Q hx hy k => by
    obtain ⟨p, xs, rfl, h1, h2⟩ := dp_tup hy
    rw [dpAll_ints h2] at h1
    rw [show x' = V.int i from hx]
    exact ⟨p, _, rfl, .inr h1, rfl, flat_ints is, by rw [if_neg (by decide), inV_ints]; exact k _ H (Same.refl H) rfl⟩
theorem c_ninT {i : Int} {is : List Int} (ha : PY X a Γ (tI i)) (hb : PY X b Γ (tD X.K (.tuple (is.map .int)))) (hm : behindInMarks .NotIn b = false := by rfl) : CmpY X .NotIn a b Γ (!decide (i ∈ is)) :=
  c_by op_notIn_seq hm ha hb fun x' y' H Q hx hy k => by
    obtain ⟨p, xs, rfl, h1, h2⟩ := dp_tup hy
    rw [dpAll_ints h2] at h1
    rw [show x' = V.int i from hx]
    exact ⟨p, _, rfl, .inr h1, rfl, flat_ints is, by rw [if_pos rfl, inV_ints]; exact k _ H (Same.refl H) rfl⟩
/-- data compared, looked for -/
theorem c_eqD {d e : PyData} (hu : X.A.units + 64 < cLine) (sd : SeqAt.shaped d = true) (se : SeqAt.shaped e = true) (ha : PY X a Γ (tD X.K d)) (hb : PY X b Γ (tD X.K e)) : CmpY X .Eq a b Γ (PyData.eqv d e) :=
  c_by (op_eqD hu) (nomark _) ha hb fun x' y' H Q hx hy k => ⟨d, e, hx, hy, sd, se, k _ H (Same.refl H) rfl⟩
theorem c_neD {d e : PyData} (hu : X.A.units + 64 < cLine) (sd : SeqAt.shaped d = true) (se : SeqAt.shaped e = true) (ha : PY X a Γ (tD X.K d)) (hb : PY X b Γ (tD X.K e)) : CmpY X .NotEq a b Γ (!PyData.eqv d e) :=
  c_by (op_neD hu) (nomark _) ha hb fun x' y' H Q hx hy k => ⟨d, e, hx, hy, sd, se, k _ H (Same.refl H) rfl⟩
theorem c_inD {d : PyData} {ds : List PyData} (hu : X.A.units + 65 < cLine) (sd : SeqAt.shaped d = true) (se : SeqAt.shaped (.list ds) = true) (ha : PY X a Γ (tD X.K d)) (hb : PY X b Γ (tD X.K (.list ds))) (hm : behindInMarks .In b = false := by rfl) : CmpY X .In a b Γ (ds.any fun z => PyData.eqv z d) :=
  c_by (op_inD hu) hm ha hb fun x' y' H Q hx hy k => ⟨d, ds, hx, hy, sd, se, k _ H (Same.refl H) rfl⟩
/-- a <= b <= c -/
theorem y_chain {i j k : Int} (ha : PY X a Γ (tI i)) (hb : PY X b Γ (tI j)) (hc : PY X c Γ (tI k)) (hm : lastMarks [CmpOp.LtE, CmpOp.LtE] [b, c] = false := by rfl) : PY X (.Compare a [.LtE, .LtE] [b, c] pos) Γ (tBo (decide (i ≤ j) && decide (j ≤ k))) :=
  PE.imp (pe_chain op_le op_le ha hb hc hm) fun σ H Q ⟨g, q⟩ => ⟨g, fun x H1 s1 hx => ⟨g.up s1, fun y H2 s2 hy => ⟨i, j, hx, hy, _, rfl, by
    by_cases l : i ≤ j
    · rw [if_pos (decide_eq_true l)]
      exact ⟨g.up (s1.trans s2), fun z H3 s3 hz => ⟨j, k, hy, hz, by
        have := q (.bl (decide (i ≤ j) && decide (j ≤ k))) H3 ((s1.trans s2).trans s3) rfl
        rwa [decide_eq_true l, Bool.true_and] at this⟩⟩
    · rw [if_neg (by simp [l])]
      have := q (.bl (decide (i ≤ j) && decide (j ≤ k))) H2 (s1.trans s2) rfl
      rwa [decide_eq_false l, Bool.false_and] at this⟩⟩⟩
/-- a <= b < c -/
theorem y_chainLt {i j k : Int} (ha : PY X a Γ (tI i)) (hb : PY X b Γ (tI j)) (hc : PY X c Γ (tI k)) (hm : lastMarks [CmpOp.LtE, CmpOp.Lt] [b, c] = false := by rfl) : PY X (.Compare a [.LtE, .Lt] [b, c] pos) Γ (tBo (decide (i ≤ j) && decide (j < k))) :=
  PE.imp (pe_chain op_le op_lt ha hb hc hm) fun σ H Q ⟨g, q⟩ => ⟨g, fun x H1 s1 hx => ⟨g.up s1, fun y H2 s2 hy => ⟨i, j, hx, hy, _, rfl, by
    by_cases l : i ≤ j
    · rw [if_pos (decide_eq_true l)]
      exact ⟨g.up (s1.trans s2), fun z H3 s3 hz => ⟨j, k, hy, hz, by
        have := q (.bl (decide (i ≤ j) && decide (j < k))) H3 ((s1.trans s2).trans s3) rfl
        rwa [decide_eq_true l, Bool.true_and] at this⟩⟩
    · rw [if_neg (by simp [l])]
      have := q (.bl (decide (i ≤ j) && decide (j < k))) H2 (s1.trans s2) rfl
      rwa [decide_eq_false l, Bool.false_and] at this⟩⟩⟩

/-! ### and, or, not, if .. else -/
variable {rest : List Expr} {k l : Bool}
/-- a chain of and, or, as a test -/
abbrev PYW (X : Cx) (e : Expr) (Γ : Cxt) (b : Bool) : Prop := PW X e (tYT Γ b)
theorem w_and (ha : PYT X a Γ k) (hb : k = true → PYW X (.BoolOp .And (b :: rest) pos) Γ l) : PYW X (.BoolOp .And (a :: b :: rest) pos) Γ (k && l) := by
  cases k with
  | true =>
    exact PW.imp (pw_and ha (hb rfl)) fun σ H Q ⟨g, q⟩ => ⟨g, fun H1 s1 => by
      show tYT Γ l σ H1 Q
      exact ⟨g.up s1, fun H2 s2 => q H2 (s1.trans s2)⟩⟩
  | false =>
    refine ⟨fun wh pins s σ H Q I ⟨g, q⟩ => ?_⟩
    exact (pw_and (tB' := fun _ _ _ => False) ha ⟨fun _ _ _ _ _ _ _ h => h.elim⟩).run wh pins s σ H Q I ⟨g, fun H1 s1 => by show Q false H1; exact q H1 s1⟩
theorem w_or (ha : PYT X a Γ k) (hb : k = false → PYW X (.BoolOp .Or (b :: rest) pos) Γ l) : PYW X (.BoolOp .Or (a :: b :: rest) pos) Γ (k || l) := by
  cases k with
  | false =>
    exact PW.imp (pw_or ha (hb rfl)) fun σ H Q ⟨g, q⟩ => ⟨g, fun H1 s1 => by
      show tYT Γ l σ H1 Q
      exact ⟨g.up s1, fun H2 s2 => q H2 (s1.trans s2)⟩⟩
  | true =>
    refine ⟨fun wh pins s σ H Q I ⟨g, q⟩ => ?_⟩
    exact (pw_or (tB' := fun _ _ _ => False) ha ⟨fun _ _ _ _ _ _ _ h => h.elim⟩).run wh pins s σ H Q I ⟨g, fun H1 s1 => by show Q true H1; exact q H1 s1⟩
theorem w_and1 (ha : PYT X a Γ k) : PYW X (.BoolOp .And [a] pos) Γ k := pw_and1 ha
theorem w_or1 (ha : PYT X a Γ k) : PYW X (.BoolOp .Or [a] pos) Γ k := pw_or1 ha
theorem t_w (h : PYW X e Γ k) : PYT X e Γ k := h.pt
theorem t_not (ha : PYT X a Γ k) : PYT X (.UnaryOp .Not a pos) Γ (!k) := PT.imp (pt_not ha) fun σ H Q ⟨g, q⟩ => ⟨g, fun H1 s1 => q H1 s1⟩
theorem y_and (ha : PY X a Γ (tBo k)) (hb : k = true → PY X (.BoolOp .And (b :: rest) pos) Γ (tBo l)) : PY X (.BoolOp .And (a :: b :: rest) pos) Γ (tBo (k && l)) := by
  cases k with
  | true =>
    exact PE.imp (pe_and ha (hb rfl)) fun σ H Q ⟨g, q⟩ => ⟨g, fun v H1 s1 hv => ⟨true, hv, by
      rw [if_pos rfl]
      exact ⟨g.up s1, fun v2 H2 s2 h2 => q v2 H2 (s1.trans s2) h2⟩⟩⟩
  | false =>
    refine ⟨fun pins s σ H Q I ⟨g, q⟩ => ?_⟩
    exact (pe_and (tb := fun _ _ _ => False) ha ⟨fun _ _ _ _ _ _ h => h.elim⟩).run pins s σ H Q I ⟨g, fun v H1 s1 hv => ⟨false, hv, by rw [if_neg (by decide)]; exact q _ H1 s1 rfl⟩⟩
theorem y_or (ha : PY X a Γ (tBo k)) (hb : k = false → PY X (.BoolOp .Or (b :: rest) pos) Γ (tBo l)) : PY X (.BoolOp .Or (a :: b :: rest) pos) Γ (tBo (k || l)) := by
  cases k with
  | false =>
    exact PE.imp (pe_or ha (hb rfl)) fun σ H Q ⟨g, q⟩ => ⟨g, fun v H1 s1 hv => ⟨false, hv, by
      rw [if_neg (by decide)]
      exact ⟨g.up s1, fun v2 H2 s2 h2 => q v2 H2 (s1.trans s2) h2⟩⟩⟩
  | true =>
    refine ⟨fun pins s σ H Q I ⟨g, q⟩ => ?_⟩
    exact (pe_or (tb := fun _ _ _ => False) ha ⟨fun _ _ _ _ _ _ h => h.elim⟩).run pins s σ H Q I ⟨g, fun v H1 s1 hv => ⟨true, hv, by rw [if_pos rfl]; exact q _ H1 s1 rfl⟩⟩
theorem y_one {op : BoolOp} (ha : PY X a Γ τ) : PY X (.BoolOp op [a] pos) Γ τ := pe_one ha
theorem y_not (ha : PY X a Γ (tBo k)) : PY X (.UnaryOp .Not a pos) Γ (tBo (!k)) := PE.imp (pe_not ha) fun σ H Q ⟨g, q⟩ => ⟨g, fun v H1 s1 hv => ⟨k, hv, q _ H1 s1 rfl⟩⟩
theorem y_if (hc : PYT X c Γ k) (ha : k = true → PY X a Γ τ) (hb : k = false → PY X b Γ τ) : PY X (.IfExp c a b pos) Γ τ := by
  refine ⟨fun pins s σ H Q I ⟨g, q⟩ => ?_⟩
  cases k with
  | true => exact (pe_ifExp (tb := fun _ _ _ => False) hc (ha rfl) ⟨fun _ _ _ _ _ _ h => h.elim⟩).run pins s σ H Q I ⟨g, fun H1 s1 => by show tY Γ τ σ H1 Q; exact ⟨g.up s1, fun v2 H2 s2 h2 => q v2 H2 (s1.trans s2) h2⟩⟩
  | false => exact (pe_ifExp (ta := fun _ _ _ => False) hc ⟨fun _ _ _ _ _ _ h => h.elim⟩ (hb rfl)).run pins s σ H Q I ⟨g, fun H1 s1 => by show tY Γ τ σ H1 Q; exact ⟨g.up s1, fun v2 H2 s2 h2 => q v2 H2 (s1.trans s2) h2⟩⟩

/-! ### argument lists, displays -/
variable {es : List Expr} {τs : List Ty}
theorem ya_nil : PYA X [] Γ [] := PA.imp pa_nil fun σ H Q ⟨_, q⟩ => q [] H (Same.refl H) .nil
theorem ya_cons (h : PY X e Γ τ) (hr : PYA X es Γ τs) (hs : starEach (e :: es) X.env = (false, eval e X.env) :: starEach es X.env := by rfl) : PYA X (e :: es) Γ (τ :: τs) := by
  refine PA.imp (t := tCons (tY Γ τ) (tYA Γ τs)) ?_ fun σ H Q ⟨g, q⟩ => ⟨g, fun v H1 s1 hv => ⟨g.up s1, fun vs H2 s2 hvs => q _ H2 (s1.trans s2) (.cons (τ.up s2 hv) hvs)⟩⟩
  exact pa_cons h hr hs

theorem dpAll_of : ∀ {ds : List PyData} {vs : List V} {H : Hp}, AllY (ds.map (tD X.K)) vs H → DpAll X.K H vs ds := AllY.data
end
end Lp
/-! LpData2 -/
namespace Lp
open PySem PySem.Spec PyProof.Rows L2
section
variable {X : Cx} {Γ Γ' : Cxt} {τ τ' : Ty} {e a b c : Expr} {pos : Pos} {es : List Expr} {τs : List Ty}
theorem sz_ok {n : Nat} (h : n ≤ 100000) : n ≤ sizeLine := Nat.le_trans h (by decide)
theorem sz_lt {n : Nat} (h : n ≤ 100000) : n < sizeLine := Nat.lt_of_le_of_lt h (by decide)
/-! ### displays, subscripts -/
theorem y_tup {k : Nat} {ds : List PyData} (h : PYA X es Γ (ds.map (tD X.K))) (hz : ds.length ≤ 100000) : PY X (.Tuple es k pos) Γ (tD X.K (.tuple ds)) :=
  PE.imp (pe_tup h) fun σ H Q ⟨g, q⟩ => ⟨g, fun vs H1 s1 hv => ⟨by rw [hv.len, List.length_map]; exact sz_ok hz, fun p hp => q _ _ (s1.trans (Same.new hp)) (.tup (SqT.of upd_same) (AllY.data (hv.up (Same.new hp))))⟩⟩
/-- a new list: where it stands told -/
def tYN' (K : PySem.W.Frag) (Γ : Cxt) (ds : List PyData) : TE := fun σ H Q => Env Γ σ H ∧ ∀ p vs H', H p = none → Same H H' → H' p = some (.lst vs) → DpAll K H' vs ds → Q (.ref p) H'
abbrev PYN (X : Cx) (e : Expr) (Γ : Cxt) (ds : List PyData) : Prop := PE X e (tYN' X.K Γ ds)
theorem PYN.y {ds : List PyData} (h : PYN X e Γ ds) : PY X e Γ (tD X.K (.list ds)) := PE.imp h fun σ H Q ⟨g, q⟩ => ⟨g, fun p vs H' _ s hp hv => q _ H' s (.lst (SqL.of hp) hv)⟩
theorem n_lst {ds : List PyData} (h : PYA X es Γ (ds.map (tD X.K))) (hz : ds.length ≤ 100000) : PYN X (.List es pos) Γ ds :=
  PE.imp (pe_lst h) fun σ H Q ⟨g, q⟩ => ⟨g, fun vs H1 s1 hv => ⟨by rw [hv.len, List.length_map]; exact sz_ok hz, fun p hp => q p vs _ (s1.free hp) (s1.trans (Same.new hp)) upd_same (AllY.data (hv.up (Same.new hp)))⟩⟩
theorem cut_eq {α : Type} (l : List α) (i j : Nat) : (l.drop (min i l.length)).take (min j l.length - min i l.length) = (l.drop i).take (j - i) := by
  apply List.ext_getElem?
  intro k
  rw [List.getElem?_take, List.getElem?_take, List.getElem?_drop, List.getElem?_drop]
  by_cases hi : i ≤ l.length
  · rw [Nat.min_eq_left hi]
    by_cases hk : k < min j l.length - i
    · rw [if_pos hk, if_pos (by omega)]
    · rw [if_neg hk]
      by_cases hk2 : k < j - i
      · rw [if_pos hk2, List.getElem?_eq_none (by omega)]
      · rw [if_neg hk2]
  · rw [Nat.min_eq_right (show l.length ≤ i by omega), if_neg (by omega)]
    by_cases hk2 : k < j - i
    · rw [if_pos hk2, List.getElem?_eq_none (by omega)]
    · rw [if_neg hk2]
theorem at_nat {α : Type} {xs : List α} {j : Nat} {x : α} (h : xs[j]? = some x) : atI xs (j : Int) = some x := atI_nat h
theorem y_ixT {ds : List PyData} {j : Nat} {d : PyData} (hj : ds[j]? = some d) (ha : PY X a Γ (tD X.K (.tuple ds))) (hb : PY X b Γ (tI (j : Int))) (hs : PlainIx b := by exact fun _ _ => rfl) : PY X (.Subscript a b pos) Γ (tD X.K d) :=
  PE.imp (pe_ix ix_tup ha hb hs) fun σ H Q ⟨g, q⟩ => ⟨g, fun x H1 s1 hx => ⟨g.up s1, fun y H2 s2 hy => by
    obtain ⟨p, xs, rfl, h1, h2⟩ := dp_tup (Dp.up s2 hx)
    obtain ⟨v, e1, e2⟩ := dpAll_get h2 hj
    exact ⟨p, xs, j, v, rfl, hy, h1, at_nat e1, q v H2 (s1.trans s2) e2⟩⟩⟩
theorem y_ixL {ds : List PyData} {j : Nat} {d : PyData} (hj : ds[j]? = some d) (ha : PY X a Γ (tD X.K (.list ds))) (hb : PY X b Γ (tI (j : Int))) (hs : PlainIx b := by exact fun _ _ => rfl) : PY X (.Subscript a b pos) Γ (tD X.K d) :=
  PE.imp (pe_ix ix_list ha hb hs) fun σ H Q ⟨g, q⟩ => ⟨g, fun x H1 s1 hx => ⟨g.up s1, fun y H2 s2 hy => by
    obtain ⟨p, xs, rfl, h1, h2⟩ := dp_lst (Dp.up s2 hx)
    obtain ⟨v, e1, e2⟩ := dpAll_get h2 hj
    exact ⟨p, xs, j, v, rfl, hy, h1, at_nat e1, q v H2 (s1.trans s2) e2⟩⟩⟩
/-- t[i:j], a tuple -/
theorem y_slT {ds : List PyData} {i j : Nat} {lo hi : Expr} {p2 : Pos} (he : PY X e Γ (tD X.K (.tuple ds))) (hl : PY X lo Γ (tI (i : Int))) (hh : PY X hi Γ (tI (j : Int))) : PY X (.Subscript e (.Slice (some lo) (some hi) none p2) pos) Γ (tD X.K (.tuple ((ds.drop i).take (j - i)))) := by
  refine PE.imp (pe_slice sl_tupA he (po_some hl) (po_some hh)) fun σ H Q ⟨g, q⟩ => ⟨g, fun x H1 s1 hx => ⟨g.up s1, fun y H2 s2 hy => ⟨_, hy, g.up (s1.trans s2), fun z H3 s3 hz => ⟨_, hz, ?_⟩⟩⟩⟩
  obtain ⟨p, xs, rfl, h1, h2⟩ := dp_tup (Dp.up (s2.trans s3) hx)
  have len := dpAll_len h2
  have same : cutV xs (some (i : Int)) (some (j : Int)) = (xs.drop i).take (j - i) := by
    unfold cutV
    rw [HT.sIx_nat, HT.sIx_nat]
    exact cut_eq xs i j
  refine ⟨p, xs, rfl, h1, fun hc => ?_, fun _ t ht => ?_⟩
  · rw [HT.sIx_nat, HT.sIx_nat] at hc
    refine q _ H3 ((s1.trans s2).trans s3) ?_
    have e1 : (ds.drop i).take (j - i) = ds := by
      have e2 := cut_eq ds i j
      rw [← len, hc.1, hc.2, List.drop_zero, Nat.sub_zero, len, List.take_length] at e2
      exact e2.symm
    rw [e1]
    exact .tup h1 h2
  · rw [same]
    exact q _ _ (((s1.trans s2).trans s3).trans (Same.new ht)) (.tup (SqT.of upd_same) (DpAll.up (Same.new ht) (dpAll_take _ (dpAll_drop _ h2))))
theorem y_slT0 {ds : List PyData} {j : Nat} {hi : Expr} {p2 : Pos} (he : PY X e Γ (tD X.K (.tuple ds))) (hh : PY X hi Γ (tI (j : Int))) : PY X (.Subscript e (.Slice none (some hi) none p2) pos) Γ (tD X.K (.tuple (ds.take j))) := by
  refine PE.imp (pe_slice sl_tupA he po_none (po_some hh)) fun σ H Q ⟨g, q⟩ => ⟨g, fun x H1 s1 hx => ⟨g.up s1, fun z H3 s3 hz => ⟨_, hz, ?_⟩⟩⟩
  obtain ⟨p, xs, rfl, h1, h2⟩ := dp_tup (Dp.up s3 hx)
  have len := dpAll_len h2
  have same : cutV xs none (some (j : Int)) = xs.take j := by
    unfold cutV
    rw [HT.sIx_nat, HT.sIx_none, List.drop_zero, Nat.sub_zero]
    have e2 := cut_eq xs 0 j
    rw [Nat.zero_min, List.drop_zero, Nat.sub_zero, Nat.sub_zero] at e2
    exact e2
  refine ⟨p, xs, rfl, h1, fun hc => ?_, fun _ t ht => ?_⟩
  · rw [HT.sIx_nat, HT.sIx_none] at hc
    refine q _ H3 (s1.trans s3) ?_
    rw [List.take_of_length_le (by omega)]
    exact .tup h1 h2
  · rw [same]
    exact q _ _ ((s1.trans s3).trans (Same.new ht)) (.tup (SqT.of upd_same) (DpAll.up (Same.new ht) (dpAll_take _ h2)))
theorem y_slT1 {ds : List PyData} {i : Nat} {lo : Expr} {p2 : Pos} (he : PY X e Γ (tD X.K (.tuple ds))) (hh : PY X lo Γ (tI (i : Int))) : PY X (.Subscript e (.Slice (some lo) none none p2) pos) Γ (tD X.K (.tuple (ds.drop i))) := by
  refine PE.imp (pe_slice sl_tupA he (po_some hh) po_none) fun σ H Q ⟨g, q⟩ => ⟨g, fun x H1 s1 hx => ⟨g.up s1, fun z H3 s3 hz => ⟨_, hz, ?_⟩⟩⟩
  obtain ⟨p, xs, rfl, h1, h2⟩ := dp_tup (Dp.up s3 hx)
  have len := dpAll_len h2
  have same : cutV xs (some (i : Int)) none = xs.drop i := by
    unfold cutV
    rw [HT.sIx_nat, HT.sIx_none]
    by_cases hj : i ≤ xs.length
    · rw [Nat.min_eq_left hj]; exact List.take_of_length_le (by simp)
    · rw [Nat.min_eq_right (by omega), List.drop_eq_nil_of_le (by omega), List.drop_eq_nil_of_le (by omega)]; simp
  refine ⟨p, xs, rfl, h1, fun hc => ?_, fun _ t ht => ?_⟩
  · rw [HT.sIx_nat, HT.sIx_none] at hc
    refine q _ H3 (s1.trans s3) ?_
    have e1 : ds.drop i = ds := by
      have : i = 0 ∨ xs.length = 0 := by omega
      rcases this with rfl | hz'
      · rfl
      · have : ds = [] := List.eq_nil_of_length_eq_zero (by omega)
        subst this; simp
    rw [e1]
    exact .tup h1 h2
  · rw [same]
    exact q _ _ ((s1.trans s3).trans (Same.new ht)) (.tup (SqT.of upd_same) (DpAll.up (Same.new ht) (dpAll_drop _ h2)))
/-- t + u, tuples -/
theorem y_catT {ds es' : List PyData} (hz : ds.length + es'.length ≤ 100000) (ha : PY X a Γ (tD X.K (.tuple ds))) (hb : PY X b Γ (tD X.K (.tuple es'))) : PY X (.BinOp a .Add b pos) Γ (tD X.K (.tuple (ds ++ es'))) := by
  refine y_op op_catA ha hb fun x y H Q hx hy k => ?_
  obtain ⟨p, xs, rfl, h1, h2⟩ := dp_tup hx
  obtain ⟨q, ys, rfl, h3, h4⟩ := dp_tup hy
  refine ⟨p, q, xs, ys, rfl, rfl, h1, h3, by rw [dpAll_len h2, dpAll_len h4]; exact sz_ok hz, fun e => ?_, fun _ e => ?_, fun _ _ t ht => ?_⟩
  · subst e
    cases h2
    exact k _ H (Same.refl H) (.tup h3 h4)
  · subst e
    cases h4
    rw [List.append_nil] at k
    exact k _ H (Same.refl H) (.tup h1 h2)
  · exact k _ _ (Same.new ht) (.tup (SqT.of upd_same) (DpAll.up (Same.new ht) (dpAll_app h2 h4)))

/-! ### built-ins by name -/
theorem y_b {x id : String} {r : List V → Hp → VK → Prop} {p : Pos} (hc : CallR X (.builtin id) r) (hg : Gl X x) (hm : X.mg x = none) (hv : bootBuiltins x = some (.builtin id)) (hargs : PYA X (e :: es) Γ τs)
    (q : ∀ vs H (Q : VK), AllY τs vs H → (∀ v H', Same H H' → τ.is v H' → Q v H') → r vs H Q) (he : starEach (e :: es) X.env = (false, eval e X.env) :: starEach es X.env := by rfl) (hpl : (backTo pos (starEach es X.env)).any (·.1) = false := by rfl) (hn : (x : Str) ≠ "__name__" := by decide) (hd : ((x : Str) == ("__debug__" : Str)) = false := by decide) : PY X (.Call (.Name x p) (e :: es) [] pos) Γ τ :=
  PE.imp (pe_callB hc hg hm hv hargs hn hd he hpl) fun σ H Q ⟨g, k⟩ => ⟨g, fun vs H1 s1 hvs => q vs H1 Q hvs fun v H' s2 hv => k v H' (s1.trans s2) hv⟩
theorem y_ty {x T : String} {r : List V → Hp → VK → Prop} {p : Pos} (hc : CallR X (.type T) r) (hg : Gl X x) (hm : X.mg x = none) (hv : bootBuiltins x = some (.type T)) (hargs : PYA X (e :: es) Γ τs)
    (q : ∀ vs H (Q : VK), AllY τs vs H → (∀ v H', Same H H' → τ.is v H' → Q v H') → r vs H Q) (he : starEach (e :: es) X.env = (false, eval e X.env) :: starEach es X.env := by rfl) (hpl : (backTo pos (starEach es X.env)).any (·.1) = false := by rfl) (hn : (x : Str) ≠ "__name__" := by decide) (hd : ((x : Str) == ("__debug__" : Str)) = false := by decide) : PY X (.Call (.Name x p) (e :: es) [] pos) Γ τ :=
  PE.imp (pe_callTy hc hg hm hv hargs hn hd he hpl) fun σ H Q ⟨g, k⟩ => ⟨g, fun vs H1 s1 hvs => q vs H1 Q hvs fun v H' s2 hv => k v H' (s1.trans s2) hv⟩
theorem all1 {τ : Ty} {vs : List V} {H : Hp} (h : AllY [τ] vs H) : ∃ v, vs = [v] ∧ τ.is v H := by
  cases h with
  | cons h a => cases a; exact ⟨_, rfl, h⟩
theorem all2 {τ τ' : Ty} {vs : List V} {H : Hp} (h : AllY [τ, τ'] vs H) : ∃ v w, vs = [v, w] ∧ τ.is v H ∧ τ'.is w H := by
  cases h with
  | cons h a => obtain ⟨w, rfl, h'⟩ := all1 a; exact ⟨_, w, rfl, h, h'⟩
theorem y_lenT {p : Pos} {ds : List PyData} (hg : Gl X "len") (hm : X.mg "len" = none) (h : PY X e Γ (tD X.K (.tuple ds))) (hs : starEach [e] X.env = (false, eval e X.env) :: starEach [] X.env := by rfl) : PY X (.Call (.Name "len" p) [e] [] pos) Γ (tI (ds.length : Int)) :=
  y_b (x := "len") call_len hg hm PySem.boot_len (ya_cons h ya_nil hs) (he := hs) fun vs H Q hvs k => by
    obtain ⟨v, rfl, hv⟩ := all1 hvs
    obtain ⟨a, xs, rfl, h1, h2⟩ := dp_tup hv
    exact ⟨_, xs.length, rfl, .inr ⟨xs, h1, rfl⟩, k _ H (Same.refl H) (by rw [dpAll_len h2]; rfl)⟩
theorem y_lenL {p : Pos} {ds : List PyData} (hg : Gl X "len") (hm : X.mg "len" = none) (h : PY X e Γ (tD X.K (.list ds))) (hs : starEach [e] X.env = (false, eval e X.env) :: starEach [] X.env := by rfl) : PY X (.Call (.Name "len" p) [e] [] pos) Γ (tI (ds.length : Int)) :=
  y_b (x := "len") call_len hg hm PySem.boot_len (ya_cons h ya_nil hs) (he := hs) fun vs H Q hvs k => by
    obtain ⟨v, rfl, hv⟩ := all1 hvs
    obtain ⟨a, xs, rfl, h1, h2⟩ := dp_lst hv
    exact ⟨_, xs.length, rfl, .inl ⟨xs, h1, rfl⟩, k _ H (Same.refl H) (by rw [dpAll_len h2]; rfl)⟩
/-- tuple(xs), xs a list -/
theorem y_tupleL {p : Pos} {ds : List PyData} (hg : Gl X "tuple") (hm : X.mg "tuple" = none) (h : PY X e Γ (tD X.K (.list ds))) (hs : starEach [e] X.env = (false, eval e X.env) :: starEach [] X.env := by rfl) : PY X (.Call (.Name "tuple" p) [e] [] pos) Γ (tD X.K (.tuple ds)) :=
  y_ty (x := "tuple") call_tuple_of hg hm (by decide +kernel) (ya_cons h ya_nil hs) (he := hs) fun vs H Q hvs k => by
    obtain ⟨v, rfl, hv⟩ := all1 hvs
    obtain ⟨a, xs, rfl, h1, h2⟩ := dp_lst hv
    exact ⟨a, xs, rfl, .inl ⟨h1, fun l hl => k _ _ (Same.new hl) (.tup (SqT.of upd_same) (DpAll.up (Same.new hl) h2))⟩⟩
/-- list(t), t a tuple: a new list -/
theorem n_listT {p : Pos} {ds : List PyData} (hg : Gl X "list") (hm : X.mg "list" = none) (h : PY X e Γ (tD X.K (.tuple ds))) (hs : starEach [e] X.env = (false, eval e X.env) :: starEach [] X.env := by rfl) : PYN X (.Call (.Name "list" p) [e] [] pos) Γ ds :=
  PE.imp (pe_callTy (x := "list") call_list_of hg hm (by decide +kernel) (ya_cons h ya_nil hs) (he := hs)) fun σ H Q ⟨g, k⟩ => ⟨g, fun vs H1 s1 hvs => by
    obtain ⟨v, rfl, hv⟩ := all1 hvs
    obtain ⟨a, xs, rfl, h1, h2⟩ := dp_tup hv
    exact ⟨a, xs, rfl, .inr h1, fun l hl => k l xs _ (s1.free hl) (s1.trans (Same.new hl)) upd_same (DpAll.up (Same.new hl) h2)⟩⟩
theorem y_sum {p : Pos} {ns : List Int} (hc : X.calm = true) (hg : Gl X "sum") (hm : X.mg "sum" = none) (h : PY X e Γ (tD X.K (.list (ns.map .int)))) (hs : starEach [e] X.env = (false, eval e X.env) :: starEach [] X.env := by rfl) : PY X (.Call (.Name "sum" p) [e] [] pos) Γ (tI ns.sum) :=
  y_b (x := "sum") (cr_sum hc) hg hm (by decide +kernel) (ya_cons h ya_nil hs) (he := hs) fun vs H Q hvs k => by
    obtain ⟨v, rfl, hv⟩ := all1 hvs
    obtain ⟨a, xs, rfl, h1, h2⟩ := dp_lst hv
    rw [dpAll_ints h2] at h1
    exact ⟨a, ns, rfl, h1, k _ H (Same.refl H) rfl⟩
theorem y_all {p : Pos} {bs : List Bool} (hc : X.calm = true) (hg : Gl X "all") (hm : X.mg "all" = none) (h : PY X e Γ (tD X.K (.list (bs.map .bool)))) (hs : starEach [e] X.env = (false, eval e X.env) :: starEach [] X.env := by rfl) : PY X (.Call (.Name "all" p) [e] [] pos) Γ (tBo (bs.all id)) :=
  y_b (x := "all") (cr_all hc) hg hm (by decide +kernel) (ya_cons h ya_nil hs) (he := hs) fun vs H Q hvs k => by
    obtain ⟨v, rfl, hv⟩ := all1 hvs
    obtain ⟨a, xs, rfl, h1, h2⟩ := dp_lst hv
    rw [dpAll_bools h2] at h1
    exact ⟨a, bs, rfl, h1, k _ H (Same.refl H) rfl⟩
theorem y_any {p : Pos} {bs : List Bool} (hc : X.calm = true) (hg : Gl X "any") (hm : X.mg "any" = none) (h : PY X e Γ (tD X.K (.list (bs.map .bool)))) (hs : starEach [e] X.env = (false, eval e X.env) :: starEach [] X.env := by rfl) : PY X (.Call (.Name "any" p) [e] [] pos) Γ (tBo (bs.any id)) :=
  y_b (x := "any") (cr_any hc) hg hm (by decide +kernel) (ya_cons h ya_nil hs) (he := hs) fun vs H Q hvs k => by
    obtain ⟨v, rfl, hv⟩ := all1 hvs
    obtain ⟨a, xs, rfl, h1, h2⟩ := dp_lst hv
    rw [dpAll_bools h2] at h1
    exact ⟨a, bs, rfl, h1, k _ H (Same.refl H) rfl⟩
/-- isinstance(x, T), T a built-in class -/
theorem y_isi {p p2 : Pos} {T t : String} {r : Bool} (hg : Gl X "isinstance") (hm : X.mg "isinstance" = none) (hT : Gl X T) (hTm : X.mg T = none) (hTv : bootBuiltins T = some (.type T)) (hk : kitB t T = some r) (ty : ∀ v H, τ.is v H → TyX X.K H v (.type t)) (h : PY X e Γ τ)
    (hs : starEach [e, .Name T p2] X.env = (false, eval e X.env) :: starEach [.Name T p2] X.env := by rfl) (hs2 : starEach [.Name T p2] X.env = (false, eval (.Name T p2) X.env) :: starEach [] X.env := by rfl) (hn : (T : Str) ≠ "__name__" := by decide) (hd : ((T : Str) == ("__debug__" : Str)) = false := by decide) :
    PY X (.Call (.Name "isinstance" p) [e, .Name T p2] [] pos) Γ (tBo r) :=
  y_b (x := "isinstance") call_isi hg hm (by decide +kernel) (ya_cons h (ya_cons (yc (pe_bltn (v := .ty T) hT hTm hTv rfl hn hd)) ya_nil hs2) hs) (he := hs) (hpl := by rw [hs2]; rfl) fun vs H Q hvs k => by
    obtain ⟨v, w, rfl, hv, hw⟩ := all2 hvs
    rw [show w = V.ty T from hw]
    exact ⟨v, _, _, _, r, rfl, .ty T, ty v H hv, kit_ty hk, k _ H (Same.refl H) rfl⟩
theorem ty_int {i : Int} : ∀ v H, (tI i).is v H → TyX X.K H v (.type "int") := fun v H h => by rw [show v = V.int i from h]; exact .base (.int i)
theorem ty_tup {ds : List PyData} : ∀ v H, (tD X.K (.tuple ds)).is v H → TyX X.K H v (.type "tuple") := fun v H h => by
  obtain ⟨a, xs, rfl, h1, h2⟩ := dp_tup h
  rcases h1 with (h1 | ⟨o, h1⟩) | ⟨o, its, n, h1, h3, _⟩
  · exact .base (.tup h1)
  · exact .fTuple h1
  · exact .kTuple h1 h3
end
end Lp
/-! LpEnum -/
/-! enumerate of a tuple -/
namespace Lq
open PySem PySem.Spec PyProof.Rows L2
/-- enumerate(v) by the way v's iterator begins -/
theorem meets_enum1 {v : Value} {o : Obj} {G : Heap → Prop} (B : Begins v o G) :
    Meets (Builtin.«enumerate.__new__» ⟨[.type "enumerate", v], []⟩) (fun _ R s => G s.heap ∧
      R (.ok (.ret (.ref (s.heap.push o).objs.size))) { s with heap := (s.heap.push o).push { cls := .type "enumerate", data := .fields #[.none, .bool false, .ref s.heap.objs.size, rawInt 0, .none, .none] } }) :=
  .of_wp fun prog w A R s hyp => by
    obtain ⟨hp, g, d, tk, os⟩ := s
    obtain ⟨g1, fin⟩ := hyp
    have hsub := sub_enumerate
    have it_ : ∀ {A' : Around} {E : Value → Shared → Prop} {Q : Value → Shared → Prop}, Q (.ref hp.objs.size) ⟨hp.push o, g, d, tk, os⟩ → wpAny (model prog w) A' (pyIter v) Q E ⟨hp, g, d, tk, os⟩ :=
      fun q => B.iter prog w _ _ ⟨hp, g, d, tk, os⟩ _ g1 q
    wp_walk using it_
    refine wpAny_stack_any fun st => wpAny_pure ?_
    split
    · rename_i c _ _ _ _ _
      cases (c == Value.type "enumerate") <;> (wp_walk using it_; exact ⟨_, rfl, fin⟩)
    · wp_walk using it_
      exact ⟨_, rfl, fin⟩
section
variable {prog : Program} {w : World} {A : Around} {E : Value → Shared → Prop} {s : Shared}
theorem call_enum1 {v : Value} {o : Obj} {G : Heap → Prop} {Q : Value → Shared → Prop} (B : Begins v o G) (g1 : G s.heap)
    (k : ∀ h', IsEnum h' (s.heap.objs.size + 1) s.heap.objs.size 0 .none → h'.get? s.heap.objs.size = some o → (∀ b u, s.heap.get? b = some u → h'.get? b = some u) → Q (.ref (s.heap.objs.size + 1)) { s with heap := h' }) :
    wpAny (model prog w) A (call (.type "enumerate") [v]) Q E s := by
  refine callType_new F.called_enumerate (by decide) (F.typeCall_enumerate_1 _) (F.newCall_enumerate_1 _) (fun obj => F.args_object_init_2 obj _) F.entry_enumerate_new (meets_enum1 B) ⟨g1, ?_⟩
  have size1 : (s.heap.push o).objs.size = s.heap.objs.size + 1 := Heap.size_push ..
  show _ ∧ _
  rw [size1]
  have en := Heap.get?_push_size (s.heap.push o) (o := { cls := .type "enumerate", data := .fields #[.none, .bool false, .ref s.heap.objs.size, rawInt 0, .none, .none] }) rfl
  rw [size1] at en
  exact ⟨⟨_, en, rfl⟩, k _ en (Heap.get?_push_of_some _ (Heap.get?_push_size _ B.free)) fun b u x => Heap.get?_push_of_some _ (Heap.get?_push_of_some _ x)⟩
end
/-- the tuple at a, each item in a new pair with its place -/
def ItE (K : PySem.W.Frag) (a : Addr) : It :=
  ⟨fun i H => ∃ (xs : List V) (x : V), SqT K H a xs ∧ xs[i]? = some x, fun i H v H' => ∃ T x, v = .ref T ∧ H T = none ∧ H' = upd H T (.tup [.int (i : Nat), x]) ∧ ∀ xs, SqT K H a xs → xs[i]? = some x, fun i H => ∃ xs : List V, SqT K H a xs ∧ xs.length = i⟩
theorem apart {h : Heap} {a it : Addr} {i : Nat} {its : Array Value} (t : h.IsTuple a its) (q : h.IsTupleIter it a i) : a ≠ it := by
  rintro rfl
  obtain ⟨o, h1, h2, _⟩ := t
  obtain ⟨o', h3, h4, _⟩ := q
  rw [h1] at h3
  rw [← Option.some.inj h3, h2] at h4
  exact absurd h4 (by decide)
theorem apartE {h : Heap} {a e it : Addr} {i : Int} {old : Value} {its : Array Value} (t : h.IsTuple a its) (q : IsEnum h e it i old) : e ≠ a := by
  rintro rfl
  obtain ⟨o, h1, h2, _⟩ := t
  have h3 : h.get? e = some _ := q
  rw [h1] at h3
  rw [Option.some.inj h3] at h2
  have h4 : Value.type "enumerate" = Value.type "tuple" := h2
  exact absurd h4 (by decide)
theorem turn_enumT {P : Program} {w : World} {K : PySem.W.Frag} {elts : List Expr} {kk : Nat} {tpos : Pos} (a e it : Addr) :
    Turn P w K (.Tuple elts kk tpos) (ItE K a) [e, it] e (fun i h => (∃ old, IsEnum h e it ((i : Nat) : Int) old) ∧ h.IsTupleIter it a i ∧ e ≠ it) where
  mem := List.mem_cons_self
  obj := fun i h ⟨⟨old, en⟩, ⟨o, at_it, _, dat⟩, _⟩ b hb => by
    rcases List.mem_cons.mp hb with rfl | hb
    · exact ⟨_, en, fun v q => nomatch q⟩
    · rw [List.mem_singleton.mp hb]
      exact ⟨o, at_it, fun v q => by rw [dat] at q; cases q⟩
  keep := fun i h h' ⟨⟨old, en⟩, ti, ne⟩ k => ⟨⟨old, k e List.mem_cons_self _ en⟩, ti.at fun o q => k it (List.mem_cons_of_mem _ List.mem_cons_self) o q, ne⟩
  item := by
    intro X eP ew eK calm i pins s σ H E I fine st go
    subst eP ew eK
    obtain ⟨⟨old, en⟩, ti, ne⟩ := st
    obtain ⟨xs, x, hq, hx⟩ := go
    obtain ⟨its, rv, tp, _⟩ := I.tuple hq
    obtain ⟨u, hu, ru⟩ := rv.get hx
    have lt_e : e < s.heap.objs.size := Heap.lt_size en
    have lt_it : it < s.heap.objs.size := by obtain ⟨_, q, _⟩ := ti; exact Heap.lt_size q
    have tp' : s.heap.IsTuple a its.toArray := tp
    have inb : i < its.toArray.size := by simpa using (List.getElem?_eq_some_iff.mp hu).1
    refine wpAny_pyNext_enum_itemD (Draws.tuple (A := X.A.in1) (by show X.A.handled = none; exact I.ok.hd calm) it a (apart tp' ti) its.toArray) en ⟨ti, tp'⟩ inb ne (by
      intro z
      rcases List.mem_cons.mp z with z | z
      · exact ne z
      · exact apartE tp' en (List.mem_singleton.mp z)) fun x' h1 tk e1 en1 st1 made size1 keep1 => ?_
    obtain rfl : u = x' := by
      rw [← Array.getElem?_toList] at e1
      exact Option.some.inj (hu.symm.trans e1)
    refine ⟨_, rfl, wpAny_letOwnedTupleGo_enum (s := { s with heap := h1, toks := tk + 1 }) en1 fun h2 en2 sb => ?_⟩
    have made2 : h2.get? s.heap.objs.size = some { cls := .type "tuple", data := .seq #[.int i tk, u] } := (sb.2 _ (Nat.ne_of_gt lt_e)).trans made
    have ok2 : ObjOk X.prog X.w (upd H s.heap.objs.size (.tup [.int (i : Nat), x])) h2 s.heap.objs.size (.tup [.int (i : Nat), x]) :=
      ⟨by show 2 ≤ sizeLine; decide, [.int i tk, u], .cons ⟨_, rfl⟩ (.cons ru .nil), ⟨_, made2, rfl, _, rfl⟩⟩
    have I2 : Inv X pins σ (upd H s.heap.objs.size (.tup [.int (i : Nat), x])) { s with heap := h2, toks := tk + 1 } :=
      I.turnedNew (ch := [e, it]) (fun b ob hb q => (sb.2 b (fun z => hb (by simp [z]))).trans (keep1 b ob (fun z => hb (by simp [z])) (fun z => hb (by simp [z])) q)) fine (Nat.le_refl _) ok2
    refine ⟨.ref s.heap.objs.size, _, I2, rfl, ⟨_, x, rfl, I.hok.fresh (Nat.le_refl _), rfl, fun ys hy => by rw [I.tuple_inj hy hq]; exact hx⟩, ⟨⟨u, ?_⟩, st1.1.at fun o q => (sb.2 it (Ne.symm ne)).trans q, ne⟩, fun b hb => ?_⟩
    · rw [show ((i + 1 : Nat) : Int) = (i : Int) + 1 by omega]
      exact en2
    · have lt_b : b < s.heap.objs.size := by
        rcases List.mem_cons.mp hb with rfl | z
        · exact lt_e
        · rw [List.mem_singleton.mp z]; exact lt_it
      rw [upd_ne (Nat.ne_of_lt lt_b)]
      exact (fine b hb).1
  done := by
    intro X eP ew eK calm i pins s σ H E I fine st stop
    subst eP ew eK
    obtain ⟨⟨old, en⟩, ti, ne⟩ := st
    obtain ⟨xs, hq, hx⟩ := stop
    obtain ⟨its, rv, tp, _⟩ := I.tuple hq
    obtain ⟨f0, f1, f2, f3, f4, f5⟩ := fine it (List.mem_cons_of_mem _ List.mem_cons_self)
    have tp' : s.heap.IsTuple a its.toArray := tp
    have len := rv.length
    obtain rfl : i = its.toArray.size := by simp; omega
    exact wpAny_pyNext_enum_endD (Draws.tuple (A := X.A.in1) (by show X.A.handled = none; exact I.ok.hd calm) it a (apart tp' ti) its.toArray) en ⟨ti, tp'⟩ fun h1 eb => ⟨rfl, I.turned (t' := s.toks) (fun b o hb q => eb b o hb q) f0 f1 f3 f4 f5⟩
  self := fun A i s Q E ⟨⟨_, en⟩, _⟩ h => wpAny_pyIter_enum en h
def iEnT (K : PySem.W.Frag) (ta : TA) : TI := fun σ H R => ta σ H fun vs H1 => ∃ a xs, vs = [.ref a] ∧ SqT K H1 a xs ∧ R (ItE K a) H1
theorem pi_enumT {X : Cx} {e : Expr} {ta : TA} {p pos tpos : Pos} {elts : List Expr} {kk : Nat} (hg : Gl X "enumerate") (hm : X.mg "enumerate" = none) (ha : PA X [e] ta) (hs : starEach [e] X.env = [(false, eval e X.env)] := by rfl) :
    PI X (.Tuple elts kk tpos) (.Call (.Name "enumerate" p) [e] [] pos) (iEnT X.K ta) := by
  refine ⟨fun pins s σ H R I h => ?_⟩
  refine Call_ (ld_blt I hg hm boot_enumerate (PyProof.Rows.callWith_type1 (thn (ha.run pos pins s σ H _ I h) fun us s1 ⟨vs, H1, I1, rs, a, xs, e1, hq, q⟩ => ?_) hs rfl))
  subst e1
  rw [Vals.ref1 rs]
  obtain ⟨its, rv, tp, _⟩ := I1.tuple hq
  have tp' : s1.heap.IsTuple a its.toArray := tp
  refine call_enum1 (begins_tuple a its.toArray) tp' fun h1 en it_ keep => wpAny_pyIter_enum en ?_
  have I2 : Inv X pins σ H1 { s1 with heap := h1 } := I1.kept (t' := s1.toks) keep
  refine ⟨s1.heap.objs.size + 1, [s1.heap.objs.size + 1, s1.heap.objs.size], _, _, H1, rfl, I2, turn_enumT a (s1.heap.objs.size + 1) s1.heap.objs.size, ⟨⟨.none, en⟩, ⟨_, it_, rfl, rfl⟩, Nat.succ_ne_self _⟩, fun b hb => ?_, q⟩
  have le : s1.heap.objs.size ≤ b := by
    rcases List.mem_cons.mp hb with rfl | z
    · exact Nat.le_succ _
    · exact Nat.le_of_eq (List.mem_singleton.mp z).symm
  exact I1.fpOk le (I1.hok.fresh le)
end Lq
/-! LpData3 -/
namespace Lp
open PySem PySem.Spec PyProof.Rows L2
/-! ### objects -/
/-- an instance's attributes, each of its kind -/
inductive RelF : List (Str × Ty) → List (Str × V) → Hp → Prop
  | nil {H : Hp} : RelF [] [] H
  | cons {f : Str} {τ : Ty} {v : V} {ts : List (Str × Ty)} {fs : List (Str × V)} {H : Hp} : τ.is v H → RelF ts fs H → RelF ((f, τ) :: ts) ((f, v) :: fs) H
theorem RelF.up {H H' : Hp} (e : Same H H') : ∀ {ts : List (Str × Ty)} {fs : List (Str × V)}, RelF ts fs H → RelF ts fs H'
  | _, _, .nil => .nil
  | _, _, .cons h a => .cons (Ty.up _ e h) (RelF.up e a)
theorem RelF.look {H : Hp} {f : Str} {τ : Ty} : ∀ {ts : List (Str × Ty)} {fs : List (Str × V)}, RelF ts fs H → ts.lookup f = some τ → ∃ v, fs.lookup f = some v ∧ τ.is v H
  | _, _, .nil, e => by simp at e
  | (g, τ') :: ts, _, .cons (v := v) h a, e => by
    rw [List.lookup_cons] at e ⊢
    by_cases c : (f == g) = true
    · rw [c] at e ⊢
      cases e
      exact ⟨_, rfl, h⟩
    · have c' : (f == g) = false := by simpa using c
      rw [c'] at e ⊢
      exact RelF.look a e
theorem RelF.none {H : Hp} {f : Str} : ∀ {ts : List (Str × Ty)} {fs : List (Str × V)}, RelF ts fs H → ts.lookup f = .none → fs.lookup f = .none
  | _, _, .nil, _ => rfl
  | (g, τ') :: ts, _, .cons h a, e => by
    rw [List.lookup_cons] at e ⊢
    by_cases c : (f == g) = true
    · rw [c] at e; cases e
    · have c' : (f == g) = false := by simpa using c
      rw [c'] at e ⊢
      exact RelF.none a e
def tObj (C : Addr) (ts : List (Str × Ty)) : Ty := ⟨fun v H => ∃ a dx fs, v = .ref a ∧ H a = some (.ins C dx fs) ∧ RelF ts fs H, fun e ⟨a, dx, fs, h1, h2, h3⟩ => ⟨a, dx, fs, h1, e _ _ h2, h3.up e⟩⟩
mutual
/-- data without lists: it stays while tuples stay -/
def fz : PyData → Bool
  | .none => true
  | .bool _ => true
  | .int _ => true
  | .str _ => true
  | .tuple ds => fzA ds
  | _ => false
def fzA : List PyData → Bool
  | [] => true
  | d :: ds => fz d && fzA ds
end
theorem fzA_all : ∀ {ds : List PyData}, (∀ d, d ∈ ds → fz d = true) → fzA ds = true
  | [], _ => rfl
  | d :: ds, h => by simp [fzA, h d List.mem_cons_self, fzA_all fun x hx => h x (List.mem_cons_of_mem _ hx)]
theorem fz_ints (is : List Int) : fz (.tuple (is.map .int)) = true := by
  simp only [fz]
  exact fzA_all fun d hd => by
    obtain ⟨i, _, rfl⟩ := List.mem_map.mp hd
    rfl
/-- tuples stay -/
def TupK (K : PySem.W.Frag) (H H' : Hp) : Prop := ∀ a xs, SqT K H a xs → SqT K H' a xs
theorem TupK.same {K : PySem.W.Frag} {H H' : Hp} (e : Same H H') : TupK K H H' := fun _ _ h => Same.seqT e h
theorem TupK.trans {K : PySem.W.Frag} {H H1 H2 : Hp} (a : TupK K H H1) (b : TupK K H1 H2) : TupK K H H2 := fun p xs h => b p xs (a p xs h)
/-- a thing that is no tuple is changed -/
theorem TupK.upd {K : PySem.W.Frag} {H : Hp} {p : Addr} {o o' : HO} (h : H p = some o) (n1 : ∀ xs, o ≠ .tup xs) (n2 : ∀ ob xs, o ≠ .frz ob (.tup xs)) : TupK K H (L2.upd H p o') := fun a xs q => by
  have ne : ∀ u, H a = some u → u ≠ o → a ≠ p := fun u hu hne e => by
    rw [e, h] at hu
    exact hne (Option.some.inj hu).symm
  rcases q with (q | ⟨ob, q⟩) | q
  · exact .inl (.inl (by rw [upd_ne (ne _ q (Ne.symm (n1 xs)))]; exact q))
  · exact .inl (.inr ⟨ob, by rw [upd_ne (ne _ q (Ne.symm (n2 ob xs)))]; exact q⟩)
  · exact .inr q
mutual
theorem Dp.fz {K : PySem.W.Frag} {H H' : Hp} (t : TupK K H H') : ∀ {v : V} {d : PyData}, fz d = true → Dp K H v d → Dp K H' v d
  | _, _, _, .non => .non
  | _, _, _, .bl b => .bl b
  | _, _, _, .int i => .int i
  | _, _, _, .str x => .str x
  | _, _, h, .lst _ _ => by simp [Lp.fz] at h
  | _, _, h, .tup q a => .tup (t _ _ q) (DpAll.fz t (by simpa [Lp.fz] using h) a)
theorem DpAll.fz {K : PySem.W.Frag} {H H' : Hp} (t : TupK K H H') : ∀ {vs : List V} {ds : List PyData}, fzA ds = true → DpAll K H vs ds → DpAll K H' vs ds
  | _, _, _, .nil => .nil
  | _, _, h, .cons q a => by
    simp only [fzA, Bool.and_eq_true] at h
    exact .cons (Dp.fz t h.1 q) (DpAll.fz t h.2 a)
end
section
variable {X : Cx} {Γ Γ' : Cxt} {τ τ' : Ty} {e a b c o : Expr} {pos : Pos} {es : List Expr} {τs : List Ty}
theorem y_fld {C : Addr} {ts : List (Str × Ty)} {f : Str} (cl : Cls X.K C) (na : NoAttr X.K C f) (hl : ts.lookup f = some τ) (ho : PY X o Γ (tObj C ts)) (hb : attributeBase o f X.env (eval o X.env) = eval o X.env := by rfl) : PY X (.Attribute o f pos) Γ τ :=
  PE.imp (pe_fld ho hb) fun σ H Q ⟨g, q⟩ => ⟨g, fun v H1 s1 ⟨p, dx, fs, e1, h2, h3⟩ => by
    obtain ⟨u, l1, l2⟩ := h3.look hl
    exact ⟨p, C, dx, fs, u, e1, h2, cl, na, l1, q u H1 s1 l2⟩⟩
/-! ### calls of the text's own defs -/
/-- a promise: of arguments of such kinds, a thing of such a kind; nothing that stood is changed -/
def SpY {α : Type} (args : α → List Ty) (dom : α → Prop) (res : α → Ty) : Sp := fun vs H Q _ => ∃ x, dom x ∧ AllY (args x) vs H ∧ ∀ v H', Same H H' → (res x).is v H' → Q v H'
/-- a def, as its callers know it -/
structure Callee (P : Program) (w : World) (K : PySem.W.Frag) (mg : Str → Option Value) (base : Heap) (x : Str) (k : Nat) (ps : List Str) (sp : Sp) : Prop where
  ex : ∃ f fd, FnOk P w K mg base CX0 k f fd ps sp ∧ mg x = some (.ref f) ∧ PySem.W.keepIn K (.ref f) = true ∧ Binds K fd ps []
structure CalleeM (P : Program) (w : World) (K : PySem.W.Frag) (mg : Str → Option Value) (base : Heap) (C : Addr) (m : Str) (k : Nat) (ps : List Str) (sp : Sp) : Prop where
  ex : ∃ f fd, FnOk P w K mg base CX0 k f fd ps sp ∧ Cls K C ∧ Meth K C m f ∧ Binds K fd ps []
variable {α : Type} {args : α → List Ty} {dom : α → Prop} {res : α → Ty} {x : Str} {k : Nat} {ps : List Str} {p : Pos}
theorem y_callS {sp : Sp} (c : Callee X.prog X.w X.K X.mg X.base x k ps sp) (hr : Room k X.A) (hg : Gl X x) (ha : PYA X (e :: es) Γ τs) (q : ∀ vs H (Q : VK), AllY τs vs H → (∀ v H', Same H H' → τ.is v H' → Q v H') → ∀ E, sp vs H Q E)
    (he : starEach (e :: es) X.env = (false, eval e X.env) :: starEach es X.env := by rfl) (hpl : (backTo pos (starEach es X.env)).any (·.1) = false := by rfl) (hdb : (x == ("__debug__" : Str)) = false := by decide) : PY X (.Call (.Name x p) (e :: es) [] pos) Γ τ := by
  obtain ⟨f, fd, F, m, kp, b⟩ := c.ex
  refine PE.imp (pe_call F hr hg m kp b .nil pass0 ha hdb he hpl) fun σ H Q ⟨g, k⟩ => ⟨g, fun vs H1 s1 hvs => ?_⟩
  show sp (vs ++ []) H1 Q E0
  rw [List.append_nil]
  exact q vs H1 Q hvs (fun v H' s2 hv => k v H' (s1.trans s2) hv) _
theorem y_call (c : Callee X.prog X.w X.K X.mg X.base x k ps (SpY args dom res)) (hr : Room k X.A) (hg : Gl X x) (z : α) (hz : dom z) (ha : PYA X (e :: es) Γ (args z))
    (he : starEach (e :: es) X.env = (false, eval e X.env) :: starEach es X.env := by rfl) (hpl : (backTo pos (starEach es X.env)).any (·.1) = false := by rfl) (hdb : (x == ("__debug__" : Str)) = false := by decide) : PY X (.Call (.Name x p) (e :: es) [] pos) Γ (res z) :=
  y_callS c hr hg ha (fun vs H Q hvs q E => ⟨z, hz, hvs, q⟩) he hpl hdb
theorem y_meth {C : Addr} {m : Str} {ts : List (Str × Ty)} {sp : Sp} (h : PE X e (tMeth C m sp [] E0 (tY Γ (tObj C ts)) (tYA Γ τs))) (hn : ts.lookup m = none)
    (q : ∀ v vs H (Q : VK), (tObj C ts).is v H → AllY τs vs H → (∀ v H', Same H H' → τ.is v H' → Q v H') → ∀ E, sp (v :: vs) H Q E) : PY X e Γ τ :=
  PE.imp h fun σ H Q ⟨g, k⟩ => ⟨g, fun v H1 s1 hv => by
    have hv' := hv
    obtain ⟨a, dx, fs, rfl, h2, h3⟩ := hv'
    refine ⟨a, dx, fs, rfl, h2, h3.none hn, g.up s1, fun vs H2 s2 hvs => ?_⟩
    show sp (V.ref a :: (vs ++ [])) H2 Q E0
    rw [List.append_nil]
    exact q _ vs H2 Q ((tObj C ts).up s2 hv) hvs (fun u H' s3 hu => k u H' ((s1.trans s2).trans s3) hu) _⟩

/-! ### what is walked -/
structure Wk (J : It) (H : Hp) (ts : List Ty) : Prop where
  goes : ∀ i H', Same H H' → i < ts.length → J.go i H'
  stops : ∀ H', Same H H' → J.stop ts.length H'
  yields : ∀ i H' x H'', Same H H' → J.yld i H' x H'' → i < ts.length → Same H' H'' ∧ ∃ τ, ts[i]? = some τ ∧ τ.is x H''
def iY (Γ : Cxt) (ts : List Ty) : TI := fun σ H R => Env Γ σ H ∧ ∀ J H', Same H H' → Wk J H' ts → R J H'
abbrev PYI (X : Cx) (tg it : Expr) (Γ : Cxt) (ts : List Ty) : Prop := PI X tg it (iY Γ ts)
theorem i_listY {tg : Expr} {ts : List Ty} (h : PY X e Γ (tLst X.K ts)) : PYI X tg e Γ ts :=
  PI.imp (pi_list h) fun σ H R ⟨g, q⟩ => ⟨g, fun v H1 s1 ⟨a, xs, e1, h2, h3⟩ => ⟨a, e1, ⟨xs, h2⟩, q _ H1 s1 ⟨fun i H' s hi => by
    rw [← h3.len] at hi
    exact ⟨xs, xs[i], s.seq h2, List.getElem?_eq_getElem hi⟩, fun H' s => ⟨xs, s.seq h2, Nat.le_of_eq h3.len⟩, fun i H' x H'' s ⟨e2, y⟩ hi => by
    subst e2
    obtain ⟨τ, t1, t2⟩ := h3.at (y xs (s.seq h2))
    exact ⟨Same.refl _, τ, t1, τ.up s t2⟩⟩⟩⟩
theorem i_tupY {tg : Expr} {ts : List Ty} (h : PY X e Γ (tTup' X.K ts)) : PYI X tg e Γ ts :=
  PI.imp (pi_tup h) fun σ H R ⟨g, q⟩ => ⟨g, fun v H1 s1 ⟨a, xs, e1, h2, h3⟩ => ⟨a, e1, ⟨xs, h2⟩, q _ H1 s1 ⟨fun i H' s hi => by
    rw [← h3.len] at hi
    exact ⟨xs, xs[i], Same.seqT s h2, List.getElem?_eq_getElem hi⟩, fun H' s => ⟨xs, Same.seqT s h2, Nat.le_of_eq h3.len⟩, fun i H' x H'' s ⟨e2, y⟩ hi => by
    subst e2
    obtain ⟨τ, t1, t2⟩ := h3.at (y xs (Same.seqT s h2))
    exact ⟨Same.refl _, τ, t1, τ.up s t2⟩⟩⟩⟩
theorem lst_of {K : PySem.W.Frag} {ds : List PyData} : ∀ v H, (tD K (.list ds)).is v H → (tLst K (ds.map (tD K))).is v H := fun v H h => let ⟨a, xs, e1, h1, h2⟩ := dp_lst h; ⟨a, xs, e1, h1, AllY.ofData h2⟩
theorem tup_of {K : PySem.W.Frag} {ds : List PyData} : ∀ v H, (tD K (.tuple ds)).is v H → (tTup' K (ds.map (tD K))).is v H := fun v H h => let ⟨a, xs, e1, h1, h2⟩ := dp_tup h; ⟨a, xs, e1, h1, AllY.ofData h2⟩
theorem i_list {tg : Expr} {ds : List PyData} (h : PY X e Γ (tD X.K (.list ds))) : PYI X tg e Γ (ds.map (tD X.K)) := i_listY (PY.to h lst_of)
theorem i_tup {tg : Expr} {ds : List PyData} (h : PY X e Γ (tD X.K (.tuple ds))) : PYI X tg e Γ (ds.map (tD X.K)) := i_tupY (PY.to h tup_of)
theorem i_rng1 {tg : Expr} {n : Nat} {p pos : Pos} (hg : Gl X "range") (hm : X.mg "range" = none) (h : PY X e Γ (tI (n : Int))) (hn : n ≤ 100000) (hs1 : starEach [e] X.env = (false, eval e X.env) :: starEach [] X.env := by rfl) (hs : starEach [e] X.env = [(false, eval e X.env)] := by rfl) :
    PYI X tg (.Call (.Name "range" p) [e] [] pos) Γ ((List.range n).map fun i => tI (i : Nat)) :=
  PI.imp (pi_range1 hg hm (ya_cons h ya_nil hs1) hs) fun σ H R ⟨g, q⟩ => ⟨g, fun vs H1 s1 hvs => by
    obtain ⟨v, rfl, hv⟩ := all1 hvs
    refine ⟨n, by rw [show v = V.int (n : Int) from hv], by omega, by omega, q _ H1 s1 ?_⟩
    have e1 : ((n : Int)).toNat = n := by simp
    rw [e1]
    refine ⟨fun i H' s hi => by rw [List.length_map, List.length_range] at hi; exact hi, fun H' s => by rw [List.length_map, List.length_range]; exact Nat.le_refl _, fun i H' x H'' s ⟨e2, y⟩ hi => ?_⟩
    subst e2
    refine ⟨Same.refl _, tI (i : Nat), ?_, ?_⟩
    · rw [List.getElem?_map, List.getElem?_range (by simpa using hi)]; rfl
    · show x = V.int _
      rw [y, Int.zero_add]⟩
/-- a pair -/
abbrev tPair (K : PySem.W.Frag) (i : Nat) (τ : Ty) : Ty := tTup' K [tI (i : Nat), τ]
def enumTs (K : PySem.W.Frag) : Nat → List Ty → List Ty
  | _, [] => []
  | i, τ :: ts => tPair K i τ :: enumTs K (i + 1) ts
theorem enum_len {K : PySem.W.Frag} : ∀ (ts : List Ty) (i : Nat), (enumTs K i ts).length = ts.length
  | [], _ => rfl
  | _ :: ts, i => by simp [enumTs, enum_len ts]
theorem enum_get {K : PySem.W.Frag} {τ : Ty} : ∀ {ts : List Ty} {i j : Nat}, ts[j]? = some τ → (enumTs K i ts)[j]? = some (tPair K (i + j) τ)
  | [], _, _, h => by simp at h
  | _ :: ts, i, 0, h => by simp at h; subst h; rfl
  | _ :: ts, i, j + 1, h => by
    have := enum_get (K := K) (ts := ts) (i := i + 1) (j := j) (by simpa using h)
    rw [show i + (j + 1) = i + 1 + j by omega]
    simpa [enumTs] using this
theorem i_enumT {ts : List Ty} {elts : List Expr} {kk : Nat} {tpos p pos : Pos} (hg : Gl X "enumerate") (hm : X.mg "enumerate" = none) (h : PY X e Γ (tTup' X.K ts)) (hs1 : starEach [e] X.env = (false, eval e X.env) :: starEach [] X.env := by rfl) (hs : starEach [e] X.env = [(false, eval e X.env)] := by rfl) :
    PYI X (.Tuple elts kk tpos) (.Call (.Name "enumerate" p) [e] [] pos) Γ (enumTs X.K 0 ts) :=
  PI.imp (Lq.pi_enumT hg hm (ya_cons h ya_nil hs1) hs) fun σ H R ⟨g, q⟩ => ⟨g, fun vs H1 s1 hvs => by
    obtain ⟨v, rfl, a, xs, rfl, h2, h3⟩ := all1 hvs
    refine ⟨a, xs, rfl, h2, q _ H1 s1 ⟨fun i H' s hi => ?_, fun H' s => ?_, fun i H' x H'' s y hi => ?_⟩⟩
    · rw [enum_len, ← h3.len] at hi
      exact ⟨xs, xs[i], Same.seqT s h2, List.getElem?_eq_getElem hi⟩
    · exact ⟨xs, Same.seqT s h2, by rw [enum_len]; exact h3.len⟩
    · obtain ⟨T, x', rfl, hT, rfl, y⟩ := y
      obtain ⟨τ, t1, t2⟩ := h3.at (y xs (Same.seqT s h2))
      refine ⟨Same.new hT, tPair X.K i τ, ?_, T, _, rfl, SqT.of upd_same, .cons rfl (.cons (τ.up (s.trans (Same.new hT)) t2) .nil)⟩
      have := enum_get (K := X.K) (i := 0) t1
      rwa [Nat.zero_add] at this⟩
theorem i_enumL {ts : List Ty} {elts : List Expr} {kk : Nat} {tpos p pos : Pos} (hg : Gl X "enumerate") (hm : X.mg "enumerate" = none) (h : PY X e Γ (tLst X.K ts)) (hs1 : starEach [e] X.env = (false, eval e X.env) :: starEach [] X.env := by rfl) (hs : starEach [e] X.env = [(false, eval e X.env)] := by rfl) :
    PYI X (.Tuple elts kk tpos) (.Call (.Name "enumerate" p) [e] [] pos) Γ (enumTs X.K 0 ts) :=
  PI.imp (pi_enum hg hm (ya_cons h ya_nil hs1) hs) fun σ H R ⟨g, q⟩ => ⟨g, fun vs H1 s1 hvs => by
    obtain ⟨v, rfl, a, xs, rfl, h2, h3⟩ := all1 hvs
    refine ⟨a, xs, rfl, h2, q _ H1 s1 ⟨fun i H' s hi => ?_, fun H' s => ?_, fun i H' x H'' s y hi => ?_⟩⟩
    · rw [enum_len, ← h3.len] at hi
      exact ⟨xs, xs[i], s.seq h2, List.getElem?_eq_getElem hi⟩
    · exact ⟨xs, s.seq h2, by rw [enum_len, h3.len]; exact Nat.le_refl _⟩
    · obtain ⟨T, x', rfl, hT, rfl, y⟩ := y
      obtain ⟨τ, t1, t2⟩ := h3.at (y xs (s.seq h2))
      refine ⟨Same.new hT, tPair X.K i τ, ?_, T, _, rfl, SqT.of upd_same, .cons rfl (.cons (τ.up (s.trans (Same.new hT)) t2) .nil)⟩
      have := enum_get (K := X.K) (i := 0) t1
      rwa [Nat.zero_add] at this⟩

/-! ### targets -/
/-- what a target makes of a thing of kind τ: names in the slots of vs, Γ' behind it -/
def TgY (g : TG) (vs : List Nat) (τ : Ty) (Γ Γ' : Cxt) : Prop := ∀ v σ H, Env Γ σ H → τ.is v H → ∀ Q : L2.St → Hp → Prop, (∀ σ', Env Γ' σ' H → wipe σ' vs = wipe σ vs → Q σ' H) → g v σ H Q
theorem tg_name {i : Nat} {vs : List Nat} (h : i ∈ vs) : TgY (gName i) vs τ Γ (Γ.set i (some τ)) := fun v σ H g hv Q q => q _ (g.set hv) (wipe_set h)
theorem tg_pair {i j : Nat} {vs : List Nat} {K : PySem.W.Frag} (h : i ∈ vs) (h' : j ∈ vs) : TgY (gTup K 2 (gCons (gName i) (gCons (gName j) gNil))) vs (tTup' K [τ, τ']) Γ ((Γ.set i (some τ)).set j (some τ')) := fun v σ H g ⟨a, xs, e1, h2, h3⟩ Q q => by
  obtain ⟨x, y, rfl, hx, hy⟩ := all2 h3
  exact ⟨a, _, e1, h2, rfl, x, [y], rfl, y, [], rfl, rfl, q _ ((g.set hx).set hy) (by rw [wipe_set h', wipe_set h])⟩
/-- data that is a pair -/
theorem tg_pairD {i j : Nat} {vs : List Nat} {K : PySem.W.Frag} {d d' : PyData} (h : i ∈ vs) (h' : j ∈ vs) : TgY (gTup K 2 (gCons (gName i) (gCons (gName j) gNil))) vs (tD K (.tuple [d, d'])) Γ ((Γ.set i (some (tD K d))).set j (some (tD K d'))) := fun v σ H g hv Q q => tg_pair h h' v σ H g (tup_of v H hv) Q q

/-! ### comprehensions -/
def ttL {β : Type} (l : List β) (f : β → Bool) (Γt : β → Cxt) : TT := fun σ H Q => ∃ x, x ∈ l ∧ tYT (Γt x) (f x) σ H Q
def teL (K : PySem.W.Frag) {β : Type} (l : List β) (f : β → Bool) (d : β → PyData) (Γt : β → Cxt) : TE := fun σ H Q => ∃ x, x ∈ l ∧ f x = true ∧ tY (Γt x) (tD K (d x)) σ H Q
/-- a new list of what the turns give -/
theorem lc_sem {β : Type} {K : PySem.W.Frag} {g : TG} {vs0 : List Nat} (l : List β) (ty : β → Ty) (f : β → Bool) (d : β → PyData) (Γt : β → Cxt) (hz : l.length ≤ 100000) (hfz : ∀ x, x ∈ l → fz (d x) = true)
    (hty : ∀ x, x ∈ l → TgY g vs0 (ty x) (wipeC Γ vs0) (Γt x)) {σ : L2.St} {H : Hp} {Q : VK} (h : tYN' K Γ ((l.filter f).map d) σ H Q) : tLc (iY Γ (l.map ty)) g (ttL l f Γt) (teL K l f d Γt) vs0 σ H Q := by
  obtain ⟨gm, q⟩ := h
  refine ⟨gm, fun J H1 s1 wk => ?_⟩
  intro D hD
  -- so far
  let W : Nat → Nat → Hp → Prop := fun i m H' => m = l.length - i ∧ i ≤ l.length ∧ Same H1 H' ∧ ∃ vs, H' D = some (.lst vs) ∧ DpAll K H' vs (((l.take i).filter f).map d)
  refine ⟨W, ⟨l.length, by simp, Nat.zero_le _, Same.new hD, [], upd_same, .nil⟩, ?_⟩
  rintro i m H' ⟨rfl, hi', s2, vs, hvs, hd⟩
  have lenl : (l.map ty).length = l.length := List.length_map _
  by_cases lt : i < l.length
  · refine .inr ⟨wk.goes i H' s2 (by rw [lenl]; exact lt), W (i + 1) (l.length - (i + 1)), fun H'' w => ⟨_, by omega, w⟩, fun x H2 y => ?_⟩
    obtain ⟨s3, τ, t1, t2⟩ := wk.yields i H' x H2 s2 y (by rw [lenl]; exact lt)
    obtain ⟨z, hz1, hz2⟩ : ∃ z, l[i]? = some z ∧ ty z = τ := by
      rw [List.getElem?_map, List.getElem?_eq_getElem lt] at t1
      exact ⟨l[i], List.getElem?_eq_getElem lt, Option.some.inj t1⟩
    subst hz2
    have hzl : z ∈ l := List.mem_of_getElem? hz1
    have tk : l.take (i + 1) = l.take i ++ [z] := by rw [List.take_succ, hz1]; rfl
    refine hty z hzl x _ H2 ((gm.up (s1.trans (s2.trans s3))).wipe _) t2 _ fun σ' e' hw => ⟨?_, z, hzl, e', fun H3 s4 => ?_⟩
    · rw [hw]
      have : ∀ vs : List Nat, wipe (wipe σ vs) vs = wipe σ vs := by
        intro vs
        have go : ∀ (ws : List Nat) (ρ : L2.St), (∀ i ∈ ws, i < ρ.length → ρ[i]? = some none) → wipe ρ ws = ρ := by
          intro ws
          induction ws with
          | nil => intro ρ _; rfl
          | cons j r ih =>
            intro ρ hρ
            rw [wipe_cons, ih ρ fun i hi => hρ i (List.mem_cons_of_mem _ hi)]
            by_cases hj : j < ρ.length
            · have e1 := hρ j List.mem_cons_self hj
              apply List.ext_getElem?
              intro k
              by_cases jk : j = k
              · subst jk; rw [List.getElem?_set_self hj, e1]
              · rw [List.getElem?_set_ne jk]
            · exact List.set_eq_of_length_le (by omega)
        refine go vs _ fun i hi hl => ?_
        have : ∀ (ws : List Nat) (ρ : L2.St), i ∈ ws → i < (wipe ρ ws).length → (wipe ρ ws)[i]? = some none := by
          intro ws
          induction ws with
          | nil => intro ρ h; cases h
          | cons j r ih =>
            intro ρ h hl
            rw [wipe_cons] at hl ⊢
            rw [List.length_set] at hl
            by_cases jk : j = i
            · subst jk; exact List.getElem?_set_self hl
            · rw [List.getElem?_set_ne jk]
              exact ih ρ ((List.mem_cons.mp h).resolve_left (Ne.symm jk)) hl
        exact this vs σ hi hl
      exact this _
    · have s24 : Same H1 H3 := s2.trans (s3.trans s4)
      cases hf : f z with
      | true =>
        show ∃ x, x ∈ l ∧ f x = true ∧ tY (Γt x) (tD K (d x)) σ' H3 _
        refine ⟨z, hzl, hf, e'.up s4, fun v H4 s5 hv => ?_⟩
        have hD4 : H4 D = some (.lst vs) := s5 _ _ (s4 _ _ (s3 _ _ hvs))
        refine ⟨vs, hD4, ?_, rfl, lt, Same.mut (s24.trans s5) hD, vs ++ [v], upd_same, ?_⟩
        · have := dpAll_len hd
          rw [List.length_map] at this
          have h2 := List.length_filter_le f (l.take i)
          rw [List.length_take] at h2
          exact sz_lt (by omega)
        · -- the items stand: the list is not of them
          have up1 : DpAll K H4 (vs ++ [v]) (((l.take (i + 1)).filter f).map d) := by
            rw [tk, List.filter_append, List.map_append]
            have e2 : ([z].filter f) = [z] := by simp [hf]
            rw [e2]
            exact dpAll_app (DpAll.up (s3.trans (s4.trans s5)) hd) (.cons hv .nil)
          refine DpAll.fz (TupK.upd hD4 (by intro xs h; cases h) (by intro ob xs h; cases h)) (fzA_all fun x hx => ?_) up1
          obtain ⟨y, hy, rfl⟩ := List.mem_map.mp hx
          exact hfz y (List.mem_of_mem_take (List.mem_filter.mp hy).1)
      | false =>
        show W (i + 1) (l.length - (i + 1)) H3
        refine ⟨rfl, lt, s24, vs, s4 _ _ (s3 _ _ hvs), ?_⟩
        rw [tk, List.filter_append]
        have e2 : ([z].filter f) = [] := by simp [hf]
        rw [e2, List.append_nil]
        exact DpAll.up (s3.trans s4) hd
  · obtain rfl : i = l.length := by omega
    refine .inl ⟨by have := wk.stops H' s2; rwa [lenl] at this, q D vs H' (s1.free hD) (s1.trans s2) hvs ?_⟩
    rwa [List.take_length] at hd
section
variable {β : Type} {elt tg iter : Expr} {ifs : List Expr} {scope : Scope} {own : List (Str × Nat)} {g : TG} (l : List β) (ty : β → Ty) (f : β → Bool) (d : β → PyData) (Γt : β → Cxt)
theorem n_lc (hz : l.length ≤ 100000) (hfz : ∀ x, x ∈ l → fz (d x) = true) (hc : X.calm = true) (hN : X.N.Nodup) (hi : PYI X tg iter Γ (l.map ty)) (ok : BlkOk X.N X.env.scope scope own)
    (hg : ∀ (s : Shared) (H : Hp) (C : Addr) (cl : List (Str × Addr)) (fp : List Addr), PG (X.blk s H scope (compEnvC scope cl C X.env) fp) tg g) (hty : ∀ x, x ∈ l → TgY g (own.map (·.2)) (ty x) (wipeC Γ (own.map (·.2))) (Γt x))
    (ht : ∀ x, x ∈ l → ∀ (s : Shared) (H : Hp) (C : Addr) (cl : List (Str × Addr)) (fp : List Addr), PTs (X.blk s H scope (compEnvC scope cl C X.env) fp) ifs (tYT (Γt x) (f x)))
    (he : ∀ x, x ∈ l → f x = true → ∀ (s : Shared) (H : Hp) (C : Addr) (cl : List (Str × Addr)) (fp : List Addr), PE (X.blk s H scope (compEnvC scope cl C X.env) fp) elt (tY (Γt x) (tD X.K (d x))))
    (hs : ∀ x, foldedSetIterable iter X.env x = pure x := by intro _; rfl) : PYN X (.ListComp elt [⟨tg, iter, ifs, 0⟩] scope pos) Γ ((l.filter f).map d) :=
  PE.imp (pe_lc (tt := ttL l f Γt) (te := teL X.K l f d Γt) hc hN hi ok hg (fun s H C cl fp => ⟨fun pins s' σ H' Q I ⟨x, hx, q⟩ => (ht x hx s H C cl fp).run pins s' σ H' Q I q⟩)
    (fun s H C cl fp => ⟨fun pins s' σ H' Q I ⟨x, hx, hf, q⟩ => (he x hx hf s H C cl fp).run pins s' σ H' Q I q⟩) hs) fun σ H Q h => lc_sem l ty f d Γt hz hfz hty h
theorem y_lc (hz : l.length ≤ 100000) (hfz : ∀ x, x ∈ l → fz (d x) = true) (hc : X.calm = true) (hN : X.N.Nodup) (hi : PYI X tg iter Γ (l.map ty)) (ok : BlkOk X.N X.env.scope scope own)
    (hg : ∀ (s : Shared) (H : Hp) (C : Addr) (cl : List (Str × Addr)) (fp : List Addr), PG (X.blk s H scope (compEnvC scope cl C X.env) fp) tg g) (hty : ∀ x, x ∈ l → TgY g (own.map (·.2)) (ty x) (wipeC Γ (own.map (·.2))) (Γt x))
    (ht : ∀ x, x ∈ l → ∀ (s : Shared) (H : Hp) (C : Addr) (cl : List (Str × Addr)) (fp : List Addr), PTs (X.blk s H scope (compEnvC scope cl C X.env) fp) ifs (tYT (Γt x) (f x)))
    (he : ∀ x, x ∈ l → f x = true → ∀ (s : Shared) (H : Hp) (C : Addr) (cl : List (Str × Addr)) (fp : List Addr), PE (X.blk s H scope (compEnvC scope cl C X.env) fp) elt (tY (Γt x) (tD X.K (d x))))
    (hs : ∀ x, foldedSetIterable iter X.env x = pure x := by intro _; rfl) : PY X (.ListComp elt [⟨tg, iter, ifs, 0⟩] scope pos) Γ (tD X.K (.list ((l.filter f).map d))) := (n_lc l ty f d Γt hz hfz hc hN hi ok hg hty ht he hs).y
theorem ts_no : PTs X [] (tYT Γ true) := PTs.imp pts_nil fun σ H Q ⟨_, q⟩ => q H (Same.refl H)
theorem ts_one {k : Bool} (h : PYT X c Γ k) : PTs X [c] (tYT Γ k) := pts_one h
theorem filter_all : l.filter (fun _ => true) = l := List.filter_eq_self.mpr fun _ _ => rfl
end

/-! ### statements -/
structure EndY where
  nx : Option Cxt
  rt : Option Ty
def tYE (Γ : Cxt) (E : EndY) : TS := fun D σ H => Env Γ σ H ∧ (∀ Γ', E.nx = some Γ' → ∀ σ' H', Same H H' → Env Γ' σ' H' → D.nx σ' H') ∧ (∀ τ, E.rt = some τ → ∀ v H', Same H H' → τ.is v H' → D.rt v H')
abbrev PSY (X : Cx) (ss : List Stmt) (Γ : Cxt) (E : EndY) : Prop := PSs X ss (tYE Γ E)
variable {ss rest : List Stmt} {st : Stmt} {E : EndY} {k : Bool}
theorem pss_no : PSs X ss fun _ _ _ => False := ⟨fun _ _ _ _ _ _ h => h.elim⟩
/-- the rest, behind a statement -/
theorem tail_ok {D : Ends} {σ : L2.St} {H H1 : Hp} (h : tYE Γ E D σ H) (s : Same H H1) {Γ1 : Cxt} {σ1 : L2.St} (g : Env Γ1 σ1 H1) : tYE Γ1 E D σ1 H1 := ⟨g, fun Γ' e σ' H' s' g' => h.2.1 Γ' e σ' H' (s.trans s') g', fun τ e v H' s' hv => h.2.2 τ e v H' (s.trans s') hv⟩
theorem s_end (e : E.nx = some Γ) : PSY X [] Γ E := PSs.imp pss_nil fun D σ H h => h.2.1 Γ e σ H (Same.refl H) h.1
theorem Env.forget {σ : L2.St} {H : Hp} (g : Env Γ σ H) (i : Nat) : Env (Γ.set i none) σ H := ⟨by rw [List.length_set]; exact g.len, fun j τ' hj => by
  by_cases ij : i = j
  · subst ij
    by_cases hi : i < Γ.length
    · rw [List.getElem?_set_self hi] at hj; cases hj
    · rw [List.getElem?_eq_none (by simp; omega)] at hj; cases hj
  · rw [List.getElem?_set_ne ij] at hj
    exact g.at_ j τ' hj⟩
/-- the end, some slots forgotten -/
theorem s_endW {Γw : Cxt} (w : ∀ σ H, Env Γ σ H → Env Γw σ H) (e : E.nx = some Γw) : PSY X [] Γ E := PSs.imp pss_nil fun D σ H h => h.2.1 Γw e σ H (Same.refl H) (w _ _ h.1)
theorem s_ret (h : PY X e Γ τ) (q : E.rt = some τ) : PSY X [.Return (some e) pos] Γ E := PSs.imp (pss_one (ps_ret h)) fun D σ H g => ⟨g.1, fun v H' s hv => g.2.2 τ q v H' s hv⟩
theorem s_retN (h : X.calm = true) (q : E.rt = some tNo) : PSY X [.Return none pos] Γ E := PSs.imp (pss_one ps_retN) fun D σ H g => g.2.2 tNo q _ H (Same.refl H) rfl
theorem s_by {te : TE} {g : TG} (h : PS X st (tAsg te g)) (w : ∀ σ H Q, tY Γ τ σ H Q → te σ H Q) {vs : List Nat} (ht : TgY g vs τ Γ Γ') (hr : PSY X rest Γ' E) : PSY X (st :: rest) Γ E :=
  PSs.imp (pss_cons h hr) fun D σ H g => w σ H _ ⟨g.1, fun v H1 s1 hv => ht v σ H1 (g.1.up s1) hv _ fun σ' e' _ => tail_ok g s1 e'⟩
theorem s_asg {i : Nat} {x : Str} {px : Pos} (h : PY X e Γ τ) (hr : PSY X rest (Γ.set i (some τ)) E) (hN : X.N.Nodup) (hi : X.N[i]? = some x := by rfl) (hx : Loc X.env.scope x := by exact Or.inl rfl)
    (hs : swapsWith e (some (.Name x px)) pos.line X.env = pure false := by rfl) (hf : X.fn x = true ∨ X.env.scope.names.lookup x = some .local := by first | exact .inl rfl | exact .inr rfl) : PSY X (.Assign [.Name x px] e pos :: rest) Γ E :=
  s_by (vs := [i]) (ps_set hN hi hx h hs hf) (fun σ H Q q => q) (tg_name List.mem_cons_self) hr
theorem s_asgG {tg : Expr} {g : TG} {vs : List Nat} (h : PY X e Γ τ) (hg : PG X tg g) (ht : TgY g vs τ Γ Γ') (hr : PSY X rest Γ' E) (hs : swapsWithSole [tg] e pos.line X.env = pure false := by rfl) (hw : swappedStores [tg] e X.env = pure none := by rfl) (h1 : (assignEach [tg] X.env).map (fun x => x.snd) = [assign tg X.env] := by rfl) : PSY X (.Assign [tg] e pos :: rest) Γ E :=
  s_by (ps_asg h hg hs hw h1) (fun σ H Q q => q) ht hr
theorem s_expr (h : PY X e Γ τ) (hr : PSY X rest Γ E) (hs : swapsWith e none pos.line X.env = pure false := by rfl) : PSY X (.Expr e pos :: rest) Γ E :=
  PSs.imp (pss_cons (ps_expr h hs) hr) fun D σ H g => ⟨g.1, fun v H1 s1 _ => tail_ok g s1 (g.1.up s1)⟩
/-- if c: body, the body handing back; behind it the rest -/
theorem s_ifR {body : List Stmt} (hc : PYT X c Γ k) (h1 : k = true → PSY X body Γ ⟨none, E.rt⟩) (h2 : k = false → PSY X rest Γ E) : PSY X (.If c body [] pos :: rest) Γ E := by
  cases k with
  | true => exact PSs.imp (pss_cons (ps_if hc (h1 rfl) pss_nil) (pss_no (ss := rest))) fun D σ H g => ⟨g.1, fun H1 s1 => ⟨g.1.up s1, ⟨fun Γ' e => (by cases e), fun τ e v H' s' hv => g.2.2 τ e v H' (s1.trans s') hv⟩⟩⟩
  | false => exact PSs.imp (pss_cons (ps_if hc (pss_no (ss := body)) pss_nil) (h2 rfl)) fun D σ H g => ⟨g.1, fun H1 s1 => tail_ok g s1 (g.1.up s1)⟩
/-- if c: body, falling through -/
theorem s_ifN {body : List Stmt} {Γ1 : Cxt} (hc : PYT X c Γ k) (h1 : k = true → PSY X body Γ ⟨some Γ1, none⟩) (h0 : k = false → ∀ σ H, Env Γ σ H → Env Γ1 σ H) (h2 : PSY X rest Γ1 E) : PSY X (.If c body [] pos :: rest) Γ E := by
  cases k with
  | true => exact PSs.imp (pss_cons (ps_if hc (h1 rfl) pss_nil) h2) fun D σ H g => ⟨g.1, fun H1 s1 => ⟨g.1.up s1, ⟨fun Γ' e σ' H' s' g' => by cases e; exact tail_ok g (s1.trans s') g', fun τ e => (by cases e)⟩⟩⟩
  | false => exact PSs.imp (pss_cons (ps_if hc (pss_no (ss := body)) pss_nil) h2) fun D σ H g => ⟨g.1, fun H1 s1 => tail_ok g s1 (h0 rfl _ _ (g.1.up s1))⟩
/-- for: the names behind each turn told -/
theorem s_for {tg iter : Expr} {body : List Stmt} {g : TG} {vs : List Nat} {ts : List Ty} (Γs Γb : Nat → Cxt) (h0 : ∀ σ H, Env Γ σ H → Env (Γs 0) σ H) (hc : X.calm = true) (hi : PYI X tg iter Γ ts) (hg : PG X tg g)
    (ht : ∀ i τ, ts[i]? = some τ → TgY g vs τ (Γs i) (Γb i)) (hb : ∀ i, i < ts.length → PSY X body (Γb i) ⟨some (Γs (i + 1)), E.rt⟩) (hr : PSY X rest (Γs ts.length) E)
    (hp : PassesOwn (model X.prog X.w) X.A X.env X.xe := by exact PassesOwn.never) (hs : ∀ x, foldedSetIterable iter X.env x = pure x := by intro _; rfl) : PSY X (.For tg iter body [] pos :: rest) Γ E := by
  refine PSs.imp (pss_cons (ps_for (tb := fun D σ H => ∃ i, i < ts.length ∧ tYE (Γb i) ⟨some (Γs (i + 1)), E.rt⟩ D σ H) hp hc hi hg ⟨fun pins s σ H D I ⟨i, hi, h⟩ => (hb i hi).run pins s σ H D I h⟩ hs) hr) fun D σ H gm => ⟨gm.1, fun J H1 s1 wk => ?_⟩
  refine ⟨fun i m σ' H' => m = ts.length - i ∧ i ≤ ts.length ∧ Same H1 H' ∧ Env (Γs i) σ' H', ⟨_, rfl, Nat.zero_le _, Same.refl _, h0 _ _ (gm.1.up s1)⟩, ?_⟩
  rintro i m σ' H' ⟨rfl, hle, s2, g2⟩
  by_cases lt : i < ts.length
  · refine .inr ⟨wk.goes i H' s2 lt, fun σ2 H2 => Same H1 H2 ∧ Env (Γs (i + 1)) σ2 H2, fun σ2 H2 ⟨a, b⟩ => ⟨_, by omega, rfl, lt, a, b⟩, fun x H2 y => ?_⟩
    obtain ⟨s3, τ, t1, t2⟩ := wk.yields i H' x H2 s2 y lt
    refine ht i τ t1 x σ' H2 (g2.up s3) t2 _ fun σ3 g3 _ => ⟨i, lt, g3, fun Γ' e σ4 H4 s4 g4 => ?_, fun τ' e v H4 s4 hv => gm.2.2 τ' e v H4 (s1.trans (s2.trans (s3.trans s4))) hv⟩
    cases e
    exact ⟨s2.trans (s3.trans s4), g4⟩
  · obtain rfl : i = ts.length := by omega
    exact .inl ⟨wk.stops H' s2, tail_ok gm (s1.trans s2) g2⟩
end
/-! ### defs -/
theorem env_start {τs : List Ty} {vs : List V} {H : Hp} {N : List Str} (h : AllY τs vs H) : Env (τs.map some ++ List.replicate (N.length - τs.length) none) (L2.start N vs) H := by
  have hl := h.len
  refine ⟨by unfold L2.start; simp [hl], fun i τ hi => ?_⟩
  by_cases lt : i < τs.length
  · rw [List.getElem?_append_left (by simpa using lt), List.getElem?_map] at hi
    cases q : τs[i]? with
    | none => rw [q] at hi; cases hi
    | some τ' =>
      rw [q] at hi
      cases hi
      obtain ⟨v, h1, h2⟩ := h.get q
      refine ⟨v, ?_, h2⟩
      unfold L2.start
      rw [List.getElem?_append_left (by simp; omega), List.getElem?_map, h1]; rfl
  · rw [List.getElem?_append_right (by simp; omega), List.getElem?_replicate] at hi
    split at hi <;> cases hi
theorem fnY {P : Program} {w : World} {K : PySem.W.Frag} {mg : Str → Option Value} {base : Heap} {x qual : Str} {params : Arguments} {body : List Stmt} {scope : Scope} {f : Addr} {fd : FuncData} {N ps : List Str} {k : Nat} {α : Type} {args : α → List Ty} {dom : α → Prop} {res : α → Ty}
    (F : FunD K x qual params body scope [] [] f fd) (S : FnScope N ps scope) (hl : ∀ z, (args z).length = ps.length) (nx : α → Option Cxt) (hnx : ∀ z Γ', nx z = some Γ' → ∀ H, (res z).is .non H)
    (hb : ∀ z, dom z → ∀ (cdv : Value) (A : Around) (outer : List PySem.Env) (s : Shared) (H : Hp) (E : XK), Room k (A.deeper (envOfC qual scope s.heap.objs.size f cdv)) →
      PSY (cxOf CX0 P w K mg base N qual scope f cdv A outer s H E).nox body ((args z).map some ++ List.replicate (N.length - (args z).length) none) ⟨nx z, some (res z)⟩) : FnOk P w K mg base CX0 (k + 1) f fd ps (SpY args dom res) := by
  refine F.ok S (fun vs H Q E ⟨z, _, h, _⟩ => by rw [h.len, hl]) fun cdv A outer s H vs Q E hr ⟨z, hz, h, q⟩ => ⟨_, (hb z hz cdv A outer s H E hr).nox, env_start h, fun Γ' e σ' H' s' _ => q _ _ s' (hnx z Γ' e H'), fun τ e v H' s' hv => ?_⟩
  cases e
  exact q v H' s' hv
end Lp
/-! LpSort -/
/-! sorted of a list, a tuple, a set, a dict of such data, any number of items; set of a list. -/
namespace Lq
open PySem PySem.Spec PyProof.Rows L2
open PySem.W (dataLe dataLt AllAlike Sortable EachIs)
abbrev Z := V × PyData
def zle : Z → Z → Bool := dataLe false (fun z : Z => z.2)
/-- what a walk over the thing at a gives, in some order -/
structure Coll (X : Cx) (C : Addr → Hp → List PyData → Prop) : Prop where
  run : ∀ {pins : List (Addr × Obj)} {σ : L2.St} {H : Hp} {s : Shared} {a : Addr} {ds : List PyData} {Q : List Value → Shared → Prop} {E : Value → Shared → Prop} (A : Around), A.handled = none → Inv X pins σ H s → C a H ds → ds.length ≤ 100000 →
    (∀ (s' : Shared) (us : List Value) (L : List Z), (∀ b o, s.heap.get? b = some o → s'.heap.get? b = some o) → s'.gens = s.gens → s'.os = s.os → Vals (L.map (·.1)) us → (L.map (·.2)).Perm ds → (∀ z ∈ L, Dp X.K H z.1 z.2) → Q us s') →
    wpAny (model X.prog X.w) A (collect (.ref a)) Q E s
mutual
theorem fz_reads {h : Heap} : ∀ {v : Value} {d : PyData} {as : List Addr}, Lp.fz d = true → Reads h v d as → as = []
  | _, _, _, _, .none => rfl
  | _, _, _, _, .bool _ => rfl
  | _, _, _, _, .int _ _ => rfl
  | _, _, _, _, .str _ _ => rfl
  | _, _, _, f, .list _ _ _ _ => by simp [Lp.fz] at f
  | _, _, _, f, .tuple _ _ _ r => fz_readsA (by simpa [Lp.fz] using f) r
  | _, _, _, f, .dict _ _ _ _ _ => by simp [Lp.fz] at f
theorem fz_readsA {h : Heap} : ∀ {vs : List Value} {ds : List PyData} {as : List Addr}, Lp.fzA ds = true → ReadsAll h vs ds as → as = []
  | _, _, _, _, .nil => rfl
  | _, _, _, f, .cons r t => by
    simp only [Lp.fzA, Bool.and_eq_true] at f
    rw [fz_reads f.1 r, fz_readsA f.2 t]; rfl
end
theorem vals_map {R : Value → Z → Prop} (h : ∀ u z, RelV z.1 u → R u z) : ∀ {L : List Z} {us : List Value}, Vals (L.map (·.1)) us → EachIs R us L
  | [], _, .nil => .nil
  | z :: L, _, .cons r t => .cons (h _ _ r) (vals_map h t)
theorem vals_each : ∀ {L : List Z} {us : List Value}, EachIs (fun u z => RelV z.1 u) us L → Vals (L.map (·.1)) us
  | _, _, .nil => .nil
  | _, _, .cons r t => .cons r (vals_each t)
theorem each_in {R R' : Value → Z → Prop} : ∀ {L : List Z} {us : List Value}, EachIs R us L → (∀ u z, z ∈ L → R u z → R' u z) → EachIs R' us L
  | _, _, .nil, _ => .nil
  | _, _, .cons r t, k => .cons (k _ _ List.mem_cons_self r) (each_in t fun u z hz => k u z (List.mem_cons_of_mem _ hz))
/-- sorted(x) -/
def rSortedD (K : PySem.W.Frag) (C : Addr → Hp → List PyData → Prop) : List V → Hp → VK → Prop := fun vs H Q => ∃ (a : Addr) (ds : List PyData), vs = [V.ref a] ∧ C a H ds ∧ (∀ d ∈ ds, Lp.fz d = true ∧ d.depth ≤ 8) ∧ AllAlike ds ∧ Sortable ds ∧ ds.length ≤ 100000 ∧
  ∀ (L : List Z) (p : Addr), (L.map (·.2)).Perm ds → L.Pairwise (fun x y => zle x y = true) → (∀ z ∈ L, Dp K H z.1 z.2) → H p = none → Q (.ref p) (upd H p (.lst (L.map (·.1))))
section
variable {X : Cx} {C : Addr → Hp → List PyData → Prop}
theorem cr_sortedD (cl : Coll X C) (hc : X.calm = true) (hu : X.A.units + 16 < cLine) : CallR X (.builtin "sorted") (rSortedD X.K C) := by
  intro pins s σ H vs us Q I r h
  obtain ⟨a, ds, rfl, ha, each, alk, srt, len, q⟩ := h
  rw [Vals.ref1 r]
  refine Calls.call_function_entry kind_sorted plain_sorted entry_sorted (args_sorted1 _) ?_
  unfold Builtin.«sorted»
  refine wpAny_bind (m := checkCount "sorted" 1 1 _) (wpAny_pure ?_)
  refine wpAny_bind (cl.run X.A.in1 (I.ok.hd hc) I ha len fun s1 us L k1 g1 o1 rv pm dp => ?_)
  have sl : (16777216 : Nat) = sizeLine := by decide
  have lL : L.length = ds.length := by rw [← pm.length_eq, List.length_map]
  have hlen : us.length = ds.length := by rw [← rv.length, List.length_map, lL]
  have lz : us.length ≤ sizeLine := by rw [hlen, ← sl]; omega
  refine wpAny_bind (wpAny_newList ?_ lz)
  have hoL : (s1.heap.push (seqObj "list" us.toArray 0)).get? s1.heap.objs.size = some (seqObj "list" us.toArray 0) := Heap.get?_push_size _ rfl
  have eR : EachIs (fun u z => RelV z.1 u) us L := vals_map (fun _ _ h => h) rv
  have memL : ∀ z, z ∈ L → z.2 ∈ ds := fun z hz => pm.mem_iff.mp (List.mem_map.mpr ⟨z, hz, rfl⟩)
  have rd : EachIs (fun u (z : Z) => ∃ as, Reads (s1.heap.push (seqObj "list" us.toArray 0)) u z.2 as ∧ s1.heap.objs.size ∉ as) us L := each_in eR fun u z hz ru => by
    obtain ⟨fz, _⟩ := each z.2 (memL z hz)
    obtain ⟨as, ra⟩ := Dp.reads I _ _ _ (dp z hz) ru
    have e := fz_reads fz ra
    subst e
    exact ⟨[], PyProof.Rows.Reads.keeps (fun b o e => Heap.get?_push_of_some _ (k1 b o e)) ra, List.not_mem_nil⟩
  have alk' : AllAlike (L.map (·.2)) := fun d hd d' hd' => alk d (pm.mem_iff.mp hd) d' (pm.mem_iff.mp hd')
  have srt' : Sortable (L.map (·.2)) := srt.imp (fun k d hd => k d (pm.mem_iff.mp hd)) fun k d hd => k d (pm.mem_iff.mp hd)
  have bnd : ∀ z, z ∈ L → X.A.in1.units + 1 + z.2.depth < cLine := fun z hz => by
    have := (each z.2 (memL z hz)).2
    show X.A.units + 1 + 1 + z.2.depth < cLine
    omega
  refine wpAny_bind (wpAny_holding (PySem.W.list_sort_data (A := X.A.in1) (s := { s1 with heap := s1.heap.push (seqObj "list" us.toArray 0) }) (n := 0) (enc := fun z : Z => z.2) (R := fun u z => RelV z.1 u) hoL eR rd alk' srt' (by rw [← eR.length]; exact lz) bnd fun out l2 e2 => ?_))
  obtain ⟨c, hcat⟩ := sortedHeap_at (vs := us) (out := out.toArray) hoL
  have kp : ∀ b o, s.heap.get? b = some o → (sortedHeap (s1.heap.push (seqObj "list" us.toArray 0)) s1.heap.objs.size us out.toArray).get? b = some o := fun b o e => by
    have e1 := k1 b o e
    have hlt := Heap.lt_size e1
    rw [sortedHeap_old (Nat.ne_of_lt hlt) (by rw [size_push']; exact Nat.lt_succ_of_lt hlt)]
    exact Heap.get?_push_of_some _ e1
  have pL : (L.mergeSort zle).Perm L := List.mergeSort_perm _ _
  have rv' : Vals ((L.mergeSort zle).map (·.1)) out := vals_each e2
  have ll : ((L.mergeSort zle).map (·.1)).length ≤ sizeLine := by rw [List.length_map, pL.length_eq, lL, ← sl]; omega
  have hp0 : s.heap.get? s1.heap.objs.size = none := by
    cases hq : s.heap.get? s1.heap.objs.size with
    | none => rfl
    | some o => exact absurd (Heap.lt_size (k1 _ _ hq)) (Nat.lt_irrefl _)
  have hn : H s1.heap.objs.size = none := I.hok.gone hp0
  have J : Inv X pins σ (upd H s1.heap.objs.size (.lst ((L.mergeSort zle).map (·.1)))) { s with heap := sortedHeap (s1.heap.push (seqObj "list" us.toArray 0)) s1.heap.objs.size us out.toArray, gens := s1.gens, drawn := s1.drawn, toks := s1.toks } :=
    I.call (ch := []) (Un.laidN kp hp0 hn) (I.hok.laidN kp hn ⟨ll, out, c, rv', hcat⟩) (by rw [g1]; exact I.bare) (fun _ z => nomatch z)
  have e : ({ s1 with heap := sortedHeap (s1.heap.push (seqObj "list" us.toArray 0)) s1.heap.objs.size us out.toArray } : Shared) = { s with heap := sortedHeap (s1.heap.push (seqObj "list" us.toArray 0)) s1.heap.objs.size us out.toArray, gens := s1.gens, drawn := s1.drawn, toks := s1.toks } := by
    cases s1
    cases s
    cases o1
    rfl
  refine wpAny_pure ⟨_, rfl, ?_⟩
  rw [e]
  exact ⟨.ref _, _, J, rfl, q _ _ ((pL.map _).trans pm) (PySem.W.sort_pairwise (le := zle) (PySem.W.sortLe_total (PyProof.Rows.listOrd PyProof.Rows.itemOrd) false fun z : Z => PySem.W.keyToks z.2) _) (fun z hz => dp z (pL.mem_iff.mp hz)) hn⟩

/-! ### what is walked -/
theorem dp_zip {K : PySem.W.Frag} {H : Hp} : ∀ {vs : List V} {ds : List PyData}, DpAll K H vs ds → (vs.zip ds).map (·.1) = vs ∧ (vs.zip ds).map (·.2) = ds ∧ ∀ z ∈ vs.zip ds, Dp K H z.1 z.2
  | _, _, .nil => ⟨rfl, rfl, fun _ h => nomatch h⟩
  | _, _, .cons h t => by
    obtain ⟨e1, e2, e3⟩ := dp_zip t
    refine ⟨by rw [List.zip_cons_cons, List.map_cons, e1], by rw [List.zip_cons_cons, List.map_cons, e2], fun z hz => ?_⟩
    rcases List.mem_cons.mp hz with rfl | hz
    · exact h
    · exact e3 z hz
def cSeq (K : PySem.W.Frag) (a : Addr) (H : Hp) (ds : List PyData) : Prop := ∃ xs, (SqL K H a xs ∨ SqT K H a xs) ∧ DpAll K H xs ds
theorem coll_seq : Coll X (cSeq X.K) := ⟨fun {pins σ H s a ds Q E} A hh I ⟨xs, hs, hd⟩ hn q => by
  obtain ⟨e1, e2, e3⟩ := dp_zip hd
  have sl : (16777216 : Nat) = sizeLine := by decide
  have lx := Lp.dpAll_len hd
  have go : ∀ {T : String} {o : Obj} {its : List Value} {n : Nat}, T = "list" ∨ T = "tuple" → s.heap.get? a = some o → o.cls = .type T → o.data = .seq its.toArray n → Vals xs its → wpAny (model X.prog X.w) A (collect (.ref a)) Q E s := by
    intro T o its n hT ho hc hdt rv
    refine wpAny_collect_seq a hT ho hc hdt (fun h' hk => ?_) (by have := rv.length; simp; omega)
    exact q _ _ (xs.zip ds) hk rfl rfl (by rw [e1]; exact rv) (by rw [e2]) e3
  rcases hs with hs | hs
  · obtain ⟨its, rv, hl, _⟩ := I.list hs
    obtain ⟨o, ho, hc, n, hdt⟩ := hl.isList
    exact go (.inl rfl) ho hc hdt rv
  · obtain ⟨its, rv, ⟨o, ho, hc, n, hdt⟩, _⟩ := I.tuple hs
    exact go (.inr rfl) ho hc hdt rv⟩
end
end Lq
/-! LpSort2 -/
namespace Lq
open PySem PySem.Spec PyProof.Rows L2
open PySem.W (dataLe dataLt AllAlike Sortable EachIs)
/-! ### sets, dicts as what is walked -/
mutual
def nkD : NK → PyData
  | .none => .none
  | .num i => .int i
  | .text x => .str x
  | .tup ks => .tuple (nkDs ks)
def nkDs : List NK → List PyData
  | [] => []
  | k :: ks => nkD k :: nkDs ks
end
mutual
theorem nest_of {h : Heap} : ∀ {k : NK} {v : Value} {as : List Addr}, nums k = true → Reads h v (nkD k) as → NestedIs h k v
  | .none, _, _, hn, _ => by simp [nums] at hn
  | .num i, _, _, _, r => by
    have r' : Reads h _ (.int i) _ := r
    cases r'; exact .int _ _
  | .text x, _, _, hn, _ => by simp [nums] at hn
  | .tup ks, _, _, hn, r => by
    have r' : Reads h _ (.tuple (nkDs ks)) _ := r
    cases r' with
    | tuple h1 h2 h3 h4 => exact .tup h1 h2 h3 (nest_ofA (by simpa [nums] using hn) h4)
theorem nest_ofA {h : Heap} : ∀ {ks : List NK} {vs : List Value} {as : List Addr}, numsA ks = true → ReadsAll h vs (nkDs ks) as → NestedAll h ks vs
  | [], _, _, _, r => by
    have r' : ReadsAll h _ [] _ := r
    cases r'; exact .nil
  | k :: ks, _, _, hn, r => by
    have r' : ReadsAll h _ (nkD k :: nkDs ks) _ := r
    simp only [numsA, Bool.and_eq_true] at hn
    cases r' with
    | cons h1 h2 => exact .cons (nest_of hn.1 h1) (nest_ofA hn.2 h2)
end
theorem isN_of {X : Cx} {pins : List (Addr × Obj)} {σ : L2.St} {H : Hp} {s : Shared} (I : Inv X pins σ H s) {k : NK} {b : Addr} (hd : k.depth ≤ 8) (hn : nums k = true) (d : Dp X.K H (.ref b) (nkD k)) : IsN s.heap k b := by
  obtain ⟨as, r⟩ := Dp.reads I _ _ _ d (show RelV (.ref b) (.ref b) from rfl)
  exact ⟨nest_of hn r, hd, hn⟩
/-- the set without its elements' own objects -/
def NSet0 (w : World) (h : Heap) (a : Addr) (L : List (Addr × NK)) : Prop := ∃ (es : Array (Int × Value)) (ep : Nat) (t : SetTable), (∃ o, h.get? a = some o ∧ o.ExactSet ∧ o.data = .set es ep t) ∧ es.toList = L.map (rowN w) ∧ TabOk t (L.map fun p => p.2.hash w) ∧ (L.map Prod.snd).Nodup ∧
  (w.params.followText "set-order" = true ∨ t.led = true) ∧ L.length * 5 < t.mask * 3 ∧ L.length < 64
def NSetO (w : World) (a : Addr) (L : List (Addr × NK)) : HO := .ext fun h => NSet0 w h a L
theorem NSet.bare {w : World} {h : Heap} {a : Addr} {L : List (Addr × NK)} {es : Array (Int × Value)} {ep : Nat} {t : SetTable} (R : NSet w h a L es ep t) : NSet0 w h a L := ⟨es, ep, t, R.obj, R.row, R.tab, R.unlike, R.led, R.spare, R.few⟩
theorem nsetO_new {P : Program} {w : World} {H : Hp} {h : Heap} {a : Addr} {L : List (Addr × NK)} (R : NSet0 w h a L) : ObjOk P w H h a (NSetO w a L) := by
  have ⟨es, ep, t, ⟨o, ho, r⟩, q⟩ := R
  refine ⟨R, ⟨o, ho⟩, fun h1 h2 p k => ?_⟩
  obtain ⟨es', ep', t', ⟨o', ho', r'⟩, q'⟩ := p
  exact ⟨es', ep', t', ⟨o', k o' ho', r'⟩, q'⟩
def cSet (K : PySem.W.Frag) (w : World) (a : Addr) (H : Hp) (ds : List PyData) : Prop := ∃ L : List (Addr × NK), H a = some (NSetO w a L) ∧ (∀ p ∈ L, Dp K H (.ref p.1) (nkD p.2)) ∧ ds = L.map fun p => nkD p.2
def cSetI (w : World) (a : Addr) (H : Hp) (ds : List PyData) : Prop := ∃ (ns : List Int) (S : Int → Bool) (n : Nat), H a = some (SetO w a S n) ∧ ns.Nodup ∧ (∀ k, k ∈ ns ↔ S k = true) ∧ ds = ns.map .int
def keyD : Key → PyData
  | .inl i => .int i
  | .inr x => .str x
def cDict (a : Addr) (H : Hp) (ds : List PyData) : Prop := ∃ kvs : List (List Key × V), Rd H a (.dT kvs) ∧ ds = kvs.map fun p => .tuple (p.1.map keyD)
theorem perm_fetch {α β γ : Type} {f : α → γ} {g : β → γ} {l : List γ} {L : List α} (h : l.Perm (L.map f)) : ∃ L' : List α, L'.Perm L ∧ l = L'.map f := by
  have go : ∀ {l m : List γ}, l.Perm m → ∀ L : List α, m = L.map f → ∃ L' : List α, L'.Perm L ∧ l = L'.map f := by
    intro l m h
    induction h with
    | nil => exact fun L e => ⟨[], by rw [List.map_eq_nil_iff.mp e.symm], rfl⟩
    | cons x p ih =>
      intro L e
      cases L with
      | nil => cases e
      | cons y L =>
        rw [List.map_cons] at e
        injection e with e1 e2
        obtain ⟨L', p1, p2⟩ := ih L e2
        exact ⟨y :: L', p1.cons y, by rw [List.map_cons, e1, p2]⟩
    | swap x y l =>
      intro L e
      match L, e with
      | a :: b :: L, e =>
        simp only [List.map_cons, List.cons.injEq] at e
        exact ⟨b :: a :: L, .swap _ _ _, by simp [e.1, e.2.1, e.2.2]⟩
    | trans _ _ ih1 ih2 =>
      intro L e
      obtain ⟨L1, p1, e1⟩ := ih2 L e
      obtain ⟨L2, p2, e2⟩ := ih1 L1 e1
      exact ⟨L2, p2.trans p1, e2⟩
  exact go h L rfl
section
variable {X : Cx}
theorem vals_rows : ∀ (L : List (Addr × NK)), Vals (L.map fun p => V.ref p.1) (L.map fun p => Value.ref p.1)
  | [] => .nil
  | p :: L => .cons rfl (vals_rows L)
theorem coll_set : Coll X (cSet X.K X.w) := ⟨fun {pins σ H s a ds Q E} A hh I ⟨L, ha, hk, e⟩ hn q => by
  subst e
  obtain ⟨es, ep, t, ⟨o, ho, hex, hd⟩, row, tab, unl, led, sp, few⟩ : NSet0 X.w s.heap a L := (I.hok a _ ha).1
  have n1 := len_rows row
  have fit : t.fits es.size = true := by
    have n3 := tab.sz
    rw [List.length_map] at n3
    unfold SetTable.fits SetTable.fill
    rw [tab.dm]
    simp
    omega
  refine collect_set (A := A) hh ⟨o, ho, hex.1, hd⟩ fit (by rw [n1]; unfold scanBound; omega) tab.ris led fun s1 us k1 hz g1 o1 pm => ?_
  have e2 : es.toList.map (·.2) = L.map fun p => Value.ref p.1 := by rw [row, List.map_map]; rfl
  rw [e2] at pm
  obtain ⟨L', pL, eL⟩ := perm_fetch (β := Unit) (g := fun _ => Value.none) pm
  subst eL
  refine q s1 _ (L'.map fun p => (V.ref p.1, nkD p.2)) k1 g1 o1 ?_ ?_ ?_
  · rw [List.map_map]; exact vals_rows L'
  · rw [List.map_map]; exact pL.map _
  · intro z hz
    obtain ⟨p, hp, rfl⟩ := List.mem_map.mp hz
    exact hk p (pL.mem_iff.mp hp)⟩
theorem coll_setI : Coll X (cSetI X.w) := ⟨fun {pins σ H s a ds Q E} A hh I ⟨ns, S, n, ha, nd, hS, e⟩ hn q => by
  subst e
  obtain ⟨o, es, ep, t, ho, hex, hd, good, und, mem, sz, fit, en, ris, led⟩ : SetR X.w s.heap a S n := (I.hok a _ ha).1
  refine collect_set (A := A) hh ⟨o, ho, hex.1, hd⟩ fit sz ris led fun s1 us k1 hz g1 o1 pm => ?_
  have e2 : ∀ l : List (Int × Value), (∀ e ∈ l, GoodE e) → Vals ((l.map keyOf).map V.int) (l.map (·.2)) := by
    intro l
    induction l with
    | nil => exact fun _ => .nil
    | cons x l ih =>
      intro hl
      obtain ⟨k, tk, e1, _⟩ := hl x List.mem_cons_self
      refine .cons ?_ (ih fun y hy => hl y (List.mem_cons_of_mem _ hy))
      show ∃ t', x.2 = Value.int (keyOf x) t'
      exact ⟨tk, by rw [e1]; unfold keyOf; rw [e1]⟩
  obtain ⟨L', pL, eL⟩ := perm_fetch (β := Unit) (g := fun _ => Value.none) pm
  subst eL
  have p2 : (L'.map keyOf).Perm ns := by
    have a1 : (L'.map keyOf).Perm (es.toList.map keyOf) := pL.map _
    exact a1.trans ((List.perm_ext_iff_of_nodup und nd).mpr fun k => by rw [← mem k, hS k])
  refine q s1 _ ((L'.map keyOf).map fun i => (V.int i, PyData.int i)) k1 g1 o1 ?_ ?_ ?_
  · rw [List.map_map]; exact e2 L' fun e he => good e (pL.mem_iff.mp he)
  · rw [List.map_map]; exact p2.map _
  · intro z hz
    obtain ⟨i, _, rfl⟩ := List.mem_map.mp hz
    exact .int i⟩
theorem key_dp {K : PySem.W.Frag} {H : Hp} : ∀ ks : List Key, DpAll K H (ks.map kV) (ks.map keyD)
  | [] => .nil
  | .inl i :: ks => .cons (.int i) (key_dp ks)
  | .inr x :: ks => .cons (.str x) (key_dp ks)
theorem kt_zs {K : PySem.W.Frag} {H : Hp} : ∀ {kvs : List (List Key × V)} {xs : List (List Key × Addr × Value)}, KT H kvs xs → ∃ L : List Z, L.map (·.1) = xs.map (fun x => V.ref x.2.1) ∧ L.map (·.2) = kvs.map (fun p => PyData.tuple (p.1.map keyD)) ∧ ∀ z ∈ L, Dp K H z.1 z.2
  | _, _, .nil => ⟨[], rfl, rfl, fun _ h => nomatch h⟩
  | p :: kvs, x :: xs, .cons h t => by
    obtain ⟨L, e1, e2, e3⟩ := kt_zs (K := K) t
    refine ⟨(V.ref x.2.1, .tuple (p.1.map keyD)) :: L, by rw [List.map_cons, e1, List.map_cons], by rw [List.map_cons, e2, List.map_cons], fun z hz => ?_⟩
    rcases List.mem_cons.mp hz with rfl | hz
    · exact .tup (SqT.of h.2.1) (key_dp p.1)
    · exact e3 z hz
theorem coll_dict : Coll X cDict := ⟨fun {pins σ H s a ds Q E} A hh I ⟨kvs, hd, e⟩ hn q => by
  subst e
  obtain ⟨z, hs, ks, pr, o, es, ep, ho, hx, hdt, he, hnd⟩ := (show ObjOk X.prog X.w H s.heap a (.dT kvs) from hd.ok I.hok)
  have l1 : es.size = ks.length := size_of_entries he
  have l2 : kvs.length = ks.length := Paired.length pr
  refine PySem.W.kdu_collect (kdl_raw hs hx hdt) hh ho (by omega) fun h' tk acc kp it => ?_
  have ea : acc.toList = ks.map fun x => Value.ref x.2.1 := by
    have hl : acc.toList.length = ks.length := by rw [Array.length_toList, it.1]; exact l1
    apply List.ext_getElem?
    intro j
    rw [List.getElem?_map]
    cases hj : acc.toList[j]? with
    | none =>
      have h1 := List.getElem?_eq_none_iff.mp hj
      rw [List.getElem?_eq_none (by omega)]
      all_goals rfl
    | some v =>
      obtain ⟨en, hen, hv⟩ := it.2 j v (by rw [← Array.getElem?_toList]; exact hj)
      have qe := entry_at he j
      rw [hen] at qe
      cases hb : ks[j]? with
      | none =>
        rw [hb] at qe
        exact nomatch (show some en = none from qe)
      | some b =>
        rw [hb] at qe
        have e2 : en = entryOfKey (tupleKind (mixKind X.prog X.w)) b := Option.some.inj qe
        rw [hv, e2]
        all_goals rfl
  obtain ⟨L, e1, e2, e3⟩ := kt_zs (K := X.K) pr
  refine q _ _ L kp rfl rfl ?_ (by rw [e2]) e3
  rw [e1, ea]
  have := vals_refs (ks.map fun x => x.2.1)
  rwa [List.map_map, List.map_map] at this⟩
end
end Lq
/-! LpSort3 -/
namespace Lq
open PySem PySem.Spec PyProof.Rows L2
/-! ### set(xs), xs a list -/
def rSetN (K : PySem.W.Frag) (w : World) : List V → Hp → VK → Prop := fun xs H Q => ∃ (l : Addr) (ks : List (Addr × NK)) (Dom : List NK), xs = [V.ref l] ∧ SqL K H l (ks.map fun p => V.ref p.1) ∧ (∀ p ∈ ks, Dp K H (.ref p.1) (nkD p.2) ∧ p.2.depth ≤ 8 ∧ nums p.2 = true ∧ p.2 ∈ Dom) ∧ Dom.length < 64 ∧
  ∀ a L, H a = none → (∀ p ∈ L, p ∈ ks) → (∀ p ∈ ks, p.2 ∈ L.map Prod.snd) → (L.map Prod.snd).Nodup → Q (.ref a) (upd H a (NSetO w a L))
def rSetI (K : PySem.W.Frag) (w : World) : List V → Hp → VK → Prop := fun xs H Q => ∃ (l : Addr) (ns : List Int), xs = [V.ref l] ∧ SqL K H l (ns.map V.int) ∧ ns.length + 1 < scanBound ∧
  ∀ a c, H a = none → Q (.ref a) (upd H a (SetO w a (fun j => decide (j ∈ ns)) c))
section
variable {X : Cx}
theorem cr_setN (hc : X.calm = true) (hu : X.A.units + 64 < cLine) : CallR X (.type "set") (rSetN X.K X.w) := by
  intro pins s σ H xs us Q I r h
  obtain ⟨l, ks, Dom, rfl, hl, hk, dom, q⟩ := h
  rw [Vals.ref1 r]
  obtain ⟨its, rv, pl, hz⟩ := I.list hl
  have hn : H s.heap.objs.size = none := I.hok.fresh (Nat.le_refl _)
  have hit : its = ks.map fun p => Value.ref p.1 := by
    have go : ∀ {ks : List (Addr × NK)} {us : List Value}, Vals (ks.map fun p => V.ref p.1) us → us = ks.map fun p => Value.ref p.1 := by
      intro ks
      induction ks with
      | nil => intro us r; cases r; rfl
      | cons p ks ih =>
        intro us r
        cases r with
        | cons r t =>
          cases r
          rw [ih t]; rfl
    exact go rv
  have none_of : ∀ b, s.heap.objs.size ≤ b → s.heap.get? b = none := fun b hb => by
    cases q : s.heap.get? b with
    | none => rfl
    | some o => exact absurd (Nat.lt_of_lt_of_le (Heap.lt_size q) hb) (Nat.lt_irrefl _)
  refine set_by (P := X.prog) (w := X.w) (A := X.A) (items := its.toArray) (Post := fun s' => ∃ h' tk L, s' = { s with heap := h', toks := tk } ∧ NSet0 X.w h' s.heap.objs.size L ∧ (∀ p ∈ L, p ∈ ks) ∧ (∀ p ∈ ks, p.2 ∈ L.map Prod.snd) ∧ (∀ b o, s.heap.get? b = some o → h'.get? b = some o)) (I.ok.hd hc) pl.isList
    (fun A' R hh hu' fin => ?_) ?_
  · obtain ⟨ol, hol, hcl, nl, hdl⟩ := pl.isList
    obtain ⟨ocls, odict, odata, oslots⟩ := ol
    simp only at hcl hdl
    subst hcl; subst hdl
    have hlS : l < s.heap.objs.size := Heap.lt_size hol
    have hneI : l ≠ (s.heap.push (newSet X.w)).objs.size := by rw [Heap.size_push]; exact Nat.ne_of_lt (Nat.lt_succ_of_lt hlS)
    have hSf : s.heap.objs.size ∉ [(s.heap.push (newSet X.w)).objs.size, l] := by
      rw [Heap.size_push]; simp only [List.mem_cons, List.mem_singleton, List.not_mem_nil, or_false, not_or]
      exact ⟨Nat.ne_of_lt (Nat.lt_succ_self _), Nat.ne_of_gt hlS⟩
    have hS : (s.heap.push (newSet X.w)).get? s.heap.objs.size = some (newSet X.w) := Heap.get?_push_size _ rfl
    have hget : ((s.heap.push (newSet X.w)).push (newIt l)).get? s.heap.objs.size = some (newSet X.w) := Heap.get?_push_of_some _ hS
    have isz : its.toArray.size = ks.length := by rw [hit]; simp
    have old : ∀ b o, s.heap.get? b = some o → ((s.heap.push (newSet X.w)).push (newIt l)).get? b = some o := fun b o e => Heap.get?_push_of_some _ (Heap.get?_push_of_some _ e)
    have isL : (s.heap.push (newSet X.w)).IsList l its.toArray := ⟨_, Heap.get?_push_of_some _ hol, rfl, nl, rfl⟩
    refine upd_keys (n := its.toArray.size) ((Walks.list (by simp [hh]) _ l hneI its.toArray).toS) s.heap.objs.size hSf ks isz Dom dom (fun p hp => (hk p hp).2.2.2) (fun i v hv => ?_) s.heap (fun p hp => isN_of I (hk p hp).2.1 (hk p hp).2.2.1 (hk p hp).1) (none_of _ (Nat.le_refl _))
      (fun b hb => none_of b (by rw [List.mem_singleton.mp hb, Heap.size_push]; exact Nat.le_succ _)) (by omega) _ 0 _ rfl (Nat.zero_le _) ⟨⟨_, Heap.get?_push_size _ rfl, rfl, rfl⟩, isL.push _⟩ old ⟨[], _, _, _, nset_new hget, fun p hp => (by cases hp), fun j p hj => (by omega)⟩ fun s' L es ep t hm R3 g3 kp3 => fin s' ?_
    · have q : its[i]? = some v := by rw [← Array.getElem?_toList] at hv; simpa using hv
      rw [hit, List.getElem?_map] at q
      cases hq : ks[i]? with
      | none => rw [hq] at q; cases q
      | some p => rw [hq] at q; exact ⟨p, rfl, (Option.some.inj q).symm⟩
    · obtain ⟨h', g2, d', tk', os'⟩ := s'
      have eg : g2 = s.gens := hm.gens
      have ed : d' = s.drawn := hm.drawn
      have eo : os' = s.os := hm.os
      subst eg; subst ed; subst eo
      exact ⟨h', tk', L, rfl, R3.bare, g3.from_, fun p hp => by
        obtain ⟨j, hj⟩ := List.mem_iff_getElem?.mp hp
        exact g3.all j p (by rw [isz]; exact (List.getElem?_eq_some_iff.mp hj).1) hj, kp3⟩
  · rintro s' ⟨h', tk, L, rfl, R0, g1, g2, kp⟩
    have ⟨_, _, _, _, _, _, und, _⟩ := R0
    exact ⟨.ref s.heap.objs.size, upd H s.heap.objs.size (NSetO X.w s.heap.objs.size L), I.laid (t' := tk) kp (Nat.le_refl _) (nsetO_new R0), rfl, q _ L hn g1 g2 und⟩
theorem cr_setI (hc : X.calm = true) : CallR X (.type "set") (rSetI X.K X.w) := by
  intro pins s σ H xs us Q I r h
  obtain ⟨l, ns, rfl, hl, few, q⟩ := h
  rw [Vals.ref1 r]
  obtain ⟨its, rv, pl, hz⟩ := I.list hl
  have hn : H s.heap.objs.size = none := I.hok.fresh (Nat.le_refl _)
  have hi := rv.ints
  refine set_by (P := X.prog) (w := X.w) (A := X.A) (items := its.toArray) (Post := fun s' => ∃ h' tk c, s' = { s with heap := h', toks := tk } ∧ SetR X.w h' s.heap.objs.size (fun j => decide (j ∈ ns)) c ∧ (∀ b o, s.heap.get? b = some o → h'.get? b = some o)) (I.ok.hd hc) pl.isList
    (fun A' R hh hu' fin => ?_) ?_
  · obtain ⟨ol, hol, hcl, nl, hdl⟩ := pl.isList
    obtain ⟨ocls, odict, odata, oslots⟩ := ol
    simp only at hcl hdl
    subst hcl; subst hdl
    have hlS : l < s.heap.objs.size := Heap.lt_size hol
    have hneI : l ≠ (s.heap.push (newSet X.w)).objs.size := by rw [Heap.size_push]; exact Nat.ne_of_lt (Nat.lt_succ_of_lt hlS)
    have hSf : s.heap.objs.size ∉ [(s.heap.push (newSet X.w)).objs.size, l] := by
      rw [Heap.size_push]; simp only [List.mem_cons, List.mem_singleton, List.not_mem_nil, or_false, not_or]
      exact ⟨Nat.ne_of_lt (Nat.lt_succ_self _), Nat.ne_of_gt hlS⟩
    have hS : (s.heap.push (newSet X.w)).get? s.heap.objs.size = some (newSet X.w) := Heap.get?_push_size _ rfl
    have hget : ((s.heap.push (newSet X.w)).push (newIt l)).get? s.heap.objs.size = some (newSet X.w) := Heap.get?_push_of_some _ hS
    have isz : its.toArray.size = ns.length := by have := rv.length; rw [List.length_map] at this; simp [this]
    have isL : (s.heap.push (newSet X.w)).IsList l its.toArray := ⟨_, Heap.get?_push_of_some _ hol, rfl, nl, rfl⟩
    have hval : ∀ (i : Nat) (v : Value), its.toArray[i]? = some v → ∃ k t, ns[i]? = some k ∧ v = .int k t := fun i v hv => by
      have hi' : i < ns.length := by rw [← isz]; exact (Array.getElem?_eq_some_iff.mp hv).1
      obtain ⟨t, e⟩ := PyProof.Rows.IntsAre.int_at hi i v (by simpa using hv)
      refine ⟨ns[i], t, List.getElem?_eq_getElem hi', ?_⟩
      rw [e, List.getD_eq_getElem?_getD, List.getElem?_eq_getElem hi'] <;> rfl
    refine set_update_ints ((Walks.list (by simp [hh]) _ l hneI its.toArray).toS) s.heap.objs.size hSf ns isz few hval _ 0 _ rfl (Nat.zero_le _) ⟨⟨_, Heap.get?_push_size _ rfl, rfl, rfl⟩, isL.push _⟩ ⟨0, Nat.le_refl 0, setR_new_at hget⟩ fun s' c hm hc' hS' => fin s' ?_
    obtain ⟨h', g2, d', tk', os'⟩ := s'
    have eg : g2 = s.gens := hm.gens
    have ed : d' = s.drawn := hm.drawn
    have eo : os' = s.os := hm.os
    subst eg; subst ed; subst eo
    refine ⟨h', tk', c, rfl, hS', fun b o e => ?_⟩
    have hb0 : b < s.heap.objs.size := Heap.lt_size e
    have hb1 : b ≠ s.heap.objs.size := Nat.ne_of_lt hb0
    have hb2 : b ≠ (s.heap.push (newSet X.w)).objs.size := by rw [Heap.size_push]; exact Nat.ne_of_lt (Nat.lt_succ_of_lt hb0)
    exact hm.heap b o (by simp only [List.mem_cons, List.mem_singleton, List.not_mem_nil, or_false, not_or]; exact ⟨hb1, hb2⟩) (Heap.get?_push_of_some _ (Heap.get?_push_of_some _ e))
  · rintro s' ⟨h', tk, c, rfl, R0, kp⟩
    exact ⟨.ref s.heap.objs.size, upd H s.heap.objs.size (SetO X.w s.heap.objs.size (fun j => decide (j ∈ ns)) c), I.laid (t' := tk) kp (Nat.le_refl _) (setO_new R0), rfl, q _ c hn⟩
end
end Lq
/-! LpMath -/
set_option autoImplicit false
/-! Plain mathematics: journals, what leans on what, an order of laying. -/
namespace Lp
abbrev Kd := Nat × List Nat
structure Hs where
  wr : List Nat
  rd : List (List Int)
  la : List Int
def bg (c : Nat) : Int := -1 - (c : Int)
def la0 (n : Nat) : List Int := (List.range n).map bg
def stepH (h : Hs) (k : Kd) : Hs := ⟨h.wr ++ [k.1], h.rd ++ [k.2.map fun c => h.la.getD c 0], h.la.set k.1 (h.wr.length : Int)⟩
def hist0 (n : Nat) : Hs := ⟨[], [], la0 n⟩
def hist (n : Nat) (ks : List Kd) (js : List Nat) : Hs := js.foldl (fun h j => stepH h (ks.getD j (0, []))) (hist0 n)
/-- what is derived, as a list (its members count alone) -/
def cloAt (pl : List Int) : Nat → List (List Int) → List Int
  | _, [] => pl
  | i, s :: r => cloAt (if s.all (fun v => decide (v ∈ pl)) then (i : Int) :: pl else pl) (i + 1) r
def clo (pl : List Int) (rd : List (List Int)) : List Int := cloAt pl 0 rd
def safeB (h : Hs) (pl : List Int) : Bool := h.la.all fun v => decide (v ∈ clo pl h.rd)
def withL (h : Hs) (pl : List Int) (S : List Nat) : List Int := (List.range pl.length).map fun c => if c ∈ S then h.la.getD c 0 else pl.getD c 0
def wanted (h : Hs) (pl : List Int) : List Nat := (List.range pl.length).filter fun c => !decide (pl.getD c 0 = h.la.getD c 0)

theorem cloAt_snoc (s : List Int) : ∀ (rd : List (List Int)) (pl : List Int) (i : Nat), cloAt pl i (rd ++ [s]) =
    if s.all (fun v => decide (v ∈ cloAt pl i rd)) then ((i + rd.length : Nat) : Int) :: cloAt pl i rd else cloAt pl i rd
  | [], pl, i => by
    show (if s.all (fun v => decide (v ∈ pl)) then (i : Int) :: pl else pl) = if s.all (fun v => decide (v ∈ pl)) then ((i + 0 : Nat) : Int) :: pl else pl
    rw [Nat.add_zero]
  | t :: r, pl, i => by
    show cloAt _ (i + 1) (r ++ [s]) = _
    rw [cloAt_snoc s r]
    have e : i + 1 + r.length = i + (t :: r).length := by simp; omega
    rw [e]; rfl
theorem clo_snoc (pl : List Int) (rd : List (List Int)) (s : List Int) : clo pl (rd ++ [s]) = if s.all (fun v => decide (v ∈ clo pl rd)) then ((rd.length : Nat) : Int) :: clo pl rd else clo pl rd := by
  unfold clo; rw [cloAt_snoc]; simp
theorem clo_sub (pl : List Int) : ∀ (rd : List (List Int)) (i : Nat) (v : Int), v ∈ pl → v ∈ cloAt pl i rd := by
  intro rd
  induction rd generalizing pl with
  | nil => intro i v h; exact h
  | cons s r ih =>
    intro i v h
    show v ∈ cloAt _ (i + 1) r
    refine ih _ _ _ ?_
    split
    · exact List.mem_cons_of_mem _ h
    · exact h

/-! ### ties -/
def Chg (ks : List Kd) (c : Nat) : Prop := ∃ k, k ∈ ks ∧ k.1 = c
def Tie (ks : List Kd) (r w : Nat) : Prop := r ≠ w ∧ Chg ks r ∧ ∃ k, k ∈ ks ∧ k.1 = w ∧ r ∈ k.2
inductive Reach (ks : List Kd) (a : Nat) : Nat → Prop
  | refl : Reach ks a a
  | step {b c : Nat} : Reach ks a b → Tie ks b c → Reach ks a c
theorem Reach.trans {ks : List Kd} {a b c : Nat} (h : Reach ks a b) (g : Reach ks b c) : Reach ks a c := by
  induction g with
  | refl => exact h
  | step _ t ih => exact .step ih t
def Knot (ks : List Kd) (a b : Nat) : Prop := Reach ks a b ∧ Reach ks b a
/-- the knot of c is a row by pos, and each kind that writes in it reads at most one cell of it -/
structure RowAt (ks : List Kd) (c : Nat) (pos : Nat → Nat) : Prop where
  inj : ∀ a b, Knot ks c a → Knot ks c b → pos a = pos b → a = b
  near : ∀ a b, Knot ks c a → Knot ks c b → Tie ks a b → pos a ≤ pos b + 1 ∧ pos b ≤ pos a + 1
  one : ∀ k, k ∈ ks → Knot ks c k.1 → ∀ r r', r ∈ k.2 → r' ∈ k.2 → Knot ks c r → Knot ks c r' → r = r'
def SoundT (ks : List Kd) : Prop := ∀ c, Chg ks c → ∃ pos, RowAt ks c pos

/-! ### what leans on what -/
inductive Run (n : Nat) (ks : List Kd) : Hs → (Int → Nat → Prop) → Prop
  | nil : Run n ks (hist0 n) fun v x => v = bg x
  | snoc {h : Hs} {L : Int → Nat → Prop} (k : Kd) : Run n ks h L → k ∈ ks → Run n ks (stepH h k) fun v x => (v = (h.wr.length : Int) ∧ ∃ r, r ∈ k.2 ∧ L (h.la.getD r 0) x) ∨ (v ≠ (h.wr.length : Int) ∧ L v x)
structure TabOk (n : Nat) (ks : List Kd) : Prop where
  cell : ∀ k, k ∈ ks → k.1 < n
  read : ∀ k, k ∈ ks → ∀ r, r ∈ k.2 → r < n
theorem hist_run_go {n : Nat} {ks : List Kd} : ∀ (js : List Nat) (h : Hs) (L : Int → Nat → Prop), Run n ks h L → (∀ j, j ∈ js → j < ks.length) → ∃ L', Run n ks (js.foldl (fun h j => stepH h (ks.getD j (0, []))) h) L'
  | [], h, L, r, _ => ⟨L, r⟩
  | j :: js, h, L, r, hj => by
    have hl : j < ks.length := hj j List.mem_cons_self
    refine hist_run_go js _ _ (Run.snoc (ks.getD j (0, [])) r ?_) fun i hi => hj i (List.mem_cons_of_mem _ hi)
    rw [List.getD_eq_getElem?_getD, List.getElem?_eq_getElem hl]
    exact List.getElem_mem hl
theorem hist_run {n : Nat} {ks : List Kd} {js : List Nat} (hj : ∀ j, j ∈ js → j < ks.length) : ∃ L, Run n ks (hist n ks js) L := hist_run_go js _ _ .nil hj

section
variable {n : Nat} {ks : List Kd} {h : Hs} {L : Int → Nat → Prop}
theorem la0_get {c : Nat} (hc : c < n) : (la0 n).getD c 0 = bg c := by
  unfold la0
  rw [List.getD_eq_getElem?_getD, List.getElem?_map, List.getElem?_range hc]; rfl
theorem getD_set_self {l : List Int} {i : Nat} {v : Int} (h : i < l.length) : (l.set i v).getD i 0 = v := by
  rw [List.getD_eq_getElem?_getD, List.getElem?_set_self h]; rfl
theorem getD_set_ne {l : List Int} {i j : Nat} {v : Int} (h : i ≠ j) : (l.set i v).getD j 0 = l.getD j 0 := by
  rw [List.getD_eq_getElem?_getD, List.getElem?_set_ne h, ← List.getD_eq_getElem?_getD]
structure Good (n : Nat) (ks : List Kd) (h : Hs) (L : Int → Nat → Prop) : Prop where
  len : h.la.length = n
  lr : h.rd.length = h.wr.length
  small : ∀ c, c < n → h.la.getD c 0 < (h.wr.length : Int)
  der : ∀ pl c, c < n → (∀ x, L (h.la.getD c 0) x → bg x ∈ pl) → h.la.getD c 0 ∈ clo pl h.rd
  led : ∀ c x, c < n → L (h.la.getD c 0) x → Chg ks x → Reach ks x c
  lt : ∀ c x, c < n → L (h.la.getD c 0) x → x < n
  self : ∀ c x, c < n → h.la.getD c 0 = bg c → L (h.la.getD c 0) x → x = c
  chg : ∀ c, c < n → h.la.getD c 0 ≠ bg c → Chg ks c
theorem Run.good (T : TabOk n ks) (r : Run n ks h L) : Good n ks h L := by
  induction r with
  | nil =>
    refine ⟨by simp [hist0, la0], rfl, fun c hc => ?_, fun pl c hc hx => ?_, fun c x hc hl _ => ?_, fun c x hc hl => ?_, fun c x hc _ hl => ?_, fun c hc hn => ?_⟩
    · show (la0 n).getD c 0 < _
      rw [la0_get hc]; unfold bg hist0; simp; omega
    · have e : (hist0 n).la.getD c 0 = bg c := la0_get hc
      rw [e] at hx ⊢
      exact hx c rfl
    · have e : (hist0 n).la.getD c 0 = bg c := la0_get hc
      rw [e] at hl
      have : x = c := by unfold bg at hl; omega
      subst this
      exact .refl
    · have e : (hist0 n).la.getD c 0 = bg c := la0_get hc
      rw [e] at hl
      have : x = c := by unfold bg at hl; omega
      rw [this]; exact hc
    · have e : (hist0 n).la.getD c 0 = bg c := la0_get hc
      rw [e] at hl
      unfold bg at hl; omega
    · exact absurd (la0_get hc) hn
  | @snoc h L k r hk ih =>
    have hkn : k.1 < n := T.cell k hk
    have hkl : k.1 < h.la.length := by rw [ih.len]; exact hkn
    have atw : (stepH h k).la.getD k.1 0 = (h.wr.length : Int) := getD_set_self hkl
    have ato : ∀ c, c ≠ k.1 → (stepH h k).la.getD c 0 = h.la.getD c 0 := fun c hc => getD_set_ne (Ne.symm hc)
    have wl : (stepH h k).wr.length = h.wr.length + 1 := by simp [stepH]
    have oldne : ∀ c, c < n → h.la.getD c 0 ≠ (h.wr.length : Int) := fun c hc => Int.ne_of_lt (ih.small c hc)
    have cs : ∀ pl, clo pl (stepH h k).rd = if (k.2.map fun c => h.la.getD c 0).all (fun v => decide (v ∈ clo pl h.rd)) then ((h.wr.length : Nat) : Int) :: clo pl h.rd else clo pl h.rd := fun pl => by
      show clo pl (h.rd ++ [_]) = _
      rw [clo_snoc, ih.lr]
    refine ⟨by simp [stepH, ih.len], by simp [stepH, ih.lr], fun c hc => ?_, fun pl c hc hx => ?_, fun c x hc hl hx => ?_, fun c x hc hl => ?_, fun c x hc hb hl => ?_, fun c hc hn => ?_⟩
    · by_cases e : c = k.1
      · subst e; rw [atw, wl]; omega
      · rw [ato c e, wl]
        have := ih.small c hc; omega
    · by_cases e : c = k.1
      · subst e
        rw [atw] at hx ⊢
        rw [cs]
        have all : (k.2.map fun c => h.la.getD c 0).all (fun v => decide (v ∈ clo pl h.rd)) = true := by
          rw [List.all_eq_true]
          intro v hv
          obtain ⟨r, hr, rfl⟩ := List.mem_map.mp hv
          refine decide_eq_true (ih.der pl r (T.read k hk r hr) fun x hL => hx x (.inl ⟨rfl, r, hr, hL⟩))
        rw [if_pos all]
        exact List.mem_cons_self
      · rw [ato c e] at hx ⊢
        have m := ih.der pl c hc fun x hL => hx x (.inr ⟨oldne c hc, hL⟩)
        rw [cs]
        split
        · exact List.mem_cons_of_mem _ m
        · exact m
    · by_cases e : c = k.1
      · subst e
        rw [atw] at hl
        rcases hl with ⟨_, r, hr, hL⟩ | ⟨z, _⟩
        · have rr := ih.led r x (T.read k hk r hr) hL hx
          by_cases er : r = k.1
          · rw [er] at rr; exact rr
          · refine .step rr ⟨er, ?_, k, hk, rfl, hr⟩
            cases rr with
            | refl => exact hx
            | step _ t => obtain ⟨k', h1, h2, _⟩ := t.2.2; exact ⟨k', h1, h2⟩
        · exact absurd rfl z
      · rw [ato c e] at hl
        rcases hl with ⟨z, _⟩ | ⟨_, hL⟩
        · exact absurd z (oldne c hc)
        · exact ih.led c x hc hL hx
    · by_cases e : c = k.1
      · subst e
        rw [atw] at hl
        rcases hl with ⟨_, r, hr, hL⟩ | ⟨z, _⟩
        · exact ih.lt r x (T.read k hk r hr) hL
        · exact absurd rfl z
      · rw [ato c e] at hl
        rcases hl with ⟨z, _⟩ | ⟨_, hL⟩
        · exact absurd z (oldne c hc)
        · exact ih.lt c x hc hL
    · by_cases e : c = k.1
      · subst e
        rw [atw] at hb
        unfold bg at hb; omega
      · rw [ato c e] at hl hb
        rcases hl with ⟨z, _⟩ | ⟨_, hL⟩
        · exact absurd z (oldne c hc)
        · exact ih.self c x hc hb hL
    · by_cases e : c = k.1
      · exact ⟨k, hk, e.symm⟩
      · rw [ato c e] at hn
        exact ih.chg c hc hn
/-- within a row that is a knot the roots go up with the places -/
theorem Run.mono (T : TabOk n ks) (r : Run n ks h L) {c0 : Nat} {pos : Nat → Nat} (hc0 : Chg ks c0) (W : RowAt ks c0 pos) :
    ∀ c c' x x', c < n → c' < n → Knot ks c0 c → Knot ks c0 c' → Knot ks c0 x → Knot ks c0 x' → pos c ≤ pos c' → L (h.la.getD c 0) x → L (h.la.getD c' 0) x' → pos x ≤ pos x' := by
  have chg : ∀ y, Knot ks c0 y → Chg ks y := fun y ⟨hy, _⟩ => by
    cases hy with
    | refl => exact hc0
    | step _ t => obtain ⟨k', h1, h2, _⟩ := t.2.2; exact ⟨k', h1, h2⟩
  induction r with
  | nil =>
    intro c c' x x' hc hc' _ _ _ _ hp h1 h2
    have e : (hist0 n).la.getD c 0 = bg c := la0_get hc
    have e' : (hist0 n).la.getD c' 0 = bg c' := la0_get hc'
    rw [e] at h1
    rw [e'] at h2
    have a : x = c := by unfold bg at h1; omega
    have b : x' = c' := by unfold bg at h2; omega
    rw [a, b]; exact hp
  | @snoc h L k r hk ih =>
    have G := r.good T
    have hkl : k.1 < h.la.length := by rw [G.len]; exact T.cell k hk
    have atw : (stepH h k).la.getD k.1 0 = (h.wr.length : Int) := getD_set_self hkl
    have ato : ∀ c, c ≠ k.1 → (stepH h k).la.getD c 0 = h.la.getD c 0 := fun c hc => getD_set_ne (Ne.symm hc)
    have oldne : ∀ c, c < n → h.la.getD c 0 ≠ (h.wr.length : Int) := fun c hc => Int.ne_of_lt (G.small c hc)
    -- where the new version's root comes from
    have src : ∀ x, Knot ks c0 k.1 → Knot ks c0 x → (∃ r, r ∈ k.2 ∧ L (h.la.getD r 0) x) → ∃ r, r ∈ k.2 ∧ r < n ∧ Knot ks c0 r ∧ L (h.la.getD r 0) x ∧ pos r ≤ pos k.1 + 1 ∧ pos k.1 ≤ pos r + 1 := by
      intro x hkk hx ⟨r, hr, hL⟩
      have rn := T.read k hk r hr
      have rr := G.led r x rn hL (chg x hx)
      have cr : Chg ks r := by
        cases rr with
        | refl => exact chg _ hx
        | step _ t => obtain ⟨k', h1, h2, _⟩ := t.2.2; exact ⟨k', h1, h2⟩
      have rk : Knot ks c0 r := by
        refine ⟨hx.1.trans rr, ?_⟩
        by_cases er : r = k.1
        · rw [er]; exact hkk.2
        · exact (Reach.step .refl ⟨er, cr, k, hk, rfl, hr⟩).trans hkk.2
      refine ⟨r, hr, rn, rk, hL, ?_⟩
      by_cases er : r = k.1
      · rw [er]; omega
      · exact W.near r k.1 rk hkk ⟨er, cr, k, hk, rfl, hr⟩
    intro c c' x x' hc hc' kc kc' kx kx' hp h1 h2
    by_cases e : c = k.1
    · have h1' : ∃ r, r ∈ k.2 ∧ L (h.la.getD r 0) x := by
        rw [e, atw] at h1
        rcases h1 with ⟨_, z⟩ | ⟨z, _⟩
        · exact z
        · exact absurd rfl z
      obtain ⟨r1, m1, n1, k1, l1, p1, q1⟩ := src x (e ▸ kc) kx h1'
      by_cases e' : c' = k.1
      · have h2' : ∃ r, r ∈ k.2 ∧ L (h.la.getD r 0) x' := by
          rw [e', atw] at h2
          rcases h2 with ⟨_, z⟩ | ⟨z, _⟩
          · exact z
          · exact absurd rfl z
        obtain ⟨r2, m2, n2, k2, l2, p2, q2⟩ := src x' (e ▸ kc) kx' h2'
        have er : r1 = r2 := W.one k hk (e ▸ kc) r1 r2 m1 m2 k1 k2
        exact ih r1 r2 x x' n1 n2 k1 k2 kx kx' (by rw [er]; exact Nat.le_refl _) l1 l2
      · have l2 : L (h.la.getD c' 0) x' := by
          rw [ato c' e'] at h2
          rcases h2 with ⟨z, _⟩ | ⟨_, z⟩
          · exact absurd z (oldne c' hc')
          · exact z
        have ne : pos c ≠ pos c' := fun q => e' ((W.inj c c' kc kc' q).symm.trans e)
        exact ih r1 c' x x' n1 hc' k1 kc' kx kx' (by rw [e] at hp ne; omega) l1 l2
    · have l1 : L (h.la.getD c 0) x := by
        rw [ato c e] at h1
        rcases h1 with ⟨z, _⟩ | ⟨_, z⟩
        · exact absurd z (oldne c hc)
        · exact z
      by_cases e' : c' = k.1
      · have h2' : ∃ r, r ∈ k.2 ∧ L (h.la.getD r 0) x' := by
          rw [e', atw] at h2
          rcases h2 with ⟨_, z⟩ | ⟨z, _⟩
          · exact z
          · exact absurd rfl z
        obtain ⟨r2, m2, n2, k2, l2, p2, q2⟩ := src x' (e' ▸ kc') kx' h2'
        have ne : pos c ≠ pos c' := fun q => e ((W.inj c c' kc kc' q).trans e')
        exact ih c r2 x x' hc n2 kc k2 kx kx' (by rw [e'] at hp ne; omega) l1 l2
      · have l2 : L (h.la.getD c' 0) x' := by
          rw [ato c' e'] at h2
          rcases h2 with ⟨z, _⟩ | ⟨_, z⟩
          · exact absurd z (oldne c' hc')
          · exact z
        exact ih c c' x x' hc hc' kc kc' kx kx' hp l1 l2
end

/-! ### the next cell to be laid -/
theorem least_of {α : Type} (m : α → Nat) : ∀ (l : List α), l ≠ [] → ∃ x, x ∈ l ∧ ∀ y, y ∈ l → m x ≤ m y
  | [], h => absurd rfl h
  | [x], _ => ⟨x, List.mem_cons_self, fun y hy => by rw [List.mem_singleton.mp hy]; exact Nat.le_refl _⟩
  | x :: y :: r, _ => by
    obtain ⟨z, hz, hm⟩ := least_of m (y :: r) (by simp)
    rcases Nat.le_total (m x) (m z) with q | q
    · exact ⟨x, List.mem_cons_self, fun u hu => by
        rcases List.mem_cons.mp hu with rfl | hu
        · exact Nat.le_refl _
        · exact Nat.le_trans q (hm u hu)⟩
    · exact ⟨z, List.mem_cons_of_mem _ hz, fun u hu => by
        rcases List.mem_cons.mp hu with rfl | hu
        · exact q
        · exact hm u hu⟩
theorem most_of {α : Type} (m : α → Nat) (B : Nat) (l : List α) (h : l ≠ []) (hb : ∀ x, x ∈ l → m x ≤ B) : ∃ x, x ∈ l ∧ ∀ y, y ∈ l → m y ≤ m x := by
  obtain ⟨x, hx, hm⟩ := least_of (fun x => B - m x) l h
  refine ⟨x, hx, fun y hy => ?_⟩
  have a : B - m x ≤ B - m y := hm y hy
  have b := hb y hy
  have c := hb x hx
  omega
open Classical in
/-- how many cells below n are reached -/
noncomputable def down (ks : List Kd) (n x : Nat) : Nat := (List.range n).countP fun y => decide (Reach ks x y)
open Classical in
theorem down_le {ks : List Kd} {n x y : Nat} (h : Reach ks x y) : down ks n y ≤ down ks n x :=
  List.countP_mono_left fun z _ hz => decide_eq_true (h.trans (of_decide_eq_true hz))
theorem countP_lt {α : Type} {p q : α → Bool} : ∀ {l : List α}, (∀ x, x ∈ l → p x = true → q x = true) → (∃ x, x ∈ l ∧ p x = false ∧ q x = true) → l.countP p < l.countP q
  | [], _, ⟨_, hx, _⟩ => nomatch hx
  | a :: l, hpq, ⟨x, hx, h1, h2⟩ => by
    have tail : l.countP p ≤ l.countP q := List.countP_mono_left fun z hz => hpq z (List.mem_cons_of_mem _ hz)
    rw [List.countP_cons, List.countP_cons]
    rcases List.mem_cons.mp hx with rfl | hx
    · rw [h1, h2]; simp; omega
    · have ih := countP_lt (l := l) (fun z hz => hpq z (List.mem_cons_of_mem _ hz)) ⟨x, hx, h1, h2⟩
      have ha := hpq a List.mem_cons_self
      cases e : p a <;> cases e' : q a <;> simp <;> first | omega | (rw [e] at ha; simp [e'] at ha)
open Classical in
theorem down_lt {ks : List Kd} {n x y : Nat} (h : Reach ks x y) (hn : ¬ Reach ks y x) (hx : x < n) : down ks n y < down ks n x :=
  countP_lt (fun z _ hz => decide_eq_true (h.trans (of_decide_eq_true hz))) ⟨x, List.mem_range.mpr hx, decide_eq_false hn, decide_eq_true .refl⟩

section
variable {n : Nat} {ks : List Kd} {h : Hs} {L : Int → Nat → Prop}
open Classical in
theorem next_cell (T : TabOk n ks) (S : SoundT ks) (r : Run n ks h L) (U : List Nat) (hU : ∀ c, c ∈ U → c < n ∧ Chg ks c) (ne : U ≠ []) :
    ∃ x, x ∈ U ∧ ∀ c, c ∈ U → c ≠ x → ¬ L (h.la.getD c 0) x := by
  have G := r.good T
  obtain ⟨x0, hx0, hmin⟩ := least_of (down ks n) U ne
  have hc0 := (hU x0 hx0).2
  obtain ⟨pos, W⟩ := S x0 hc0
  -- those of U in the knot of x0
  let V := U.filter fun y => decide (Knot ks x0 y)
  have mV : ∀ y, y ∈ V ↔ y ∈ U ∧ Knot ks x0 y := fun y => by simp [V]
  have hV0 : x0 ∈ V := (mV x0).mpr ⟨hx0, .refl, .refl⟩
  -- who leans on one of V is of V
  have inV : ∀ x c, x ∈ V → c ∈ U → L (h.la.getD c 0) x → c ∈ V := fun x c hx hc hl => by
    obtain ⟨hxU, hxk⟩ := (mV x).mp hx
    have rc := G.led c x (hU c hc).1 hl (hU x hxU).2
    refine (mV c).mpr ⟨hc, hxk.1.trans rc, ?_⟩
    refine Classical.byContradiction fun hn => ?_
    have lt := down_lt (n := n) (hxk.1.trans rc) hn (hU x0 hx0).1
    have le := hmin c hc
    omega
  have mono := r.mono T hc0 W
  have kn : ∀ y, y ∈ V → Knot ks x0 y := fun y hy => ((mV y).mp hy).2
  have lt : ∀ y, y ∈ V → y < n := fun y hy => (hU y ((mV y).mp hy).1).1
  let D := V.filter fun y => decide (∃ z, z ∈ V ∧ pos z < pos y ∧ L (h.la.getD y 0) z)
  have mD : ∀ y, y ∈ D ↔ y ∈ V ∧ ∃ z, z ∈ V ∧ pos z < pos y ∧ L (h.la.getD y 0) z := fun y => by simp [D]
  by_cases hD : D = []
  · -- the leftmost
    obtain ⟨x, hx, hm⟩ := least_of pos V (List.ne_nil_of_mem hV0)
    refine ⟨x, ((mV x).mp hx).1, fun c hc hcx hl => ?_⟩
    have hcV := inV x c hx hc hl
    have q := hm c hcV
    have : pos x ≠ pos c := fun e => hcx (W.inj c x (kn c hcV) (kn x hx) e.symm)
    have : c ∈ D := (mD c).mpr ⟨hcV, x, hx, by omega, hl⟩
    rw [hD] at this
    cases this
  · -- the rightmost of those that lean to the left
    obtain ⟨B, hB⟩ : ∃ B, ∀ y, y ∈ D → pos y ≤ B := by
      have : ∀ l : List Nat, ∃ B, ∀ y, y ∈ l → pos y ≤ B := by
        intro l
        induction l with
        | nil => exact ⟨0, fun y hy => by cases hy⟩
        | cons a l ih =>
          obtain ⟨B, hB⟩ := ih
          refine ⟨max B (pos a), fun y hy => ?_⟩
          rcases List.mem_cons.mp hy with rfl | hy
          · omega
          · have := hB y hy; omega
      exact this D
    obtain ⟨x, hx, hm⟩ := most_of pos B D hD hB
    obtain ⟨hxV, z, hz, hzx, hlz⟩ := (mD x).mp hx
    refine ⟨x, ((mV x).mp hxV).1, fun c hc hcx hl => ?_⟩
    have hcV := inV x c hxV hc hl
    rcases Nat.lt_or_ge (pos x) (pos c) with q | q
    · have : c ∈ D := (mD c).mpr ⟨hcV, x, hxV, q, hl⟩
      have := hm c this
      omega
    · have := mono c x x z (lt c hcV) (lt x hxV) (kn c hcV) (kn x hxV) (kn x hxV) (kn z hz) q hl hlz
      omega

/-- all safe behind each: by an order of any lot of changed cells -/
theorem order_go (T : TabOk n ks) (S : SoundT ks) (r : Run n ks h L) : ∀ (m : Nat) (U : List Nat), U.length = m → U.Nodup → (∀ c, c ∈ U → c < n ∧ Chg ks c) →
    ∃ ord : List Nat, ord.Perm U ∧ ∀ (i : Nat) c x, c ∈ U → c ∉ ord.take i → x ∈ ord.take i → ¬ L (h.la.getD c 0) x
  | 0, U, hl, _, _ => by
    have : U = [] := List.eq_nil_of_length_eq_zero hl
    subst this
    exact ⟨[], .refl _, fun i c x hc => by cases hc⟩
  | m + 1, U, hl, nd, hU => by
    obtain ⟨x, hx, hn⟩ := next_cell T S r U hU (by intro e; rw [e] at hl; cases hl)
    have pm : U.Perm (x :: U.erase x) := List.perm_cons_erase hx
    obtain ⟨ord, p, q⟩ := order_go T S r m (U.erase x) (by rw [List.length_erase_of_mem hx, hl]; rfl) (nd.erase x) fun c hc => hU c (List.mem_of_mem_erase hc)
    refine ⟨x :: ord, (List.Perm.cons x p).trans pm.symm, fun i c y hc hni hy => ?_⟩
    cases i with
    | zero => cases hy
    | succ i =>
      rw [List.take_succ_cons] at hni hy
      have hcx : c ≠ x := fun e => hni (by rw [e]; exact List.mem_cons_self)
      have hc' : c ∈ U.erase x := (List.mem_erase_of_ne hcx).mpr hc
      rcases List.mem_cons.mp hy with rfl | hy
      · exact hn c hc hcx
      · exact q i c y hc' (fun z => hni (List.mem_cons_of_mem _ z)) hy
end

theorem mem_wanted {h : Hs} {n c : Nat} : c ∈ wanted h (la0 n) ↔ c < n ∧ h.la.getD c 0 ≠ bg c := by
  unfold wanted
  have e : (la0 n).length = n := by simp [la0]
  rw [List.mem_filter, List.mem_range, e]
  constructor
  · rintro ⟨h1, h2⟩
    refine ⟨h1, fun q => ?_⟩
    rw [la0_get h1, q] at h2
    simp at h2
  · rintro ⟨h1, h2⟩
    refine ⟨h1, ?_⟩
    rw [la0_get h1, decide_eq_false (Ne.symm h2)]; rfl
/-- THE MAIN FACT, this way round: where all knots are sound, the present can be laid out from fresh plates -/
theorem order_exists {n : Nat} {ks : List Kd} {js : List Nat} (T : TabOk n ks) (S : SoundT ks) (hj : ∀ j, j ∈ js → j < ks.length) :
    ∃ ord : List Nat, ord.Perm (wanted (hist n ks js) (la0 n)) ∧ ∀ i, safeB (hist n ks js) (withL (hist n ks js) (la0 n) (ord.take i)) = true := by
  obtain ⟨L, r⟩ := hist_run (n := n) hj
  have G := r.good T
  have nd : (wanted (hist n ks js) (la0 n)).Nodup := List.nodup_range.filter _
  obtain ⟨ord, p, q⟩ := order_go T S r _ (wanted (hist n ks js) (la0 n)) rfl nd fun c hc => by
    obtain ⟨h1, h2⟩ := mem_wanted.mp hc
    exact ⟨h1, G.chg c h1 h2⟩
  refine ⟨ord, p, fun i => ?_⟩
  unfold safeB
  rw [List.all_eq_true]
  intro v hv
  refine decide_eq_true ?_
  obtain ⟨c, hc, e⟩ := List.getElem_of_mem hv
  have hcn : c < n := by rw [← G.len]; exact hc
  have ev : v = (hist n ks js).la.getD c 0 := by
    rw [List.getD_eq_getElem?_getD, List.getElem?_eq_getElem hc, ← e]; rfl
  have e0 : (la0 n).length = n := by simp [la0]
  have plAt : ∀ x, x < n → (if x ∈ ord.take i then (hist n ks js).la.getD x 0 else bg x) ∈ withL (hist n ks js) (la0 n) (ord.take i) := fun x hx => by
    unfold withL
    refine List.mem_map.mpr ⟨x, List.mem_range.mpr (by rw [e0]; exact hx), ?_⟩
    rw [la0_get hx]
  by_cases hci : c ∈ ord.take i
  · have := plAt c hcn
    rw [if_pos hci, ← ev] at this
    exact clo_sub _ _ _ _ this
  · rw [ev]
    refine G.der _ c hcn fun x hl => ?_
    -- x is not laid
    have hcW : (hist n ks js).la.getD c 0 = bg c ∨ c ∈ wanted (hist n ks js) (la0 n) := by
      by_cases e : (hist n ks js).la.getD c 0 = bg c
      · exact .inl e
      · exact .inr (mem_wanted.mpr ⟨hcn, e⟩)
    rcases hcW with e | hw
    · have := G.self c x hcn e hl
      rw [this]
      have z := plAt c hcn
      rw [if_neg hci] at z
      exact z
    · have hxi : x ∉ ord.take i := fun hx => q i c x hw hci hx hl
      have hxn := G.lt c x hcn hl
      have z := plAt x hxn
      rw [if_neg hxi] at z
      exact z
end Lp
/-! LpSort4 -/
namespace Lp
open PySem PySem.Spec PyProof.Rows L2
open PySem.W (dataLe dataLt AllAlike Sortable EachIs alike)
/-! ### data -/
abbrev iN (c : Nat) : PyData := .int (c : Int)
def zs (l : List Nat) : List Int := l.map fun (c : Nat) => (c : Int)
abbrev dI (l : List Int) : PyData := .tuple (l.map .int)
abbrev dLi (l : List Int) : PyData := .list (l.map .int)
abbrev dT (l : List Nat) : PyData := dI (zs l)
abbrev dKd (k : Kd) : PyData := .tuple [iN k.1, dT k.2]
abbrev dKs (ks : List Kd) : PyData := .tuple (ks.map dKd)
abbrev dP (p : Nat × Nat) : PyData := .tuple [iN p.1, iN p.2]
theorem zs_len (l : List Nat) : (zs l).length = l.length := List.length_map _
theorem zs_get {l : List Nat} {i : Nat} {c : Nat} (h : l[i]? = some c) : (zs l)[i]? = some (c : Int) := by unfold zs; rw [List.getElem?_map, h]; rfl
theorem mem_zs {l : List Nat} {c : Nat} : (c : Int) ∈ zs l ↔ c ∈ l := by
  unfold zs
  rw [List.mem_map]
  exact ⟨fun ⟨a, h, e⟩ => by rw [← Int.ofNat_inj.mp e]; exact h, fun h => ⟨c, h, rfl⟩⟩
theorem zs_inj : ∀ {l l' : List Nat}, zs l = zs l' → l = l'
  | [], [], _ => rfl
  | [], _ :: _, h => by simp [zs] at h
  | _ :: _, [], h => by simp [zs] at h
  | a :: l, b :: l', h => by
    simp only [zs, List.map_cons, List.cons.injEq] at h
    rw [Int.ofNat_inj.mp h.1, zs_inj h.2]
theorem ints_inj : ∀ {l l' : List Int}, l.map PyData.int = l'.map PyData.int → l = l'
  | [], [], _ => rfl
  | [], _ :: _, h => by simp at h
  | _ :: _, [], h => by simp at h
  | a :: l, b :: l', h => by
    simp only [List.map_cons, List.cons.injEq, PyData.int.injEq] at h
    rw [h.1, ints_inj h.2]
theorem dT_inj {l l' : List Nat} (h : dT l = dT l') : l = l' := zs_inj (ints_inj (PyData.tuple.inj h))
theorem lt_of_get {α : Type} {l : List α} {i : Nat} {x : α} (h : l[i]? = some x) : i < l.length := (List.getElem?_eq_some_iff.mp h).1
/-! ### orders -/
structure OrdE {β : Type} (enc : β → PyData) (le : β → β → Bool) (P : β → Prop) : Prop where
  dle : ∀ x y, dataLe false enc x y = le x y
  anti : ∀ x y, le x y = true → le y x = true → x = y
  inj : ∀ x y, enc x = enc y → x = y
  alk : ∀ x y, alike (enc x) (enc y) = true
  srt : (∀ x, P x → ∃ d r, enc x = .tuple (d :: r)) ∨ ∀ x, enc x ≠ .none ∧ ∀ xs, enc x ≠ .tuple xs
  fr : ∀ x, fz (enc x) = true
  deep : ∀ x, (enc x).depth ≤ 8
def leC (a b : Nat) : Bool := decide ((a : Int) ≤ (b : Int))
def leN (a b : List Nat) : Bool := decide (zs a ≤ zs b)
def leP (p q : Nat × Nat) : Bool := leN [p.1, p.2] [q.1, q.2]
def leK (k k' : Kd) : Bool := decide (k.1 < k'.1 ∨ (k.1 = k'.1 ∧ zs k.2 ≤ zs k'.2))
theorem ordC : OrdE iN leC (fun _ => True) where
  dle := fun x y => by
    have := congrFun (congrFun (PySem.W.dataLe_int fun c : Nat => (c : Int)) x) y
    exact this
  anti := fun x y h1 h2 => by
    have a := of_decide_eq_true h1
    have b := of_decide_eq_true h2
    omega
  inj := fun x y h => Int.ofNat_inj.mp (PyData.int.inj h)
  alk := fun _ _ => by simp [alike]
  srt := .inr fun x => ⟨fun h => (by cases h), fun xs h => (by cases h)⟩
  fr := fun _ => rfl
  deep := fun _ => by simp [PyData.depth]
theorem dle_tup (xs ys : List Int) : (!dataLt (.tuple (ys.map .int)) (.tuple (xs.map .int))) = decide (xs ≤ ys) := by
  have e : dataLt (.tuple (ys.map .int)) (.tuple (xs.map .int)) = PySem.W.rowLt (ys.map .int) (xs.map .int) := by rw [PySem.W.dataLt_tuple]; rfl
  rw [e, PySem.W.dataLt_ints]
  by_cases h : ys < xs
  · have h' : ¬ xs ≤ ys := fun r => List.not_lt.mpr r h
    simp [h, h']
  · have h' : xs ≤ ys := List.not_lt.mp h
    simp [h, h']
theorem le_anti {x y : List Int} (h1 : x ≤ y) (h2 : y ≤ x) : x = y := List.le_antisymm h1 h2
theorem ordN : OrdE dT leN (fun l => l ≠ []) where
  dle := fun x y => dle_tup (zs x) (zs y)
  anti := fun x y h1 h2 => zs_inj (le_anti (of_decide_eq_true h1) (of_decide_eq_true h2))
  inj := fun x y h => dT_inj h
  alk := fun x y => by
    show alike (.tuple _) (.tuple _) = true
    rw [alike]
    exact PySem.W.alike_ints _ _
  srt := .inl fun l hl => by
    cases l with
    | nil => exact absurd rfl hl
    | cons a l => exact ⟨_, _, rfl⟩
  fr := fun l => fz_ints _
  deep := fun l => by
    show (PyData.tuple _).depth ≤ 8
    rw [PyData.depth, PySem.W.depth_ints]
    omega
theorem ordP : OrdE dP leP (fun _ => True) where
  dle := fun x y => dle_tup (zs [x.1, x.2]) (zs [y.1, y.2])
  anti := fun x y h1 h2 => by
    have := ordN.anti [x.1, x.2] [y.1, y.2] h1 h2
    simp only [List.cons.injEq, and_true] at this
    exact Prod.ext this.1 this.2
  inj := fun x y h => by
    have : [x.1, x.2] = [y.1, y.2] := dT_inj h
    simp only [List.cons.injEq, and_true] at this
    exact Prod.ext this.1 this.2
  alk := fun x y => ordN.alk [x.1, x.2] [y.1, y.2]
  srt := .inl fun x _ => ⟨_, _, rfl⟩
  fr := fun x => ordN.fr [x.1, x.2]
  deep := fun x => ordN.deep [x.1, x.2]
theorem eqv_ints : ∀ xs ys : List Int, PyData.eqv (.tuple (xs.map .int)) (.tuple (ys.map .int)) = decide (xs = ys) := by
  intro xs
  induction xs with
  | nil => intro ys; cases ys <;> simp [PyData.eqv, PyData.eqvAll]
  | cons x xs ih =>
    intro ys
    cases ys with
    | nil => simp [PyData.eqv, PyData.eqvAll]
    | cons y ys =>
      have := ih ys
      simp only [PyData.eqv] at this ⊢
      simp only [List.map_cons, PyData.eqvAll, PyData.eqv, this]
      by_cases h1 : x = y <;> by_cases h2 : xs = ys <;> simp [h1, h2]
theorem ordK : OrdE dKd leK (fun _ => True) where
  dle := fun x y => by
    show (!dataLt (dKd y) (dKd x)) = leK x y
    have e := PySem.W.dataLt_pair (x := iN y.1) (y := dT y.2) (x' := iN x.1) (y' := dT x.2) (by simp [alike]) (ordN.alk _ _)
    rw [show dataLt (dKd y) (dKd x) = _ from e]
    have e1 : PyData.eqv (iN y.1) (iN x.1) = decide (y.1 = x.1) := by
      simp only [PyData.eqv]
      by_cases h : y.1 = x.1
      · simp [h]
      · have : ¬ ((y.1 : Int) = (x.1 : Int)) := by omega
        simp [h, this]
    have e2 : PyData.eqv (dT y.2) (dT x.2) = decide (zs y.2 = zs x.2) := eqv_ints _ _
    have e3 : dataLt (iN y.1) (iN x.1) = decide ((y.1 : Int) < (x.1 : Int)) := PySem.W.dataLt_int _ _
    have e4 : (!dataLt (dT y.2) (dT x.2)) = decide (zs x.2 ≤ zs y.2) := dle_tup _ _
    rw [e1, e2, e3]
    unfold leK
    by_cases h : y.1 = x.1
    · rw [if_pos (by simpa using h)]
      by_cases h2 : zs y.2 = zs x.2
      · rw [if_pos (by simpa using h2)]
        have : zs x.2 ≤ zs y.2 := by rw [h2]; exact List.le_refl _
        simp [h, this]
      · rw [if_neg (by simpa using h2), e4]
        have : ¬ x.1 < y.1 := by omega
        simp [h]
    · rw [if_neg (by simpa using h)]
      by_cases h3 : x.1 < y.1
      · have : ¬ ((y.1 : Int) < (x.1 : Int)) := by omega
        simp [h3, this]
      · have : ((y.1 : Int) < (x.1 : Int)) := by omega
        have h4 : ¬ x.1 = y.1 := fun z => h z.symm
        simp [h3, this, h4]
  anti := fun x y h1 h2 => by
    have a := of_decide_eq_true h1
    have b := of_decide_eq_true h2
    have e1 : x.1 = y.1 := by omega
    have a2 : zs x.2 ≤ zs y.2 := by rcases a with a | a; omega; exact a.2
    have b2 : zs y.2 ≤ zs x.2 := by rcases b with b | b; omega; exact b.2
    exact Prod.ext e1 (zs_inj (le_anti a2 b2))
  inj := fun x y h => by
    have h := PyData.tuple.inj h
    simp only [List.cons.injEq, and_true] at h
    exact Prod.ext (Int.ofNat_inj.mp (PyData.int.inj h.1)) (dT_inj h.2)
  alk := fun x y => by
    have e := ordN.alk x.2 y.2
    show alike (.tuple [iN x.1, dT x.2]) (.tuple [iN y.1, dT y.2]) = true
    simp only [alike, PySem.W.alikeAll]
    simp [e, PySem.W.alike_ints]
  srt := .inl fun x _ => ⟨_, _, rfl⟩
  fr := fun x => by
    have := ordN.fr x.2
    show fz (.tuple [iN x.1, dT x.2]) = true
    simp only [fz, fzA] at this ⊢
    simp [this]
  deep := fun x => by
    have := PySem.W.depth_ints (zs x.2)
    show (PyData.tuple [iN x.1, dT x.2]).depth ≤ 8
    simp only [PyData.depth, PyData.depthAll, this]
    omega
/-- each once -/
def dd {β : Type} [DecidableEq β] : List β → List β
  | [] => []
  | x :: l => if x ∈ dd l then dd l else x :: dd l
theorem dd_mem {β : Type} [DecidableEq β] {x : β} : ∀ {l : List β}, x ∈ dd l ↔ x ∈ l
  | [] => Iff.rfl
  | y :: l => by
    unfold dd
    by_cases h : y ∈ dd l
    · rw [if_pos h, dd_mem, List.mem_cons]
      exact ⟨.inr, fun k => k.elim (fun e => by rw [e]; exact dd_mem.mp h) id⟩
    · rw [if_neg h, List.mem_cons, List.mem_cons, dd_mem]
theorem dd_nodup {β : Type} [DecidableEq β] : ∀ {l : List β}, (dd l).Nodup
  | [] => List.nodup_nil
  | y :: l => by
    unfold dd
    by_cases h : y ∈ dd l
    · rw [if_pos h]; exact dd_nodup
    · rw [if_neg h]; exact List.nodup_cons.mpr ⟨h, dd_nodup⟩
theorem dd_len {β : Type} [DecidableEq β] : ∀ {l : List β}, (dd l).length ≤ l.length
  | [] => Nat.le_refl _
  | y :: l => by
    unfold dd
    have := dd_len (l := l)
    split <;> simp <;> omega
section
variable {β : Type} {enc : β → PyData} {le : β → β → Bool} {P : β → Prop}
theorem one_sorted (anti : ∀ x y, le x y = true → le y x = true → x = y) : ∀ {l m : List β}, l.Perm m → l.Pairwise (fun x y => le x y = true) → m.Pairwise (fun x y => le x y = true) → l = m
  | [], m, p, _, _ => (List.Perm.nil_eq p)
  | x :: l, [], p, _, _ => (List.Perm.eq_nil p)
  | x :: l, y :: m, p, h1, h2 => by
    have e : x = y := by
      have hx : x ∈ y :: m := p.mem_iff.mp List.mem_cons_self
      have hy : y ∈ x :: l := p.mem_iff.mpr List.mem_cons_self
      rcases List.mem_cons.mp hx with e | hx
      · exact e
      · rcases List.mem_cons.mp hy with e | hy
        · exact e.symm
        · exact anti x y ((List.pairwise_cons.mp h1).1 y hy) ((List.pairwise_cons.mp h2).1 x hx)
    subst e
    rw [one_sorted anti ((List.perm_cons x).mp p) (List.pairwise_cons.mp h1).2 (List.pairwise_cons.mp h2).2]
theorem OrdE.pw (O : OrdE enc le P) (l : List β) : (l.mergeSort le).Pairwise (fun x y => le x y = true) := by
  have e : dataLe false enc = le := by funext x y; exact O.dle x y
  rw [← e]
  exact PySem.W.sort_pairwise (PySem.W.sortLe_total (PyProof.Rows.listOrd PyProof.Rows.itemOrd) false fun z : β => PySem.W.keyToks (enc z)) l
theorem OrdE.out (O : OrdE enc le P) {L : List Lq.Z} {l : List β} (pm : (L.map (·.2)).Perm (l.map enc)) (pw : L.Pairwise (fun x y => Lq.zle x y = true)) : L.map (·.2) = (l.mergeSort le).map enc := by
  obtain ⟨L', p, e⟩ := Lq.perm_fetch (β := Unit) (g := fun _ => PyData.none) pm
  have p2 : (L.map (·.2)).Pairwise (fun x y => dataLe false (fun z : PyData => z) x y = true) := List.pairwise_map.mpr pw
  rw [e] at p2
  have p3 : L'.Pairwise (fun x y => le x y = true) := (List.pairwise_map.mp p2).imp fun {x y} h => by rw [← O.dle]; exact h
  rw [e, one_sorted O.anti (p.trans (List.mergeSort_perm l le).symm) p3 (O.pw l)]
theorem out_dp {K : PySem.W.Frag} {H : Hp} {L : List Lq.Z} (h : ∀ z ∈ L, Dp K H z.1 z.2) : DpAll K H (L.map (·.1)) (L.map (·.2)) := by
  induction L with
  | nil => exact .nil
  | cons z L ih => exact .cons (h z List.mem_cons_self) (ih fun y hy => h y (List.mem_cons_of_mem _ hy))
section
variable {X : Cx} {Γ : Cxt} {e : Expr} {pos p : Pos} {C : Addr → Hp → List PyData → Prop}
/-- sorted(x), x walked -/
theorem n_sorted (cl : Lq.Coll X C) (hc : X.calm = true) (hu : X.A.units + 16 < cLine) (O : OrdE enc le P) (l : List β) (hP : ∀ x, x ∈ l → P x) (hz : l.length ≤ 100000) {τ : Ty} (src : ∀ v H, τ.is v H → ∃ a ds, v = .ref a ∧ C a H ds ∧ ds.Perm (l.map enc))
    (hg : Gl X "sorted") (hm : X.mg "sorted" = none) (h : PY X e Γ τ) (hs : starEach [e] X.env = (false, eval e X.env) :: starEach [] X.env := by rfl) : PYN X (.Call (.Name "sorted" p) [e] [] pos) Γ ((l.mergeSort le).map enc) :=
  PE.imp (pe_callB (x := "sorted") (Lq.cr_sortedD cl hc hu) hg hm (by decide +kernel) (ya_cons h ya_nil hs) (he := hs)) fun σ H Q ⟨g, k⟩ => ⟨g, fun vs H1 s1 hvs => by
    obtain ⟨v, rfl, hv⟩ := all1 hvs
    obtain ⟨a, ds, rfl, hC, pm⟩ := src v H1 hv
    have back : ∀ d, d ∈ ds → ∃ x, x ∈ l ∧ d = enc x := fun d hd => by
      obtain ⟨x, hx, e⟩ := List.mem_map.mp (pm.mem_iff.mp hd)
      exact ⟨x, hx, e.symm⟩
    refine ⟨a, ds, rfl, hC, fun d hd => ?_, fun d hd d' hd' => ?_, ?_, by rw [pm.length_eq, List.length_map]; exact hz, fun L p pL pw dp hp => ?_⟩
    · obtain ⟨x, _, rfl⟩ := back d hd
      exact ⟨O.fr x, O.deep x⟩
    · obtain ⟨x, _, rfl⟩ := back d hd
      obtain ⟨y, _, rfl⟩ := back d' hd'
      exact O.alk x y
    · rcases O.srt with k | k
      · refine .inl fun d hd => ?_
        obtain ⟨x, hx, rfl⟩ := back d hd
        exact k x (hP x hx)
      · refine .inr fun d hd => ?_
        obtain ⟨x, hx, rfl⟩ := back d hd
        exact k x
    · have eo := O.out (pL.trans pm) pw
      refine k p _ _ (s1.free hp) (s1.trans (Same.new hp)) upd_same ?_
      rw [← eo]
      exact DpAll.up (Same.new hp) (out_dp dp)⟩
/-- of a list, a tuple -/
theorem n_sortL (hc : X.calm = true) (hu : X.A.units + 16 < cLine) (O : OrdE enc le P) (l : List β) (hP : ∀ x, x ∈ l → P x) (hz : l.length ≤ 100000) (hg : Gl X "sorted") (hm : X.mg "sorted" = none) (h : PY X e Γ (tD X.K (.list (l.map enc)))) (hs : starEach [e] X.env = (false, eval e X.env) :: starEach [] X.env := by rfl) :
    PYN X (.Call (.Name "sorted" p) [e] [] pos) Γ ((l.mergeSort le).map enc) :=
  n_sorted Lq.coll_seq hc hu O l hP hz (fun v H hv => by
    obtain ⟨a, xs, rfl, h1, h2⟩ := dp_lst hv
    exact ⟨a, _, rfl, ⟨xs, .inl h1, h2⟩, List.Perm.refl _⟩) hg hm h hs
theorem n_sortT (hc : X.calm = true) (hu : X.A.units + 16 < cLine) (O : OrdE enc le P) (l : List β) (hP : ∀ x, x ∈ l → P x) (hz : l.length ≤ 100000) (hg : Gl X "sorted") (hm : X.mg "sorted" = none) (h : PY X e Γ (tD X.K (.tuple (l.map enc)))) (hs : starEach [e] X.env = (false, eval e X.env) :: starEach [] X.env := by rfl) :
    PYN X (.Call (.Name "sorted" p) [e] [] pos) Γ ((l.mergeSort le).map enc) :=
  n_sorted Lq.coll_seq hc hu O l hP hz (fun v H hv => by
    obtain ⟨a, xs, rfl, h1, h2⟩ := dp_tup hv
    exact ⟨a, _, rfl, ⟨xs, .inr h1, h2⟩, List.Perm.refl _⟩) hg hm h hs
/-- a dict, its keys told: lots -/
def tKeysT (ls : List (List Nat)) : Ty := ⟨fun v H => ∃ (a : Addr) (kvs : List (List L2.Key × V)), v = .ref a ∧ H a = some (.dT kvs) ∧ kvs.map (·.1) = ls.map fun l => l.map fun (c : Nat) => (Sum.inl (c : Int) : L2.Key), fun e ⟨a, kvs, h1, h2, h3⟩ => ⟨a, kvs, h1, e _ _ h2, h3⟩⟩
theorem keyD_lot (l : List Nat) : PyData.tuple ((l.map fun (c : Nat) => (Sum.inl (c : Int) : L2.Key)).map Lq.keyD) = dT l := by
  unfold dT dI zs
  rw [List.map_map, List.map_map]
  rfl
theorem n_sortDT (hc : X.calm = true) (hu : X.A.units + 16 < cLine) (ls : List (List Nat)) (hP : ∀ x, x ∈ ls → x ≠ []) (hz : ls.length ≤ 100000) (hg : Gl X "sorted") (hm : X.mg "sorted" = none) (h : PY X e Γ (tKeysT ls)) (hs : starEach [e] X.env = (false, eval e X.env) :: starEach [] X.env := by rfl) :
    PYN X (.Call (.Name "sorted" p) [e] [] pos) Γ ((ls.mergeSort leN).map dT) :=
  n_sorted Lq.coll_dict hc hu ordN ls hP hz (fun v H hv => by
    obtain ⟨a, kvs, rfl, h1, h2⟩ := hv
    refine ⟨a, _, rfl, ⟨kvs, .inl h1, rfl⟩, ?_⟩
    have e1 : kvs.map (fun p => PyData.tuple (p.1.map Lq.keyD)) = (kvs.map (·.1)).map fun k => PyData.tuple (k.map Lq.keyD) := by rw [List.map_map]; rfl
    rw [e1, h2, List.map_map]
    have e2 : (fun l => PyData.tuple ((l.map fun (c : Nat) => (Sum.inl (c : Int) : L2.Key)).map Lq.keyD)) = dT := funext keyD_lot
    show (ls.map (fun l => PyData.tuple ((l.map fun (c : Nat) => (Sum.inl (c : Int) : L2.Key)).map Lq.keyD))).Perm _
    rw [e2]) hg hm h hs
/-- a dict with whole numbers as keys -/
def tKeysI (ks : List Nat) : Ty := ⟨fun v H => ∃ (a : Addr) (kvs : List (L2.Key × V)), v = .ref a ∧ H a = some (.dK kvs) ∧ kvs.map (·.1) = ks.map fun (c : Nat) => (Sum.inl (c : Int) : L2.Key), fun e ⟨a, kvs, h1, h2, h3⟩ => ⟨a, kvs, h1, e _ _ h2, h3⟩⟩
end
end
end Lp
/-! LpSort5 -/
namespace Lp
open PySem PySem.Spec PyProof.Rows L2
/-! ### set(xs), sorted(set(xs)) -/
def tSetN (K : PySem.W.Frag) (w : World) {β : Type} [DecidableEq β] (enc : β → PyData) (l : List β) : Ty := ⟨fun v H => ∃ (a : Addr) (ds : List PyData), v = .ref a ∧ Lq.cSet K w a H ds ∧ ds.Perm ((dd l).map enc), fun e ⟨a, ds, h1, ⟨L, a1, a2, a3⟩, h3⟩ => ⟨a, ds, h1, ⟨L, e _ _ a1, fun p hp => Dp.up e (a2 p hp), a3⟩, h3⟩⟩
def tSetC (w : World) (l : List Nat) : Ty := ⟨fun v H => ∃ (a : Addr) (ds : List PyData), v = .ref a ∧ Lq.cSetI w a H ds ∧ ds.Perm ((dd l).map iN), fun e ⟨a, ds, h1, ⟨ns, S, n, a1, a2⟩, h3⟩ => ⟨a, ds, h1, ⟨ns, S, n, e _ _ a1, a2⟩, h3⟩⟩
structure NkE {β : Type} (enc : β → PyData) (nk : β → Lq.NK) : Prop where
  is : ∀ x, Lq.nkD (nk x) = enc x
  tup : ∀ x, ∃ ks, nk x = .tup ks
  num : ∀ x, Lq.nums (nk x) = true
  deep : ∀ x, (nk x).depth ≤ 8
def nkI (l : List Int) : List Lq.NK := l.map .num
theorem nkI_D : ∀ l : List Int, Lq.nkDs (nkI l) = l.map .int
  | [] => rfl
  | i :: l => by
    show Lq.nkD (.num i) :: Lq.nkDs (nkI l) = _
    rw [nkI_D l]; rfl
theorem nkI_n : ∀ l : List Int, Lq.numsA (nkI l) = true
  | [] => rfl
  | i :: l => by
    show (Lq.nums (.num i) && Lq.numsA (nkI l)) = true
    rw [nkI_n l]; rfl
theorem nkI_d : ∀ l : List Int, NestedKey.depthAll (nkI l) = 0
  | [] => by simp [nkI, NestedKey.depthAll]
  | i :: l => by
    have := nkI_d l
    show NestedKey.depthAll (.num i :: nkI l) = 0
    simp [NestedKey.depthAll, NestedKey.depth, this]
theorem nkeN : NkE dT (fun l => .tup (nkI (zs l))) where
  is := fun l => by show PyData.tuple (Lq.nkDs _) = _; rw [nkI_D]
  tup := fun _ => ⟨_, rfl⟩
  num := fun l => by show Lq.numsA _ = true; exact nkI_n _
  deep := fun l => by simp [NestedKey.depth, nkI_d]
theorem nkeP : NkE dP (fun p => .tup (nkI (zs [p.1, p.2]))) where
  is := fun p => nkeN.is [p.1, p.2]
  tup := fun _ => ⟨_, rfl⟩
  num := fun p => nkeN.num [p.1, p.2]
  deep := fun p => nkeN.deep [p.1, p.2]
theorem nkeK : NkE dKd (fun k => .tup [.num k.1, .tup (nkI (zs k.2))]) where
  is := fun k => by
    show PyData.tuple [.int k.1, .tuple (Lq.nkDs _)] = _
    rw [nkI_D]
  tup := fun _ => ⟨_, rfl⟩
  num := fun k => by
    show (true && (Lq.numsA _ && true)) = true
    rw [nkI_n]; rfl
  deep := fun k => by simp [NestedKey.depth, NestedKey.depthAll, nkI_d]
section
variable {X : Cx} {Γ : Cxt} {e : Expr} {pos p : Pos} {β : Type} [DecidableEq β] {enc : β → PyData} {nk : β → Lq.NK} {le : β → β → Bool} {P : β → Prop}
theorem refs_of (N : NkE enc nk) {K : PySem.W.Frag} {H : Hp} : ∀ {l : List β} {xs : List V}, DpAll K H xs (l.map enc) → ∃ ks : List (Addr × Lq.NK), xs = ks.map (fun p => V.ref p.1) ∧ ks.map (·.2) = l.map nk ∧ ∀ p ∈ ks, Dp K H (.ref p.1) (Lq.nkD p.2)
  | [], _, .nil => ⟨[], rfl, rfl, fun _ h => nomatch h⟩
  | x :: l, _, .cons h t => by
    obtain ⟨ks, e1, e2, e3⟩ := refs_of N t
    obtain ⟨zs, ez⟩ := N.tup x
    have ex : enc x = .tuple (Lq.nkDs zs) := by rw [← N.is x, ez]; rfl
    obtain ⟨a, ys, rfl, h1, h2⟩ := dp_tup (by rw [← ex]; exact h)
    refine ⟨(a, nk x) :: ks, by rw [List.map_cons, e1], by rw [List.map_cons, e2, List.map_cons], fun p hp => ?_⟩
    rcases List.mem_cons.mp hp with rfl | hp
    · show Dp K H (.ref a) (Lq.nkD (nk x))
      rw [N.is x]; exact h
    · exact e3 p hp
theorem y_setN (N : NkE enc nk) (inj : ∀ x y, enc x = enc y → x = y) (hc : X.calm = true) (hu : X.A.units + 64 < cLine) (l : List β) (few : (dd l).length < 64) (hg : Gl X "set") (hm : X.mg "set" = none) (h : PY X e Γ (tD X.K (.list (l.map enc)))) (hs : starEach [e] X.env = (false, eval e X.env) :: starEach [] X.env := by rfl) :
    PY X (.Call (.Name "set" p) [e] [] pos) Γ (tSetN X.K X.w enc l) :=
  y_ty (x := "set") (Lq.cr_setN hc hu) hg hm (by decide +kernel) (ya_cons h ya_nil hs) (he := hs) fun vs H Q hvs k => by
    obtain ⟨v, rfl, hv⟩ := all1 hvs
    obtain ⟨a, xs, rfl, h1, h2⟩ := dp_lst hv
    obtain ⟨ks, e1, e2, e3⟩ := refs_of N h2
    subst e1
    have back : ∀ p, p ∈ ks → ∃ x, x ∈ l ∧ p.2 = nk x := fun p hp => by
      have : p.2 ∈ l.map nk := by rw [← e2]; exact List.mem_map.mpr ⟨p, hp, rfl⟩
      obtain ⟨x, hx, e⟩ := List.mem_map.mp this
      exact ⟨x, hx, e.symm⟩
    have nkinj : ∀ x y, nk x = nk y → x = y := fun x y e => inj x y (by rw [← N.is x, ← N.is y, e])
    refine ⟨a, ks, (dd l).map nk, rfl, h1, fun p hp => ?_, by rw [List.length_map]; exact few, fun q L hq g1 g2 nd => ?_⟩
    · obtain ⟨x, hx, ex⟩ := back p hp
      refine ⟨e3 p hp, by rw [ex]; exact N.deep x, by rw [ex]; exact N.num x, by rw [ex]; exact List.mem_map.mpr ⟨x, dd_mem.mpr hx, rfl⟩⟩
    · have pm : (L.map (·.2)).Perm ((dd l).map nk) := by
        refine (List.perm_ext_iff_of_nodup nd (List.pairwise_map.mpr (dd_nodup.imp fun ne e => ne (nkinj _ _ e)))).mpr fun k => ⟨fun hk => ?_, fun hk => ?_⟩
        · obtain ⟨p, hp, rfl⟩ := List.mem_map.mp hk
          obtain ⟨x, hx, ex⟩ := back p (g1 p hp)
          rw [ex]; exact List.mem_map.mpr ⟨x, dd_mem.mpr hx, rfl⟩
        · obtain ⟨x, hx, rfl⟩ := List.mem_map.mp hk
          have : nk x ∈ ks.map (·.2) := by rw [e2]; exact List.mem_map.mpr ⟨x, dd_mem.mp hx, rfl⟩
          obtain ⟨p, hp, ep⟩ := List.mem_map.mp this
          rw [← ep]; exact g2 p hp
      refine k _ _ (Same.new hq) ⟨q, _, rfl, ⟨L, upd_same, fun p hp => Dp.up (Same.new hq) (e3 p (g1 p hp)), rfl⟩, ?_⟩
      have e5 : (L.map fun p => Lq.nkD p.2) = (L.map (·.2)).map Lq.nkD := by rw [List.map_map]; rfl
      have e6 : (dd l).map enc = ((dd l).map nk).map Lq.nkD := by rw [List.map_map]; exact List.map_congr_left fun x _ => (N.is x).symm
      rw [e5, e6]
      exact pm.map _
theorem y_setC (hc : X.calm = true) (l : List Nat) (few : l.length + 1 < scanBound) (hg : Gl X "set") (hm : X.mg "set" = none) (h : PY X e Γ (tD X.K (.list (l.map iN)))) (hs : starEach [e] X.env = (false, eval e X.env) :: starEach [] X.env := by rfl) :
    PY X (.Call (.Name "set" p) [e] [] pos) Γ (tSetC X.w l) :=
  y_ty (x := "set") (Lq.cr_setI hc) hg hm (by decide +kernel) (ya_cons h ya_nil hs) (he := hs) fun vs H Q hvs k => by
    obtain ⟨v, rfl, hv⟩ := all1 hvs
    obtain ⟨a, xs, rfl, h1, h2⟩ := dp_lst hv
    have ez : l.map iN = (zs l).map .int := by unfold zs; rw [List.map_map]; rfl
    rw [ez] at h2
    rw [dpAll_ints h2] at h1
    refine ⟨a, zs l, rfl, h1, by rw [zs_len]; exact few, fun q c hq => k _ _ (Same.new hq) ⟨q, _, rfl, ⟨zs (dd l), _, c, upd_same, ?_, fun j => ?_, rfl⟩, ?_⟩⟩
    · exact List.pairwise_map.mpr (dd_nodup.imp fun ne e => ne (Int.ofNat_inj.mp e))
    · rw [decide_eq_true_iff]
      unfold zs
      rw [List.mem_map, List.mem_map]
      exact ⟨fun ⟨x, hx, e⟩ => ⟨x, dd_mem.mp hx, e⟩, fun ⟨x, hx, e⟩ => ⟨x, dd_mem.mpr hx, e⟩⟩
    · unfold zs
      rw [List.map_map]; exact List.Perm.refl _
theorem n_sortSN (hc : X.calm = true) (hu : X.A.units + 64 < cLine) (O : OrdE enc le P) (N : NkE enc nk) (l : List β) (hP : ∀ x, x ∈ l → P x) (few : (dd l).length < 64) (hg : Gl X "sorted") (hm : X.mg "sorted" = none) (hg2 : Gl X "set") (hm2 : X.mg "set" = none) (h : PY X e Γ (tD X.K (.list (l.map enc)))) {p2 pos2 : Pos}
    (hs : starEach [e] X.env = (false, eval e X.env) :: starEach [] X.env := by rfl) (hs2 : starEach [.Call (.Name "set" p2) [e] [] pos2] X.env = (false, eval (.Call (.Name "set" p2) [e] [] pos2) X.env) :: starEach [] X.env := by rfl) :
    PYN X (.Call (.Name "sorted" p) [.Call (.Name "set" p2) [e] [] pos2] [] pos) Γ (((dd l).mergeSort le).map enc) :=
  n_sorted (τ := tSetN X.K X.w enc l) Lq.coll_set hc (by omega) O (dd l) (fun x hx => hP x (dd_mem.mp hx)) (by omega) (fun v H ⟨a, ds, h1, h2, h3⟩ => ⟨a, ds, h1, h2, h3⟩) hg hm (y_setN N O.inj hc hu l few hg2 hm2 h hs) hs2
theorem n_sortSC (hc : X.calm = true) (hu : X.A.units + 64 < cLine) (l : List Nat) (few : l.length ≤ 1000) (hg : Gl X "sorted") (hm : X.mg "sorted" = none) (hg2 : Gl X "set") (hm2 : X.mg "set" = none) (h : PY X e Γ (tD X.K (.list (l.map iN)))) {p2 pos2 : Pos}
    (hs : starEach [e] X.env = (false, eval e X.env) :: starEach [] X.env := by rfl) (hs2 : starEach [.Call (.Name "set" p2) [e] [] pos2] X.env = (false, eval (.Call (.Name "set" p2) [e] [] pos2) X.env) :: starEach [] X.env := by rfl) :
    PYN X (.Call (.Name "sorted" p) [.Call (.Name "set" p2) [e] [] pos2] [] pos) Γ (((dd l).mergeSort leC).map iN) :=
  n_sorted (τ := tSetC X.w l) Lq.coll_setI hc (by omega) ordC (dd l) (fun _ _ => trivial) (by have := dd_len (l := l); omega) (fun v H ⟨a, ds, h1, h2, h3⟩ => ⟨a, ds, h1, h2, h3⟩) hg hm (y_setC hc l (by unfold scanBound; omega) hg2 hm2 h hs) hs2
end
end Lp
/-! LpDict -/
/-! Dict comprehensions whose keys may be tuples, with one for or two, as a value or given to a name. -/
namespace Lq
open PySem PySem.Spec PyProof.Rows L2
/-- of every block of the scope around X -/
abbrev Blks (X : Cx) (scope : Scope) (R : Cx → Prop) : Prop := ∀ (s : Shared) (H : Hp) (C : Addr) (cl : List (Str × Addr)) (fp : List Addr), R (X.blk s H scope (compEnvC scope cl C X.env) fp)
theorem dictSet_P {X : Cx} {A : Around} {pins : List (Addr × Obj)} {σ : L2.St} {H H' : Hp} {s : Shared} {E : Value → Shared → Prop} {D : Addr} {y v : V} {u r : Value} {Q : Unit → Shared → Prop} (hu : X.A.units + 1 < cLine) (I : Inv X pins σ H s) (g : DPut H D y v H') (ry : RelV y u) (rv : RelV v r)
    (h : ∀ s', Inv X pins σ H' s' → Q () s') : wpAny (model X.prog X.w) X.A (dictSet D u r) Q E s := by
  rcases g with ⟨kvs, k, e, rfl, l, rfl⟩ | ⟨kvs, k, b, e, rfl, eb, l, rfl⟩
  · exact d_dictSet I e l ry rv h
  · cases (show u = Value.ref b from ry)
    obtain ⟨z, hd, xs, rel, dd⟩ := dt_of I.hok e
    have fits : xs.length ≤ sizeLine := Paired.length rel ▸ z
    have fits2 : (putK kvs k v).length ≤ sizeLine := Nat.le_trans (length_putK kvs k v) l
    refine wpAny_dictSet_heap (hsz := fits) (show X.A.units < cLine from Nat.lt_of_succ_lt hu) (key_of I.hok eb) dd fun h1 dd1 sb => h _ ?_
    obtain ⟨q, es, ep, hq, h2, h3, h4, _, h5⟩ := dd1
    refine d_write I (by rw [e]; exact True.intro) sb ⟨q, hq⟩ ⟨fits2, hd, _, (rel.put k eb rv).keeps fun c ys ec => ?_, q, es, ep, hq, h2, h3, h4, h5⟩
    rw [upd_ne (ne_of ec e (fun z => nomatch z))]
    exact ec
/-- an empty dict -/
def Emp (o : HO) : Prop := o = .dK [] ∨ o = .dT []
theorem Emp.ok {o : HO} (e : Emp o) {P : Program} {w : World} {H : Hp} (h : Heap) (hb : sysModules < h.objs.size) : ObjOk P w H (h.push { cls := .type "dict", data := .dict #[] }) h.objs.size o := by
  rcases e with rfl | rfl
  · exact dk_empty h hb
  · exact dt_empty h hb
/-- one turn's store -/
def tSto (D : Addr) (tk tv : TE) (Nx : Hp → Prop) : L2.St → Hp → Prop := fun σ H => tk σ H fun y H1 => tv σ H1 fun z H2 => ∃ H3, DPut H2 D y z H3 ∧ Nx H3
def rdD1 (g : TG) (tt : TT) (tk tv : TE) (vs : List Nat) (σ : L2.St) (Q : VK) (J : It) (D : Addr) (H0 : Hp) : Prop := ∃ W : Nat → Nat → Hp → Prop, (∃ m, W 0 m H0) ∧ ∀ i m H, W i m H →
  (J.stop i H ∧ Q (.ref D) H) ∨ (J.go i H ∧ ∃ Nx : Hp → Prop, (∀ H', Nx H' → ∃ m', m' < m ∧ W (i + 1) m' H') ∧ ∀ x H', J.yld i H x H' → g x (wipe σ vs) H' fun σ2 H2 => wipe σ2 vs = wipe σ vs ∧ tt σ2 H2 fun b H3 => if b = true then tSto D tk tv Nx σ2 H3 else Nx H3)
def tD1 (o : HO) (wi : TI) (g : TG) (tt : TT) (tk tv : TE) (vs : List Nat) : TE := fun σ H Q => wi σ H fun J H1 => ∀ D, H1 D = none → rdD1 g tt tk tv vs σ Q J D (upd H1 D o)
def rdD2 (g : TG) (tt : TT) (wi1 : TI) (g1 : TG) (tt1 : TT) (tk tv : TE) (vs vs1 : List Nat) (σ : L2.St) (Q : VK) (J : It) (D : Addr) (H0 : Hp) : Prop := ∃ W : Nat → Nat → Hp → Prop, (∃ m, W 0 m H0) ∧ ∀ i m H, W i m H →
  (J.stop i H ∧ Q (.ref D) H) ∨ (J.go i H ∧ ∃ Nx : Hp → Prop, (∀ H', Nx H' → ∃ m', m' < m ∧ W (i + 1) m' H') ∧ ∀ x H', J.yld i H x H' → g x (wipe σ vs) H' fun σ2 H2 => wipe σ2 vs = wipe σ vs ∧ tt σ2 H2 fun b H3 => if b = true then
    wi1 σ2 H3 fun J1 H4 => ∃ W1 : Nat → Nat → Hp → Prop, (∃ m, W1 0 m H4) ∧ ∀ j k H, W1 j k H →
      (J1.stop j H ∧ Nx H) ∨ (J1.go j H ∧ ∃ Nx1 : Hp → Prop, (∀ H', Nx1 H' → ∃ k', k' < k ∧ W1 (j + 1) k' H') ∧ ∀ x H', J1.yld j H x H' → g1 x (wipe σ2 vs1) H' fun σ3 H5 => wipe σ3 vs1 = wipe σ2 vs1 ∧ tt1 σ3 H5 fun b H6 => if b = true then tSto D tk tv Nx1 σ3 H6 else Nx1 H6)
    else Nx H3)
def tD2 (o : HO) (wi : TI) (g : TG) (tt : TT) (wi1 : TI) (g1 : TG) (tt1 : TT) (tk tv : TE) (vs vs1 : List Nat) : TE := fun σ H Q => wi σ H fun J H1 => ∀ D, H1 D = none → rdD2 g tt wi1 g1 tt1 tk tv vs vs1 σ Q J D (upd H1 D o)
section
variable {prog : Program} {w : World} {A : Around} {R : Result → Shared → Prop} {s : Shared} {kx vx t0 i0 t1 i1 : Expr} {ifs0 ifs1 : List Expr} {scope : Scope} {pos : Pos} {it : Value} {D : Addr} {env : PySem.Env}
/-- what a raise in the block comes to -/
abbrev nb (prog : Program) (w : World) (A : Around) (env : PySem.Env) (R : Result → Shared → Prop) : Value → Shared → Prop := notedBy (model prog w) A env fun e s' => R (.error e) s'
abbrev tests (ifs : List Expr) (env : PySem.Env) : Sem Bool := forIn ifs true fun c r => if r = true then do let ok ← isTrue c env (eval c env); pure (ForInStep.yield ok) else pure (ForInStep.yield r)
theorem turnD_out (kx vx t0 i0 t1 i1 : Expr) (ifs0 ifs1 : List Expr) (scope : Scope) (pos : Pos) (it acc : Value) (env : PySem.Env) :
    compTurn (.DictComp kx vx [⟨t0, i0, ifs0, 0⟩, ⟨t1, i1, ifs1, 0⟩] scope pos) 0 it acc env = (do
      standAt i0.pos
      match ← pyNext it with
      | none => pure (.done .next)
      | some v =>
        letOwnedTupleGo t0 it v
        assign t0 env v
        let mut ok := true
        for c in ifs0 do
          if ok then ok ← isTrue c env (eval c env)
        if ok then
          let x ← eval i1 env
          standAt i1.pos
          let x ← foldedSetIterable i1 env x
          let _ ← runOwn (.compStart (.DictComp kx vx [⟨t0, i0, ifs0, 0⟩, ⟨t1, i1, ifs1, 0⟩] scope pos) 1 (← holding [x] (pyIter x)) acc env) env
        again (.compLoop (.DictComp kx vx [⟨t0, i0, ifs0, 0⟩, ⟨t1, i1, ifs1, 0⟩] scope pos) 0 it acc env)) := by rfl
theorem turnD_in (kx vx t0 i0 t1 i1 : Expr) (ifs0 ifs1 : List Expr) (scope : Scope) (pos : Pos) (it : Value) (D : Addr) (env : PySem.Env) :
    compTurn (.DictComp kx vx [⟨t0, i0, ifs0, 0⟩, ⟨t1, i1, ifs1, 0⟩] scope pos) 1 it (.ref D) env = (do
      standAt i1.pos
      match ← pyNext it with
      | none => pure (.done .next)
      | some v =>
        letOwnedTupleGo t1 it v
        assign t1 env v
        let mut ok := true
        for c in ifs1 do
          if ok then ok ← isTrue c env (eval c env)
        if ok then
          (do
            let kv ← eval kx env
            let vv ← holding [kv] (eval vx env)
            standAt { kx.pos with endLine := vx.pos.endLine, endCol := vx.pos.endCol }
            holding [kv, vv] (dictSet D kv vv))
        again (.compLoop (.DictComp kx vx [⟨t0, i0, ifs0, 0⟩, ⟨t1, i1, ifs1, 0⟩] scope pos) 1 it (.ref D) env)) := by rfl
theorem loopD_out (fold : ∀ x, foldedSetIterable i1 env x = pure x) (I : Nat → Shared → Prop)
    (turn : ∀ n s, I n s → wpAny (model prog w) A (pyNext it) (fun r s1 => match r with
      | none => R (.ok .next) s1
      | some v => wpAny (model prog w) A (letOwnedTupleGo t0 it v) (fun _ s2 => wpAny (model prog w) A (assign t0 env v) (fun _ s3 => wpAny (model prog w) A (tests ifs0 env) (fun ok s4 => if ok = true then
          wpAny (model prog w) A (eval i1 env) (fun x s5 => wpAny (model prog w) A (pyIter x) (fun it1 s6 =>
            codeAny (model prog w) A (.compStart (.DictComp kx vx [⟨t0, i0, ifs0, 0⟩, ⟨t1, i1, ifs1, 0⟩] scope pos) 1 it1 (.ref D) env) (fun r s' => match r with
              | .ok _ => ∃ m, m < n ∧ I m s'
              | .error _ => False) s6) (nb prog w A env R) s5) (nb prog w A env R) s4
        else ∃ m, m < n ∧ I m s4) (nb prog w A env R) s3) (nb prog w A env R) s2) (nb prog w A env R) s1) (nb prog w A env R) s) (n : Nat) (h : I n s) :
    codeAny (model prog w) A (.compLoop (.DictComp kx vx [⟨t0, i0, ifs0, 0⟩, ⟨t1, i1, ifs1, 0⟩] scope pos) 0 it (.ref D) env) R s := by
  refine codeAny_loop rfl I (fun n s hI => ?_) n h
  show wpAny _ A ((compTurn (.DictComp kx vx [⟨t0, i0, ifs0, 0⟩, ⟨t1, i1, ifs1, 0⟩] scope pos) 0 it (.ref D) env).onRaise (fun x => do noteFrame x env; theTreesLotGoes x)) _ _ s
  refine wpAny_noted ?_
  rw [turnD_out]
  refine wpAny_bind (wpAny_standAt (wpAny_bind (wpAny_mono (turn n s hI) (fun r s1 a1 => ?_) fun _ _ z => z)))
  cases r with
  | none => exact wpAny_pure a1
  | some v =>
    refine wpAny_bind (wpAny_mono a1 (fun _ s2 a2 => wpAny_bind (wpAny_mono a2 (fun _ s3 a3 => wpAny_bind (wpAny_mono a3 (fun ok s4 a4 => ?_) fun _ _ z => z)) fun _ _ z => z)) fun _ _ z => z)
    cases ok with
    | false => exact wpAny_pure ⟨rfl, a4⟩
    | true =>
      refine wpAny_bind (wpAny_mono a4 (fun x s5 a5 => wpAny_bind (wpAny_standAt (wpAny_bind (wpAny_of_eq (fold x) (wpAny_bind (wpAny_holding (wpAny_mono a5 (fun it1 s6 a6 => ?_) fun _ _ z => z))))))) fun _ _ z => z)
      refine wpAny_bind (wpAny_runOwn ?_)
      rw [Around.mark_none]
      refine codeAny_mono a6 fun r s' hr => ?_
      cases r with
      | ok f => first | exact wpAny_pure ⟨rfl, hr⟩ | exact wpAny_bind (wpAny_pure (wpAny_pure ⟨rfl, hr⟩))
      | error e => exact hr.elim
theorem loopD_in (I : Nat → Shared → Prop)
    (turn : ∀ n s, I n s → wpAny (model prog w) A (pyNext it) (fun r s1 => match r with
      | none => R (.ok .next) s1
      | some v => wpAny (model prog w) A (letOwnedTupleGo t1 it v) (fun _ s2 => wpAny (model prog w) A (assign t1 env v) (fun _ s3 => wpAny (model prog w) A (tests ifs1 env) (fun ok s4 => if ok = true then
          wpAny (model prog w) A (eval kx env) (fun kv s5 => wpAny (model prog w) A (eval vx env) (fun vv s6 =>
            wpAny (model prog w) A (dictSet D kv vv) (fun _ s7 => ∃ m, m < n ∧ I m s7) (nb prog w A env R) s6) (nb prog w A env R) s5) (nb prog w A env R) s4
        else ∃ m, m < n ∧ I m s4) (nb prog w A env R) s3) (nb prog w A env R) s2) (nb prog w A env R) s1) (nb prog w A env R) s) (n : Nat) (h : I n s) :
    codeAny (model prog w) A (.compLoop (.DictComp kx vx [⟨t0, i0, ifs0, 0⟩, ⟨t1, i1, ifs1, 0⟩] scope pos) 1 it (.ref D) env) R s := by
  refine codeAny_loop rfl I (fun n s hI => ?_) n h
  show wpAny _ A ((compTurn (.DictComp kx vx [⟨t0, i0, ifs0, 0⟩, ⟨t1, i1, ifs1, 0⟩] scope pos) 1 it (.ref D) env).onRaise (fun x => do noteFrame x env; theTreesLotGoes x)) _ _ s
  refine wpAny_noted ?_
  rw [turnD_in]
  refine wpAny_bind (wpAny_standAt (wpAny_bind (wpAny_mono (turn n s hI) (fun r s1 a1 => ?_) fun _ _ z => z)))
  cases r with
  | none => exact wpAny_pure a1
  | some v =>
    refine wpAny_bind (wpAny_mono a1 (fun _ s2 a2 => wpAny_bind (wpAny_mono a2 (fun _ s3 a3 => wpAny_bind (wpAny_mono a3 (fun ok s4 a4 => ?_) fun _ _ z => z)) fun _ _ z => z)) fun _ _ z => z)
    cases ok with
    | false => exact wpAny_pure ⟨rfl, a4⟩
    | true =>
      exact wpAny_bind (wpAny_bind (wpAny_mono a4 (fun kv s5 a5 => wpAny_bind (wpAny_holding (wpAny_mono a5 (fun vv s6 a6 => wpAny_bind (wpAny_standAt (wpAny_holding (wpAny_mono a6 (fun _ s7 a7 => wpAny_pure ⟨rfl, a7⟩) fun _ _ z => z)))) fun _ _ z => z))) fun _ _ z => z))
theorem startD1 (h0 : codeAny (model prog w) A (.compLoop (.DictComp kx vx [⟨t0, i0, ifs0, 0⟩, ⟨t1, i1, ifs1, 0⟩] scope pos) 1 it (.ref D) env) R s)
    (h : wpAny (model prog w) A (pyIter it) (fun it' s' => codeAny (model prog w) A (.compLoop (.DictComp kx vx [⟨t0, i0, ifs0, 0⟩, ⟨t1, i1, ifs1, 0⟩] scope pos) 1 it' (.ref D) env) R s') (nb prog w A env R) s) :
    codeAny (model prog w) A (.compStart (.DictComp kx vx [⟨t0, i0, ifs0, 0⟩, ⟨t1, i1, ifs1, 0⟩] scope pos) 1 it (.ref D) env) R s := by
  refine codeAny_of_tree ?_
  show wpAny _ _ ((compStart (.DictComp kx vx [⟨t0, i0, ifs0, 0⟩, ⟨t1, i1, ifs1, 0⟩] scope pos) 1 it (.ref D) env).onRaise (fun x => do noteFrame x env; standAt theWindowsPlace)) _ _ s
  refine wpAny_notedAt ?_
  unfold compStart
  show wpAny _ _ (ask >>= _) _ _ s
  refine wpAny_bind (wpAny_askSetting (wpAny_ite ?_))
  split
  · first
      | exact wpAny_bind (wpAny_pure (wpAny_pure (And.intro rfl h0)))
      | exact wpAny_pure (And.intro rfl h0)
  · first
      | exact wpAny_bind (wpAny_rule (wpAny_bind (wpAny_standAt (wpAny_bind (wpAny_mono h (fun it' s' h' => wpAny_pure (And.intro rfl h')) fun _ _ x => x)))))
      | (refine wpAny_bind (wpAny_rule ?_); show wpAny _ _ (standAt i1.pos >>= _) _ _ s; exact wpAny_bind (wpAny_standAt (wpAny_bind (wpAny_mono h (fun it' s' h' => wpAny_pure (And.intro rfl h')) fun _ _ x => x))))
end

section
variable {X : Cx} {pins : List (Addr × Obj)} {s : Shared} {σ : L2.St} {H : Hp} {Q : VK} {kx vx tg iter tg1 iter1 : Expr} {ifs ifs1 : List Expr} {scope : Scope} {own : List (Str × Nat)} {vs1 : List Nat} {pos pos' : Pos} {wi wi1 : TI} {g g1 : TG} {tt tt1 : TT} {tk tv : TE} {use : Option (Value → Sem Unit)} {Qf : Value → Shared → Prop} {o : HO}
/-- what stands at a block's start: its context Y, the frame it runs in -/
structure BlkS (X : Cx) (pins : List (Addr × Obj)) (σ : L2.St) (scope : Scope) (own : List (Str × Nat)) (fp : List Addr) (s3 : Shared) (H3 : Hp) (ce : PySem.Env) (s4 : Shared) : Prop where
  back : Inv X pins σ H3 s3
  fps : ∀ b, b ∈ fp → FpOk X pins H3 b
  loc : ce.locals = s3.heap.objs.size
  go : Inv (X.blk s3 H3 scope ce fp) [] (wipe σ (own.map (·.2))) H3 s4
section
variable {fp : List Addr} {s3 s4 : Shared} {H3 : Hp} {ce : PySem.Env}
theorem BlkS.stat (B : BlkS X pins σ scope own fp s3 H3 ce s4) {ρ : L2.St} {H' : Hp} {s' : Shared} (I' : Inv (X.blk s3 H3 scope ce fp) [] ρ H' s') (hn : ∀ b ∈ fp, H' b = none) : ∀ b ∈ fp, FpOk (X.blk s3 H3 scope ce fp) [] H' b := fun b hb =>
  ⟨hn b hb, (I'.ok.exf b hb).1, I'.ok.exfs b hb, .inl hb, fun x c e => (I'.ok.exf b hb).2 x c e, fun p hp => by cases hp⟩
/-- back in the frame around -/
theorem BlkS.out (B : BlkS X pins σ scope own fp s3 H3 ce s4) {ρ : L2.St} {H' : Hp} {s' : Shared} (I' : Inv (X.blk s3 H3 scope ce fp) [] ρ H' s') : Inv X pins σ H' s' ∧ ∃ m, s'.heap.Ns s3.heap.objs.size m ∧ FpOk X pins H' s3.heap.objs.size := by
  refine ⟨B.back.call' (ch := fp) I'.os I'.base I'.hok I'.bare fun b hb => ⟨(B.fps b hb).2.2.2.1, (B.fps b hb).2.1, (B.fps b hb).2.2.2.2.1, (B.fps b hb).2.2.2.2.2⟩, ?_⟩
  obtain ⟨m, hn, _⟩ := I'.loc
  have free : H' ce.locals = none := I'.free
  have hn' : s'.heap.Ns ce.locals m := hn
  rw [B.loc] at free hn'
  exact ⟨m, hn', B.back.fpOk (Nat.le_refl _) free⟩
end
/-- the block is entered -/
theorem enter_dict {gens : List Comprehension} (hc : X.calm = true) (hN : X.N.Nodup) (I : Inv X pins σ H s) (hi : PI X tg iter wi) (ok : BlkOk X.N X.env.scope scope own) (hs : ∀ x, foldedSetIterable iter X.env x = pure x) (emp : Emp o)
    {Rd : It → Addr → Hp → Prop} (h : wi σ H fun J H1 => ∀ D, H1 D = none → Rd J D (upd H1 D o))
    (run : ∀ J D it fp tn s3 H3 ce s4, Rd J D H3 → Turn X.prog X.w X.K tg J fp it tn → tn 0 s4.heap → (∀ b, b ∈ fp → H3 b = none) → BlkS X pins σ scope own fp s3 H3 ce s4 → (∃ cl, ce = compEnvC scope cl s3.heap.objs.size X.env) →
      codeAny (model X.prog X.w) X.A (.compLoop (.DictComp kx vx (⟨tg, iter, ifs, 0⟩ :: gens) scope pos) 0 (.ref it) (.ref D) ce) (compPost (model X.prog X.w) X.A X.xe use Qf (.ref D) s3.heap.objs.size) s4) :
    wpAny (model X.prog X.w) X.A (comprehension (.DictComp kx vx (⟨tg, iter, ifs, 0⟩ :: gens) scope pos) scope X.env pos' newDict false (eval iter X.env) use) Qf X.xe s := by
  have cells : ∀ y ∈ scope.names, y.2 = .free → ∃ c, X.env.cells.lookup y.1 = some c := fun y hy e => (ok.free y hy e).elim (fun k => I.ok.has _ (.inl k)) fun k => I.ok.has _ (.inr k)
  refine wpAny_comprehension_free (use := use) rfl hs (closure_ok cells) ok.kind (fun y hy e => by rw [ok.uniq y hy, e]) (thn (hi.run pins s σ H _ I h) fun xv s1 hx => thn hx fun itv s2 ⟨it, fp, tn, J, H2, e, I2, T, st2, f2, q⟩ => ?_)
  subst e
  refine wpAny_newObj_type (newEnv_comp ?_)
  generalize hD : s2.heap.objs.size = D
  have fresh : H2 D = none := I2.hok.fresh (Nat.le_of_eq hD)
  have w0 := q D fresh
  generalize es3 : ({ s2 with heap := s2.heap.push { cls := .type "dict", data := .dict #[] } } : Shared) = s3
  have heap3 : s3.heap = s2.heap.push { cls := .type "dict", data := .dict #[] } := by rw [← es3]
  have I3 : Inv X pins σ (upd H2 D o) s3 := by
    rw [← es3]
    exact I2.laid (t' := s2.toks) (fun b u e => Heap.get?_push_of_some _ e) (Nat.le_of_eq hD) (by rw [← hD]; exact emp.ok s2.heap I2.big)
  have small : ∀ b, b ∈ fp → b < s2.heap.objs.size := fun b hb => let ⟨_, e, _⟩ := T.obj _ _ st2 b hb; Heap.lt_size e
  have f3 : ∀ b ∈ fp, FpOk X pins (upd H2 D o) b ∧ b < s3.heap.objs.size := fun b hb => by
    have lt := small b hb
    exact ⟨⟨by rw [upd_ne (by rw [← hD]; exact Nat.ne_of_lt lt)]; exact (f2 b hb).1, (f2 b hb).2⟩, by rw [heap3, Heap.size_push]; exact Nat.lt_succ_of_lt lt⟩
  have st3 : tn 0 s3.heap := T.keep _ _ _ st2 fun b _ u e => by rw [heap3]; exact Heap.get?_push_of_some _ e
  have I4 := block_start I3 ok hN f3
  show codeAny _ _ (.compStart (.DictComp kx vx (⟨tg, iter, ifs, 0⟩ :: gens) scope pos) 0 (.ref it) (.ref D) (compEnvC scope (cellsFrom (s3.heap.objs.size + 1) scope.names (cloFrom X.env.cells scope.names [])) s3.heap.objs.size X.env)) _ { s3 with heap := pushCells (s3.heap.push { cls := .type "dict", data := .dict #[] }) scope.names }
  have goes := run J D it fp tn s3 (upd H2 D o) _ _ w0 T (T.keep _ _ _ st3 fun b _ u e => pushCells_keeps _ _ _ _ (Heap.get?_push_of_some _ e)) (fun b hb => (f3 b hb).1.1) ⟨I3, fun b hb => (f3 b hb).1, rfl, I4⟩ ⟨_, rfl⟩
  exact codeAny_compStart_dict goes (T.self X.A 0 _ _ _ (T.keep _ _ _ st3 fun b _ u e => pushCells_keeps _ _ _ _ (Heap.get?_push_of_some _ e)) goes)
/-- pinned records are as they were -/
theorem pin_of {Y : Cx} {pins : List (Addr × Obj)} {fp : List Addr} {h7 : Heap} {ρ : L2.St} {H' : Hp} {s' : Shared} (I' : Inv Y (pins ++ pinsAt fp h7) ρ H' s') : ∀ b ∈ fp, ∀ u, h7.get? b = some u → s'.heap.get? b = some u ∧ H' b = none := fun b hb u e =>
  let z := I'.pin (b, u) (List.mem_append_right _ (List.mem_append_right _ (mem_pinsAt hb e)))
  ⟨z.1, z.2.1⟩
theorem d1_run (hc : X.calm = true) (hu : X.A.units + 1 < cLine) (hN : X.N.Nodup) (I : Inv X pins σ H s) (hi : PI X tg iter wi) (ok : BlkOk X.N X.env.scope scope own) (emp : Emp o)
    (hg : Blks X scope fun Y => PG Y tg g) (ht : Blks X scope fun Y => PTs Y ifs tt) (hk : Blks X scope fun Y => PE Y kx tk) (he : Blks X scope fun Y => PE Y vx tv) (hs : ∀ x, foldedSetIterable iter X.env x = pure x) (h : tD1 o wi g tt tk tv (own.map (·.2)) σ H Q)
    (fin : ∀ D C s' m H', Inv X pins σ H' s' → Q (.ref D) H' → s'.heap.Ns C m → FpOk X pins H' C → compPost (model X.prog X.w) X.A X.xe use Qf (.ref D) C (.ok .next) s') :
    wpAny (model X.prog X.w) X.A (comprehension (.DictComp kx vx [⟨tg, iter, ifs, 0⟩] scope pos) scope X.env pos' newDict false (eval iter X.env) use) Qf X.xe s := by
  refine enter_dict (o := o) hc hN I hi ok hs emp (Rd := rdD1 g tt tk tv (own.map fun (p : Str × Nat) => p.2) σ Q) h ?_
  rintro J D it fp tn s3 H3 ce s4 ⟨W, ⟨m0, w0⟩, turn⟩ T st4 n4 B ⟨cl, rfl⟩
  have pg := hg s3 H3 s3.heap.objs.size cl fp
  have pt := ht s3 H3 s3.heap.objs.size cl fp
  have pk := hk s3 H3 s3.heap.objs.size cl fp
  have pe := he s3 H3 s3.heap.objs.size cl fp
  generalize compEnvC scope cl s3.heap.objs.size X.env = ce at B pg pt pk pe ⊢
  refine compLoop_anyD (fun n s' => ∃ i H', Inv (X.blk s3 H3 scope ce fp) [] (wipe σ (own.map (·.2))) H' s' ∧ tn i s'.heap ∧ (∀ b ∈ fp, H' b = none) ∧ W i n H') ?_ m0 ⟨0, H3, B.go, st4, n4, w0⟩
  rintro n s5 ⟨i, H5, I5, st5, n5, w5⟩
  rcases turn i n H5 w5 with ⟨stop, qq⟩ | ⟨go, Nx, hNx, step⟩
  · refine thnF (T.done (X.blk s3 H3 scope ce fp) rfl rfl rfl hc i [] s5 _ H5 (fun _ _ => False) I5 (B.stat I5 n5) st5 stop) fun r s6 ⟨hr, I6⟩ => ?_
    subst hr
    obtain ⟨I7, m, ns, fpC⟩ := B.out I6
    exact fin D _ s6 m H5 I7 qq ns fpC
  · refine thnF (T.item (X.blk s3 H3 scope ce fp) rfl rfl rfl hc i [] s5 _ H5 (fun _ _ => False) I5 (B.stat I5 n5) st5 go) fun r s6 ⟨u, hr, h6⟩ => ?_
    subst hr
    refine thnF h6 fun _ s7 ⟨x, H7, I7, r7, y7, st7, n7⟩ => ?_
    refine thnF (pg.run _ s7 _ H7 x u _ (I7.pinned (B.stat I7 n7) (T.obj _ _ st7)) r7 (step x H7 y7)) fun _ s8 ⟨σ8, H8, I8, hw8, q8⟩ => ?_
    refine thnF (pt.run _ s8 σ8 H8 _ I8 q8) fun b s9 ⟨H9, I9, q9⟩ => ?_
    have next : ∀ {s' : Shared} {H' : Hp}, Inv (X.blk s3 H3 scope ce fp) ([] ++ pinsAt fp s7.heap) σ8 H' s' → Nx H' → ∃ m, m < n ∧ ∃ i H', Inv (X.blk s3 H3 scope ce fp) [] (wipe σ (own.map (·.2))) H' s' ∧ tn i s'.heap ∧ (∀ b ∈ fp, H' b = none) ∧ W i m H' := fun {s' H'} I' nx => by
      obtain ⟨m', hm, w'⟩ := hNx H' nx
      refine ⟨m', hm, i + 1, H', (I'.unpinned (pins := [])).weak (by rw [← hw8, wipe_length]) (fun j v e => by rw [← hw8] at e; exact (wipe_some e).1), T.keep _ _ _ st7 fun b hb u e => (pin_of I' b hb u e).1, fun b hb => ?_, w'⟩
      obtain ⟨u, e, _⟩ := T.obj _ _ st7 b hb
      exact (pin_of I' b hb u e).2
    cases b with
    | false =>
      simp only [Bool.false_eq_true, if_false] at q9 ⊢
      exact next I9 q9
    | true =>
      simp only [if_true] at q9 ⊢
      refine thnF (pk.run _ s9 σ8 H9 _ I9 q9) fun z s10 ⟨yk, H10, I10, r10, q10⟩ => thnF (pe.run _ s10 σ8 H10 _ I10 q10) fun z2 s11 ⟨yv, H11, I11, r11, H12, put, nx⟩ => ?_
      exact dictSet_P (A := X.A) (X := X.blk s3 H3 scope ce fp) hu I11 put r10 r11 fun s12 I12 => next I12 nx
theorem d2_run (hc : X.calm = true) (hu : X.A.units + 1 < cLine) (hN : X.N.Nodup) (I : Inv X pins σ H s) (hi : PI X tg iter wi) (ok : BlkOk X.N X.env.scope scope own) (hv : ∀ i ∈ vs1, i ∈ own.map (·.2)) (emp : Emp o)
    (hg : Blks X scope fun Y => PG Y tg g) (ht : Blks X scope fun Y => PTs Y ifs tt) (hi1 : Blks X scope fun Y => PI Y tg1 iter1 wi1) (hg1 : Blks X scope fun Y => PG Y tg1 g1) (ht1 : Blks X scope fun Y => PTs Y ifs1 tt1) (hk : Blks X scope fun Y => PE Y kx tk) (he : Blks X scope fun Y => PE Y vx tv)
    (hs : ∀ x, foldedSetIterable iter X.env x = pure x) (hs1 : ∀ env x, foldedSetIterable iter1 env x = pure x) (h : tD2 o wi g tt wi1 g1 tt1 tk tv (own.map (·.2)) vs1 σ H Q)
    (fin : ∀ D C s' m H', Inv X pins σ H' s' → Q (.ref D) H' → s'.heap.Ns C m → FpOk X pins H' C → compPost (model X.prog X.w) X.A X.xe use Qf (.ref D) C (.ok .next) s') :
    wpAny (model X.prog X.w) X.A (comprehension (.DictComp kx vx [⟨tg, iter, ifs, 0⟩, ⟨tg1, iter1, ifs1, 0⟩] scope pos) scope X.env pos' newDict false (eval iter X.env) use) Qf X.xe s := by
  refine enter_dict (o := o) hc hN I hi ok hs emp (Rd := rdD2 g tt wi1 g1 tt1 tk tv (own.map fun (p : Str × Nat) => p.2) vs1 σ Q) h ?_
  rintro J D it fp tn s3 H3 ce s4 ⟨W, ⟨m0, w0⟩, turn⟩ T st4 n4 B ⟨cl, rfl⟩
  have pg := hg s3 H3 s3.heap.objs.size cl fp
  have pt := ht s3 H3 s3.heap.objs.size cl fp
  have pk := hk s3 H3 s3.heap.objs.size cl fp
  have pe := he s3 H3 s3.heap.objs.size cl fp
  have pi1 := hi1 s3 H3 s3.heap.objs.size cl fp
  have pg1 := hg1 s3 H3 s3.heap.objs.size cl fp
  have pt1 := ht1 s3 H3 s3.heap.objs.size cl fp
  generalize compEnvC scope cl s3.heap.objs.size X.env = ce at B pg pt pk pe pi1 pg1 pt1 ⊢
  refine loopD_out (hs1 ce) (fun n s' => ∃ i H', Inv (X.blk s3 H3 scope ce fp) [] (wipe σ (own.map (·.2))) H' s' ∧ tn i s'.heap ∧ (∀ b ∈ fp, H' b = none) ∧ W i n H') ?_ m0 ⟨0, H3, B.go, st4, n4, w0⟩
  rintro n s5 ⟨i, H5, I5, st5, n5, w5⟩
  rcases turn i n H5 w5 with ⟨stop, qq⟩ | ⟨go, Nx, hNx, step⟩
  · refine thnF (T.done (X.blk s3 H3 scope ce fp) rfl rfl rfl hc i [] s5 _ H5 (fun _ _ => False) I5 (B.stat I5 n5) st5 stop) fun r s6 ⟨hr, I6⟩ => ?_
    subst hr
    obtain ⟨I7, m, ns, fpC⟩ := B.out I6
    exact fin D _ s6 m H5 I7 qq ns fpC
  refine thnF (T.item (X.blk s3 H3 scope ce fp) rfl rfl rfl hc i [] s5 _ H5 (fun _ _ => False) I5 (B.stat I5 n5) st5 go) fun r s6 ⟨u, hr, h6⟩ => ?_
  subst hr
  refine thnF h6 fun _ s7 ⟨x, H7, I7, r7, y7, st7, n7⟩ => ?_
  refine thnF (pg.run _ s7 _ H7 x u _ (I7.pinned (B.stat I7 n7) (T.obj _ _ st7)) r7 (step x H7 y7)) fun _ s8 ⟨σ8, H8, I8, hw8, q8⟩ => ?_
  refine thnF (pt.run _ s8 σ8 H8 _ I8 q8) fun b s9 ⟨H9, I9, q9⟩ => ?_
  have next : ∀ {σ9 : L2.St} {s' : Shared} {H' : Hp}, Inv (X.blk s3 H3 scope ce fp) ([] ++ pinsAt fp s7.heap) σ9 H' s' → (wipe σ (own.map (·.2))).length = σ9.length → (∀ (j : Nat) v, (wipe σ (own.map (·.2)))[j]? = some (some v) → σ9[j]? = some (some v)) → Nx H' →
      ∃ m, m < n ∧ ∃ i H', Inv (X.blk s3 H3 scope ce fp) [] (wipe σ (own.map (·.2))) H' s' ∧ tn i s'.heap ∧ (∀ b ∈ fp, H' b = none) ∧ W i m H' := fun {σ9 s' H'} I' len sub nx => by
    obtain ⟨m', hm, w'⟩ := hNx H' nx
    refine ⟨m', hm, i + 1, H', (I'.unpinned (pins := [])).weak len sub, T.keep _ _ _ st7 fun b hb u e => (pin_of I' b hb u e).1, fun b hb => ?_, w'⟩
    obtain ⟨u, e, _⟩ := T.obj _ _ st7 b hb
    exact (pin_of I' b hb u e).2
  have len8 : (wipe σ (own.map (·.2))).length = σ8.length := by rw [← hw8, wipe_length]
  have sub8 : ∀ (j : Nat) v, (wipe σ (own.map (·.2)))[j]? = some (some v) → σ8[j]? = some (some v) := fun j v e => by rw [← hw8] at e; exact (wipe_some e).1
  have sub9 : ∀ (j : Nat) v, (wipe σ (own.map (·.2)))[j]? = some (some v) → (wipe σ8 vs1)[j]? = some (some v) := fun j v e => by
    rw [← hw8] at e
    obtain ⟨e1, e2⟩ := wipe_some e
    rw [wipe_out fun z => e2 (hv j z)]
    exact e1
  cases b with
  | false =>
    simp only [Bool.false_eq_true, if_false] at q9 ⊢
    exact next I9 len8 sub8 q9
  | true =>
    simp only [if_true] at q9 ⊢
    refine thnF (pi1.run _ s9 σ8 H9 _ I9 q9) fun xv s10 hx => thnF hx fun itv s11 ⟨it1, fp1, tn1, J1, H11, e1, I11, T1, st11, f11, W1, ⟨m1, w1⟩, turn1⟩ => ?_
    subst e1
    have stat1 : ∀ {H' : Hp}, (∀ b ∈ fp1, H' b = none) → ∀ b ∈ fp1, FpOk (X.blk s3 H3 scope ce fp) ([] ++ pinsAt fp s7.heap) H' b := fun hn b hb => ⟨hn b hb, (f11 b hb).2⟩
    have inner : codeAny (model X.prog X.w) X.A (.compLoop (.DictComp kx vx [⟨tg, iter, ifs, 0⟩, ⟨tg1, iter1, ifs1, 0⟩] scope pos) 1 (.ref it1) (.ref D) ce) (fun r s' => match r with
          | .ok _ => ∃ m, m < n ∧ ∃ i H', Inv (X.blk s3 H3 scope ce fp) [] (wipe σ (own.map (·.2))) H' s' ∧ tn i s'.heap ∧ (∀ b ∈ fp, H' b = none) ∧ W i m H'
          | .error _ => False) s11 := by
      refine loopD_in (fun k s' => ∃ j H', Inv (X.blk s3 H3 scope ce fp) ([] ++ pinsAt fp s7.heap) (wipe σ8 vs1) H' s' ∧ tn1 j s'.heap ∧ (∀ b ∈ fp1, H' b = none) ∧ W1 j k H') ?_ m1 ⟨0, H11, I11.weak (wipe_length _ _) (fun j v e => (wipe_some e).1), st11, fun b hb => (f11 b hb).1, w1⟩
      rintro k s12 ⟨j, H12, I12, st12, n12, w12⟩
      rcases turn1 j k H12 w12 with ⟨stop1, nx1⟩ | ⟨go1, Nx1, hNx1, step1⟩
      · refine thnF (T1.done (X.blk s3 H3 scope ce fp) rfl rfl rfl hc j _ s12 (wipe σ8 vs1) H12 (fun _ _ => False) I12 (stat1 n12) st12 stop1) fun r s13 ⟨hr, I13⟩ => ?_
        subst hr
        exact next I13 (len8.trans (wipe_length σ8 vs1).symm) sub9 nx1
      refine thnF (T1.item (X.blk s3 H3 scope ce fp) rfl rfl rfl hc j _ s12 (wipe σ8 vs1) H12 (fun _ _ => False) I12 (stat1 n12) st12 go1) fun r s13 ⟨u1, hr, h13⟩ => ?_
      subst hr
      refine thnF h13 fun _ s14 ⟨x1, H14, I14, r14, y14, st14, n14⟩ => ?_
      refine thnF (pg1.run _ s14 (wipe σ8 vs1) H14 x1 u1 _ (I14.pinned (stat1 n14) (T1.obj _ _ st14)) r14 (step1 x1 H14 y14)) fun _ s15 ⟨σ15, H15, I15, hw15, q15⟩ => ?_
      refine thnF (pt1.run _ s15 σ15 H15 _ I15 q15) fun b1 s16 ⟨H16, I16, q16⟩ => ?_
      have next1 : ∀ {s' : Shared} {H' : Hp}, Inv (X.blk s3 H3 scope ce fp) (([] ++ pinsAt fp s7.heap) ++ pinsAt fp1 s14.heap) σ15 H' s' → Nx1 H' → ∃ m, m < k ∧ ∃ j H', Inv (X.blk s3 H3 scope ce fp) ([] ++ pinsAt fp s7.heap) (wipe σ8 vs1) H' s' ∧ tn1 j s'.heap ∧ (∀ b ∈ fp1, H' b = none) ∧ W1 j m H' := fun {s' H'} I' nx => by
        obtain ⟨m', hm, w'⟩ := hNx1 H' nx
        refine ⟨m', hm, j + 1, H', I'.unpinned.weak (by rw [← hw15, wipe_length]) (fun j v e => by rw [← hw15] at e; exact (wipe_some e).1), T1.keep _ _ _ st14 fun b hb u e => (pin_of I' b hb u e).1, fun b hb => ?_, w'⟩
        obtain ⟨u, e, _⟩ := T1.obj _ _ st14 b hb
        exact (pin_of I' b hb u e).2
      cases b1 with
      | false =>
        simp only [Bool.false_eq_true, if_false] at q16 ⊢
        exact next1 I16 q16
      | true =>
        simp only [if_true] at q16 ⊢
        refine thnF (pk.run _ s16 σ15 H16 _ I16 q16) fun z s17 ⟨yk, H17, I17, r17, q17⟩ => thnF (pe.run _ s17 σ15 H17 _ I17 q17) fun z2 s18 ⟨yv, H18, I18, r18, H19, put, nx⟩ => ?_
        exact dictSet_P (A := X.A) (X := X.blk s3 H3 scope ce fp) hu I18 put r17 r18 fun s19 I19 => next1 I19 nx
    exact startD1 inner (T1.self X.A 0 _ _ _ st11 inner)
/-- as a value -/
theorem pe_d1 (hc : X.calm = true) (hu : X.A.units + 1 < cLine) (hN : X.N.Nodup) (hi : PI X tg iter wi) (ok : BlkOk X.N X.env.scope scope own) (emp : Emp o) (hg : Blks X scope fun Y => PG Y tg g) (ht : Blks X scope fun Y => PTs Y ifs tt) (hk : Blks X scope fun Y => PE Y kx tk) (he : Blks X scope fun Y => PE Y vx tv)
    (hs : ∀ x, foldedSetIterable iter X.env x = pure x := by intro _; rfl) : PE X (.DictComp kx vx [⟨tg, iter, ifs, 0⟩] scope pos) (tD1 o wi g tt tk tv (own.map (·.2))) := by
  refine ⟨fun pins s σ H Q I h => ?_⟩
  rw [arm_eval_DictComp]
  refine d1_run hc hu hN I hi ok emp hg ht hk he hs h fun D C s' m H' I' q hn ⟨f0, f1, f2, f3, f4, f5⟩ => ⟨m, hn, fun h2 sb => ?_⟩
  exact ⟨.ref D, H', I'.turned (t' := s'.toks) (fun b u hb e => (sb.2 b hb).trans e) f0 f1 f3 f4 f5, rfl, q⟩
/-- the store behind the block -/
theorem put_name {i : Nat} {y : Str} {py : Pos} {D C : Addr} {m : Str → Option Value} {H' : Hp} {s' : Shared} {N : L2.St → Hp → Prop} (hN : X.N.Nodup) (hy : X.N[i]? = some y) (hyl : X.env.scope.names.lookup y = some .local) (I' : Inv X pins σ H' s') (q : N (σ.set i (some (.ref D))) H') (hn : s'.heap.Ns C m) (f : FpOk X pins H' C)
    {E : Ends} (hE : E.nx = N) : compPost (model X.prog X.w) X.A X.xe (some (assign (.Name y py) X.env)) (fun _ s2 => SP X pins E .next s2) (.ref D) C (.ok .next) s' := by
  obtain ⟨f0, f1, f2, f3, f4, f5⟩ := f
  show wpAny _ _ (assign (.Name y py) X.env (.ref D)) _ _ _
  refine wpAny_assign_Name (store_ok2 (v := V.ref D) I' hN hy (.inl hyl) rfl (fun s2 I2 ⟨a, sb, ha⟩ => ?_) (.inr hyl))
  have apart : C ≠ a := ha.elim (fun z => by rw [z]; exact f1) fun z e => f4 y a z e.symm
  refine ⟨m, hn.sameBut sb apart, fun h3 sb3 => ?_⟩
  exact ⟨_, H', I2.turned (t' := s2.toks) (fun b u hb e => (sb3.2 b hb).trans e) f0 f1 f3 f4 f5, by rw [hE]; exact q⟩
/-- y = {..}, one for -/
theorem ps_d1 {i : Nat} {y : Str} {py spos : Pos} (hc : X.calm = true) (hu : X.A.units + 1 < cLine) (hN : X.N.Nodup) (hy : X.N[i]? = some y) (hyl : X.env.scope.names.lookup y = some .local) (hsw : swapsWith (.DictComp kx vx [⟨tg, iter, ifs, 0⟩] scope pos) (some (.Name y py)) spos.line X.env = pure true)
    (hi : PI X tg iter wi) (ok : BlkOk X.N X.env.scope scope own) (emp : Emp o) (hg : Blks X scope fun Y => PG Y tg g) (ht : Blks X scope fun Y => PTs Y ifs tt) (hk : Blks X scope fun Y => PE Y kx tk) (he : Blks X scope fun Y => PE Y vx tv)
    (hs : ∀ x, foldedSetIterable iter X.env x = pure x := by intro _; rfl) : PS X (.Assign [.Name y py] (.DictComp kx vx [⟨tg, iter, ifs, 0⟩] scope pos) spos) (tAsg (tD1 o wi g tt tk tv (own.map (·.2))) (gName i)) := by
  refine ⟨fun pins s σ H D I h => ?_⟩
  rw [exec_Assign_Name_used _ _ _ _ hsw]
  refine wpAny_bind (wpAny_standAt (wpAny_bind ?_))
  show wpAny _ X.A (do let _ ← comprehension (.DictComp kx vx [⟨tg, iter, ifs, 0⟩] scope pos) scope X.env (firstIterPos [⟨tg, iter, ifs, 0⟩] pos) newDict false (eval iter X.env) (some (assign (.Name y py) X.env))) _ _ s
  exact wpAny_bind (thn (d1_run (Q := fun x H1 => gName i x σ H1 D.nx) (Qf := fun _ s' => SP X pins D .next s') hc hu hN I hi ok emp hg ht hk he hs h fun L C s' m H' I' q hn f => put_name hN hy hyl I' q hn f rfl) fun _ s' hq => wpAny_pure (wpAny_pure hq))
/-- y = {..}, two fors -/
theorem ps_d2 {i : Nat} {y : Str} {py spos : Pos} (hc : X.calm = true) (hu : X.A.units + 1 < cLine) (hN : X.N.Nodup) (hy : X.N[i]? = some y) (hyl : X.env.scope.names.lookup y = some .local) (hsw : swapsWith (.DictComp kx vx [⟨tg, iter, ifs, 0⟩, ⟨tg1, iter1, ifs1, 0⟩] scope pos) (some (.Name y py)) spos.line X.env = pure true)
    (hi : PI X tg iter wi) (ok : BlkOk X.N X.env.scope scope own) (hv : ∀ i ∈ vs1, i ∈ own.map (·.2)) (emp : Emp o) (hg : Blks X scope fun Y => PG Y tg g) (ht : Blks X scope fun Y => PTs Y ifs tt) (hi1 : Blks X scope fun Y => PI Y tg1 iter1 wi1) (hg1 : Blks X scope fun Y => PG Y tg1 g1) (ht1 : Blks X scope fun Y => PTs Y ifs1 tt1)
    (hk : Blks X scope fun Y => PE Y kx tk) (he : Blks X scope fun Y => PE Y vx tv) (hs : ∀ x, foldedSetIterable iter X.env x = pure x := by intro _; rfl) (hs1 : ∀ env x, foldedSetIterable iter1 env x = pure x := by intro _ _; rfl) :
    PS X (.Assign [.Name y py] (.DictComp kx vx [⟨tg, iter, ifs, 0⟩, ⟨tg1, iter1, ifs1, 0⟩] scope pos) spos) (tAsg (tD2 o wi g tt wi1 g1 tt1 tk tv (own.map (·.2)) vs1) (gName i)) := by
  refine ⟨fun pins s σ H D I h => ?_⟩
  rw [exec_Assign_Name_used _ _ _ _ hsw]
  refine wpAny_bind (wpAny_standAt (wpAny_bind ?_))
  show wpAny _ X.A (do let _ ← comprehension (.DictComp kx vx [⟨tg, iter, ifs, 0⟩, ⟨tg1, iter1, ifs1, 0⟩] scope pos) scope X.env (firstIterPos [⟨tg, iter, ifs, 0⟩, ⟨tg1, iter1, ifs1, 0⟩] pos) newDict false (eval iter X.env) (some (assign (.Name y py) X.env))) _ _ s
  exact wpAny_bind (thn (d2_run (Q := fun x H1 => gName i x σ H1 D.nx) (Qf := fun _ s' => SP X pins D .next s') hc hu hN I hi ok hv emp hg ht hi1 hg1 ht1 hk he hs hs1 h fun L C s' m H' I' q hn f => put_name hN hy hyl I' q hn f rfl) fun _ s' hq => wpAny_pure (wpAny_pure hq))
end
end Lq
/-! LpF1 -/
namespace Lp
open PySem PySem.Spec PyProof.Rows L2
/-- a right table -/
structure TabR (n : Nat) (ks : List Kd) : Prop where
  n1 : 1 ≤ n
  n8 : n ≤ 8
  k1 : 1 ≤ ks.length
  k40 : ks.length ≤ 40
  cell : ∀ k, k ∈ ks → k.1 < n
  read : ∀ k, k ∈ ks → ∀ r, r ∈ k.2 → r < n
  asc : ∀ k, k ∈ ks → k.2.Pairwise (· < ·)
  few : ∀ k, k ∈ ks → k.2.length ≤ 3
theorem TabR.ok {n : Nat} {ks : List Kd} (T : TabR n ks) : TabOk n ks := ⟨T.cell, T.read⟩
section
variable {P : Program} {w : World} {K : PySem.W.Frag} {mg : Str → Option Value} {base : Heap}
abbrev tTab (K : PySem.W.Frag) (n : Nat) (ks : List Kd) : Ty := tObj (He.ga K "Table") [("cells", tI (n : Int)), ("kinds", tD K (dKs ks))]
abbrev dRd (rd : List (List Int)) : PyData := .list (rd.map dI)
abbrev tHis (K : PySem.W.Frag) (h : Hs) : Ty := tObj (He.ga K "History") [("cells_written", tD K (dLi (zs h.wr))), ("read", tD K (dRd h.rd)), ("last", tD K (dI h.la))]
/-- whole numbers alone are asked -/
theorem c_is_integer (T : Tp K mg) : Callee P w K mg base "is_integer" 1 ["thing"] (SpY (fun i : Int => [tI i]) (fun _ => True) fun _ => tBo true) := by
  obtain ⟨fd, F, b⟩ := T.defIsInteger
  refine ⟨_, fd, fnY F scIsInteger (fun _ => rfl) (fun _ => none) (fun _ _ h => by cases h) fun i _ cdv A outer s H E hr => ?_, T.gIsInteger, F.kp, b⟩
  exact s_ret (y_and (y_isi (by rfl) T.fIsinstance (by rfl) T.fInt (by decide +kernel) (r := true) (by decide +kernel) ty_int (yv 0)) fun _ => y_one (y_not (y_isi (by rfl) T.fIsinstance (by rfl) T.fBool (by decide +kernel) (r := false) (by decide +kernel) ty_int (yv 0)))) rfl
theorem c_is_within (T : Tp K mg) : Callee P w K mg base "is_within" 2 ["thing", "least", "most"] (SpY (fun z : Int × Int × Int => [tI z.1, tI z.2.1, tI z.2.2]) (fun _ => True) fun z => tBo (decide (z.2.1 ≤ z.1) && decide (z.1 ≤ z.2.2))) := by
  obtain ⟨fd, F, b⟩ := T.defIsWithin
  refine ⟨_, fd, fnY F scIsWithin (fun _ => rfl) (fun _ => none) (fun _ _ h => by cases h) fun z _ cdv A outer s H E hr => ?_, T.gIsWithin, F.kp, b⟩
  refine s_ret (τ := tBo (true && _)) (y_and (k := true) (y_call (c_is_integer T) hr (by rfl) z.1 trivial (ya_cons (yv 0) ya_nil)) fun _ => y_one (y_chain (yv 1) (yv 0) (yv 2))) rfl
/-- is_within, the answer known -/
theorem y_within {X : Cx} {Γ : Cxt} {a b c : Expr} {i j k : Int} {r : Bool} {p pos : Pos} (T : Tp X.K X.mg) (hr : Room 2 X.A) (hg : Gl X "is_within") (ha : PY X a Γ (tI i)) (hb : PY X b Γ (tI j)) (hc : PY X c Γ (tI k)) (e : (decide (j ≤ i) && decide (i ≤ k)) = r)
    (h1 : starEach [a, b, c] X.env = (false, eval a X.env) :: starEach [b, c] X.env := by rfl) (h2 : starEach [b, c] X.env = (false, eval b X.env) :: starEach [c] X.env := by rfl) (h3 : starEach [c] X.env = (false, eval c X.env) :: starEach [] X.env := by rfl)
    (hpl : (backTo pos (starEach [b, c] X.env)).any (·.1) = false := by rfl) : PY X (.Call (.Name "is_within" p) [a, b, c] [] pos) Γ (tBo r) :=
  PY.eq (y_call (c_is_within T) hr hg (i, j, k) trivial (ya_cons ha (ya_cons hb (ya_cons hc ya_nil h3) h2) h1) h1 hpl) (by rw [← e])
theorem c_is_pair (T : Tp K mg) : Callee P w K mg base "is_pair" 1 ["thing"] (SpY (fun ds : List PyData => [tD K (.tuple ds)]) (fun _ => True) fun ds => tBo (decide (ds.length = 2))) := by
  obtain ⟨fd, F, b⟩ := T.defIsPair
  refine ⟨_, fd, fnY F scIsPair (fun _ => rfl) (fun _ => none) (fun _ _ h => by cases h) fun ds _ cdv A outer s H E hr => ?_, T.gIsPair, F.kp, b⟩
  refine s_ret (PY.eq (y_and (y_isi (by rfl) T.fIsinstance (by rfl) T.fTuple (by decide +kernel) (r := true) (by decide +kernel) ty_tup (yv 0)) fun _ => y_one ((c_eqI (y_lenT (by rfl) T.fLen (yv 0)) y_int).val _)) ?_) rfl
  rw [Bool.true_and]
  exact congrArg tBo (decide_eq_decide.mpr ⟨fun h => by omega, fun h => by omega⟩)
/-- the number ahead of the i-th one of a lot -/
def lastAt (l : List Nat) : Nat → Int
  | 0 => 0 - 1
  | i + 1 => (l.getD i 0 : Nat)
theorem c_is_lot (T : Tp K mg) : Callee P w K mg base "is_lot" 3 ["thing", "least", "most"] (SpY (fun z : List Nat × Nat => [tD K (dT z.1), tI 0, tI (z.2 : Int)]) (fun z => z.1.Pairwise (· < ·) ∧ ∀ c, c ∈ z.1 → c ≤ z.2) fun _ => tBo true) := by
  obtain ⟨fd, F, b⟩ := T.defIsLot
  refine ⟨_, fd, fnY F scIsLot (fun _ => rfl) (fun _ => none) (fun _ _ h => by cases h) fun ⟨l, m⟩ ⟨asc, small⟩ cdv A outer s H E hr => ?_, T.gIsLot, F.kp, b⟩
  refine s_ifR (k := false) (t_not (y_t (y_isi (by rfl) T.fIsinstance (by rfl) T.fTuple (by decide +kernel) (r := true) (by decide +kernel) ty_tup (yv 0)))) (fun h => by cases h) fun _ => ?_
  refine s_asg (i := 3) (y_sub (yv 1) y_int) ?_ scIsLot.nd
  refine s_for (vs := [4]) (fun i => [some (tD K (dT l)), some (tI 0), some (tI (m : Int)), some (tI (lastAt l i)), none]) (fun i => [some (tD K (dT l)), some (tI 0), some (tI (m : Int)), some (tI (lastAt l i)), some (tI (l.getD i 0 : Nat))]) (fun _ _ g => g) rfl
    (i_tup (yv 0)) (pg_name (i := 4) scIsLot.nd rfl (.inl rfl)) (fun i τ hτ => ?_) (fun i hi => ?_) (s_ret y_bl rfl)
  · rw [List.getElem?_map, List.getElem?_map] at hτ
    unfold zs at hτ
    rw [List.getElem?_map] at hτ
    cases e : l[i]? with
    | none => rw [e] at hτ; cases hτ
    | some c =>
      rw [e] at hτ
      cases hτ
      have ec : l.getD i 0 = c := by rw [List.getD_eq_getElem?_getD, e]; rfl
      rw [ec]
      intro v σ H g hv Q q
      exact tg_name (τ := tI (c : Int)) List.mem_cons_self v σ H g (dp_int hv) Q q
  · have hil : i < l.length := by simpa [zs] using hi
    have e : l.getD i 0 = l[i] := by rw [List.getD_eq_getElem?_getD, List.getElem?_eq_getElem hil]; rfl
    refine s_ifR (k := false) (t_not (k := true) (y_t (y_within T hr (by rfl) (yv 4) (y_add (yv 3) y_int) (yv 2) ?_))) (fun h => by cases h) fun _ => ?_
    · have h1 : lastAt l i + 1 ≤ ((l.getD i 0 : Nat) : Int) := by
        cases i with
        | zero => show (0 : Int) - 1 + 1 ≤ _; omega
        | succ i =>
          have asc' : l.Pairwise (· < ·) := asc
          have := List.pairwise_iff_getElem.mp asc' i (i + 1) (by omega) hil (by omega)
          have e' : l.getD i 0 = l[i] := by rw [List.getD_eq_getElem?_getD, List.getElem?_eq_getElem (by omega)]; rfl
          show ((l.getD i 0 : Nat) : Int) + 1 ≤ _
          rw [e, e']; omega
      have h2 : ((l.getD i 0 : Nat) : Int) ≤ (m : Int) := by
        have := small _ (List.getElem_mem hil)
        rw [e]; omega
      rw [decide_eq_true h1, decide_eq_true h2]; rfl
    · exact s_asg (i := 3) (yv 4) (s_endW (fun σ H g => g.forget 4) rfl) scIsLot.nd
theorem c_is_kind (T : Tp K mg) : Callee P w K mg base "is_kind" 4 ["cells", "thing"] (SpY (fun z : Nat × Kd => [tI (z.1 : Int), tD K (dKd z.2)]) (fun z => z.2.1 < z.1 ∧ (∀ r, r ∈ z.2.2 → r < z.1) ∧ z.2.2.Pairwise (· < ·) ∧ z.2.2.length ≤ 3) fun _ => tBo true) := by
  obtain ⟨fd, F, b⟩ := T.defIsKind
  obtain ⟨tk, mM⟩ := T.iMOSTREADS
  refine ⟨_, fd, fnY F scIsKind (fun _ => rfl) (fun _ => none) (fun _ _ h => by cases h) fun ⟨n, c, rs⟩ ⟨h1, h2, h3, h4⟩ cdv A outer s H E hr => ?_, T.gIsKind, F.kp, b⟩
  have h1 : c < n := h1
  have e0 : ∀ X : Cx, tD X.K (dKd (c, rs)) = tD X.K (.tuple [iN c, dT rs]) := fun _ => rfl
  refine s_ifR (k := false) (t_w (w_or (k := false) (t_not (k := true) (y_t (y_call (c_is_pair T) (hr.mono (by decide)) (by rfl) [iN c, dT rs] trivial (ya_cons (yv 1) ya_nil)))) fun _ => w_or1 (t_not (k := true) (y_t (y_within T (hr.mono (by decide)) (by rfl) (PY.int (y_ixT (j := 0) rfl (yv 1) y_int)) y_int (y_sub (yv 0) y_int) ?_))))) (fun h => by cases h) fun _ => ?_
  · rw [decide_eq_true (by omega : (0 : Int) ≤ (c : Int)), decide_eq_true (by omega : (c : Int) ≤ (n : Int) - 1)]; rfl
  · refine s_ret (τ := tBo (true && _)) (y_and (k := true) (y_call (c_is_lot T) hr (by rfl) (rs, n - 1) ⟨h3, fun r hr => by have := h2 r hr; show r ≤ n - 1; omega⟩ (ya_cons (y_ixT (j := 1) rfl (yv 1) y_int) (ya_cons y_int (ya_cons (PY.eq (y_sub (yv 0) y_int) ?_) ya_nil)))) fun _ => y_one ((c_le (y_lenT (by rfl) T.fLen (y_ixT (j := 1) rfl (yv 1) y_int)) (y_glob (by rfl) mM ⟨_, rfl⟩)).val _)) ?_
    · exact congrArg tI (by show (n : Int) - 1 = ((n - 1 : Nat) : Int); omega)
    · rw [Bool.true_and]
      exact congrArg (fun b => some (tBo b)) (decide_eq_true (by have h4 : rs.length ≤ 3 := h4; simp [zs]; omega)).symm
end
end Lp
/-! LpComp -/
namespace Lp
open PySem PySem.Spec PyProof.Rows L2
/-! ### comprehensions, short -/
theorem dT_map (l : List Nat) : dT l = .tuple (l.map iN) := by
  show PyData.tuple ((zs l).map .int) = _
  unfold zs
  rw [List.map_map]; rfl
theorem map_ty {K : PySem.W.Frag} {β : Type} (l : List β) (d : β → PyData) : (l.map d).map (tD K) = l.map fun i => tD K (d i) := by rw [List.map_map]; rfl
section
variable {X : Cx} {Γ : Cxt} {τ τ' : Ty} {e it elt : Expr} {pos tpos : Pos} {β : Type} {ifs : List Expr} {scope : Scope}
/-- of every block of this scope -/
abbrev Bl (X : Cx) (scope : Scope) (R : Cx → Prop) : Prop := ∀ (s : Shared) (H : Hp) (C : Addr) (cl : List (Str × Addr)) (fp : List Addr), R (X.blk s H scope (compEnvC scope cl C X.env) fp)
theorem n_lc1 {nm : Str} (i : Nat) (l : List β) (t : β → Ty) (f : β → Bool) (d : β → PyData) (hz : l.length ≤ 100000) (hfz : ∀ x, x ∈ l → fz (d x) = true) (hc : X.calm = true) (hN : X.N.Nodup) (hi : PYI X (.Name nm tpos) it Γ (l.map t)) (ok : BlkOk X.N X.env.scope scope [(nm, i)])
    (hn : X.N[i]? = some nm) (hl : scope.names.lookup nm = some .local) (ht : ∀ x, x ∈ l → Bl X scope fun Y => PTs Y ifs (tYT (Γ.set i (some (t x))) (f x))) (he : ∀ x, x ∈ l → f x = true → Bl X scope fun Y => PE Y elt (tY (Γ.set i (some (t x))) (tD X.K (d x))))
    (hs : ∀ x, foldedSetIterable it X.env x = pure x := by intro _; rfl) : PYN X (.ListComp elt [⟨.Name nm tpos, it, ifs, 0⟩] scope pos) Γ ((l.filter f).map d) :=
  n_lc (g := gName i) (own := [(nm, i)]) l t f d (fun x => Γ.set i (some (t x))) hz hfz hc hN hi ok (fun _ _ _ _ _ => pg_name (i := i) hN hn (Or.inl (lookup_relabel_local hl)) (.inr (lookup_relabel_local hl))) (fun x _ v σ H g hv Q q => by
    have := tg_name (Γ := Γ.set i none) (vs := [i]) (τ := t x) List.mem_cons_self v σ H g hv Q
    rw [List.set_set] at this
    exact this q) ht he hs
theorem y_lc1 {nm : Str} (i : Nat) (l : List β) (t : β → Ty) (f : β → Bool) (d : β → PyData) (hz : l.length ≤ 100000) (hfz : ∀ x, x ∈ l → fz (d x) = true) (hc : X.calm = true) (hN : X.N.Nodup) (hi : PYI X (.Name nm tpos) it Γ (l.map t)) (ok : BlkOk X.N X.env.scope scope [(nm, i)])
    (hn : X.N[i]? = some nm) (hl : scope.names.lookup nm = some .local) (ht : ∀ x, x ∈ l → Bl X scope fun Y => PTs Y ifs (tYT (Γ.set i (some (t x))) (f x))) (he : ∀ x, x ∈ l → f x = true → Bl X scope fun Y => PE Y elt (tY (Γ.set i (some (t x))) (tD X.K (d x))))
    (hs : ∀ x, foldedSetIterable it X.env x = pure x := by intro _; rfl) : PY X (.ListComp elt [⟨.Name nm tpos, it, ifs, 0⟩] scope pos) Γ (tD X.K (.list ((l.filter f).map d))) := (n_lc1 i l t f d hz hfz hc hN hi ok hn hl ht he hs).y
/-- for i, j in pairs -/
theorem n_lc2 {nm nm' : Str} {kk : Nat} {p1 p2 : Pos} (i j : Nat) (l : List β) (t t' : β → Ty) (f : β → Bool) (d : β → PyData) (hz : l.length ≤ 100000) (hfz : ∀ x, x ∈ l → fz (d x) = true) (hc : X.calm = true) (hN : X.N.Nodup) (hi : PYI X (.Tuple [.Name nm p1, .Name nm' p2] kk tpos) it Γ (l.map fun x => tTup' X.K [t x, t' x])) (ok : BlkOk X.N X.env.scope scope [(nm, i), (nm', j)])
    (hn : X.N[i]? = some nm) (hn' : X.N[j]? = some nm') (hl : scope.names.lookup nm = some .local) (hl' : scope.names.lookup nm' = some .local) (ht : ∀ x, x ∈ l → Bl X scope fun Y => PTs Y ifs (tYT ((Γ.set i (some (t x))).set j (some (t' x))) (f x))) (he : ∀ x, x ∈ l → f x = true → Bl X scope fun Y => PE Y elt (tY ((Γ.set i (some (t x))).set j (some (t' x))) (tD X.K (d x))))
    (hs : ∀ x, foldedSetIterable it X.env x = pure x := by intro _; rfl) : PYN X (.ListComp elt [⟨.Tuple [.Name nm p1, .Name nm' p2] kk tpos, it, ifs, 0⟩] scope pos) Γ ((l.filter f).map d) :=
  n_lc (g := gTup X.K 2 (gCons (gName i) (gCons (gName j) gNil))) (own := [(nm, i), (nm', j)]) l (fun x => tTup' X.K [t x, t' x]) f d (fun x => (Γ.set i (some (t x))).set j (some (t' x))) hz hfz hc hN hi ok
    (fun _ _ _ _ _ => pg_tup hc (pgs_cons (pg_name (i := i) hN hn (Or.inl (lookup_relabel_local hl)) (.inr (lookup_relabel_local hl))) (pgs_cons (pg_name (i := j) hN hn' (Or.inl (lookup_relabel_local hl')) (.inr (lookup_relabel_local hl'))) pgs_nil))) (fun x _ v σ H g hv Q q => by
    refine tg_pair (Γ := (Γ.set j none).set i none) (vs := [i, j]) (τ := t x) (τ' := t' x) List.mem_cons_self (List.mem_cons_of_mem _ List.mem_cons_self) v σ H g hv Q fun σ' e' => q σ' ?_
    by_cases ij : i = j
    · subst ij
      simpa [List.set_set] using e'
    · rw [List.set_set, List.set_comm _ _ ij, List.set_set] at e'
      rwa [List.set_comm _ _ ij]) ht he hs
theorem y_lc2 {nm nm' : Str} {kk : Nat} {p1 p2 : Pos} (i j : Nat) (l : List β) (t t' : β → Ty) (f : β → Bool) (d : β → PyData) (hz : l.length ≤ 100000) (hfz : ∀ x, x ∈ l → fz (d x) = true) (hc : X.calm = true) (hN : X.N.Nodup) (hi : PYI X (.Tuple [.Name nm p1, .Name nm' p2] kk tpos) it Γ (l.map fun x => tTup' X.K [t x, t' x])) (ok : BlkOk X.N X.env.scope scope [(nm, i), (nm', j)])
    (hn : X.N[i]? = some nm) (hn' : X.N[j]? = some nm') (hl : scope.names.lookup nm = some .local) (hl' : scope.names.lookup nm' = some .local) (ht : ∀ x, x ∈ l → Bl X scope fun Y => PTs Y ifs (tYT ((Γ.set i (some (t x))).set j (some (t' x))) (f x))) (he : ∀ x, x ∈ l → f x = true → Bl X scope fun Y => PE Y elt (tY ((Γ.set i (some (t x))).set j (some (t' x))) (tD X.K (d x))))
    (hs : ∀ x, foldedSetIterable it X.env x = pure x := by intro _; rfl) : PY X (.ListComp elt [⟨.Tuple [.Name nm p1, .Name nm' p2] kk tpos, it, ifs, 0⟩] scope pos) Γ (tD X.K (.list ((l.filter f).map d))) := (n_lc2 i j l t t' f d hz hfz hc hN hi ok hn hn' hl hl' ht he hs).y
theorem i_lot {tg : Expr} {js : List Nat} (h : PY X e Γ (tD X.K (dT js))) : PYI X tg e Γ (js.map fun c => tD X.K (iN c)) := by
  have := i_tup (tg := tg) (PY.eq h (congrArg (tD X.K) (dT_map js)))
  rwa [map_ty] at this
theorem i_tupM {tg : Expr} {l : List β} {d : β → PyData} (h : PY X e Γ (tD X.K (.tuple (l.map d)))) : PYI X tg e Γ (l.map fun x => tD X.K (d x)) := by
  have := i_tup (tg := tg) h
  rwa [map_ty] at this
theorem i_listM {tg : Expr} {l : List β} {d : β → PyData} (h : PY X e Γ (tD X.K (.list (l.map d)))) : PYI X tg e Γ (l.map fun x => tD X.K (d x)) := by
  have := i_list (tg := tg) h
  rwa [map_ty] at this
/-- a walk over data that are pairs, as a walk over pairs -/
theorem i_pairs {tg : Expr} {l : List β} {d d' : β → PyData} (h : PYI X tg e Γ (l.map fun x => tD X.K (.tuple [d x, d' x]))) : PYI X tg e Γ (l.map fun x => tTup' X.K [tD X.K (d x), tD X.K (d' x)]) :=
  PI.imp h fun σ H R ⟨g, q⟩ => ⟨g, fun J H' s wk => q J H' s ⟨fun i H'' s' hi => wk.goes i H'' s' (by simpa using hi), fun H'' s' => by have := wk.stops H'' s'; simpa using this, fun i H'' x H3 s' y hi => by
    obtain ⟨a, τ, t1, t2⟩ := wk.yields i H'' x H3 s' y (by simpa using hi)
    refine ⟨a, ?_⟩
    rw [List.getElem?_map] at t1
    cases hq : l[i]? with
    | none => rw [hq] at t1; cases t1
    | some z =>
      rw [hq] at t1
      cases t1
      exact ⟨_, by rw [List.getElem?_map, hq]; rfl, tup_of _ _ t2⟩⟩⟩
/-- enumerate, as pairs -/
theorem enum_ix {K : PySem.W.Frag} {l : List β} {t : β → Ty} : ∀ k, enumTs K k (l.map t) = (l.zipIdx k).map fun x => tTup' K [tI ((x.2 : Nat) : Int), t x.1] := by
  induction l with
  | nil => intro k; rfl
  | cons x l ih => intro k; rw [List.map_cons, enumTs, ih (k + 1), List.zipIdx_cons, List.map_cons]
end
end Lp
/-! LpF2 -/
namespace Lp
open PySem PySem.Spec PyProof.Rows L2
section
variable {P : Program} {w : World} {K : PySem.W.Frag} {mg : Str → Option Value} {base : Heap}
theorem all_true {α : Type} (l : List α) : (l.map fun _ => true).all id = true := by rw [List.all_map]; exact List.all_eq_true.mpr fun _ _ => rfl
theorem c_is_journal (T : Tp K mg) : Callee P w K mg base "is_journal" 3 ["table", "thing"] (SpY (fun z : Nat × List Kd × List Nat => [tTab K z.1 z.2.1, tD K (dT z.2.2)]) (fun z => (∀ j, j ∈ z.2.2 → j < z.2.1.length) ∧ z.2.2.length ≤ 400) fun _ => tBo true) := by
  obtain ⟨fd, F, b⟩ := T.defIsJournal
  obtain ⟨tk, mM⟩ := T.iMOSTDEEDS
  refine ⟨_, fd, fnY F scIsJournal (fun _ => rfl) (fun _ => none) (fun _ _ h => by cases h) fun ⟨n, ks, js⟩ ⟨h1, h2⟩ cdv A outer s H E hr => ?_, T.gIsJournal, F.kp, b⟩
  have h2 : js.length ≤ 400 := h2
  have h1 : ∀ j, j ∈ js → j < ks.length := h1
  refine s_ifR (k := false) (t_w (w_or (k := false) (l := false) (t_not (k := true) (y_t (y_isi (by rfl) T.fIsinstance (by rfl) T.fTuple (by decide +kernel) (r := true) (by decide +kernel) ty_tup (yv 1)))) fun _ => w_or1 (PYT.eq ((c_gt (y_lenT (by rfl) T.fLen (yv 1)) (y_glob (by rfl) mM ⟨_, rfl⟩)).tst _) ?_))) (fun h => by cases h) fun _ => ?_
  · exact decide_eq_false (by simp [zs]; omega)
  refine s_ret (PY.eq (y_all (bs := js.map fun _ => true) (by rfl) (by rfl) T.fAll (PY.eq (y_lc1 2 js (fun c => tD K (iN c)) (fun _ => true) (fun _ => .bool true) (by omega) (fun _ _ => rfl) (by rfl) scIsJournal.nd (i_lot (yv 1))
    (blkOk_by (N := ["table", "thing", "number"]) (sc := defScope sIsJournal) (by decide +kernel)) rfl (by rfl) (fun _ _ _ _ _ _ _ => ts_no) (fun c hc _ _ _ _ _ _ => PY.ofBool ?_)) ?_)) ?_) rfl
  · exact y_within T (by exact hr) (by rfl) (PY.int (yv 2)) y_int (y_sub (y_lenT (by rfl) T.fLen (y_fld T.cTable T.nTableKinds rfl (yv 0))) y_int) (by
      have := h1 c hc
      rw [decide_eq_true (by omega : (0 : Int) ≤ (c : Int)), decide_eq_true (by simp; omega : (c : Int) ≤ ((ks.map dKd).length : Int) - 1)]; rfl)
  · rw [filter_all]
    show _ = tD K (.list ((js.map fun _ => true).map .bool))
    rw [List.map_map]; rfl
  · rw [all_true]
end
end Lp
/-! LpHoare -/
/-! Statements that change what stands: a state before, a state behind, a state at a return. -/
namespace Lp
open PySem PySem.Spec PyProof.Rows L2
abbrev SP2 := L2.St → Hp → Prop
section
variable {X : Cx} {Γ Γ' : Cxt} {τ τ' : Ty} {e it c : Expr} {pos : Pos} {ss rest body : List Stmt} {st : Stmt} {P M N : SP2} {R : V → Hp → Prop}
theorem pe_ex {ζ : Type} {t : ζ → TE} (h : ∀ z, PE X e (t z)) : PE X e fun σ H Q => ∃ z, t z σ H Q := ⟨fun pins s σ H Q I ⟨z, q⟩ => (h z).run pins s σ H Q I q⟩
theorem pt_ex {ζ : Type} {t : ζ → TT} (h : ∀ z, PT X e (t z)) : PT X e fun σ H Q => ∃ z, t z σ H Q := ⟨fun pins s σ H Q I ⟨z, q⟩ => (h z).run pins s σ H Q I q⟩
theorem ps_ex {ζ : Type} {t : ζ → TS} (h : ∀ z, PS X st (t z)) : PS X st fun D σ H => ∃ z, t z D σ H := ⟨fun pins s σ H D I ⟨z, q⟩ => (h z).run pins s σ H D I q⟩
theorem pss_ex {ζ : Type} {t : ζ → TS} (h : ∀ z, PSs X ss (t z)) : PSs X ss fun D σ H => ∃ z, t z D σ H := ⟨fun pins s σ H D I ⟨z, q⟩ => (h z).run pins s σ H D I q⟩
/-- what stays true of a name -/
theorem Env.put {i : Nat} {σ : L2.St} {H : Hp} {v : V} (g : Env Γ σ H) (h : σ[i]? = some (some v)) (t : τ.is v H) : Env (Γ.set i (some τ)) σ H := ⟨by rw [List.length_set]; exact g.len, fun j τ' hj => by
  by_cases ij : i = j
  · subst ij
    by_cases hi : i < Γ.length
    · rw [List.getElem?_set_self hi] at hj
      cases hj
      exact ⟨v, h, t⟩
    · rw [List.getElem?_eq_none (by simp; omega)] at hj; cases hj
  · rw [List.getElem?_set_ne ij] at hj
    exact g.at_ j τ' hj⟩
theorem Env.keep {i : Nat} {σ : L2.St} {H : Hp} {a : Option V} (g : Env Γ σ H) (h : Γ[i]? = some none) : Env Γ (σ.set i a) H := ⟨by rw [List.length_set]; exact g.len, fun j τ' hj => by
  by_cases ij : i = j
  · subst ij; rw [h] at hj; cases hj
  · obtain ⟨v, h1, h2⟩ := g.at_ j τ' hj
    exact ⟨v, by rw [List.getElem?_set_ne ij]; exact h1, h2⟩⟩
def tHT (P N : SP2) (R : V → Hp → Prop) : TS := fun D σ H => P σ H ∧ (∀ σ' H', N σ' H' → D.nx σ' H') ∧ (∀ v H', R v H' → D.rt v H')
abbrev HT (X : Cx) (ss : List Stmt) (P N : SP2) (R : V → Hp → Prop) : Prop := PSs X ss (tHT P N R)
theorem h_ex {ζ : Type} {P : ζ → SP2} (h : ∀ z, HT X ss (P z) N R) : HT X ss (fun σ H => ∃ z, P z σ H) N R := ⟨fun pins s σ H D I ⟨⟨z, p⟩, n, r⟩ => (h z).run pins s σ H D I ⟨p, n, r⟩⟩
theorem h_and {A : Prop} (h : A → HT X ss P N R) : HT X ss (fun σ H => A ∧ P σ H) N R := ⟨fun pins s σ H D I ⟨⟨z, p⟩, n, r⟩ => (h z).run pins s σ H D I ⟨p, n, r⟩⟩
theorem h_pre {P' : SP2} (h : HT X ss P' N R) (w : ∀ σ H, P σ H → P' σ H) : HT X ss P N R := PSs.imp h fun D σ H ⟨p, q⟩ => ⟨w _ _ p, q⟩
theorem h_post {N' : SP2} (h : HT X ss P N' R) (w : ∀ σ H, N' σ H → N σ H) : HT X ss P N R := PSs.imp h fun D σ H ⟨p, q, r⟩ => ⟨p, fun σ' H' n => q _ _ (w _ _ n), r⟩
theorem h_end (w : ∀ σ H, P σ H → N σ H) : HT X [] P N R := PSs.imp pss_nil fun D σ H ⟨p, q, r⟩ => q _ _ (w _ _ p)
/-- a statement by its own reading -/
theorem h_by {t : TS} (h : PS X st t) (q : ∀ (D : Ends) σ H, P σ H → (∀ σ' H', M σ' H' → D.nx σ' H') → (∀ v H', R v H' → D.rt v H') → t D σ H) (hr : HT X rest M N R) : HT X (st :: rest) P N R :=
  PSs.imp (pss_cons h hr) fun D σ H ⟨p, n, r⟩ => q _ σ H p (fun σ' H' m => ⟨m, n, r⟩) r
theorem h_one {t : TS} (h : PS X st t) (q : ∀ (D : Ends) σ H, P σ H → (∀ σ' H', N σ' H' → D.nx σ' H') → (∀ v H', R v H' → D.rt v H') → t D σ H) : HT X [st] P N R :=
  PSs.imp (pss_one h) fun D σ H ⟨p, n, r⟩ => q _ σ H p n r
theorem h_ret {te : TE} (h : PE X e te) (q : ∀ σ H, P σ H → te σ H R) (mono : ∀ σ H Q Q', (∀ v H', Q v H' → Q' v H') → te σ H Q → te σ H Q') : HT X [.Return (some e) pos] P N R :=
  h_one (ps_ret h) fun D σ H p n r => mono _ _ _ _ r (q σ H p)
theorem h_retY (h : PY X e Γ τ) (q : ∀ σ H, P σ H → Env Γ σ H) (k : ∀ σ H v H', P σ H → Same H H' → τ.is v H' → R v H') : HT X [.Return (some e) pos] P N R :=
  h_one (ps_ret h) fun D σ H p n r => ⟨q _ _ p, fun v H' s hv => r _ _ (k σ H v H' p s hv)⟩
/-- name = e -/
theorem h_asg {i : Nat} {x : Str} {px : Pos} (h : PY X e Γ τ) (q : ∀ σ H, P σ H → Env Γ σ H) (k : ∀ σ H v H', P σ H → Same H H' → τ.is v H' → M (σ.set i (some v)) H') (hr : HT X rest M N R) (hN : X.N.Nodup) (hi : X.N[i]? = some x := by rfl) (hx : Loc X.env.scope x := by exact Or.inl rfl)
    (hs : swapsWith e (some (.Name x px)) pos.line X.env = pure false := by rfl) (hf : X.fn x = true ∨ X.env.scope.names.lookup x = some .local := by first | exact .inl rfl | exact .inr rfl) : HT X (.Assign [.Name x px] e pos :: rest) P N R :=
  h_by (ps_set hN hi hx h hs hf) (fun D σ H p m _ => ⟨q _ _ p, fun v H1 s1 hv => m _ _ (k σ H v H1 p s1 hv)⟩) hr
/-- name = a new list -/
theorem h_new {i : Nat} {x : Str} {px : Pos} {ds : List PyData} (h : PYN X e Γ ds) (q : ∀ σ H, P σ H → Env Γ σ H) (k : ∀ σ H p vs H', P σ H → H p = none → Same H H' → H' p = some (.lst vs) → DpAll X.K H' vs ds → M (σ.set i (some (.ref p))) H') (hr : HT X rest M N R) (hN : X.N.Nodup) (hi : X.N[i]? = some x := by rfl) (hx : Loc X.env.scope x := by exact Or.inl rfl)
    (hs : swapsWith e (some (.Name x px)) pos.line X.env = pure false := by rfl) (hf : X.fn x = true ∨ X.env.scope.names.lookup x = some .local := by first | exact .inl rfl | exact .inr rfl) : HT X (.Assign [.Name x px] e pos :: rest) P N R :=
  h_by (ps_set hN hi hx h hs hf) (fun D σ H p m _ => ⟨q _ _ p, fun a vs H1 f s1 h1 hv => m _ _ (k σ H a vs H1 p f s1 h1 hv)⟩) hr
theorem h_asgE {i : Nat} {x : Str} {px : Pos} {te : TE} (h : PE X e te) (q : ∀ σ H (Q : VK), P σ H → (∀ v H', M (σ.set i (some v)) H' → Q v H') → te σ H Q) (hr : HT X rest M N R) (hN : X.N.Nodup) (hi : X.N[i]? = some x := by rfl) (hx : Loc X.env.scope x := by exact Or.inl rfl)
    (hs : swapsWith e (some (.Name x px)) pos.line X.env = pure false := by rfl) (hf : X.fn x = true ∨ X.env.scope.names.lookup x = some .local := by first | exact .inl rfl | exact .inr rfl) : HT X (.Assign [.Name x px] e pos :: rest) P N R :=
  h_by (ps_set hN hi hx h hs hf) (fun D σ H p m _ => q _ _ _ p fun v H' k => m _ _ k) hr
theorem h_exprE {te : TE} (h : PE X e te) (q : ∀ σ H (Q : VK), P σ H → (∀ v H', M σ H' → Q v H') → te σ H Q) (hr : HT X rest M N R) (hs : swapsWith e none pos.line X.env = pure false := by rfl) : HT X (.Expr e pos :: rest) P N R :=
  h_by (ps_expr h hs) (fun D σ H p m _ => q _ _ _ p fun v H' k => m _ _ k) hr
theorem h_if {b : Bool} (hc : PYT X c Γ b) (q : ∀ σ H, P σ H → Env Γ σ H) (up : ∀ σ H H', P σ H → Same H H' → P σ H') (h1 : b = true → HT X body P M R) (h0 : b = false → ∀ σ H, P σ H → M σ H) (hr : HT X rest M N R) : HT X (.If c body [] pos :: rest) P N R := by
  cases b with
  | true => exact h_by (ps_if hc (h1 rfl) (pss_no (ss := []))) (fun D σ H p m r => ⟨q _ _ p, fun H' s => ⟨up _ _ _ p s, m, r⟩⟩) hr
  | false => exact h_by (ps_if hc (pss_no (ss := body)) pss_nil) (fun D σ H p m r => ⟨q _ _ p, fun H' s => m _ _ (h0 rfl _ _ (up _ _ _ p s))⟩) hr
theorem h_ifR {b : Bool} (hc : PYT X c Γ b) (q : ∀ σ H, P σ H → Env Γ σ H) (up : ∀ σ H H', P σ H → Same H H' → P σ H') (h1 : b = true → HT X body P (fun _ _ => False) R) (h0 : b = false → HT X rest P N R) : HT X (.If c body [] pos :: rest) P N R := by
  cases b with
  | true => exact h_by (M := fun _ _ => False) (ps_if hc (h1 rfl) (pss_no (ss := []))) (fun D σ H p m r => ⟨q _ _ p, fun H' s => ⟨up _ _ _ p s, m, r⟩⟩) ⟨fun _ _ _ _ _ _ h => h.1.elim⟩
  | false => exact h_by (M := P) (ps_if hc (pss_no (ss := body)) pss_nil) (fun D σ H p m r => ⟨q _ _ p, fun H' s => m _ _ (up _ _ _ p s)⟩) (h0 rfl)
theorem h_ifE {b : Bool} {other : List Stmt} (hc : PYT X c Γ b) (q : ∀ σ H, P σ H → Env Γ σ H) (up : ∀ σ H H', P σ H → Same H H' → P σ H') (h1 : b = true → HT X body P M R) (h0 : b = false → HT X other P M R) (hr : HT X rest M N R) : HT X (.If c body other pos :: rest) P N R := by
  cases b with
  | true => exact h_by (ps_if hc (h1 rfl) (pss_no (ss := other))) (fun D σ H p m r => ⟨q _ _ p, fun H' s => ⟨up _ _ _ p s, m, r⟩⟩) hr
  | false => exact h_by (ps_if hc (pss_no (ss := body)) (h0 rfl)) (fun D σ H p m r => ⟨q _ _ p, fun H' s => ⟨up _ _ _ p s, m, r⟩⟩) hr
/-- while -/
theorem h_while {ζ : Type} (I : ζ → SP2) (μ : ζ → Nat) (Γ : ζ → Cxt) (b : ζ → Bool) (hc : ∀ z, PYT X c (Γ z) (b z)) (ge : ∀ z σ H, I z σ H → Env (Γ z) σ H) (up : ∀ z σ H H', I z σ H → Same H H' → I z σ H') (i0 : ∀ σ H, P σ H → ∃ z, I z σ H)
    (hb : ∀ z, b z = true → HT X body (I z) (fun σ H => ∃ z', μ z' < μ z ∧ I z' σ H) R) (hr : HT X rest (fun σ H => ∃ z, b z = false ∧ I z σ H) N R) (hp : PassesOwn (model X.prog X.w) X.A X.env X.xe := by exact PassesOwn.never) : HT X (.While c body [] pos :: rest) P N R := by
  refine h_by (ps_while hp (pt_ex (t := fun z => tYT (Γ z) (b z)) hc) (pss_ex (t := fun z D σ H => b z = true ∧ tHT (I z) (fun σ H => ∃ z', μ z' < μ z ∧ I z' σ H) R D σ H) fun z => ⟨fun pins s σ H D J h => (hb z h.1).run pins s σ H D J h.2⟩)) (fun D σ H p m r => ?_) hr
  obtain ⟨z0, h0⟩ := i0 σ H p
  refine ⟨fun k σ H => ∃ z, μ z = k ∧ I z σ H, ⟨_, z0, rfl, h0⟩, ?_⟩
  rintro k σ1 H1 ⟨z, rfl, h1⟩
  refine ⟨z, ge _ _ _ h1, fun H2 s2 => ?_⟩
  cases hz : b z with
  | true => exact ⟨fun σ' H' => ∃ z', μ z' < μ z ∧ I z' σ' H', fun σ' H' ⟨z', l, i⟩ => ⟨_, l, z', rfl, i⟩, z, hz, up _ _ _ _ h1 s2, fun _ _ n => n, r⟩
  | false => exact m _ _ ⟨z, hz, up _ _ _ _ h1 s2⟩
/-- what a walk goes through, asked for as the heap stands at each turn -/
structure W2 (J : It) (ok : Hp → Prop) (n : Nat) (val : Nat → V → Hp → Prop) : Prop where
  goes : ∀ i H, ok H → i < n → J.go i H
  stops : ∀ H, ok H → J.stop n H
  yields : ∀ i H x H', ok H → J.yld i H x H' → i < n → Same H H' ∧ val i x H'
def iG (Γ : Cxt) {Z : Type} (ini : Z → Hp → Prop) (ok : Z → Hp → Prop) (n : Nat) (val : Z → Nat → V → Hp → Prop) : TI := fun σ H R => Env Γ σ H ∧ ∀ z J H', Same H H' → ini z H' → W2 J (ok z) n (val z) → R J H'
abbrev Zs := Addr × List V
abbrev vAt (z : Zs) (i : Nat) (x : V) (_ : Hp) : Prop := z.2[i]? = some x
abbrev vPr (K : PySem.W.Frag) (z : Zs) (i : Nat) (x : V) (H : Hp) : Prop := ∃ T y, x = .ref T ∧ SqT K H T [.int (i : Nat), y] ∧ z.2[i]? = some y
theorem g_tup {tg : Expr} {ts : List Ty} (h : PY X e Γ (tTup' X.K ts)) : PI X tg e (iG Γ (fun (z : Zs) H => SqT X.K H z.1 z.2 ∧ AllY ts z.2 H) (fun z H => SqT X.K H z.1 z.2) ts.length vAt) :=
  PI.imp (pi_tup h) fun σ H R ⟨g, q⟩ => ⟨g, fun v H1 s1 ⟨a, xs, e1, h2, h3⟩ => ⟨a, e1, ⟨xs, h2⟩, q (a, xs) _ H1 s1 ⟨h2, h3⟩ ⟨fun i H' s hi => by
    rw [← h3.len] at hi
    exact ⟨xs, xs[i], s, List.getElem?_eq_getElem hi⟩, fun H' s => ⟨xs, s, Nat.le_of_eq h3.len⟩, fun i H' x H'' s ⟨e2, y⟩ hi => by subst e2; exact ⟨Same.refl _, y xs s⟩⟩⟩⟩
theorem g_list {tg : Expr} {ts : List Ty} (h : PY X e Γ (tLst X.K ts)) : PI X tg e (iG Γ (fun (z : Zs) H => SqL X.K H z.1 z.2 ∧ AllY ts z.2 H) (fun z H => SqL X.K H z.1 z.2) ts.length vAt) :=
  PI.imp (pi_list h) fun σ H R ⟨g, q⟩ => ⟨g, fun v H1 s1 ⟨a, xs, e1, h2, h3⟩ => ⟨a, e1, ⟨xs, h2⟩, q (a, xs) _ H1 s1 ⟨h2, h3⟩ ⟨fun i H' s hi => by
    rw [← h3.len] at hi
    exact ⟨xs, xs[i], s, List.getElem?_eq_getElem hi⟩, fun H' s => ⟨xs, s, Nat.le_of_eq h3.len⟩, fun i H' x H'' s ⟨e2, y⟩ hi => by subst e2; exact ⟨Same.refl _, y xs s⟩⟩⟩⟩
theorem g_enumT {ts : List Ty} {elts : List Expr} {kk : Nat} {tpos p pos : Pos} (hg : Gl X "enumerate") (hm : X.mg "enumerate" = none) (h : PY X e Γ (tTup' X.K ts)) (hs1 : starEach [e] X.env = (false, eval e X.env) :: starEach [] X.env := by rfl) (hs : starEach [e] X.env = [(false, eval e X.env)] := by rfl) :
    PI X (.Tuple elts kk tpos) (.Call (.Name "enumerate" p) [e] [] pos) (iG Γ (fun (z : Zs) H => SqT X.K H z.1 z.2 ∧ AllY ts z.2 H) (fun z H => SqT X.K H z.1 z.2) ts.length (vPr X.K)) :=
  PI.imp (Lq.pi_enumT hg hm (ya_cons h ya_nil hs1) hs) fun σ H R ⟨g, q⟩ => ⟨g, fun vs H1 s1 hvs => by
    obtain ⟨v, rfl, a, xs, rfl, h2, h3⟩ := all1 hvs
    refine ⟨a, xs, rfl, h2, q (a, xs) _ H1 s1 ⟨h2, h3⟩ ⟨fun i H' s hi => ?_, fun H' s => ⟨xs, s, h3.len⟩, fun i H' x H'' s y hi => ?_⟩⟩
    · rw [← h3.len] at hi
      exact ⟨xs, xs[i], s, List.getElem?_eq_getElem hi⟩
    · obtain ⟨T, x', rfl, hT, rfl, y⟩ := y
      exact ⟨Same.new hT, T, x', rfl, SqT.of upd_same, y xs s⟩⟩
theorem g_enumL {ts : List Ty} {elts : List Expr} {kk : Nat} {tpos p pos : Pos} (hg : Gl X "enumerate") (hm : X.mg "enumerate" = none) (h : PY X e Γ (tLst X.K ts)) (hs1 : starEach [e] X.env = (false, eval e X.env) :: starEach [] X.env := by rfl) (hs : starEach [e] X.env = [(false, eval e X.env)] := by rfl) :
    PI X (.Tuple elts kk tpos) (.Call (.Name "enumerate" p) [e] [] pos) (iG Γ (fun (z : Zs) H => SqL X.K H z.1 z.2 ∧ AllY ts z.2 H) (fun z H => SqL X.K H z.1 z.2) ts.length (vPr X.K)) :=
  PI.imp (pi_enum hg hm (ya_cons h ya_nil hs1) hs) fun σ H R ⟨g, q⟩ => ⟨g, fun vs H1 s1 hvs => by
    obtain ⟨v, rfl, a, xs, rfl, h2, h3⟩ := all1 hvs
    refine ⟨a, xs, rfl, h2, q (a, xs) _ H1 s1 ⟨h2, h3⟩ ⟨fun i H' s hi => ?_, fun H' s => ⟨xs, s, Nat.le_of_eq h3.len⟩, fun i H' x H'' s y hi => ?_⟩⟩
    · rw [← h3.len] at hi
      exact ⟨xs, xs[i], s, List.getElem?_eq_getElem hi⟩
    · obtain ⟨T, x', rfl, hT, rfl, y⟩ := y
      exact ⟨Same.new hT, T, x', rfl, SqT.of upd_same, y xs s⟩⟩
theorem g_rng {tg : Expr} {n : Nat} {p pos : Pos} (hg : Gl X "range") (hm : X.mg "range" = none) (h : PY X e Γ (tI (n : Int))) (hn : n ≤ 100000) (hs1 : starEach [e] X.env = (false, eval e X.env) :: starEach [] X.env := by rfl) (hs : starEach [e] X.env = [(false, eval e X.env)] := by rfl) :
    PI X tg (.Call (.Name "range" p) [e] [] pos) (iG Γ (fun (_ : Unit) _ => True) (fun _ _ => True) n fun _ i x _ => x = .int (i : Nat)) :=
  PI.imp (pi_range1 hg hm (ya_cons h ya_nil hs1) hs) fun σ H R ⟨g, q⟩ => ⟨g, fun vs H1 s1 hvs => by
    obtain ⟨v, rfl, hv⟩ := all1 hvs
    refine ⟨n, by rw [show v = V.int (n : Int) from hv], by omega, by omega, q () _ H1 s1 trivial ?_⟩
    have e1 : ((n : Int)).toNat = n := by simp
    rw [e1]
    exact ⟨fun i H' s hi => hi, fun H' s => Nat.le_refl _, fun i H' x H'' s ⟨e2, y⟩ hi => by subst e2; exact ⟨Same.refl _, by rw [y, Int.zero_add]⟩⟩⟩
/-- for -/
theorem h_for {Z : Type} {tg : Expr} {g : TG} {ini ok : Z → Hp → Prop} {n : Nat} {val : Z → Nat → V → Hp → Prop} (I B : Z → Nat → SP2) (hc : X.calm = true) (hi : PI X tg it (iG Γ ini ok n val)) (hg : PG X tg g) (ge : ∀ σ H, P σ H → Env Γ σ H)
    (i0 : ∀ z σ H H', P σ H → Same H H' → ini z H' → I z 0 σ H') (okk : ∀ z i σ H, i ≤ n → I z i σ H → ok z H) (tgt : ∀ z i σ H H2 x, i < n → I z i σ H → Same H H2 → val z i x H2 → g x σ H2 (B z i))
    (hb : ∀ z i, i < n → HT X body (B z i) (I z (i + 1)) R) (hr : HT X rest (fun σ H => ∃ z, I z n σ H) N R)
    (hp : PassesOwn (model X.prog X.w) X.A X.env X.xe := by exact PassesOwn.never) (hs : ∀ x, foldedSetIterable it X.env x = pure x := by intro _; rfl) (mono : ∀ v σ H Q Q', (∀ σ' H', Q σ' H' → Q' σ' H') → g v σ H Q → g v σ H Q') : HT X (.For tg it body [] pos :: rest) P N R := by
  refine h_by (ps_for (tb := fun D σ H => ∃ z, ∃ i, i < n ∧ tHT (B z i) (I z (i + 1)) R D σ H) hp hc hi hg ⟨fun pins s σ H D J ⟨z, i, lt, h⟩ => (hb z i lt).run pins s σ H D J h⟩ hs) (fun D σ H p m r => ⟨ge _ _ p, fun z J H1 s1 hz wk => ?_⟩) hr
  refine ⟨fun i m σ' H' => m = n - i ∧ i ≤ n ∧ I z i σ' H', ⟨_, rfl, Nat.zero_le _, i0 _ _ _ _ p s1 hz⟩, ?_⟩
  rintro i m σ' H' ⟨rfl, hle, g2⟩
  have hok := okk _ _ _ _ hle g2
  by_cases lt : i < n
  · refine .inr ⟨wk.goes i H' hok lt, I z (i + 1), fun σ2 H2 b => ⟨_, by omega, rfl, lt, b⟩, fun x H2 y => ?_⟩
    obtain ⟨s3, t1⟩ := wk.yields i H' x H2 hok y lt
    exact mono _ _ _ _ _ (fun σ3 H3 b => ⟨z, i, lt, b, fun _ _ k => k, r⟩) (tgt z i σ' H' H2 x lt g2 s3 t1)
  · obtain rfl : i = n := by omega
    exact .inl ⟨wk.stops H' hok, m _ _ ⟨z, g2⟩⟩
theorem mono_name {i : Nat} : ∀ (v : V) (σ : L2.St) (H : Hp) (Q Q' : L2.St → Hp → Prop), (∀ σ' H', Q σ' H' → Q' σ' H') → gName i v σ H Q → gName i v σ H Q' := fun v σ H Q Q' k q => k _ _ q
theorem mono_pair {K : PySem.W.Frag} {i j : Nat} : ∀ (v : V) (σ : L2.St) (H : Hp) (Q Q' : L2.St → Hp → Prop), (∀ σ' H', Q σ' H' → Q' σ' H') → gTup K 2 (gCons (gName i) (gCons (gName j) gNil)) v σ H Q → gTup K 2 (gCons (gName i) (gCons (gName j) gNil)) v σ H Q' := fun v σ H Q Q' k ⟨a, xs, e1, h2, h3, x, r, e4, y, r', e5, e6, q⟩ => ⟨a, xs, e1, h2, h3, x, r, e4, y, r', e5, e6, k _ _ q⟩
/-- what a pair target makes of a pair -/
theorem gp_pair {K : PySem.W.Frag} {i j : Nat} {T : Addr} {x y : V} {σ : L2.St} {H : Hp} {Q : L2.St → Hp → Prop} (h : SqT K H T [x, y]) (q : Q ((σ.set i (some x)).set j (some y)) H) : gTup K 2 (gCons (gName i) (gCons (gName j) gNil)) (.ref T) σ H Q := ⟨T, _, rfl, h, rfl, x, [y], rfl, y, [], rfl, rfl, q⟩
end
end Lp
/-! LpHoare2 -/
namespace Lp
open PySem PySem.Spec PyProof.Rows L2
section
variable {X : Cx} {Γ Γ' : Cxt} {τ τ' : Ty} {e it c o : Expr} {pos cpos apos : Pos} {ss rest body : List Stmt} {st : Stmt} {P M N : SP2} {R : V → Hp → Prop}
/-- o.append(e) -/
theorem h_append {to : TE} (ho : PE X o to) (h : PY X e Γ τ) (ge : ∀ σ H, P σ H → Env Γ σ H) (q : ∀ σ H, P σ H → ∃ l xs, H l = some (.lst xs) ∧ xs.length < 100000 ∧ (∀ Q : VK, Q (.ref l) H → to σ H Q) ∧ ∀ v H', Same H H' → τ.is v H' → M σ (upd H' l (.lst (xs ++ [v])))) (hr : HT X rest M N R)
    (hbase : attributeBase o "append" X.env (eval o X.env) = eval o X.env := by rfl)
    (hfew : ((backTo cpos (starEach [e] X.env)).all (fun x => !x.1) && (backToKw cpos (keywordEach [] X.env)).all (fun x => x.1.isSome) && decide ([e].length + ([] : List Keyword).length + (if ([] : List Keyword).isEmpty then 0 else 1) < 30)) = true := by rfl)
    (hline : (apos.endLine == cpos.line) = true := by rfl) (hs : starEach [e] X.env = (false, eval e X.env) :: starEach [] X.env := by rfl) (hplain : (backTo cpos (starEach [] X.env)).any (·.1) = false := by rfl)
    (hsw : swapsWith (.Call (.Attribute o "append" apos) [e] [] cpos) none pos.line X.env = pure false := by rfl) : HT X (.Expr (.Call (.Attribute o "append" apos) [e] [] cpos) pos :: rest) P N R :=
  h_exprE (pe_bm PySem.F.plainAttrs_list PySem.F.slot_list_append PySem.F.type_list_append mt_append ho (ya_cons h ya_nil hs) hbase hfew hline hs hplain) (fun σ H Q p k => by
    obtain ⟨l, xs, hl, hz, ht, m⟩ := q σ H p
    refine ht _ ⟨.inl ⟨rfl, xs, SqL.of hl⟩, ge _ _ p, fun vs H' s hvs => ?_⟩
    obtain ⟨v, rfl, hv⟩ := all1 hvs
    exact ⟨l, xs, v, rfl, rfl, s _ _ hl, sz_lt (by omega), k _ _ (m v H' s hv)⟩) hr hsw
/-- o.extend(a new list) -/
theorem h_extend {to : TE} {ds : List PyData} (ho : PE X o to) (h : PYN X e Γ ds) (ge : ∀ σ H, P σ H → Env Γ σ H) (q : ∀ σ H, P σ H → ∃ l xs, H l = some (.lst xs) ∧ xs.length + ds.length < 100000 ∧ (∀ Q : VK, Q (.ref l) H → to σ H Q) ∧ ∀ b zs H', H b = none → Same H H' → H' b = some (.lst zs) → DpAll X.K H' zs ds → M σ (upd H' l (.lst (xs ++ zs)))) (hr : HT X rest M N R)
    (hbase : attributeBase o "extend" X.env (eval o X.env) = eval o X.env := by rfl)
    (hfew : ((backTo cpos (starEach [e] X.env)).all (fun x => !x.1) && (backToKw cpos (keywordEach [] X.env)).all (fun x => x.1.isSome) && decide ([e].length + ([] : List Keyword).length + (if ([] : List Keyword).isEmpty then 0 else 1) < 30)) = true := by rfl)
    (hline : (apos.endLine == cpos.line) = true := by rfl) (hs : starEach [e] X.env = (false, eval e X.env) :: starEach [] X.env := by rfl) (hplain : (backTo cpos (starEach [] X.env)).any (·.1) = false := by rfl)
    (hsw : swapsWith (.Call (.Attribute o "extend" apos) [e] [] cpos) none pos.line X.env = pure false := by rfl) : HT X (.Expr (.Call (.Attribute o "extend" apos) [e] [] cpos) pos :: rest) P N R :=
  h_exprE (pe_bm PySem.F.plainAttrs_list PySem.F.slot_list_extend PySem.F.type_list_extend mt_extend ho (pa_cons h pa_nil hs) hbase hfew hline hs hplain) (fun σ H Q p k => by
    obtain ⟨l, xs, hl, hz, ht, m⟩ := q σ H p
    refine ht _ ⟨.inl ⟨rfl, xs, SqL.of hl⟩, ge _ _ p, fun b zs H' f s hb hd => ?_⟩
    have ld := dpAll_len hd
    exact ⟨l, b, xs, zs, rfl, rfl, s _ _ hl, hb, sz_ok (by omega), k _ _ (m b zs H' f s hb hd)⟩) hr hsw
theorem t_var {i : Nat} {x : Str} (hN : X.N[i]? = some x := by rfl) (hv : Vis X.env.scope x := by first | exact Or.inl rfl | exact Or.inr (Or.inl rfl) | exact Or.inr (Or.inr rfl)) (hd : (x == ("__debug__" : Str)) = false := by decide) (hcd : (x == ("__classdict__" : Str)) = false := by decide) : PE X (.Name x pos) (tVar i) := pe_var hN hv hd hcd
/-- o.f = e -/
theorem h_fld {f : Str} {to : TE} (ho : PE X o to) (h : PY X e Γ τ) (ge : ∀ σ H, P σ H → Env Γ σ H) (q : ∀ σ H, P σ H → ∃ a C dx fs, H a = some (.ins C dx fs) ∧ Cls X.K C ∧ NoAttr X.K C f ∧ fs.length < 1000 ∧ (∀ H' (Q : VK), Same H H' → Q (.ref a) H' → to σ H' Q) ∧ ∀ v H', Same H H' → τ.is v H' → M σ (upd H' a (.ins C dx (putF f v fs)))) (hr : HT X rest M N R)
    (hs : swapsWith e (some (.Attribute o f apos)) pos.line X.env = pure false := by rfl) : HT X (.Assign [.Attribute o f apos] e pos :: rest) P N R :=
  h_by (ps_fld ho h hs) (fun D σ H p m _ => ⟨ge _ _ p, fun v H' s hv => by
    obtain ⟨a, C, dx, fs, ha, c, n, l, ht, k⟩ := q σ H p
    exact ht _ _ s ⟨a, C, dx, fs, rfl, s _ _ ha, c, n, l, m _ _ (k v H' s hv)⟩⟩) hr
/-- o.f = a new list -/
theorem h_fldN {f : Str} {to : TE} {ds : List PyData} (ho : PE X o to) (h : PYN X e Γ ds) (ge : ∀ σ H, P σ H → Env Γ σ H) (q : ∀ σ H, P σ H → ∃ a C dx fs, H a = some (.ins C dx fs) ∧ Cls X.K C ∧ NoAttr X.K C f ∧ fs.length < 1000 ∧ (∀ H' (Q : VK), Same H H' → Q (.ref a) H' → to σ H' Q) ∧ ∀ p vs H', H p = none → Same H H' → H' p = some (.lst vs) → DpAll X.K H' vs ds → M σ (upd H' a (.ins C dx (putF f (.ref p) fs)))) (hr : HT X rest M N R)
    (hs : swapsWith e (some (.Attribute o f apos)) pos.line X.env = pure false := by rfl) : HT X (.Assign [.Attribute o f apos] e pos :: rest) P N R :=
  h_by (ps_fld ho h hs) (fun D σ H p m _ => ⟨ge _ _ p, fun b vs H' f s hb hv => by
    obtain ⟨a, C, dx, fs, ha, c, n, l, ht, k⟩ := q σ H p
    exact ht _ _ s ⟨a, C, dx, fs, rfl, s _ _ ha, c, n, l, m _ _ (k b vs H' f s hb hv)⟩⟩) hr
theorem y_neg {i : Int} {pos : Pos} (h : PY X e Γ (tI i)) : PY X (.UnaryOp .USub e pos) Γ (tI (-i)) :=
  PE.imp (pe_un un_neg h) fun σ H Q ⟨g, k⟩ => ⟨g, fun v H' s hv => ⟨i, hv, k _ H' s rfl⟩⟩
end
/-- a def that changes what stands, by its states -/
theorem fnH {P : Program} {w : World} {K : PySem.W.Frag} {mg : Str → Option Value} {base : Heap} {x qual : Str} {params : Arguments} {body : List Stmt} {scope : Scope} {f : Addr} {fd : FuncData} {N ps : List Str} {k : Nat} {sp : Sp}
    (F : FunD K x qual params body scope [] [] f fd) (S : FnScope N ps scope) (hl : ∀ vs H Q E, sp vs H Q E → vs.length = ps.length)
    (hb : ∀ (vs : List V) (H : Hp) (Q : VK) (E : XK), sp vs H Q E → ∀ (cdv : Value) (A : Around) (outer : List PySem.Env) (s : Shared), Room k (A.deeper (envOfC qual scope s.heap.objs.size f cdv)) →
      ∃ P0 : SP2, P0 (L2.start N vs) H ∧ HT (cxOf CX0 P w K mg base N qual scope f cdv A outer s H E).nox body P0 (fun _ H' => Q .non H') Q) : FnOk P w K mg base CX0 (k + 1) f fd ps sp :=
  F.ok S (fun vs H Q E h => hl vs H Q E h) fun cdv A outer s H vs Q E hr h => by
    obtain ⟨P0, p0, ht⟩ := hb vs H Q E h cdv A outer s hr
    exact ⟨_, ht.nox, p0, fun σ' H' n => n, fun v H' r => r⟩
end Lp
/-! LpDict2 -/
/-! Dicts by comprehension: their keys, their values told. -/
namespace Lp
open PySem PySem.Spec PyProof.Rows L2
theorem wipe_wipe {σ : L2.St} (vs : List Nat) : wipe (wipe σ vs) vs = wipe σ vs := by
  have go : ∀ (ws : List Nat) (ρ : L2.St), (∀ i ∈ ws, i < ρ.length → ρ[i]? = some none) → wipe ρ ws = ρ := by
    intro ws
    induction ws with
    | nil => intro ρ _; rfl
    | cons j r ih =>
      intro ρ hρ
      rw [wipe_cons, ih ρ fun i hi => hρ i (List.mem_cons_of_mem _ hi)]
      by_cases hj : j < ρ.length
      · have e1 := hρ j List.mem_cons_self hj
        apply List.ext_getElem?
        intro k
        by_cases jk : j = k
        · subst jk; rw [List.getElem?_set_self hj, e1]
        · rw [List.getElem?_set_ne jk]
      · exact List.set_eq_of_length_le (by omega)
  refine go vs _ fun i hi hl => ?_
  have : ∀ (ws : List Nat) (ρ : L2.St), i ∈ ws → i < (wipe ρ ws).length → (wipe ρ ws)[i]? = some none := by
    intro ws
    induction ws with
    | nil => intro ρ h; cases h
    | cons j r ih =>
      intro ρ h hl
      rw [wipe_cons] at hl ⊢
      rw [List.length_set] at hl
      by_cases jk : j = i
      · subst jk; exact List.getElem?_set_self hl
      · rw [List.getElem?_set_ne jk]
        exact ih ρ ((List.mem_cons.mp h).resolve_left (Ne.symm jk)) hl
  exact this vs σ hi hl
/-! ### keys in order, values by key -/
def addk {α : Type} [DecidableEq α] (ks : List α) (k : α) : List α := if k ∈ ks then ks else ks ++ [k]
def adds {α : Type} [DecidableEq α] (ks l : List α) : List α := l.foldl addk ks
theorem adds_nil {α : Type} [DecidableEq α] (ks : List α) : adds ks [] = ks := rfl
theorem adds_app {α : Type} [DecidableEq α] (ks l m : List α) : adds ks (l ++ m) = adds (adds ks l) m := List.foldl_append
theorem addk_mem {α : Type} [DecidableEq α] {ks : List α} {k j : α} : j ∈ addk ks k ↔ j ∈ ks ∨ j = k := by
  unfold addk
  by_cases h : k ∈ ks
  · rw [if_pos h]
    exact ⟨.inl, fun z => z.elim id fun e => e ▸ h⟩
  · rw [if_neg h, List.mem_append, List.mem_singleton]
theorem adds_mem {α : Type} [DecidableEq α] {j : α} : ∀ {l ks : List α}, j ∈ adds ks l ↔ j ∈ ks ∨ j ∈ l
  | [], ks => by simp [adds]
  | k :: l, ks => by
    show j ∈ adds (addk ks k) l ↔ _
    rw [adds_mem, addk_mem, List.mem_cons, or_assoc]
theorem addk_nodup {α : Type} [DecidableEq α] {ks : List α} {k : α} (h : ks.Nodup) : (addk ks k).Nodup := by
  unfold addk
  by_cases c : k ∈ ks
  · rw [if_pos c]; exact h
  · rw [if_neg c]
    exact List.nodup_append.mpr ⟨h, List.nodup_cons.mpr ⟨List.not_mem_nil, List.nodup_nil⟩, fun x hx y hy e => by
      rw [List.mem_singleton.mp hy] at e; exact c (e ▸ hx)⟩
theorem adds_nodup {α : Type} [DecidableEq α] : ∀ {l ks : List α}, ks.Nodup → (adds ks l).Nodup
  | [], _, h => h
  | k :: l, ks, h => adds_nodup (l := l) (addk_nodup h)
theorem addk_len {α : Type} [DecidableEq α] {ks : List α} {k : α} : (addk ks k).length ≤ ks.length + 1 := by
  unfold addk; split <;> simp
theorem adds_len {α : Type} [DecidableEq α] : ∀ {l ks : List α}, (adds ks l).length ≤ ks.length + l.length
  | [], _ => Nat.le_refl _
  | k :: l, ks => by
    have h1 := adds_len (l := l) (ks := addk ks k)
    have h2 := addk_len (ks := ks) (k := k)
    show (adds (addk ks k) l).length ≤ _
    rw [List.length_cons]; omega
def dkg {α κ : Type} (f : α → κ) (ks : List α) (ρ : α → V) : List (κ × V) := ks.map fun k => (f k, ρ k)
theorem valV_dkg {α κ : Type} [DecidableEq α] [DecidableEq κ] {f : α → κ} (inj : ∀ x y, f x = f y → x = y) {ρ : α → V} {k : α} : ∀ {ks : List α}, valV (dkg f ks ρ) (f k) = if k ∈ ks then some (ρ k) else none
  | [] => rfl
  | j :: ks => by
    by_cases e : j = k
    · subst e
      rw [if_pos List.mem_cons_self]
      exact valV_pos (p := (f j, ρ j)) rfl
    · have : ¬ (f j = f k) := fun z => e (inj _ _ z)
      show valV ((f j, ρ j) :: dkg f ks ρ) (f k) = _
      rw [valV_neg (p := (f j, ρ j)) this, valV_dkg inj]
      have h : k ∈ j :: ks ↔ k ∈ ks := by rw [List.mem_cons]; exact ⟨fun z => z.resolve_left fun q => e q.symm, .inr⟩
      by_cases c : k ∈ ks
      · rw [if_pos c, if_pos (h.mpr c)]
      · rw [if_neg c, if_neg fun z => c (h.mp z)]
theorem putK_dkg {α κ : Type} [DecidableEq α] [DecidableEq κ] {f : α → κ} (inj : ∀ x y, f x = f y → x = y) {ρ : α → V} {k : α} {v : V} {ks : List α} : putK (dkg f ks ρ) (f k) v = dkg f (addk ks k) (fun j => if j = k then v else ρ j) := by
  unfold putK addk
  by_cases c : k ∈ ks
  · rw [if_pos c, if_pos]
    · unfold dkg
      rw [List.map_map]
      refine List.map_congr_left fun j hj => ?_
      show (if f j = f k then (f j, v) else (f j, ρ j)) = (f j, if j = k then v else ρ j)
      by_cases e : j = k
      · rw [if_pos (by rw [e]), if_pos e]
      · rw [if_neg fun z => e (inj _ _ z), if_neg e]
    · rw [List.any_eq_true]
      exact ⟨(f k, ρ k), List.mem_map.mpr ⟨k, c, rfl⟩, by simp⟩
  · rw [if_neg c, if_neg]
    · unfold dkg
      rw [List.map_append, List.map_cons, List.map_nil]
      show _ = _ ++ [(f k, if k = k then v else ρ k)]
      rw [if_pos rfl]
      congr 1
      refine List.map_congr_left fun j hj => ?_
      show (f j, ρ j) = (f j, if j = k then v else ρ j)
      rw [if_neg fun z : j = k => c (z ▸ hj)]
    · rw [List.any_eq_true]
      rintro ⟨p, hp, e⟩
      obtain ⟨j, hj, rfl⟩ := List.mem_map.mp hp
      exact c (inj _ _ (of_decide_eq_true e) ▸ hj)
theorem dkg_len {α κ : Type} {f : α → κ} {ks : List α} {ρ : α → V} : (dkg f ks ρ).length = ks.length := List.length_map _
/-! ### data stay while a dict changes -/
def NoSeq (o : HO) : Prop := (∀ xs, o ≠ .tup xs) ∧ (∀ xs, o ≠ .lst xs) ∧ ∀ ob u, o ≠ .frz ob u
theorem seqT_upd {K : PySem.W.Frag} {H : Hp} {D : Addr} {o o' : HO} (h : H D = some o) (n : NoSeq o) {a : Addr} {xs : List V} (q : SqT K H a xs) : SqT K (upd H D o') a xs := by
  have ne : ∀ u, H a = some u → u ≠ o → a ≠ D := fun u hu hne e => by
    rw [e, h] at hu
    exact hne (Option.some.inj hu).symm
  rcases q with (q | ⟨ob, q⟩) | q
  · exact .inl (.inl (by rw [upd_ne (ne _ q (Ne.symm (n.1 xs)))]; exact q))
  · exact .inl (.inr ⟨ob, by rw [upd_ne (ne _ q (Ne.symm (n.2.2 ob _)))]; exact q⟩)
  · exact .inr q
theorem seqL_upd {K : PySem.W.Frag} {H : Hp} {D : Addr} {o o' : HO} (h : H D = some o) (n : NoSeq o) {a : Addr} {xs : List V} (q : SqL K H a xs) : SqL K (upd H D o') a xs := by
  have ne : ∀ u, H a = some u → u ≠ o → a ≠ D := fun u hu hne e => by
    rw [e, h] at hu
    exact hne (Option.some.inj hu).symm
  rcases q with (q | ⟨ob, q⟩) | q
  · exact .inl (.inl (by rw [upd_ne (ne _ q (Ne.symm (n.2.1 xs)))]; exact q))
  · exact .inl (.inr ⟨ob, by rw [upd_ne (ne _ q (Ne.symm (n.2.2 ob _)))]; exact q⟩)
  · exact .inr q
mutual
theorem Dp.upd {K : PySem.W.Frag} {H : Hp} {D : Addr} {o o' : HO} (h : H D = some o) (n : NoSeq o) : ∀ {v : V} {d : PyData}, Dp K H v d → Dp K (L2.upd H D o') v d
  | _, _, .non => .non
  | _, _, .bl b => .bl b
  | _, _, .int i => .int i
  | _, _, .str x => .str x
  | _, _, .lst q a => .lst (seqL_upd h n q) (DpAll.upd h n a)
  | _, _, .tup q a => .tup (seqT_upd h n q) (DpAll.upd h n a)
theorem DpAll.upd {K : PySem.W.Frag} {H : Hp} {D : Addr} {o o' : HO} (h : H D = some o) (n : NoSeq o) : ∀ {vs : List V} {ds : List PyData}, DpAll K H vs ds → DpAll K (L2.upd H D o') vs ds
  | _, _, .nil => .nil
  | _, _, .cons q a => .cons (Dp.upd h n q) (DpAll.upd h n a)
end
/-- a tuple of whole numbers that is tracked -/
def tTk (l : List Int) : Ty := ⟨fun v H => ∃ b, v = .ref b ∧ H b = some (.tup (l.map V.int)), fun e ⟨b, h1, h2⟩ => ⟨b, h1, e _ _ h2⟩⟩
theorem tk_data {K : PySem.W.Frag} {l : List Int} : ∀ v H, (tTk l).is v H → (tD K (dI l)).is v H := fun v H ⟨b, e, h⟩ => by subst e; exact .tup (SqT.of h) (ints_dpAll l)
/-- a kind of keys -/
structure KK (α κ : Type) [DecidableEq κ] where
  cons : List (κ × V) → HO
  f : α → κ
  ty : α → Ty
  inj : ∀ x y, f x = f y → x = y
  emp : Lq.Emp (cons [])
  no : ∀ kvs, NoSeq (cons kvs)
  put : ∀ {k : α} {y v : V} {H : Hp} {D : Addr} {kvs : List (κ × V)}, (ty k).is y H → H D = some (cons kvs) → kvs.length < sizeLine → DPut H D y v (upd H D (cons (putK kvs (f k) v)))
  get : ∀ {k : α} {y : V} {H : Hp} {D : Addr} {kvs : List (κ × V)}, (ty k).is y H → H D = some (cons kvs) → DGet H D y (valV kvs (f k))
theorem kv_ints (k : List Int) : (k.map (Sum.inl : Int → L2.Key)).map kV = k.map V.int := by rw [List.map_map]; rfl
def kkI : KK Int L2.Key where
  cons := .dK
  f := Sum.inl
  ty := tI
  inj := fun x y h => Sum.inl.inj h
  emp := .inl rfl
  no := fun kvs => ⟨fun _ h => (by cases h), fun _ h => (by cases h), fun _ _ h => (by cases h)⟩
  put := fun {k y v H D kvs} h1 h2 h3 => by rw [show y = kV (Sum.inl k) from h1]; exact DPut.k h2 h3
  get := fun {k y H D kvs} h1 h2 => by rw [show y = kV (Sum.inl k) from h1]; exact DGet.k h2
def kkT : KK (List Int) (List L2.Key) where
  cons := .dT
  f := List.map Sum.inl
  ty := tTk
  inj := fun x y h => by
    have go : ∀ x y : List Int, x.map (Sum.inl : Int → L2.Key) = y.map Sum.inl → x = y := by
      intro x
      induction x with
      | nil => intro y h; cases y with
        | nil => rfl
        | cons _ _ => simp at h
      | cons a x ih => intro y h; cases y with
        | nil => simp at h
        | cons b y =>
          simp only [List.map_cons, List.cons.injEq] at h
          rw [Sum.inl.inj h.1, ih y h.2]
    exact go x y h
  emp := .inr rfl
  no := fun kvs => ⟨fun _ h => (by cases h), fun _ h => (by cases h), fun _ _ h => (by cases h)⟩
  put := fun {k y v H D kvs} ⟨b, e, hb⟩ h2 h3 => by subst e; exact DPut.t h2 (by rw [kv_ints]; exact hb) h3
  get := fun {k y H D kvs} ⟨b, e, hb⟩ h2 => by subst e; exact DGet.t h2 (by rw [kv_ints]; exact hb)
section
variable {α κ : Type} [DecidableEq α] [DecidableEq κ] (k : KK α κ) {Γ : Cxt} {K : PySem.W.Frag}
/-- a new dict with these keys, the values as told by key -/
def tDn (K : PySem.W.Frag) (Γ : Cxt) (ks : List α) (dv : α → PyData) : TE := fun σ H Q => Env Γ σ H ∧ ∀ p ρ H', H p = none → Same H H' → H' p = some (k.cons (dkg k.f (adds [] ks) ρ)) → (∀ j, j ∈ adds [] ks → Dp K H' (ρ j) (dv j)) → Q (.ref p) H'
def tkL {β : Type} (l : List β) (f : β → Bool) (key : β → α) (Γt : β → Cxt) : TE := fun σ H Q => ∃ x, x ∈ l ∧ f x = true ∧ tY (Γt x) (k.ty (key x)) σ H Q
theorem filter_take {β γ : Type} {l : List β} {f : β → Bool} {g : β → γ} {i : Nat} {z : β} (h : l[i]? = some z) : ((l.take (i + 1)).filter f).map g = if f z = true then ((l.take i).filter f).map g ++ [g z] else ((l.take i).filter f).map g := by
  rw [List.take_succ, h]
  show ((l.take i ++ [z]).filter f).map g = _
  rw [List.filter_append, List.map_append]
  cases hf : f z <;> simp [hf]
theorem d1_sem {β : Type} {g : TG} {vs0 : List Nat} (l : List β) (ty : β → Ty) (f : β → Bool) (key : β → α) (dv : α → PyData) (Γt : β → Cxt) (hz : l.length ≤ 100000)
    (hty : ∀ x, x ∈ l → TgY g vs0 (ty x) (wipeC Γ vs0) (Γt x)) {σ : L2.St} {H : Hp} {Q : VK} (h : tDn k K Γ ((l.filter f).map key) dv σ H Q) : Lq.tD1 (k.cons []) (iY Γ (l.map ty)) g (ttL l f Γt) (tkL k l f key Γt) (teL K l f (fun x => dv (key x)) Γt) vs0 σ H Q := by
  obtain ⟨gm, q⟩ := h
  refine ⟨gm, fun J H1 s1 wk => ?_⟩
  intro D hD
  let W : Nat → Nat → Hp → Prop := fun i m H' => m = l.length - i ∧ i ≤ l.length ∧ Same H1 H' ∧ ∃ ρ, H' D = some (k.cons (dkg k.f (adds [] (((l.take i).filter f).map key)) ρ)) ∧ ∀ j, j ∈ adds [] (((l.take i).filter f).map key) → Dp K H' (ρ j) (dv j)
  refine ⟨W, ⟨l.length, by simp, Nat.zero_le _, Same.new hD, fun _ => .non, upd_same, fun j hj => (by cases hj)⟩, ?_⟩
  rintro i m H' ⟨rfl, hi', s2, ρ, hρ, hd⟩
  have lenl : (l.map ty).length = l.length := List.length_map _
  by_cases lt : i < l.length
  · refine .inr ⟨wk.goes i H' s2 (by rw [lenl]; exact lt), W (i + 1) (l.length - (i + 1)), fun H'' w => ⟨_, by omega, w⟩, fun x H2 y => ?_⟩
    obtain ⟨s3, τ, t1, t2⟩ := wk.yields i H' x H2 s2 y (by rw [lenl]; exact lt)
    obtain ⟨z, hz1, hz2⟩ : ∃ z, l[i]? = some z ∧ ty z = τ := by
      rw [List.getElem?_map, List.getElem?_eq_getElem lt] at t1
      exact ⟨l[i], List.getElem?_eq_getElem lt, Option.some.inj t1⟩
    subst hz2
    have hzl : z ∈ l := List.mem_of_getElem? hz1
    refine hty z hzl x _ H2 ((gm.up (s1.trans (s2.trans s3))).wipe _) t2 _ fun σ' e' hw => ⟨by rw [hw]; exact wipe_wipe _, z, hzl, e', fun H3 s4 => ?_⟩
    have s24 : Same H1 H3 := s2.trans (s3.trans s4)
    cases hf : f z with
    | true =>
      show Lq.tSto D (tkL k l f key Γt) (teL K l f (fun x => dv (key x)) Γt) (W (i + 1) (l.length - (i + 1))) σ' H3
      refine ⟨z, hzl, hf, e'.up s4, fun y H4 s5 hy => ⟨z, hzl, hf, (e'.up s4).up s5, fun v H5 s6 hv => ?_⟩⟩
      have s36 : Same H' H5 := s3.trans (s4.trans (s5.trans s6))
      have hD5 := s36 _ _ hρ
      have few : (dkg k.f (adds [] (((l.take i).filter f).map key)) ρ).length < sizeLine := by
        rw [dkg_len]
        have h1 := adds_len (ks := ([] : List α)) (l := ((l.take i).filter f).map key)
        rw [List.length_map] at h1
        have h2 := List.length_filter_le f (l.take i)
        rw [List.length_take] at h2
        exact sz_lt (by simp at h1; omega)
      refine ⟨_, k.put ((k.ty (key z)).up s6 hy) hD5 few, rfl, lt, Same.mut (s24.trans (s5.trans s6)) hD, (fun j => if j = key z then v else ρ j), ?_, fun j hj => ?_⟩
      · rw [upd_same, putK_dkg k.inj, filter_take hz1, if_pos hf, adds_app]
        rfl
      · rw [filter_take hz1, if_pos hf, adds_app] at hj
        refine Dp.upd hD5 (k.no _) ?_
        by_cases e : j = key z
        · subst e; show Dp K H5 (if key z = key z then v else ρ (key z)) (dv (key z)); rw [if_pos rfl]; exact hv
        · show Dp K H5 (if j = key z then v else ρ j) (dv j)
          rw [if_neg e]
          exact Dp.up s36 (hd j ((addk_mem.mp hj).resolve_right e))
    | false =>
      show W (i + 1) (l.length - (i + 1)) H3
      refine ⟨rfl, lt, s24, ρ, ?_⟩
      rw [filter_take hz1, if_neg (by rw [hf]; decide)]
      exact ⟨s4 _ _ (s3 _ _ hρ), fun j hj => Dp.up (s3.trans s4) (hd j hj)⟩
  · obtain rfl : i = l.length := by omega
    rw [List.take_length] at hρ hd
    exact .inl ⟨by have := wk.stops H' s2; rwa [lenl] at this, q D ρ H' (s1.free hD) (s1.trans s2) hρ hd⟩
end
end Lp
/-! LpDict3 -/
namespace Lp
open PySem PySem.Spec PyProof.Rows L2
section
variable {α κ : Type} [DecidableEq α] [DecidableEq κ] (k : KK α κ)
/-- a dict: its keys, the data at them -/
def tDict (K : PySem.W.Frag) (ks : List α) (dv : α → PyData) : Ty := ⟨fun v H => ∃ a ρ, v = .ref a ∧ H a = some (k.cons (dkg k.f ks ρ)) ∧ ∀ j, j ∈ ks → Dp K H (ρ j) (dv j), fun e ⟨a, ρ, h1, h2, h3⟩ => ⟨a, ρ, h1, e _ _ h2, fun j hj => Dp.up e (h3 j hj)⟩⟩
section
variable {K : PySem.W.Frag} {Γ : Cxt}
def flt {β γ : Type} (l : List β) (f : β → Bool) (l1 : β → List γ) (f1 : β → γ → Bool) (key : β → γ → α) : List α := l.flatMap fun x => if f x = true then ((l1 x).filter (f1 x)).map (key x) else []
theorem flt_take {β γ : Type} {l : List β} {f : β → Bool} {l1 : β → List γ} {f1 : β → γ → Bool} {key : β → γ → α} {i : Nat} {z : β} (h : l[i]? = some z) : flt (l.take (i + 1)) f l1 f1 key = flt (l.take i) f l1 f1 key ++ (if f z = true then ((l1 z).filter (f1 z)).map (key z) else []) := by
  rw [List.take_succ, h]
  show flt (l.take i ++ [z]) f l1 f1 key = _
  unfold flt
  rw [List.flatMap_append]
  simp
theorem flt_len {β γ : Type} {l : List β} {f : β → Bool} {l1 : β → List γ} {f1 : β → γ → Bool} {key : β → γ → α} {m : Nat} (h : ∀ x, x ∈ l → (l1 x).length ≤ m) : (flt l f l1 f1 key).length ≤ l.length * m := by
  unfold flt
  induction l with
  | nil => simp
  | cons x l ih =>
    rw [List.flatMap_cons, List.length_append, List.length_cons, Nat.succ_mul]
    have h1 := ih fun y hy => h y (List.mem_cons_of_mem _ hy)
    have h2 := h x List.mem_cons_self
    have h3 : (if f x = true then ((l1 x).filter (f1 x)).map (key x) else []).length ≤ m := by
      split
      · rw [List.length_map]; exact Nat.le_trans (List.length_filter_le _ _) h2
      · simp
    omega
/-- kinds that stay while a dict changes -/
def DStab (τ : Ty) : Prop := ∀ v H D kvs o', H D = some (k.cons kvs) → τ.is v H → τ.is v (upd H D o')
theorem dst_data {d : PyData} : DStab k (tD K d) := fun v H D kvs o' h q => Dp.upd h (k.no kvs) q
theorem dst_v {u : V} : DStab k (tV u) := fun v H D kvs o' h q => q
theorem Env.dst {σ : L2.St} {H : Hp} {D : Addr} {kvs : List (κ × V)} {o' : HO} (e : Env Γ σ H) (h : H D = some (k.cons kvs)) (st : ∀ (i : Nat) (τ : Ty), Γ[i]? = some (some τ) → DStab k τ) : Env Γ σ (upd H D o') := ⟨e.len, fun i τ hi => by
  obtain ⟨v, h1, h2⟩ := e.at_ i τ hi
  exact ⟨v, h1, st i τ hi v H D kvs o' h h2⟩⟩
def wiL {β γ : Type} (K : PySem.W.Frag) (l : List β) (l1 : β → List γ) (d1 : β → γ → PyData) (Γt : β → Cxt) : TI := fun σ H R => ∃ x, x ∈ l ∧ iG (Γt x) (fun (z : Zs) H => SqT K H z.1 z.2 ∧ DpAll K H z.2 ((l1 x).map (d1 x))) (fun z H => SqT K H z.1 z.2) (l1 x).length vAt σ H R
def ttL2 {β γ : Type} (l : List β) (l1 : β → List γ) (f1 : β → γ → Bool) (Γt1 : β → γ → Cxt) : TT := fun σ H Q => ∃ x y, x ∈ l ∧ y ∈ l1 x ∧ tYT (Γt1 x y) (f1 x y) σ H Q
def tkL2 {β γ : Type} (l : List β) (l1 : β → List γ) (f : β → Bool) (f1 : β → γ → Bool) (key : β → γ → α) (Γt1 : β → γ → Cxt) : TE := fun σ H Q => ∃ x y, x ∈ l ∧ y ∈ l1 x ∧ f x = true ∧ f1 x y = true ∧ tY (Γt1 x y) (k.ty (key x y)) σ H Q
theorem d2_sem {β γ : Type} {g g1 : TG} {vs0 vs1 : List Nat} (l : List β) (ty : β → Ty) (f : β → Bool) (l1 : β → List γ) (d1 : β → γ → PyData) (f1 : β → γ → Bool) (key : β → γ → α) (dv : α → PyData) (Γt : β → Cxt) (Γt1 : β → γ → Cxt) (m : Nat) (hm : ∀ x, x ∈ l → (l1 x).length ≤ m) (hz : l.length * m ≤ 100000)
    (hty : ∀ x, x ∈ l → TgY g vs0 (ty x) (wipeC Γ vs0) (Γt x)) (hty1 : ∀ x y, x ∈ l → y ∈ l1 x → TgY g1 vs1 (tD K (d1 x y)) (wipeC (Γt x) vs1) (Γt1 x y)) (hst : ∀ x, x ∈ l → ∀ (i : Nat) (τ : Ty), (Γt x)[i]? = some (some τ) → DStab k τ) {tv : TE} (htv : ∀ x y, x ∈ l → y ∈ l1 x → ∀ σ H Q, tY (Γt1 x y) (tD K (dv (key x y))) σ H Q → tv σ H Q) {σ : L2.St} {H : Hp} {Q : VK} (h : tDn k K Γ (flt l f l1 f1 key) dv σ H Q) :
    Lq.tD2 (k.cons []) (iY Γ (l.map ty)) g (ttL l f Γt) (wiL K l l1 d1 Γt) g1 (ttL2 l l1 f1 Γt1) (tkL2 k l l1 f f1 key Γt1) tv vs0 vs1 σ H Q := by
  obtain ⟨gm, q⟩ := h
  refine ⟨gm, fun J H1 s1 wk => ?_⟩
  intro D hD
  let KS : List α → Hp → Prop := fun ks H' => ∃ ρ, H' D = some (k.cons (dkg k.f (adds [] ks) ρ)) ∧ ∀ j, j ∈ adds [] ks → Dp K H' (ρ j) (dv j)
  have ksUp : ∀ {ks : List α} {H' H'' : Hp}, Same H' H'' → KS ks H' → KS ks H'' := fun s ⟨ρ, a, b⟩ => ⟨ρ, s _ _ a, fun j hj => Dp.up s (b j hj)⟩
  let W : Nat → Nat → Hp → Prop := fun i m H' => m = l.length - i ∧ i ≤ l.length ∧ Same H1 H' ∧ KS (flt (l.take i) f l1 f1 key) H'
  refine ⟨W, ⟨l.length, by simp, Nat.zero_le _, Same.new hD, fun _ => .non, upd_same, fun j hj => (by cases hj)⟩, ?_⟩
  rintro i m' H' ⟨rfl, hi', s2, hks⟩
  have lenl : (l.map ty).length = l.length := List.length_map _
  by_cases lt : i < l.length
  · refine .inr ⟨wk.goes i H' s2 (by rw [lenl]; exact lt), W (i + 1) (l.length - (i + 1)), fun H'' w => ⟨_, by omega, w⟩, fun x H2 y => ?_⟩
    obtain ⟨s3, τ, t1, t2⟩ := wk.yields i H' x H2 s2 y (by rw [lenl]; exact lt)
    obtain ⟨z, hz1, hz2⟩ : ∃ z, l[i]? = some z ∧ ty z = τ := by
      rw [List.getElem?_map, List.getElem?_eq_getElem lt] at t1
      exact ⟨l[i], List.getElem?_eq_getElem lt, Option.some.inj t1⟩
    subst hz2
    have hzl : z ∈ l := List.mem_of_getElem? hz1
    have tk := flt_take (f := f) (l1 := l1) (f1 := f1) (key := key) hz1
    refine hty z hzl x _ H2 ((gm.up (s1.trans (s2.trans s3))).wipe _) t2 _ fun σ' e' hw => ⟨by rw [hw]; exact wipe_wipe _, z, hzl, e', fun H3 s4 => ?_⟩
    cases hf : f z with
    | true =>
      rw [hf, if_pos rfl] at tk
      show wiL K l l1 d1 Γt σ' H3 _
      refine ⟨z, hzl, e'.up s4, fun ⟨a, xs⟩ J1 H4 s5 ⟨ini1, ini2⟩ wk1 => ?_⟩
      let W1 : Nat → Nat → Hp → Prop := fun j m H' => m = (l1 z).length - j ∧ j ≤ (l1 z).length ∧ SqT K H' a xs ∧ DpAll K H' xs ((l1 z).map (d1 z)) ∧ Env (Γt z) σ' H' ∧ Same H1 H' ∧ KS (flt (l.take i) f l1 f1 key ++ (((l1 z).take j).filter (f1 z)).map (key z)) H'
      have s14 : Same H1 H4 := s2.trans (s3.trans (s4.trans s5))
      refine ⟨W1, ⟨(l1 z).length, by simp, Nat.zero_le _, ini1, ini2, (e'.up s4).up s5, s14, ?_⟩, ?_⟩
      · show KS (_ ++ []) H4
        rw [List.append_nil]; exact ksUp (s3.trans (s4.trans s5)) hks
      rintro j m1 H5 ⟨rfl, hj', s6, ds5, e5, s16, hk1⟩
      by_cases lt1 : j < (l1 z).length
      · refine .inr ⟨wk1.goes j H5 s6 lt1, W1 (j + 1) ((l1 z).length - (j + 1)), fun H'' w => ⟨_, by omega, w⟩, fun x1 H6 y1 => ?_⟩
        obtain ⟨s7, u1⟩ := wk1.yields j H5 x1 H6 s6 y1 lt1
        obtain ⟨z1, hz3⟩ : ∃ z1, (l1 z)[j]? = some z1 := ⟨_, List.getElem?_eq_getElem lt1⟩
        have hzl1 : z1 ∈ l1 z := List.mem_of_getElem? hz3
        have u2 : Dp K H6 x1 (d1 z z1) := by
          obtain ⟨d, q1, q2⟩ := dpAll_at ds5 u1
          rw [List.getElem?_map, hz3] at q1
          cases q1
          exact Dp.up s7 q2
        refine hty1 z z1 hzl hzl1 x1 _ H6 ((e5.up s7).wipe _) u2 _ fun σ'' e'' hw1 => ⟨by rw [hw1]; exact wipe_wipe _, z, z1, hzl, hzl1, e'', fun H7 s8 => ?_⟩
        cases hf1 : f1 z z1 with
        | true =>
          show Lq.tSto D (tkL2 k l l1 f f1 key Γt1) tv (W1 (j + 1) ((l1 z).length - (j + 1))) σ'' H7
          refine ⟨z, z1, hzl, hzl1, hf, hf1, e''.up s8, fun yv H8 s9 hy => htv z z1 hzl hzl1 _ _ _ ⟨(e''.up s8).up s9, fun v H9 s10 hv => ?_⟩⟩
          have s59 : Same H5 H9 := s7.trans (s8.trans (s9.trans s10))
          obtain ⟨ρ, hρ, hd⟩ := hk1
          have hD9 := s59 _ _ hρ
          have few : (dkg k.f (adds [] (flt (l.take i) f l1 f1 key ++ (((l1 z).take j).filter (f1 z)).map (key z))) ρ).length < sizeLine := by
            rw [dkg_len]
            have h1 := adds_len (ks := ([] : List α)) (l := flt (l.take i) f l1 f1 key ++ (((l1 z).take j).filter (f1 z)).map (key z))
            have h2 := flt_len (l := l.take i) (f := f) (l1 := l1) (f1 := f1) (key := key) (m := m) fun x hx => hm x (List.mem_of_mem_take hx)
            have h3 := List.length_filter_le (f1 z) ((l1 z).take j)
            rw [List.length_append, List.length_map] at h1
            rw [List.length_take] at h2 h3
            have h4 := hm z hzl
            have h5 : min i l.length * m + m ≤ l.length * m := by
              rw [Nat.min_eq_left (by omega), ← Nat.succ_mul]
              exact Nat.mul_le_mul_right _ lt
            refine sz_lt ?_
            simp only [List.length_nil, Nat.zero_add] at h1
            omega
          refine ⟨_, k.put ((k.ty (key z z1)).up s10 hy) hD9 few, rfl, lt1, seqT_upd hD9 (k.no _) (Same.seqT s59 s6), DpAll.upd hD9 (k.no _) (DpAll.up s59 ds5), Env.dst k (e5.up s59) hD9 (hst z hzl), Same.mut (s16.trans s59) hD, (fun j => if j = key z z1 then v else ρ j), ?_, fun jj hj => ?_⟩
          · rw [upd_same, putK_dkg k.inj, filter_take hz3, if_pos hf1, ← List.append_assoc, adds_app (l := _ ++ _)]
            rfl
          · rw [filter_take hz3, if_pos hf1, ← List.append_assoc, adds_app (l := _ ++ _)] at hj
            refine Dp.upd hD9 (k.no _) ?_
            by_cases e : jj = key z z1
            · subst e; show Dp K H9 (if key z z1 = key z z1 then v else ρ (key z z1)) (dv (key z z1)); rw [if_pos rfl]; exact hv
            · show Dp K H9 (if jj = key z z1 then v else ρ jj) (dv jj)
              rw [if_neg e]
              exact Dp.up s59 (hd jj ((addk_mem.mp hj).resolve_right e))
        | false =>
          show W1 (j + 1) ((l1 z).length - (j + 1)) H7
          have e3 : (((l1 z).take (j + 1)).filter (f1 z)).map (key z) = (((l1 z).take j).filter (f1 z)).map (key z) := by rw [filter_take hz3, if_neg (by rw [hf1]; decide)]
          refine ⟨rfl, lt1, Same.seqT (s7.trans s8) s6, DpAll.up (s7.trans s8) ds5, e5.up (s7.trans s8), s16.trans (s7.trans s8), ?_⟩
          rw [e3]
          exact ksUp (s7.trans s8) hk1
      · obtain rfl : j = (l1 z).length := by omega
        refine .inl ⟨wk1.stops H5 s6, rfl, lt, s16, ?_⟩
        rw [List.take_length] at hk1
        rw [tk]; exact hk1
    | false =>
      rw [hf, if_neg (by decide), List.append_nil] at tk
      show W (i + 1) (l.length - (i + 1)) H3
      refine ⟨rfl, lt, s2.trans (s3.trans s4), ?_⟩
      rw [tk]
      exact ksUp (s3.trans s4) hks
  · obtain rfl : i = l.length := by omega
    rw [List.take_length] at hks
    obtain ⟨ρ, hρ, hd⟩ := hks
    exact .inl ⟨by have := wk.stops H' s2; rwa [lenl] at this, q D ρ H' (s1.free hD) (s1.trans s2) hρ hd⟩
end
end
end Lp
/-! LpDict4 -/
namespace Lp
open PySem PySem.Spec PyProof.Rows L2
section
variable {X : Cx} {Γ : Cxt} {τ τ' : Ty} {e a b it elt kx vx : Expr} {pos tpos spos py : Pos} {β γ : Type} {ifs ifs1 : List Expr} {scope : Scope} {α κ : Type} [DecidableEq α] [DecidableEq κ]
/-! ### comprehensions given to a name -/
theorem ps_lc1 {nm y : Str} (i j : Nat) (l : List β) (t : β → Ty) (f : β → Bool) (d : β → PyData) (hz : l.length ≤ 100000) (hfz : ∀ x, x ∈ l → fz (d x) = true) (hc : X.calm = true) (hN : X.N.Nodup) (hy : X.N[j]? = some y) (hyl : X.env.scope.names.lookup y = some .local) (hsw : swapsWith (.ListComp elt [⟨.Name nm tpos, it, ifs, 0⟩] scope pos) (some (.Name y py)) spos.line X.env = pure true)
    (hi : PYI X (.Name nm tpos) it Γ (l.map t)) (ok : BlkOk X.N X.env.scope scope [(nm, i)]) (hn : X.N[i]? = some nm) (hl : scope.names.lookup nm = some .local) (ht : ∀ x, x ∈ l → Bl X scope fun Y => PTs Y ifs (tYT (Γ.set i (some (t x))) (f x))) (he : ∀ x, x ∈ l → f x = true → Bl X scope fun Y => PE Y elt (tY (Γ.set i (some (t x))) (tD X.K (d x))))
    (hs : ∀ x, foldedSetIterable it X.env x = pure x := by intro _; rfl) : PS X (.Assign [.Name y py] (.ListComp elt [⟨.Name nm tpos, it, ifs, 0⟩] scope pos) spos) (tAsg (tYN' X.K Γ ((l.filter f).map d)) (gName j)) :=
  PS.imp (ps_setLc (g := gName i) (own := [(nm, i)]) (tt := ttL l f fun x => Γ.set i (some (t x))) (te := teL X.K l f d fun x => Γ.set i (some (t x))) hc hN hy hyl hsw hi ok (fun _ _ _ _ _ => pg_name (i := i) hN hn (Or.inl (lookup_relabel_local hl)) (.inr (lookup_relabel_local hl)))
    (fun s H C cl fp => ⟨fun pins s' σ H' Q I ⟨x, hx, q⟩ => (ht x hx s H C cl fp).run pins s' σ H' Q I q⟩) (fun s H C cl fp => ⟨fun pins s' σ H' Q I ⟨x, hx, hf, q⟩ => (he x hx hf s H C cl fp).run pins s' σ H' Q I q⟩) hs) fun D σ H h => lc_sem l t f d (fun x => Γ.set i (some (t x))) hz hfz (fun x _ v σ H g hv Q q => by
      have := tg_name (Γ := Γ.set i none) (vs := [i]) (τ := t x) List.mem_cons_self v σ H g hv Q
      rw [List.set_set] at this
      exact this q) h
theorem pairG {K : PySem.W.Frag} {i j : Nat} {t t' : Ty} : TgY (gTup K 2 (gCons (gName i) (gCons (gName j) gNil))) [i, j] (tTup' K [t, t']) (wipeC Γ [i, j]) ((Γ.set i (some t)).set j (some t')) := fun v σ H g hv Q q => by
  refine tg_pair (Γ := (Γ.set j none).set i none) (vs := [i, j]) (τ := t) (τ' := t') List.mem_cons_self (List.mem_cons_of_mem _ List.mem_cons_self) v σ H g hv Q fun σ' e' => q σ' ?_
  by_cases ij : i = j
  · subst ij
    simpa [List.set_set] using e'
  · rw [List.set_set, List.set_comm _ _ ij, List.set_set] at e'
    rwa [List.set_comm _ _ ij]
theorem oneG {i : Nat} {t : Ty} : TgY (gName i) [i] t (wipeC Γ [i]) (Γ.set i (some t)) := fun v σ H g hv Q q => by
  have := tg_name (Γ := Γ.set i none) (vs := [i]) (τ := t) List.mem_cons_self v σ H g hv Q
  rw [List.set_set] at this
  exact this q
theorem ps_lc2 {nm nm' y : Str} {kk : Nat} {p1 p2 : Pos} (i i' j : Nat) (l : List β) (t t' : β → Ty) (f : β → Bool) (d : β → PyData) (hz : l.length ≤ 100000) (hfz : ∀ x, x ∈ l → fz (d x) = true) (hc : X.calm = true) (hN : X.N.Nodup) (hy : X.N[j]? = some y) (hyl : X.env.scope.names.lookup y = some .local)
    (hsw : swapsWith (.ListComp elt [⟨.Tuple [.Name nm p1, .Name nm' p2] kk tpos, it, ifs, 0⟩] scope pos) (some (.Name y py)) spos.line X.env = pure true) (hi : PYI X (.Tuple [.Name nm p1, .Name nm' p2] kk tpos) it Γ (l.map fun x => tTup' X.K [t x, t' x])) (ok : BlkOk X.N X.env.scope scope [(nm, i), (nm', i')])
    (hn : X.N[i]? = some nm) (hn' : X.N[i']? = some nm') (hl : scope.names.lookup nm = some .local) (hl' : scope.names.lookup nm' = some .local) (ht : ∀ x, x ∈ l → Bl X scope fun Y => PTs Y ifs (tYT ((Γ.set i (some (t x))).set i' (some (t' x))) (f x))) (he : ∀ x, x ∈ l → f x = true → Bl X scope fun Y => PE Y elt (tY ((Γ.set i (some (t x))).set i' (some (t' x))) (tD X.K (d x))))
    (hs : ∀ x, foldedSetIterable it X.env x = pure x := by intro _; rfl) : PS X (.Assign [.Name y py] (.ListComp elt [⟨.Tuple [.Name nm p1, .Name nm' p2] kk tpos, it, ifs, 0⟩] scope pos) spos) (tAsg (tYN' X.K Γ ((l.filter f).map d)) (gName j)) :=
  PS.imp (ps_setLc (g := gTup X.K 2 (gCons (gName i) (gCons (gName i') gNil))) (own := [(nm, i), (nm', i')]) (tt := ttL l f fun x => (Γ.set i (some (t x))).set i' (some (t' x))) (te := teL X.K l f d fun x => (Γ.set i (some (t x))).set i' (some (t' x))) hc hN hy hyl hsw hi ok
    (fun _ _ _ _ _ => pg_tup hc (pgs_cons (pg_name (i := i) hN hn (Or.inl (lookup_relabel_local hl)) (.inr (lookup_relabel_local hl))) (pgs_cons (pg_name (i := i') hN hn' (Or.inl (lookup_relabel_local hl')) (.inr (lookup_relabel_local hl'))) pgs_nil)))
    (fun s H C cl fp => ⟨fun pins s' σ H' Q I ⟨x, hx, q⟩ => (ht x hx s H C cl fp).run pins s' σ H' Q I q⟩) (fun s H C cl fp => ⟨fun pins s' σ H' Q I ⟨x, hx, hf, q⟩ => (he x hx hf s H C cl fp).run pins s' σ H' Q I q⟩) hs) fun D σ H h => lc_sem l _ f d _ hz hfz (fun x _ => pairG) h
/-! ### dict comprehensions -/
theorem n_d1 (k : KK α κ) {nm : Str} (i : Nat) (l : List β) (t : β → Ty) (f : β → Bool) (key : β → α) (dv : α → PyData) (hz : l.length ≤ 100000) (hc : X.calm = true) (hu : X.A.units + 1 < cLine) (hN : X.N.Nodup) (hi : PYI X (.Name nm tpos) it Γ (l.map t)) (ok : BlkOk X.N X.env.scope scope [(nm, i)])
    (hn : X.N[i]? = some nm) (hl : scope.names.lookup nm = some .local) (ht : ∀ x, x ∈ l → Bl X scope fun Y => PTs Y ifs (tYT (Γ.set i (some (t x))) (f x))) (hk : ∀ x, x ∈ l → f x = true → Bl X scope fun Y => PE Y kx (tY (Γ.set i (some (t x))) (k.ty (key x)))) (he : ∀ x, x ∈ l → f x = true → Bl X scope fun Y => PE Y vx (tY (Γ.set i (some (t x))) (tD X.K (dv (key x)))))
    (hs : ∀ x, foldedSetIterable it X.env x = pure x := by intro _; rfl) : PE X (.DictComp kx vx [⟨.Name nm tpos, it, ifs, 0⟩] scope pos) (tDn k X.K Γ ((l.filter f).map key) dv) :=
  PE.imp (Lq.pe_d1 (g := gName i) (own := [(nm, i)]) (tt := ttL l f fun x => Γ.set i (some (t x))) (tk := tkL k l f key fun x => Γ.set i (some (t x))) (tv := teL X.K l f (fun x => dv (key x)) fun x => Γ.set i (some (t x))) hc hu hN hi ok k.emp (fun _ _ _ _ _ => pg_name (i := i) hN hn (Or.inl (lookup_relabel_local hl)) (.inr (lookup_relabel_local hl)))
    (fun s H C cl fp => ⟨fun pins s' σ H' Q I ⟨x, hx, q⟩ => (ht x hx s H C cl fp).run pins s' σ H' Q I q⟩) (fun s H C cl fp => ⟨fun pins s' σ H' Q I ⟨x, hx, hf, q⟩ => (hk x hx hf s H C cl fp).run pins s' σ H' Q I q⟩) (fun s H C cl fp => ⟨fun pins s' σ H' Q I ⟨x, hx, hf, q⟩ => (he x hx hf s H C cl fp).run pins s' σ H' Q I q⟩) hs) fun σ H Q h => d1_sem k l t f key dv _ hz (fun x _ => oneG) h
theorem dn_y (k : KK α κ) {K : PySem.W.Frag} {ks : List α} {dv : α → PyData} : ∀ σ H Q, tY Γ (tDict k K (adds [] ks) dv) σ H Q → tDn k K Γ ks dv σ H Q := fun σ H Q ⟨g, q⟩ => ⟨g, fun p ρ H' _ s h1 h2 => q _ _ s ⟨p, ρ, rfl, h1, h2⟩⟩
theorem ps_d1 (k : KK α κ) {nm y : Str} (i j : Nat) (l : List β) (t : β → Ty) (f : β → Bool) (key : β → α) (dv : α → PyData) (hz : l.length ≤ 100000) (hc : X.calm = true) (hu : X.A.units + 1 < cLine) (hN : X.N.Nodup) (hy : X.N[j]? = some y) (hyl : X.env.scope.names.lookup y = some .local) (hsw : swapsWith (.DictComp kx vx [⟨.Name nm tpos, it, ifs, 0⟩] scope pos) (some (.Name y py)) spos.line X.env = pure true)
    (hi : PYI X (.Name nm tpos) it Γ (l.map t)) (ok : BlkOk X.N X.env.scope scope [(nm, i)]) (hn : X.N[i]? = some nm) (hl : scope.names.lookup nm = some .local) (ht : ∀ x, x ∈ l → Bl X scope fun Y => PTs Y ifs (tYT (Γ.set i (some (t x))) (f x))) (hk : ∀ x, x ∈ l → f x = true → Bl X scope fun Y => PE Y kx (tY (Γ.set i (some (t x))) (k.ty (key x))))
    (he : ∀ x, x ∈ l → f x = true → Bl X scope fun Y => PE Y vx (tY (Γ.set i (some (t x))) (tD X.K (dv (key x))))) (hs : ∀ x, foldedSetIterable it X.env x = pure x := by intro _; rfl) : PS X (.Assign [.Name y py] (.DictComp kx vx [⟨.Name nm tpos, it, ifs, 0⟩] scope pos) spos) (tAsg (tDn k X.K Γ ((l.filter f).map key) dv) (gName j)) :=
  PS.imp (Lq.ps_d1 (g := gName i) (own := [(nm, i)]) (tt := ttL l f fun x => Γ.set i (some (t x))) (tk := tkL k l f key fun x => Γ.set i (some (t x))) (tv := teL X.K l f (fun x => dv (key x)) fun x => Γ.set i (some (t x))) hc hu hN hy hyl hsw hi ok k.emp (fun _ _ _ _ _ => pg_name (i := i) hN hn (Or.inl (lookup_relabel_local hl)) (.inr (lookup_relabel_local hl)))
    (fun s H C cl fp => ⟨fun pins s' σ H' Q I ⟨x, hx, q⟩ => (ht x hx s H C cl fp).run pins s' σ H' Q I q⟩) (fun s H C cl fp => ⟨fun pins s' σ H' Q I ⟨x, hx, hf, q⟩ => (hk x hx hf s H C cl fp).run pins s' σ H' Q I q⟩) (fun s H C cl fp => ⟨fun pins s' σ H' Q I ⟨x, hx, hf, q⟩ => (he x hx hf s H C cl fp).run pins s' σ H' Q I q⟩) hs) fun D σ H h => d1_sem k l t f key dv _ hz (fun x _ => oneG) h
/-- keys by pairs -/
theorem n_d1p (k : KK α κ) {nm nm' : Str} {kk : Nat} {p1 p2 : Pos} (i i' : Nat) (l : List β) (t t' : β → Ty) (f : β → Bool) (key : β → α) (dv : α → PyData) (hz : l.length ≤ 100000) (hc : X.calm = true) (hu : X.A.units + 1 < cLine) (hN : X.N.Nodup) (hi : PYI X (.Tuple [.Name nm p1, .Name nm' p2] kk tpos) it Γ (l.map fun x => tTup' X.K [t x, t' x])) (ok : BlkOk X.N X.env.scope scope [(nm, i), (nm', i')])
    (hn : X.N[i]? = some nm) (hn' : X.N[i']? = some nm') (hl : scope.names.lookup nm = some .local) (hl' : scope.names.lookup nm' = some .local) (ht : ∀ x, x ∈ l → Bl X scope fun Y => PTs Y ifs (tYT ((Γ.set i (some (t x))).set i' (some (t' x))) (f x))) (hk : ∀ x, x ∈ l → f x = true → Bl X scope fun Y => PE Y kx (tY ((Γ.set i (some (t x))).set i' (some (t' x))) (k.ty (key x))))
    (he : ∀ x, x ∈ l → f x = true → Bl X scope fun Y => PE Y vx (tY ((Γ.set i (some (t x))).set i' (some (t' x))) (tD X.K (dv (key x))))) (hs : ∀ x, foldedSetIterable it X.env x = pure x := by intro _; rfl) : PE X (.DictComp kx vx [⟨.Tuple [.Name nm p1, .Name nm' p2] kk tpos, it, ifs, 0⟩] scope pos) (tDn k X.K Γ ((l.filter f).map key) dv) :=
  PE.imp (Lq.pe_d1 (g := gTup X.K 2 (gCons (gName i) (gCons (gName i') gNil))) (own := [(nm, i), (nm', i')]) (tt := ttL l f fun x => (Γ.set i (some (t x))).set i' (some (t' x))) (tk := tkL k l f key fun x => (Γ.set i (some (t x))).set i' (some (t' x))) (tv := teL X.K l f (fun x => dv (key x)) fun x => (Γ.set i (some (t x))).set i' (some (t' x))) hc hu hN hi ok k.emp
    (fun _ _ _ _ _ => pg_tup hc (pgs_cons (pg_name (i := i) hN hn (Or.inl (lookup_relabel_local hl)) (.inr (lookup_relabel_local hl))) (pgs_cons (pg_name (i := i') hN hn' (Or.inl (lookup_relabel_local hl')) (.inr (lookup_relabel_local hl'))) pgs_nil)))
    (fun s H C cl fp => ⟨fun pins s' σ H' Q I ⟨x, hx, q⟩ => (ht x hx s H C cl fp).run pins s' σ H' Q I q⟩) (fun s H C cl fp => ⟨fun pins s' σ H' Q I ⟨x, hx, hf, q⟩ => (hk x hx hf s H C cl fp).run pins s' σ H' Q I q⟩) (fun s H C cl fp => ⟨fun pins s' σ H' Q I ⟨x, hx, hf, q⟩ => (he x hx hf s H C cl fp).run pins s' σ H' Q I q⟩) hs) fun σ H Q h => d1_sem k l _ f key dv _ hz (fun x _ => pairG) h
/-- for i, i' in pairs for j in a tuple at each: given to a name -/
theorem ps_d2 (k : KK α κ) {nm nm' nj y : Str} {kk : Nat} {p1 p2 p3 : Pos} {it1 : Expr} (i i' ij j : Nat) (l : List β) (t t' : β → Ty) (f : β → Bool) (l1 : β → List γ) (d1 : β → γ → PyData) (f1 : β → γ → Bool) (key : β → γ → α) (dv : α → PyData) (m : Nat) (hm : ∀ x, x ∈ l → (l1 x).length ≤ m) (hz : l.length * m ≤ 100000) (hc : X.calm = true) (hu : X.A.units + 1 < cLine) (hN : X.N.Nodup) (hy : X.N[j]? = some y) (hyl : X.env.scope.names.lookup y = some .local)
    (hsw : swapsWith (.DictComp kx vx [⟨.Tuple [.Name nm p1, .Name nm' p2] kk tpos, it, ifs, 0⟩, ⟨.Name nj p3, it1, ifs1, 0⟩] scope pos) (some (.Name y py)) spos.line X.env = pure true) (hi : PYI X (.Tuple [.Name nm p1, .Name nm' p2] kk tpos) it Γ (l.map fun x => tTup' X.K [t x, t' x])) (ok : BlkOk X.N X.env.scope scope [(nm, i), (nm', i'), (nj, ij)])
    (hn : X.N[i]? = some nm) (hn' : X.N[i']? = some nm') (hnj : X.N[ij]? = some nj) (hl : scope.names.lookup nm = some .local) (hl' : scope.names.lookup nm' = some .local) (hlj : scope.names.lookup nj = some .local) (hij : Γ[ij]? = some none) (hne : i ≠ ij ∧ i' ≠ ij) (hst : ∀ x, x ∈ l → ∀ (q : Nat) (τ : Ty), ((Γ.set i (some (t x))).set i' (some (t' x)))[q]? = some (some τ) → DStab k τ)
    (ht : ∀ x, x ∈ l → Bl X scope fun Y => PTs Y ifs (tYT ((Γ.set i (some (t x))).set i' (some (t' x))) (f x))) (hi1 : ∀ x, x ∈ l → Bl X scope fun Y => PY Y it1 ((Γ.set i (some (t x))).set i' (some (t' x))) (tD X.K (.tuple ((l1 x).map (d1 x)))))
    (ht1 : ∀ x y, x ∈ l → y ∈ l1 x → Bl X scope fun Y => PTs Y ifs1 (tYT (((Γ.set i (some (t x))).set i' (some (t' x))).set ij (some (tD X.K (d1 x y)))) (f1 x y))) (hk : ∀ x y, x ∈ l → y ∈ l1 x → f x = true → f1 x y = true → Bl X scope fun Y => PE Y kx (tY (((Γ.set i (some (t x))).set i' (some (t' x))).set ij (some (tD X.K (d1 x y)))) (k.ty (key x y)))) {v0 : PyData} (hv0 : ∀ x y, dv (key x y) = v0)
    (he : ∀ x y, x ∈ l → y ∈ l1 x → Bl X scope fun Y => PE Y vx (tY (((Γ.set i (some (t x))).set i' (some (t' x))).set ij (some (tD X.K (d1 x y)))) (tD X.K v0)))
    (hs : ∀ x, foldedSetIterable it X.env x = pure x := by intro _; rfl) (hs1 : ∀ env x, foldedSetIterable it1 env x = pure x := by intro _ _; rfl) : PS X (.Assign [.Name y py] (.DictComp kx vx [⟨.Tuple [.Name nm p1, .Name nm' p2] kk tpos, it, ifs, 0⟩, ⟨.Name nj p3, it1, ifs1, 0⟩] scope pos) spos) (tAsg (tDn k X.K Γ (flt l f l1 f1 key) dv) (gName j)) := by
  refine PS.imp (Lq.ps_d2 (o := k.cons []) (vs1 := [ij]) (own := [(nm, i), (nm', i'), (nj, ij)]) (g := gTup X.K 2 (gCons (gName i) (gCons (gName i') gNil))) (g1 := gName ij) (wi1 := wiL X.K l l1 d1 fun x => (Γ.set i (some (t x))).set i' (some (t' x))) (tt := ttL l f fun x => (Γ.set i (some (t x))).set i' (some (t' x))) (tt1 := ttL2 l l1 f1 fun x y => ((Γ.set i (some (t x))).set i' (some (t' x))).set ij (some (tD X.K (d1 x y))))
    (tk := tkL2 k l l1 f f1 key fun x y => ((Γ.set i (some (t x))).set i' (some (t' x))).set ij (some (tD X.K (d1 x y)))) (tv := fun σ H Q => ∃ x y, x ∈ l ∧ y ∈ l1 x ∧ tY (((Γ.set i (some (t x))).set i' (some (t' x))).set ij (some (tD X.K (d1 x y)))) (tD X.K v0) σ H Q) hc hu hN hy hyl hsw hi ok (by simp) k.emp
    (fun _ _ _ _ _ => pg_tup hc (pgs_cons (pg_name (i := i) hN hn (Or.inl (lookup_relabel_local hl)) (.inr (lookup_relabel_local hl))) (pgs_cons (pg_name (i := i') hN hn' (Or.inl (lookup_relabel_local hl')) (.inr (lookup_relabel_local hl'))) pgs_nil)))
    (fun s H C cl fp => ⟨fun pins s' σ H' Q I ⟨x, hx, q⟩ => (ht x hx s H C cl fp).run pins s' σ H' Q I q⟩) (fun s H C cl fp => ⟨fun pins s' σ H' R I ⟨x, hx, q⟩ => ?_⟩) (fun _ _ _ _ _ => pg_name (i := ij) hN hnj (Or.inl (lookup_relabel_local hlj)) (.inr (lookup_relabel_local hlj)))
    (fun s H C cl fp => ⟨fun pins s' σ H' Q I ⟨x, y, hx, hy, q⟩ => (ht1 x y hx hy s H C cl fp).run pins s' σ H' Q I q⟩) (fun s H C cl fp => ⟨fun pins s' σ H' Q I ⟨x, y, hx, hy, hf, hf1, q⟩ => (hk x y hx hy hf hf1 s H C cl fp).run pins s' σ H' Q I q⟩) (fun s H C cl fp => ⟨fun pins s' σ H' Q I ⟨x, y, hx, hy, q⟩ => (he x y hx hy s H C cl fp).run pins s' σ H' Q I q⟩) hs hs1) fun D σ H h => ?_
  · have := g_tup (tg := .Name nj p3) (PY.to (hi1 x hx s H C cl fp) tup_of)
    refine this.run pins s' σ H' R I ⟨q.1, fun z J H2 s2 ⟨i1, i2⟩ wk => q.2 z J H2 s2 ⟨i1, ?_⟩ ?_⟩
    · exact AllY.data i2
    · rw [List.length_map, List.length_map] at wk
      exact wk
  · refine d2_sem k l _ f l1 d1 f1 key dv (fun x => (Γ.set i (some (t x))).set i' (some (t' x))) (fun x y => ((Γ.set i (some (t x))).set i' (some (t' x))).set ij (some (tD X.K (d1 x y)))) m hm hz (fun x hx => ?_) (fun x y _ _ => oneG) hst (fun x y hx hy σ H Q q => ⟨x, y, hx, hy, by rw [hv0] at q; exact q⟩) h
    intro v σ H g hv Q q
    show gTup X.K 2 (gCons (gName i) (gCons (gName i') gNil)) v σ H Q
    have e0 : wipeC Γ [i, i', ij] = wipeC Γ [i, i'] := by
      show ((Γ.set ij none).set i' none).set i none = (Γ.set i' none).set i none
      have : Γ.set ij none = Γ := by
        apply List.ext_getElem?
        intro n
        by_cases hn : ij = n
        · subst hn
          rw [hij, List.getElem?_set_self (List.getElem?_eq_some_iff.mp hij).1]
        · rw [List.getElem?_set_ne hn]
      rw [this]
    have g' : Env (wipeC Γ [i, i', ij]) σ H := g
    rw [e0] at g'
    refine pairG v σ H g' hv Q fun σ' e' hw => q σ' e' ?_
    -- the third slot is not touched
    have hw' : (σ'.set i' none).set i none = (σ.set i' none).set i none := hw
    show ((σ'.set ij none).set i' none).set i none = ((σ.set ij none).set i' none).set i none
    rw [List.set_comm _ _ (Ne.symm hne.2), List.set_comm _ _ (Ne.symm hne.1), hw', List.set_comm _ _ hne.1, List.set_comm _ _ hne.2]
/-! ### asked of a dict -/
theorem y_inD (k : KK α κ) {ks : List α} {dv : α → PyData} {j : α} (hu : X.A.units + 1 < cLine) (ha : PY X a Γ (k.ty j)) (hb : PY X b Γ (tDict k X.K ks dv)) (hm : behindInMarks .In b = false := by rfl) : CmpY X .In a b Γ (decide (j ∈ ks)) where
  val := fun pos => PE.imp (pe_cmp (pc_din hu ha hb) hm) fun σ H Q ⟨g, q⟩ => ⟨g, fun y H1 s1 hy => ⟨g.up s1, fun x H2 s2 ⟨c, ρ, e1, h1, h2⟩ => ⟨c, _, e1, k.get ((k.ty j).up s2 hy) h1, q _ H2 (s1.trans s2) (by
    rw [valV_dkg k.inj]
    show V.bl _ = V.bl _
    by_cases c : j ∈ ks <;> simp [c])⟩⟩⟩
  tst := fun pos => PT.imp (pt_cmp (pc_din hu ha hb) hm) fun σ H Q ⟨g, q⟩ => ⟨g, fun y H1 s1 hy => ⟨g.up s1, fun x H2 s2 ⟨c, ρ, e1, h1, h2⟩ => ⟨c, _, e1, k.get ((k.ty j).up s2 hy) h1, _, rfl, by
    rw [valV_dkg k.inj]
    have := q H2 (s1.trans s2)
    by_cases c : j ∈ ks <;> simpa [c] using this⟩⟩⟩
theorem y_ninD (k : KK α κ) {ks : List α} {dv : α → PyData} {j : α} (hu : X.A.units + 1 < cLine) (ha : PY X a Γ (k.ty j)) (hb : PY X b Γ (tDict k X.K ks dv)) (hm : behindInMarks .NotIn b = false := by rfl) : CmpY X .NotIn a b Γ (!decide (j ∈ ks)) where
  val := fun pos => PE.imp (pe_cmp (pc_dnotin hu ha hb) hm) fun σ H Q ⟨g, q⟩ => ⟨g, fun y H1 s1 hy => ⟨g.up s1, fun x H2 s2 ⟨c, ρ, e1, h1, h2⟩ => ⟨c, _, e1, k.get ((k.ty j).up s2 hy) h1, q _ H2 (s1.trans s2) (by
    rw [valV_dkg k.inj]
    show V.bl _ = V.bl _
    by_cases c : j ∈ ks <;> simp [c])⟩⟩⟩
  tst := fun pos => PT.imp (pt_cmp (pc_dnotin hu ha hb) hm) fun σ H Q ⟨g, q⟩ => ⟨g, fun y H1 s1 hy => ⟨g.up s1, fun x H2 s2 ⟨c, ρ, e1, h1, h2⟩ => ⟨c, _, e1, k.get ((k.ty j).up s2 hy) h1, _, rfl, by
    rw [valV_dkg k.inj]
    have := q H2 (s1.trans s2)
    by_cases c : j ∈ ks <;> simpa [c] using this⟩⟩⟩
theorem y_getD (k : KK α κ) {ks : List α} {dv : α → PyData} {j : α} (hj : j ∈ ks) (hu : X.A.units + 1 < cLine) (hb : PY X b Γ (tDict k X.K ks dv)) (ha : PY X a Γ (k.ty j)) (hs : NoSl a := by exact fun _ _ => rfl) : PY X (.Subscript b a pos) Γ (tD X.K (dv j)) :=
  PE.imp (pe_dget hu hb ha hs) fun σ H Q ⟨g, q⟩ => ⟨g, fun x H1 s1 hx => ⟨g.up s1, fun y H2 s2 hy => by
    obtain ⟨c, ρ, rfl, h1, h2⟩ := (tDict k X.K ks dv).up s2 hx
    refine ⟨c, ρ j, rfl, ?_, q _ H2 (s1.trans s2) (h2 j hj)⟩
    have := k.get hy h1
    rwa [valV_dkg k.inj, if_pos hj] at this⟩⟩
/-- sorted(d), d with few whole numbers as keys -/
theorem n_sortDI {p : Pos} (hc : X.calm = true) {ks : List Nat} {dv : Int → PyData} (few : ks.length < 64) (hg : Gl X "sorted") (hm : X.mg "sorted" = none) (h : PY X e Γ (tDict kkI X.K (zs ks) dv)) (hs : starEach [e] X.env = (false, eval e X.env) :: starEach [] X.env := by rfl) : PYN X (.Call (.Name "sorted" p) [e] [] pos) Γ ((ks.mergeSort leC).map iN) :=
  PE.imp (pe_callB (x := "sorted") (call_sortedDI hc) hg hm (by decide +kernel) (ya_cons h ya_nil hs) (he := hs)) fun σ H Q ⟨g, q⟩ => ⟨g, fun vs H1 s1 hvs => by
    obtain ⟨v, rfl, c, ρ, rfl, h1, h2⟩ := all1 hvs
    refine ⟨c, _, zs ks, rfl, .inl h1, ?_, by rw [zs_len]; exact few, fun ys p pm pw hp => ?_⟩
    · show (dkg Sum.inl (zs ks) ρ).map (·.1) = _
      unfold dkg
      rw [List.map_map]; rfl
    · obtain ⟨L, pL, e⟩ := Lq.perm_fetch (β := Unit) (g := fun _ => (0 : Int)) (f := fun (c : Nat) => (c : Int)) pm
      have e2 : L = ks.mergeSort leC := one_sorted ordC.anti (pL.trans (List.mergeSort_perm _ _).symm) (by
        rw [e] at pw
        exact (List.pairwise_map.mp pw).imp fun {x y} h => decide_eq_true h) (ordC.pw ks)
      refine q p _ _ (s1.free hp) (s1.trans (Same.new hp)) upd_same ?_
      have e3 : (ks.mergeSort leC).map iN = ys.map .int := by rw [e, e2, List.map_map]; rfl
      rw [e3]
      exact ints_dpAll ys⟩
/-! ### tracked tuples -/
theorem y_tupleK {p : Pos} {is : List Int} (hg : Gl X "tuple") (hm : X.mg "tuple" = none) (h : PY X e Γ (tD X.K (.list (is.map .int)))) (hs : starEach [e] X.env = (false, eval e X.env) :: starEach [] X.env := by rfl) : PY X (.Call (.Name "tuple" p) [e] [] pos) Γ (tTk is) :=
  y_ty (x := "tuple") call_tuple_of hg hm (by decide +kernel) (ya_cons h ya_nil hs) (he := hs) fun vs H Q hvs k => by
    obtain ⟨v, rfl, hv⟩ := all1 hvs
    obtain ⟨a, xs, rfl, h1, h2⟩ := dp_lst hv
    rw [dpAll_ints h2] at h1
    exact ⟨a, _, rfl, .inl ⟨h1, fun l hl => k _ _ (Same.new hl) ⟨l, rfl, upd_same⟩⟩⟩
theorem y_tupK {kk : Nat} {es : List Expr} {is : List Int} (h : PYA X es Γ (is.map tI)) (hz : is.length ≤ 100000) : PY X (.Tuple es kk pos) Γ (tTk is) :=
  PE.imp (pe_tup h) fun σ H Q ⟨g, q⟩ => ⟨g, fun vs H1 s1 hv => ⟨by rw [hv.len, List.length_map]; exact sz_ok hz, fun p hp => q _ _ (s1.trans (Same.new hp)) ⟨p, rfl, by
    have : ∀ {is : List Int} {vs : List V} {H : Hp}, AllY (is.map tI) vs H → vs = is.map V.int := by
      intro is
      induction is with
      | nil => intro vs H h; cases h; rfl
      | cons i is ih => intro vs H h; cases h with
        | cons h a => rw [ih a, show _ = V.int i from h]; rfl
    rw [this hv]; exact upd_same⟩⟩⟩
theorem PY.ofTk {is : List Int} (h : PY X e Γ (tTk is)) : PY X e Γ (tD X.K (dI is)) := PY.to h tk_data
end
end Lp
/-! LpF3 -/
namespace Lp
open PySem PySem.Spec PyProof.Rows L2
section
variable {X : Cx} {Γ : Cxt} {e : Expr} {pos tpos p : Pos} {β : Type} {elts : List Expr} {kk : Nat}
theorem i_enumTM {l : List β} {d : β → PyData} (hg : Gl X "enumerate") (hm : X.mg "enumerate" = none) (h : PY X e Γ (tD X.K (.tuple (l.map d)))) (hs1 : starEach [e] X.env = (false, eval e X.env) :: starEach [] X.env := by rfl) (hs : starEach [e] X.env = [(false, eval e X.env)] := by rfl) :
    PYI X (.Tuple elts kk tpos) (.Call (.Name "enumerate" p) [e] [] pos) Γ ((l.zipIdx).map fun x => tTup' X.K [tI ((x.2 : Nat) : Int), tD X.K (d x.1)]) := by
  have := i_enumT (elts := elts) (kk := kk) (tpos := tpos) (p := p) (pos := pos) hg hm (PY.to h tup_of) hs1 hs
  rwa [map_ty, enum_ix] at this
theorem i_enumLM {l : List β} {d : β → PyData} (hg : Gl X "enumerate") (hm : X.mg "enumerate" = none) (h : PY X e Γ (tD X.K (.list (l.map d)))) (hs1 : starEach [e] X.env = (false, eval e X.env) :: starEach [] X.env := by rfl) (hs : starEach [e] X.env = [(false, eval e X.env)] := by rfl) :
    PYI X (.Tuple elts kk tpos) (.Call (.Name "enumerate" p) [e] [] pos) Γ ((l.zipIdx).map fun x => tTup' X.K [tI ((x.2 : Nat) : Int), tD X.K (d x.1)]) := by
  have := i_enumL (elts := elts) (kk := kk) (tpos := tpos) (p := p) (pos := pos) hg hm (PY.to h lst_of) hs1 hs
  rwa [map_ty, enum_ix] at this
theorem zip_at {l : List β} {x : β × Nat} (h : x ∈ l.zipIdx) : l[x.2]? = some x.1 := List.mem_zipIdx_iff_getElem?.mp h
end
section
variable {P : Program} {w : World} {K : PySem.W.Frag} {mg : Str → Option Value} {base : Heap}
theorem c_check_journal (T : Tp K mg) : Callee P w K mg base "check_journal" 4 ["table", "thing"] (SpY (fun z : Nat × List Kd × List Nat => [tTab K z.1 z.2.1, tD K (dT z.2.2)]) (fun z => (∀ j, j ∈ z.2.2 → j < z.2.1.length) ∧ z.2.2.length ≤ 400) fun _ => tNo) := by
  obtain ⟨fd, F, b⟩ := T.defCheckJournal
  refine ⟨_, fd, fnY F scCheckJournal (fun _ => rfl) (fun z => some [some (tTab K z.1 z.2.1), some (tD K (dT z.2.2))]) (fun _ _ _ _ => rfl) fun ⟨n, ks, js⟩ hz cdv A outer s H E hr => ?_, T.gCheckJournal, F.kp, b⟩
  exact s_ifR (k := false) (t_not (k := true) (y_t (y_call (c_is_journal T) hr (by rfl) (n, ks, js) hz (ya_cons (yv 0) (ya_cons (yv 1) ya_nil))))) (fun h => by cases h) fun _ => s_end rfl
theorem c_begin_of (T : Tp K mg) : Callee P w K mg base "begin_of" 1 ["cell"] (SpY (fun c : Nat => [tI (c : Int)]) (fun _ => True) fun c => tI (bg c)) := by
  obtain ⟨fd, F, b⟩ := T.defBeginOf
  refine ⟨_, fd, fnY F scBeginOf (fun _ => rfl) (fun _ => none) (fun _ _ h => by cases h) fun c _ cdv A outer s H E hr => ?_, T.gBeginOf, F.kp, b⟩
  exact s_ret (y_sub (y_neg y_int) (yv 0)) rfl
theorem la0_map (n : Nat) : (la0 n).map PyData.int = (List.range n).map fun c => .int (bg c) := by unfold la0; rw [List.map_map]; rfl
theorem c_all_fresh (T : Tp K mg) : Callee P w K mg base "all_fresh" 2 ["table"] (SpY (fun z : Nat × List Kd => [tTab K z.1 z.2]) (fun z => z.1 ≤ 8) fun z => tD K (dI (la0 z.1))) := by
  obtain ⟨fd, F, b⟩ := T.defAllFresh
  refine ⟨_, fd, fnY F scAllFresh (fun _ => rfl) (fun _ => none) (fun _ _ h => by cases h) fun ⟨n, ks⟩ n8 cdv A outer s H E hr => ?_, T.gAllFresh, F.kp, b⟩
  have n8 : n ≤ 8 := n8
  refine s_ret (y_tupleL (by rfl) T.fTuple (PY.eq (y_lc1 1 (List.range n) (fun c => tI (c : Nat)) (fun _ => true) (fun c => .int (bg c)) (by rw [List.length_range]; omega) (fun _ _ => rfl) (by rfl) scAllFresh.nd (i_rng1 (by rfl) T.fRange (y_fld T.cTable T.nTableCells rfl (yv 0)) (by omega))
    (blkOk_by (N := ["table", "cell"]) (sc := defScope sAllFresh) (by decide +kernel)) rfl (by rfl) (fun _ _ _ _ _ _ _ => ts_no) fun c hc _ _ _ _ _ _ => PY.ofInt (y_call (c_begin_of T) (by exact hr) (by rfl) c trivial (ya_cons (yv 1) ya_nil))) ?_)) rfl
  rw [filter_all, ← la0_map]
theorem c_is_version_of (T : Tp K mg) : Callee P w K mg base "is_version_of" 3 ["history", "cell", "thing"] (SpY (fun z : Hs × Nat => [tHis K z.1, tI (z.2 : Int), tI (bg z.2)]) (fun _ => True) fun _ => tBo true) := by
  obtain ⟨fd, F, b⟩ := T.defIsVersionOf
  refine ⟨_, fd, fnY F scIsVersionOf (fun _ => rfl) (fun _ => none) (fun _ _ h => by cases h) fun ⟨h, c⟩ _ cdv A outer s H E hr => ?_, T.gIsVersionOf, F.kp, b⟩
  refine s_ifR (k := false) (t_not (k := true) (y_t (y_within T (hr.mono (by decide)) (by rfl) (yv 2) (y_call (c_begin_of T) (hr.mono (by decide)) (by rfl) c trivial (ya_cons (yv 1) ya_nil)) (y_sub (y_lenL (by rfl) T.fLen (y_fld T.cHistory T.nHistoryCellsWritten rfl (yv 0))) y_int) ?_))) (fun h => by cases h) fun _ => ?_
  · rw [decide_eq_true (Int.le_refl _), decide_eq_true]; rfl
    unfold bg; simp only [List.length_map]; omega
  · refine s_ret (τ := tBo (true || false)) (y_or (k := true) (l := false) (PY.eq ((c_eqI (yv 2) (y_call (c_begin_of T) (hr.mono (by decide)) (by rfl) c trivial (ya_cons (yv 1) ya_nil))).val _) ?_) fun h => by cases h) rfl
    rw [decide_eq_true rfl]
theorem c_are_plates (T : Tp K mg) : Callee P w K mg base "are_plates" 4 ["table", "history", "thing"] (SpY (fun z : Nat × List Kd × Hs => [tTab K z.1 z.2.1, tHis K z.2.2, tD K (dI (la0 z.1))]) (fun z => z.1 ≤ 8) fun _ => tBo true) := by
  obtain ⟨fd, F, b⟩ := T.defArePlates
  refine ⟨_, fd, fnY F scArePlates (fun _ => rfl) (fun _ => none) (fun _ _ h => by cases h) fun ⟨n, ks, h⟩ n8 cdv A outer s H E hr => ?_, T.gArePlates, F.kp, b⟩
  have n8 : n ≤ 8 := n8
  have ln : (la0 n).length = n := by unfold la0; rw [List.length_map, List.length_range]
  refine s_ifR (k := false) (t_w (w_or (k := false) (l := false) (t_not (k := true) (y_t (y_isi (by rfl) T.fIsinstance (by rfl) T.fTuple (by decide +kernel) (r := true) (by decide +kernel) ty_tup (yv 2)))) fun _ => w_or1 (PYT.eq ((c_neI (y_lenT (by rfl) T.fLen (yv 2)) (y_fld T.cTable T.nTableCells rfl (yv 0))).tst _) ?_))) (fun h => by cases h) fun _ => ?_
  · rw [List.length_map, ln, decide_eq_true rfl]; rfl
  refine s_ret (PY.eq (y_all (bs := ((la0 n).zipIdx).map fun _ => true) (by rfl) (by rfl) T.fAll (PY.eq (y_lc2 3 4 ((la0 n).zipIdx) (fun x => tI ((x.2 : Nat) : Int)) (fun x => tD K (.int x.1)) (fun _ => true) (fun _ => .bool true) (by rw [List.length_zipIdx, ln]; omega) (fun _ _ => rfl) (by rfl) scArePlates.nd ?_
    (blkOk_by (N := ["table", "history", "thing", "cell", "version"]) (sc := defScope sArePlates) (by decide +kernel)) rfl rfl (by rfl) (by rfl) (fun _ _ _ _ _ _ _ => ts_no) (fun x hx _ _ _ _ _ _ => PY.ofBool ?_)) ?_)) ?_) rfl
  · exact i_enumTM (by rfl) T.fEnumerate (yv 2)
  · have e1 : x.1 = bg x.2 := by
      have := zip_at hx
      unfold la0 at this
      rw [List.getElem?_map] at this
      cases q : (List.range n)[x.2]? with
      | none => rw [q] at this; cases this
      | some y =>
        rw [q] at this
        have hy := List.getElem?_eq_some_iff.mp q
        obtain ⟨_, hy⟩ := hy
        rw [List.getElem_range] at hy
        rw [hy]; exact (Option.some.inj this).symm
    exact y_call (c_is_version_of T) (by exact hr) (by rfl) (h, x.2) trivial (ya_cons (yv 1) (ya_cons (yv 3) (ya_cons (PY.eq (PY.int (yv 4)) (by rw [e1])) ya_nil)))
  · rw [filter_all]
    show _ = tD K (.list ((((la0 n).zipIdx).map fun _ => true).map .bool))
    rw [List.map_map]; rfl
  · rw [all_true]
end
end Lp
/-! LpF4 -/
namespace Lp
open PySem PySem.Spec PyProof.Rows L2
/-! ### objects made -/
def SpI {α : Type} (C : Addr) (args : α → List Ty) (dom : α → Prop) (flds : α → List (Str × Ty)) : Sp := fun vs H Q _ => ∃ x dx z rest H0, vs = .ref x :: rest ∧ H0 x = none ∧ H0 dx = none ∧ dx ≠ x ∧ H = upd (upd H0 dx (.own x)) x (.ins C dx []) ∧ dom z ∧ AllY (args z) rest H0 ∧
  ∀ H' fs, Same H0 H' → H' x = some (.ins C dx fs) → RelF (flds z) fs H' → Q .non H'
structure CalleeI (P : Program) (w : World) (K : PySem.W.Frag) (mg : Str → Option Value) (base : Heap) (C : Addr) (k : Nat) (ps : List Str) (sp : Sp) : Prop where
  ex : ∃ f fd, FnOk P w K mg base CX0 k f fd ps sp ∧ Mk K C f ∧ Binds K fd ps []
section
variable {X : Cx} {Γ : Cxt} {e : Expr} {es : List Expr} {pos p : Pos} {α : Type} {C : Addr} {args : α → List Ty} {dom : α → Prop} {flds : α → List (Str × Ty)} {k : Nat} {ps : List Str} {x : Str}
theorem y_make (c : CalleeI X.prog X.w X.K X.mg X.base C k ps (SpI C args dom flds)) (hr : Room (k + 1) X.A) (hg : Gl X x) (hm : X.mg x = some (.ref C)) (z : α) (hz : dom z) (ha : PYA X (e :: es) Γ (args z)) (he : starEach (e :: es) X.env = (false, eval e X.env) :: starEach es X.env := by rfl) (hpl : (backTo pos (starEach es X.env)).any (·.1) = false := by rfl)
    (hdb : (x == ("__debug__" : Str)) = false := by decide) : PY X (.Call (.Name x p) (e :: es) [] pos) Γ (tObj C (flds z)) := by
  obtain ⟨f, fd, F, M, b⟩ := c.ex
  refine PE.imp (pe_make M F hr hg hm b .nil pass0 ha hdb he hpl) fun σ H Q ⟨g, q⟩ => ⟨g, fun vs H1 s1 hvs x dx nx ndx ne => ?_⟩
  rw [List.append_nil]
  exact ⟨x, dx, z, vs, H1, rfl, nx, ndx, ne, rfl, hz, hvs, fun H' fs s h r => ⟨rfl, q _ H' (s1.trans s) ⟨x, dx, fs, rfl, h, r⟩⟩⟩
end
theorem map_len {α β : Type} (l : List α) (f : α → β) : (l.map f).length = l.length := List.length_map _
end Lp
/-! LpF5 -/
namespace Lp
open PySem PySem.Spec PyProof.Rows L2
theorem hist_snoc {n : Nat} {ks : List Kd} {js : List Nat} {j : Nat} : hist n ks (js ++ [j]) = stepH (hist n ks js) (ks.getD j (0, [])) := by
  unfold hist; rw [List.foldl_append]; rfl
theorem hist_take {n : Nat} {ks : List Kd} {js : List Nat} {i j : Nat} {k : Kd} (hj : js[i]? = some j) (hk : ks[j]? = some k) : hist n ks (js.take (i + 1)) = stepH (hist n ks (js.take i)) k := by
  rw [List.take_succ, hj]
  show hist n ks (js.take i ++ [j]) = _
  rw [hist_snoc, List.getD_eq_getElem?_getD, hk]; rfl
theorem la0_len (n : Nat) : (la0 n).length = n := by unfold la0; rw [List.length_map, List.length_range]
structure HSz (n : Nat) (h : Hs) (i : Nat) : Prop where
  wr : h.wr.length = i
  rd : h.rd.length = i
  la : h.la.length = n
theorem hsz_step {n : Nat} {h : Hs} {i : Nat} {k : Kd} (s : HSz n h i) : HSz n (stepH h k) (i + 1) := ⟨by unfold stepH; simp [s.wr], by unfold stepH; simp [s.rd], by unfold stepH; simp [s.la]⟩
theorem hist_sz {n : Nat} {ks : List Kd} {js : List Nat} : HSz n (hist n ks js) js.length := by
  unfold hist
  have go : ∀ (js : List Nat) (h : Hs) (i : Nat), HSz n h i → HSz n (js.foldl (fun h j => stepH h (ks.getD j (0, []))) h) (i + js.length) := by
    intro js
    induction js with
    | nil => exact fun h i s => s
    | cons j js ih =>
      intro h i s
      have := ih (stepH h (ks.getD j (0, []))) (i + 1) (hsz_step s)
      rw [List.length_cons, show i + (js.length + 1) = i + 1 + js.length by omega]
      exact this
  have := go js (hist0 n) 0 ⟨rfl, rfl, la0_len n⟩
  rwa [Nat.zero_add] at this
theorem zs_app (l m : List Nat) : zs (l ++ m) = zs l ++ zs m := List.map_append
/-- lists are no tuples -/
theorem tupK_lst {K : PySem.W.Frag} {H : Hp} {p : Addr} {xs : List V} {o' : HO} (h : H p = some (.lst xs)) : TupK K H (upd H p o') := TupK.upd h (by intro xs h; cases h) (by intro ob xs h; cases h)
theorem tupK_ins {K : PySem.W.Frag} {H : Hp} {p C dx : Addr} {fs : List (Str × V)} {o' : HO} (h : H p = some (.ins C dx fs)) : TupK K H (upd H p o') := TupK.upd h (by intro xs h; cases h) (by intro ob xs h; cases h)
section
variable {P : Program} {w : World} {K : PySem.W.Frag} {mg : Str → Option Value} {base : Heap}
abbrev hisF (K : PySem.W.Frag) (h : Hs) : List (Str × Ty) := [("cells_written", tD K (dLi (zs h.wr))), ("read", tD K (dRd h.rd)), ("last", tD K (dI h.la))]
structure HisS (K : PySem.W.Frag) (C x dx l1 l2 l3 : Addr) (H0 : Hp) (Γ0 : Cxt) (h : Hs) (σ : L2.St) (H : Hp) : Prop where
  env : Env Γ0 σ H0
  same : Same H0 H
  self : σ[0]? = some (some (.ref x))
  last : σ[3]? = some (some (.ref l3))
  ob : H x = some (.ins C dx [("cells_written", .ref l1), ("read", .ref l2)])
  w : H l1 = some (.lst ((zs h.wr).map V.int))
  r : ∃ vs, H l2 = some (.lst vs) ∧ DpAll K H vs (h.rd.map dI)
  la : H l3 = some (.lst (h.la.map V.int))
structure Apart (x l1 l2 l3 : Addr) (H0 : Hp) : Prop where
  nx : H0 x = none
  n1 : H0 l1 = none
  n2 : H0 l2 = none
  n3 : H0 l3 = none
  e12 : l1 ≠ l2
  e13 : l1 ≠ l3
  e23 : l2 ≠ l3
theorem fz_rd (rd : List (List Int)) : fzA (rd.map dI) = true := fzA_all fun d hd => by
  obtain ⟨l, _, rfl⟩ := List.mem_map.mp hd
  exact fz_ints l
section
variable {C x dx l1 l2 l3 : Addr} {H0 : Hp} {Γ0 : Cxt} {h : Hs} {σ : L2.St} {H : Hp}
theorem HisS.up {H' : Hp} (S : HisS K C x dx l1 l2 l3 H0 Γ0 h σ H) (e : Same H H') : HisS K C x dx l1 l2 l3 H0 Γ0 h σ H' :=
  ⟨S.env, S.same.trans e, S.self, S.last, e _ _ S.ob, e _ _ S.w, let ⟨vs, a, b⟩ := S.r; ⟨vs, e _ _ a, DpAll.up e b⟩, e _ _ S.la⟩
theorem HisS.slot (S : HisS K C x dx l1 l2 l3 H0 Γ0 h σ H) {i : Nat} {a : Option V} (hi : Γ0[i]? = some none) (h0 : i ≠ 0) (h3 : i ≠ 3) : HisS K C x dx l1 l2 l3 H0 Γ0 h (σ.set i a) H :=
  ⟨S.env.keep hi, S.same, by rw [List.getElem?_set_ne h0]; exact S.self, by rw [List.getElem?_set_ne h3]; exact S.last, S.ob, S.w, S.r, S.la⟩
theorem HisS.lastD (S : HisS K C x dx l1 l2 l3 H0 Γ0 h σ H) : (tD K (dLi h.la)).is (.ref l3) H := .lst (SqL.of S.la) (ints_dpAll _)
end
theorem c_history (T : Tp K mg) : CalleeI P w K mg base (He.ga K "History") 3 ["self", "table", "journal"] (SpI (He.ga K "History") (fun z : Nat × List Kd × List Nat => [tTab K z.1 z.2.1, tD K (dT z.2.2)]) (fun z => TabR z.1 z.2.1 ∧ (∀ j, j ∈ z.2.2 → j < z.2.1.length) ∧ z.2.2.length ≤ 400) fun z => hisF K (hist z.1 z.2.1 z.2.2)) := by
  obtain ⟨fd, F, b⟩ := T.defHistoryInit
  refine ⟨_, fd, fnH F scHistoryInit (fun vs H Q E ⟨x, dx, z, rest, H0, e, _, _, _, _, _, h, _⟩ => by rw [e, List.length_cons, h.len]; rfl) fun vs H Q E hsp cdv A outer s hr => ?_, T.kHistory, b⟩
  obtain ⟨x, dx, ⟨n, ks, js⟩, rest, H0, rfl, nx, ndx, nex, rfl, ⟨TR, hj, few⟩, hvs, q⟩ := hsp
  have few : js.length ≤ 400 := few
  have hj : ∀ j, j ∈ js → j < ks.length := hj
  obtain ⟨vt, vj, rfl, ht, hjv⟩ := all2 hvs
  have nd := scHistoryInit.nd
  let Γ0 : Cxt := [none, some (tTab K n ks), some (tD K (dT js)), none, none, none, none, none, none]
  have sameB : Same H0 (upd (upd H0 dx (.own x)) x (.ins (He.ga K "History") dx [])) := Same.mut (Same.new ndx) nx
  have env0 : Env Γ0 (L2.start ["self", "table", "journal", "last", "deed", "number", "cell", "reads", "one"] [.ref x, vt, vj]) H0 := by
    have e := env_start (N := ["self", "table", "journal", "last", "deed", "number", "cell", "reads", "one"]) (AllY.cons (τ := tV (.ref x)) rfl (AllY.cons ht (AllY.cons hjv .nil)))
    exact e.forget 0
  refine ⟨fun σ H => Env Γ0 σ H0 ∧ Same H0 H ∧ σ[0]? = some (some (.ref x)) ∧ H x = some (.ins (He.ga K "History") dx []), ⟨env0, sameB, rfl, upd_same⟩, ?_⟩
  -- self.cells_written = []
  refine h_fldN (Γ := Γ0) (t_var (i := 0)) (n_lst (ds := []) ya_nil (by decide)) (fun σ H p => p.1.up p.2.1) (fun σ H ⟨g, sm, e0, hx⟩ => ⟨x, _, dx, [], hx, T.cHistory, T.nHistoryCellsWritten, by decide, fun H' Q s k => ⟨_, e0, k⟩, fun l1 vs H' f s h1 hv => ?_⟩)
    (M := fun σ H => ∃ l1, Env Γ0 σ H0 ∧ Same H0 H ∧ σ[0]? = some (some (.ref x)) ∧ H0 l1 = none ∧ H l1 = some (.lst []) ∧ H x = some (.ins (He.ga K "History") dx [("cells_written", .ref l1)])) ?_
  · cases hv
    exact ⟨l1, g, Same.mut (sm.trans s) nx, e0, sm.free f, by rw [upd_ne (ne_of h1 (s _ _ hx) (by intro z; cases z))]; exact h1, upd_same⟩
  refine h_ex fun l1 => ?_
  -- self.read = []
  refine h_fldN (Γ := Γ0) (t_var (i := 0)) (n_lst (ds := []) ya_nil (by decide)) (fun σ H p => p.1.up p.2.1) (fun σ H ⟨g, sm, e0, n1, h1, hx⟩ => ⟨x, _, dx, _, hx, T.cHistory, T.nHistoryRead, by show 1 < 1000; decide, fun H' Q s k => ⟨_, e0, k⟩, fun l2 vs H' f s h2 hv => ?_⟩)
    (M := fun σ H => ∃ l2, Env Γ0 σ H0 ∧ Same H0 H ∧ σ[0]? = some (some (.ref x)) ∧ (H0 l1 = none ∧ H0 l2 = none ∧ l1 ≠ l2) ∧ H l1 = some (.lst []) ∧ H l2 = some (.lst []) ∧ H x = some (.ins (He.ga K "History") dx [("cells_written", .ref l1), ("read", .ref l2)])) ?_
  · cases hv
    exact ⟨l2, g, Same.mut (sm.trans s) nx, e0, ⟨n1, sm.free f, ne_of_none h1 f⟩, by rw [upd_ne (ne_of (s _ _ h1) (s _ _ hx) (by intro z; cases z))]; exact s _ _ h1, by rw [upd_ne (ne_of h2 (s _ _ hx) (by intro z; cases z))]; exact h2, upd_same⟩
  refine h_ex fun l2 => ?_
  -- last = list(all_fresh(table))
  refine h_new (i := 3) (Γ := Γ0) (n_listT (by rfl) T.fList (y_call (c_all_fresh T) (hr.mono (by decide)) (by rfl) (n, ks) TR.n8 (ya_cons (yv 1) ya_nil))) (fun σ H p => p.1.up p.2.1)
    (M := fun σ H => ∃ l3, Apart x l1 l2 l3 H0 ∧ HisS K (He.ga K "History") x dx l1 l2 l3 H0 Γ0 (hist0 n) σ H) (fun σ H l3 vs H' ⟨g, sm, e0, ⟨n1, n2, n12⟩, h1, h2, hx⟩ f s h3 hv => ?_) ?_ nd (hx := Or.inr rfl)
  · refine ⟨l3, ⟨nx, n1, n2, sm.free f, n12, ne_of_none h1 f, ne_of_none h2 f⟩, g.keep rfl, sm.trans s, by rw [List.getElem?_set_ne (by decide)]; exact e0, List.getElem?_set_self (by rw [g.len]; show 3 < 9; decide), s _ _ hx, s _ _ h1, ⟨[], s _ _ h2, .nil⟩, ?_⟩
    rw [h3, dpAll_ints hv]; rfl
  refine h_ex fun l3 => h_and fun ap => ?_
  -- the loop
  let I : Zs → Nat → SP2 := fun z i σ H => z.2 = (zs js).map V.int ∧ SqT K H z.1 z.2 ∧ HisS K (He.ga K "History") x dx l1 l2 l3 H0 Γ0 (hist n ks (js.take i)) σ H
  let B : Zs → Nat → SP2 := fun z i σ H => ∃ j k, js[i]? = some j ∧ ks[j]? = some k ∧ I z i σ H ∧ σ[4]? = some (some (.int (i : Nat))) ∧ σ[5]? = some (some (.int (j : Nat)))
  refine h_for (Γ := Γ0) I B (by rfl) (g_enumT (ts := (zs js).map fun i => tD K (.int i)) (by rfl) T.fEnumerate (PY.to (yv 2) fun v H hv => by have := tup_of v H hv; rwa [map_ty] at this)) (pg_tup (by rfl) (pgs_cons (pg_name (i := 4) nd rfl (Or.inl rfl)) (pgs_cons (pg_name (i := 5) nd rfl (Or.inl rfl)) pgs_nil)))
    (fun σ H p => p.env.up p.same) (fun z σ H H' p s ⟨z1, z2⟩ => ⟨?_, z1, p.up s⟩) (fun z i σ H _ p => p.2.1) (fun z i σ H H2 v lt p s ⟨T', y, e, hT, hy⟩ => ?_) (fun z i lt => ?_) ?_ (mono := mono_pair)
  · have := AllY.data (ds := (zs js).map .int) (by rw [map_ty]; exact z2)
    exact dpAll_ints this
  · subst e
    have lt' : i < js.length := by simpa [zs] using lt
    obtain ⟨j, hjj⟩ : ∃ j, js[i]? = some j := ⟨_, List.getElem?_eq_getElem lt'⟩
    obtain ⟨k, hk⟩ : ∃ k, ks[j]? = some k := ⟨_, List.getElem?_eq_getElem (hj j (List.mem_of_getElem? hjj))⟩
    have ey : y = .int (j : Nat) := by
      rw [p.1, List.getElem?_map, zs_get hjj] at hy
      exact (Option.some.inj hy).symm
    subst ey
    exact gp_pair hT ⟨j, k, hjj, hk, ⟨p.1, Same.seqT s p.2.1, ((p.2.2.up s).slot rfl (by decide) (by decide)).slot rfl (by decide) (by decide)⟩, by rw [List.getElem?_set_ne (by decide)]; exact List.getElem?_set_self (by rw [p.2.2.env.len]; show 4 < 9; decide), List.getElem?_set_self (by rw [List.length_set, p.2.2.env.len]; show 5 < 9; decide)⟩
  · -- a turn
    refine h_ex fun j => h_ex fun k => h_and fun hjj => h_and fun hk => ?_
    have km : k ∈ ks := List.mem_of_getElem? hk
    have lt' : i < js.length := (List.getElem?_eq_some_iff.mp hjj).1
    have sz := hist_sz (n := n) (ks := ks) (js := js.take i)
    rw [List.length_take, Nat.min_eq_left (by omega)] at sz
    let h := hist n ks (js.take i)
    let J : Hs → SP2 := fun h σ H => (z.2 = (zs js).map V.int ∧ SqT K H z.1 z.2 ∧ HisS K (He.ga K "History") x dx l1 l2 l3 H0 Γ0 h σ H) ∧ σ[4]? = some (some (.int (i : Nat))) ∧ σ[6]? = some (some (.int (k.1 : Nat))) ∧ ∃ v, σ[7]? = some (some v) ∧ Dp K H v (dT k.2)
    let Γ1 : Hs → Cxt := fun h => (((Γ0.set 3 (some (tD K (dLi h.la)))).set 4 (some (tI (i : Nat)))).set 6 (some (tI (k.1 : Nat)))).set 7 (some (tD K (dT k.2)))
    have envJ : ∀ {h σ H}, J h σ H → Env (Γ1 h) σ H := fun ⟨p, e4, e6, v, e7, hv⟩ => ((((p.2.2.env.up p.2.2.same).put p.2.2.last p.2.2.lastD).put e4 rfl).put e6 rfl).put e7 hv
    -- cell, reads = table.kinds[number]
    refine h_by (M := J h) (ps_asg (y_ixT (ds := ks.map dKd) (j := j) (d := dKd k) (Γ := Γ0.set 5 (some (tI (j : Nat)))) (by rw [List.getElem?_map, hk]; rfl) (y_fld T.cTable T.nTableKinds rfl (yv 1)) (yv 5)) (pg_tup (by rfl) (pgs_cons (pg_name (i := 6) nd rfl (Or.inl rfl)) (pgs_cons (pg_name (i := 7) nd rfl (Or.inl rfl)) pgs_nil)))) (fun D σ H ⟨p, e4, e5⟩ m _ => ⟨(p.2.2.env.up p.2.2.same).put e5 rfl, fun v H' s hv => ?_⟩) ?_
    · obtain ⟨a, xs, rfl, h1, h2⟩ := dp_tup hv
      obtain ⟨u1, u2, rfl, d1, d2⟩ : ∃ u1 u2, xs = [u1, u2] ∧ Dp K H' u1 (iN k.1) ∧ Dp K H' u2 (dT k.2) := by
        cases h2 with
        | cons a t => cases t with
          | cons b t => cases t; exact ⟨_, _, rfl, a, b⟩
      refine gp_pair h1 (m _ _ ⟨⟨p.1, Same.seqT s p.2.1, ((p.2.2.up s).slot rfl (by decide) (by decide)).slot rfl (by decide) (by decide)⟩, ?_, ?_, u2, ?_, d2⟩)
      · rw [List.getElem?_set_ne (by decide), List.getElem?_set_ne (by decide)]; exact e4
      · rw [List.getElem?_set_ne (by decide), dp_int d1]; exact List.getElem?_set_self (by rw [p.2.2.env.len]; show 6 < 9; decide)
      · exact List.getElem?_set_self (by rw [List.length_set, p.2.2.env.len]; show 7 < 9; decide)
    -- self.cells_written.append(cell)
    refine h_append (M := J ⟨h.wr ++ [k.1], h.rd, h.la⟩) (Γ := Γ1 h) (pe_fld (f := "cells_written") (t_var (i := 0)) (by rfl)) (yv 6 (τ := tI (k.1 : Nat))) (fun σ H p => envJ p) (fun σ H ⟨⟨p1, p2, p⟩, e4, e6, v, e7, hv⟩ => ⟨l1, _, p.w, ?_, fun Q k => ⟨_, p.self, x, _, dx, _, _, rfl, p.ob, T.cHistory, T.nHistoryCellsWritten, rfl, k⟩, fun u H' s hu => ?_⟩) ?_
    · rw [List.length_map, zs_len, sz.wr]; omega
    · obtain ⟨vs, r1, r2⟩ := p.r
      have tk := tupK_lst (K := K) (o' := .lst ((zs h.wr).map V.int ++ [u])) (s _ _ p.w)
      refine ⟨⟨p1, tk _ _ (Same.seqT s p2), p.env, Same.mut (p.same.trans s) ap.n1, p.self, p.last, ?_, ?_, ⟨vs, ?_, DpAll.fz tk (fz_rd _) (DpAll.up s r2)⟩, ?_⟩, e4, e6, v, e7, Dp.fz tk (fz_ints _) (Dp.up s hv)⟩
      · rw [upd_ne (ne_of (s _ _ p.ob) (s _ _ p.w) (by intro z; cases z))]; exact s _ _ p.ob
      · rw [upd_same, show u = V.int (k.1 : Nat) from hu, zs_app, List.map_append]; rfl
      · rw [upd_ne ap.e12.symm]; exact s _ _ r1
      · rw [upd_ne ap.e13.symm]; exact s _ _ p.la
    -- self.read.append(..)
    refine h_append (M := J ⟨h.wr ++ [k.1], h.rd ++ [k.2.map fun c => h.la.getD c 0], h.la⟩) (Γ := Γ1 ⟨h.wr ++ [k.1], h.rd, h.la⟩) (τ := tD K (dI (k.2.map fun c => h.la.getD c 0))) (pe_fld (f := "read") (t_var (i := 0)) (by rfl)) ?_ (fun σ H p => envJ p) (fun σ H ⟨⟨p1, p2, p⟩, e4, e6, v, e7, hv⟩ => ?_) ?_
    · refine y_tupleL (by rfl) T.fTuple (PY.eq (y_lc1 8 k.2 (fun c => tD K (iN c)) (fun _ => true) (fun c => .int (h.la.getD c 0)) (by have := TR.few k km; omega) (fun _ _ => rfl) (by rfl) nd (i_lot (yv 7)) (blkOk_by (N := ["self", "table", "journal", "last", "deed", "number", "cell", "reads", "one"]) (sc := defScope sHistoryInit) (by decide +kernel)) rfl (by rfl) (fun _ _ _ _ _ _ _ => ts_no) fun c hc _ _ _ _ _ _ => ?_) ?_)
      · have hcn : c < h.la.length := by rw [sz.la]; exact TR.read k km c hc
        refine y_ixL (ds := h.la.map .int) (j := c) ?_ (yv 3) (PY.int (yv 8))
        rw [List.getElem?_map, List.getElem?_eq_getElem hcn, List.getD_eq_getElem?_getD, List.getElem?_eq_getElem hcn]; rfl
      · rw [filter_all, List.map_map]; rfl
    · obtain ⟨vs, r1, r2⟩ := p.r
      refine ⟨l2, vs, r1, ?_, fun Q k => ⟨_, p.self, x, _, dx, _, _, rfl, p.ob, T.cHistory, T.nHistoryRead, rfl, k⟩, fun u H' s hu => ?_⟩
      · have := dpAll_len r2
        rw [List.length_map] at this
        rw [this, sz.rd]; omega
      · have tk := tupK_lst (K := K) (o' := .lst (vs ++ [u])) (s _ _ r1)
        refine ⟨⟨p1, tk _ _ (Same.seqT s p2), p.env, Same.mut (p.same.trans s) ap.n2, p.self, p.last, ?_, ?_, ⟨_, upd_same, DpAll.fz tk (fz_rd _) ?_⟩, ?_⟩, e4, e6, v, e7, Dp.fz tk (fz_ints _) (Dp.up s hv)⟩
        · rw [upd_ne (ne_of (s _ _ p.ob) (s _ _ r1) (by intro z; cases z))]; exact s _ _ p.ob
        · rw [upd_ne ap.e12]; exact s _ _ p.w
        · rw [List.map_append]; exact dpAll_app (DpAll.up s r2) (.cons hu .nil)
        · rw [upd_ne ap.e23.symm]; exact s _ _ p.la
    -- last[cell] = deed
    refine h_one (ps_asg (yv 4 (Γ := Γ1 ⟨h.wr ++ [k.1], h.rd ++ [k.2.map fun c => h.la.getD c 0], h.la⟩) (τ := tI (i : Nat))) (pg_sub (t_var (i := 3)) (t_var (i := 6)) set_list)) fun D σ H ⟨⟨p1, p2, p⟩, e4, e6, v, e7, hv⟩ m _ => ⟨envJ ⟨⟨p1, p2, p⟩, e4, e6, v, e7, hv⟩, fun u H' s hu => ?_⟩
    have kn : k.1 < h.la.length := by rw [sz.la]; exact TR.cell k km
    refine ⟨_, p.last, _, e6, l3, _, (k.1 : Nat), k.1, rfl, rfl, s _ _ p.la, ?_, m _ _ ⟨p1, ?_⟩⟩
    · unfold ixN
      rw [if_pos (by omega), if_pos (by rw [List.length_map]; exact Int.ofNat_lt.mpr kn)]; rfl
    · obtain ⟨vs, r1, r2⟩ := p.r
      have tk := tupK_lst (K := K) (o' := .lst ((h.la.map V.int).set k.1 u)) (s _ _ p.la)
      refine ⟨tk _ _ (Same.seqT s p2), p.env, Same.mut (p.same.trans s) ap.n3, p.self, p.last, ?_, ?_, ⟨vs, ?_, ?_⟩, ?_⟩
      · rw [upd_ne (ne_of (s _ _ p.ob) (s _ _ p.la) (by intro z; cases z))]; exact s _ _ p.ob
      · rw [upd_ne ap.e13, hist_take hjj hk]; exact s _ _ p.w
      · rw [upd_ne ap.e23]; exact s _ _ r1
      · rw [hist_take hjj hk]; exact DpAll.fz tk (fz_rd _) (DpAll.up s r2)
      · rw [upd_same, hist_take hjj hk, show u = V.int (i : Nat) from hu]
        show some (HO.lst _) = some (HO.lst ((h.la.set k.1 ((h.wr.length : Nat) : Int)).map V.int))
        rw [List.map_set, sz.wr]
  · -- self.last = tuple(last)
    refine h_ex fun z => ?_
    have ej : js.take (zs js).length = js := by rw [zs_len]; exact List.take_length
    refine h_one (ps_fld (t_var (i := 0)) (y_tupleL (Γ := Γ0.set 3 (some (tD K (dLi (hist n ks js).la)))) (by rfl) T.fTuple (yv 3)) (by rfl)) fun D σ H ⟨p1, p2, p⟩ m _ => ?_
    rw [List.length_map, ej] at p
    refine ⟨(p.env.up p.same).put p.last p.lastD, fun v H' s hv => ⟨_, p.self, x, _, dx, _, rfl, s _ _ p.ob, T.cHistory, T.nHistoryLast, by show 2 < 1000; decide, m _ _ (q _ _ (Same.mut (p.same.trans s) nx) upd_same ?_)⟩⟩
    obtain ⟨vs, r1, r2⟩ := p.r
    have tk := tupK_ins (K := K) (o' := .ins (He.ga K "History") dx (putF "last" v [("cells_written", .ref l1), ("read", .ref l2)])) (s _ _ p.ob)
    have n1 : l1 ≠ x := ne_of (s _ _ p.w) (s _ _ p.ob) (by intro z; cases z)
    have n2 : l2 ≠ x := ne_of (s _ _ r1) (s _ _ p.ob) (by intro z; cases z)
    refine .cons (.lst (SqL.of (xs := (zs (hist n ks js).wr).map V.int) (by rw [upd_ne n1]; exact s _ _ p.w)) (ints_dpAll _)) (.cons (.lst (SqL.of (xs := vs) (by rw [upd_ne n2]; exact s _ _ r1)) (DpAll.fz tk (fz_rd _) (DpAll.up s r2))) (.cons (Dp.fz tk (fz_ints _) hv) .nil))
end
end Lp
/-! LpF6 -/
namespace Lp
open PySem PySem.Spec PyProof.Rows L2
theorem lst_ofM {K : PySem.W.Frag} {β : Type} {l : List β} {d : β → PyData} : ∀ v H, (tD K (.list (l.map d))).is v H → (tLst K (l.map fun x => tD K (d x))).is v H := fun v H hv => by
  have := lst_of v H hv
  rwa [map_ty] at this
theorem tup_ofM {K : PySem.W.Frag} {β : Type} {l : List β} {d : β → PyData} : ∀ v H, (tD K (.tuple (l.map d))).is v H → (tTup' K (l.map fun x => tD K (d x))).is v H := fun v H hv => by
  have := tup_of v H hv
  rwa [map_ty] at this
/-- a dict whose keys are the members of S -/
def tKset (K : PySem.W.Frag) (S : List Int) : Ty := ⟨fun v H => ∃ a ks ρ, v = .ref a ∧ H a = some (.dK (dkg Sum.inl ks ρ)) ∧ ∀ i, i ∈ ks ↔ i ∈ S, fun e ⟨a, ks, ρ, h1, h2, h3⟩ => ⟨a, ks, ρ, h1, e _ _ h2, h3⟩⟩
section
variable {X : Cx} {Γ : Cxt} {a b : Expr}
theorem y_inS {S : List Int} {j : Int} (hu : X.A.units + 1 < cLine) (ha : PY X a Γ (tI j)) (hb : PY X b Γ (tKset X.K S)) (hm : behindInMarks .In b = false := by rfl) : CmpY X .In a b Γ (decide (j ∈ S)) where
  val := fun pos => PE.imp (pe_cmp (pc_din hu ha hb) hm) fun σ H Q ⟨g, q⟩ => ⟨g, fun y H1 s1 hy => ⟨g.up s1, fun x H2 s2 ⟨c, ks, ρ, e1, h1, h2⟩ => ⟨c, _, e1, kkI.get (k := j) hy h1, q _ H2 (s1.trans s2) (by
    show V.bl (valV (dkg kkI.f ks ρ) (kkI.f j)).isSome = V.bl _
    rw [valV_dkg kkI.inj]
    by_cases c : j ∈ ks
    · rw [if_pos c, decide_eq_true ((h2 j).mp c)]; rfl
    · rw [if_neg c, decide_eq_false fun z => c ((h2 j).mpr z)]; rfl)⟩⟩⟩
  tst := fun pos => PT.imp (pt_cmp (pc_din hu ha hb) hm) fun σ H Q ⟨g, q⟩ => ⟨g, fun y H1 s1 hy => ⟨g.up s1, fun x H2 s2 ⟨c, ks, ρ, e1, h1, h2⟩ => ⟨c, _, e1, kkI.get (k := j) hy h1, _, rfl, by
    have e : (valV (dkg Sum.inl ks ρ) (kkI.f j)).isSome = decide (j ∈ S) := by
      show (valV (dkg kkI.f ks ρ) (kkI.f j)).isSome = _
      rw [valV_dkg kkI.inj]
      by_cases c : j ∈ ks
      · rw [if_pos c, decide_eq_true ((h2 j).mp c)]; rfl
      · rw [if_neg c, decide_eq_false fun z => c ((h2 j).mpr z)]; rfl
    rw [e]
    exact q H2 (s1.trans s2)⟩⟩⟩
end
section
variable {P : Program} {w : World} {K : PySem.W.Frag} {mg : Str → Option Value} {base : Heap}
theorem c_check_plates (T : Tp K mg) : Callee P w K mg base "check_plates" 5 ["table", "journal", "thing"] (SpY (fun z : Nat × List Kd × List Nat => [tTab K z.1 z.2.1, tD K (dT z.2.2), tD K (dI (la0 z.1))]) (fun z => TabR z.1 z.2.1 ∧ (∀ j, j ∈ z.2.2 → j < z.2.1.length) ∧ z.2.2.length ≤ 400) fun z => tHis K (hist z.1 z.2.1 z.2.2)) := by
  obtain ⟨fd, F, b⟩ := T.defCheckPlates
  refine ⟨_, fd, fnY F scCheckPlates (fun _ => rfl) (fun _ => none) (fun _ _ h => by cases h) fun ⟨n, ks, js⟩ ⟨TR, hj, few⟩ cdv A outer s H E hr => ?_, T.gCheckPlates, F.kp, b⟩
  refine s_expr (y_call (c_check_journal T) hr (by rfl) (n, ks, js) ⟨hj, few⟩ (ya_cons (yv 0) (ya_cons (yv 1) ya_nil))) ?_
  refine s_asg (i := 3) (y_make (c_history T) hr (by rfl) T.gHistory (n, ks, js) ⟨TR, hj, few⟩ (ya_cons (yv 0) (ya_cons (yv 1) ya_nil))) ?_ scCheckPlates.nd
  refine s_ifR (k := false) (t_not (k := true) (y_t (y_call (c_are_plates T) hr (by rfl) (n, ks, hist n ks js) TR.n8 (ya_cons (yv 0) (ya_cons (yv 3) (ya_cons (yv 2) ya_nil)))))) (fun h => by cases h) fun _ => ?_
  exact s_ret (yv 3) rfl
structure ClS (K : PySem.W.Frag) (D : Addr) (H0 : Hp) (Γ0 : Cxt) (pl : List Int) (S : List Int) (m : Nat) (σ : L2.St) (H : Hp) : Prop where
  env : Env Γ0 σ H0
  same : Same H0 H
  slot : σ[2]? = some (some (.ref D))
  dic : ∃ ks ρ, H D = some (.dK (dkg Sum.inl ks ρ)) ∧ (∀ i, i ∈ ks ↔ i ∈ S) ∧ ks.length ≤ m
theorem ClS.up {D : Addr} {H0 H H' : Hp} {Γ0 : Cxt} {pl S : List Int} {m : Nat} {σ : L2.St} (c : ClS K D H0 Γ0 pl S m σ H) (e : Same H H') : ClS K D H0 Γ0 pl S m σ H' := ⟨c.env, c.same.trans e, c.slot, let ⟨ks, ρ, a, b⟩ := c.dic; ⟨ks, ρ, e _ _ a, b⟩⟩
theorem ClS.set {D : Addr} {H0 H : Hp} {Γ0 : Cxt} {pl S : List Int} {m : Nat} {σ : L2.St} (c : ClS K D H0 Γ0 pl S m σ H) {i : Nat} {a : Option V} (hi : Γ0[i]? = some none) (h2 : i ≠ 2) : ClS K D H0 Γ0 pl S m (σ.set i a) H := ⟨c.env.keep hi, c.same, by rw [List.getElem?_set_ne h2]; exact c.slot, c.dic⟩
theorem ClS.kset {D : Addr} {H0 H : Hp} {Γ0 : Cxt} {pl S : List Int} {m : Nat} {σ : L2.St} (c : ClS K D H0 Γ0 pl S m σ H) : (tKset K S).is (.ref D) H := let ⟨ks, ρ, a, b, _⟩ := c.dic; ⟨D, ks, ρ, rfl, a, b⟩
theorem c_closure (T : Tp K mg) : Callee P w K mg base "closure" 1 ["history", "plates"] (SpY (fun z : Hs × List Int => [tHis K z.1, tD K (dI z.2)]) (fun z => z.1.rd.length ≤ 400 ∧ z.2.length ≤ 400 ∧ ∀ s, s ∈ z.1.rd → s.length ≤ 400) fun z => tKset K (clo z.2 z.1.rd)) := by
  obtain ⟨fd, F, b⟩ := T.defClosure
  refine ⟨_, fd, fnH F scClosure (fun vs H Q E ⟨z, _, h, _⟩ => by rw [h.len]; rfl) fun vs H0 Q E hsp cdv A outer s hr => ?_, T.gClosure, F.kp, b⟩
  obtain ⟨⟨h, pl⟩, ⟨fr, fp, fs⟩, hvs, q⟩ := hsp
  have fr : h.rd.length ≤ 400 := fr
  have fp : pl.length ≤ 400 := fp
  have fs : ∀ s, s ∈ h.rd → s.length ≤ 400 := fs
  have nd := scClosure.nd
  let Γ0 : Cxt := [some (tHis K h), some (tD K (dI pl)), none, none, none, none, none]
  have hu := hu_of hr
  refine ⟨fun σ H => Env Γ0 σ H0 ∧ H = H0, ⟨env_start (N := ["history", "plates", "found", "version", "deed", "some", "source"]) hvs, rfl⟩, ?_⟩
  refine h_asgE (i := 2) (n_d1 kkI (Γ := Γ0) 3 pl (fun v => tD K (.int v)) (fun _ => true) (fun v => v) (fun _ => .bool true) (by omega) (by rfl) (by exact hu) nd (i_tupM (yv 1)) (blkOk_by (N := ["history", "plates", "found", "version", "deed", "some", "source"]) (sc := defScope sClosure) (by decide +kernel)) rfl (by rfl) (fun _ _ _ _ _ _ _ => ts_no) (fun v hv _ _ _ _ _ _ => PY.int (yv 3)) (fun v hv _ _ _ _ _ _ => PY.ofBool y_bl))
    (M := fun σ H => ∃ D, H0 D = none ∧ ClS K D H0 Γ0 pl pl pl.length σ H) (fun σ H Q ⟨g, e⟩ k => ⟨by rw [e]; exact g, fun D ρ H' f s hD _ => k _ _ ⟨D, by rw [← e]; exact f, g.keep rfl, by rw [← e]; exact s, List.getElem?_set_self (by rw [g.len]; show 2 < 7; decide), _, ρ, hD, fun i => ?_, ?_⟩⟩) ?_ nd (hx := Or.inr rfl)
  · rw [filter_all, List.map_id', adds_mem]; simp
  · have := adds_len (ks := ([] : List Int)) (l := (pl.filter fun _ => true).map fun v => v)
    rw [filter_all, List.map_id'] at this ⊢
    simpa using this
  refine h_ex fun D => h_and fun hD0 => ?_
  let I : Zs → Nat → SP2 := fun z i σ H => SqL K H z.1 z.2 ∧ DpAll K H z.2 (h.rd.map dI) ∧ ClS K D H0 Γ0 pl (cloAt pl 0 (h.rd.take i)) (pl.length + i) σ H
  let B : Zs → Nat → SP2 := fun z i σ H => ∃ s, h.rd[i]? = some s ∧ I z i σ H ∧ σ[4]? = some (some (.int (i : Nat))) ∧ ∃ v, σ[5]? = some (some v) ∧ Dp K H v (dI s)
  refine h_for (Γ := Γ0) I B (by rfl) (g_enumL (ts := h.rd.map fun s => tD K (dI s)) (by rfl) T.fEnumerate (PY.to (y_fld T.cHistory T.nHistoryRead rfl (yv 0)) lst_ofM)) (pg_tup (by rfl) (pgs_cons (pg_name (i := 4) nd rfl (Or.inl rfl)) (pgs_cons (pg_name (i := 5) nd rfl (Or.inl rfl)) pgs_nil)))
    (fun σ H p => p.env.up p.same) (fun z σ H H' p s ⟨z1, z2⟩ => ⟨z1, ?_, p.up s⟩) (fun z i σ H _ p => p.1) (fun z i σ H H2 v lt p s ⟨T', y, e, hT, hy⟩ => ?_) (fun z i lt => ?_) ?_ (mono := mono_pair)
  · exact AllY.data (by rw [map_ty]; exact z2)
  · subst e
    have lt' : i < h.rd.length := by simpa using lt
    obtain ⟨d, d1, d2⟩ := dpAll_at p.2.1 hy
    rw [List.getElem?_map, List.getElem?_eq_getElem lt'] at d1
    cases d1
    exact gp_pair hT ⟨_, List.getElem?_eq_getElem lt', ⟨s.seq p.1, DpAll.up s p.2.1, ((p.2.2.up s).set rfl (by decide)).set rfl (by decide)⟩, by rw [List.getElem?_set_ne (by decide)]; exact List.getElem?_set_self (by rw [p.2.2.env.len]; show 4 < 7; decide), _, List.getElem?_set_self (by rw [List.length_set, p.2.2.env.len]; show 5 < 7; decide), Dp.up s d2⟩
  · refine h_ex fun sc => h_and fun hsc => ?_
    have lt' : i < h.rd.length := (List.getElem?_eq_some_iff.mp hsc).1
    have take1 : h.rd.take (i + 1) = h.rd.take i ++ [sc] := by rw [List.take_succ, hsc]; rfl
    have step := cloAt_snoc sc (h.rd.take i) pl 0
    rw [← take1, Nat.zero_add, List.length_take, Nat.min_eq_left (by omega)] at step
    let S := cloAt pl 0 (h.rd.take i)
    let Γ1 : Cxt := (Γ0.set 2 (some (tKset K S))).set 5 (some (tD K (dI sc)))
    refine h_if (b := sc.all fun v => decide (v ∈ S)) (Γ := Γ1) (y_t (PY.eq (y_all (bs := sc.map fun v => decide (v ∈ S)) (by rfl) (by rfl) T.fAll (PY.eq (y_lc1 6 sc (fun v => tD K (.int v)) (fun _ => true) (fun v => .bool (decide (v ∈ S))) (by have := fs sc (List.mem_of_getElem? hsc); omega) (fun _ _ => rfl) (by rfl) nd (i_tupM (yv 5)) (blkOk_by (N := ["history", "plates", "found", "version", "deed", "some", "source"]) (sc := defScope sClosure) (by decide +kernel)) rfl (by rfl) (fun _ _ _ _ _ _ _ => ts_no) (fun v hv _ _ _ _ _ _ => PY.ofBool ((y_inS (by exact hu) (PY.int (yv 6)) (yv 2)).val _))) ?_)) ?_))
      (fun σ H ⟨p, e4, v, e5, hv⟩ => ((p.2.2.env.up p.2.2.same).put p.2.2.slot p.2.2.kset).put e5 hv) (fun σ H H' ⟨p, e4, v, e5, hv⟩ s => ⟨⟨s.seq p.1, DpAll.up s p.2.1, p.2.2.up s⟩, e4, v, e5, Dp.up s hv⟩) (fun hall => ?_) (fun hall σ H ⟨p, _⟩ => ?_) (h_end fun σ H p => p) (M := I z (i + 1))
    · rw [filter_all]
      show _ = tD K (.list ((sc.map fun v => decide (v ∈ S)).map .bool))
      rw [List.map_map]; rfl
    · rw [List.all_map]; rfl
    · rw [hall] at step
      simp only [if_true] at step
      refine h_one (L2.ps_dput hu (t_var (i := 2)) (t_var (i := 4)) (y_bl (Γ := Γ1)) (by rfl)) fun Dd σ H ⟨p, e4, v, e5, hv⟩ m _ => ⟨((p.2.2.env.up p.2.2.same).put p.2.2.slot p.2.2.kset).put e5 hv, fun u H' s hu' => ?_⟩
      obtain ⟨ks, ρ, hD, hks, lks⟩ := p.2.2.dic
      have hD' := s _ _ hD
      refine ⟨_, p.2.2.slot, _, e4, D, _, rfl, DPut.k (k := Sum.inl (i : Int)) hD' (by rw [dkg_len]; exact sz_lt (by omega)), m _ _ ⟨seqL_upd hD' (kkI.no _) (s.seq p.1), DpAll.upd hD' (kkI.no _) (DpAll.up s p.2.1), p.2.2.env, Same.mut (p.2.2.same.trans s) hD0, p.2.2.slot, addk ks (i : Int), (fun j => if j = (i : Int) then u else ρ j), ?_, fun j => ?_, ?_⟩⟩
      · rw [upd_same]
        exact congrArg (fun z => some (HO.dK z)) (putK_dkg (f := (Sum.inl : Int → L2.Key)) kkI.inj)
      · rw [addk_mem, step, List.mem_cons, hks j, or_comm]
      · have := addk_len (ks := ks) (k := (i : Int)); omega
    · rw [hall] at step
      refine ⟨p.1, p.2.1, p.2.2.env, p.2.2.same, p.2.2.slot, ?_⟩
      obtain ⟨ks, ρ, hD, hks, lks⟩ := p.2.2.dic
      refine ⟨ks, ρ, hD, ?_, by omega⟩
      rw [step]; exact hks
  · refine h_ex fun z => h_retY (Γ := Γ0.set 2 (some (tKset K (clo pl h.rd)))) (yv 2) (fun σ H p => (p.2.2.env.up p.2.2.same).put p.2.2.slot ?_) fun σ H v H' p s hv => q v H' (p.2.2.same.trans s) hv
    have := p.2.2.kset
    rwa [List.length_map, List.take_length] at this
end
end Lp
/-! LpF7 -/
namespace Lp
open PySem PySem.Spec PyProof.Rows L2
theorem hu16 {A : Around} {k : Nat} (hr : Room k A) : A.units + 16 < cLine := Nat.lt_of_le_of_lt (Nat.add_le_add_left (by decide : 16 ≤ 64) _) hr.units
structure HSm (h : Hs) : Prop where
  rd : h.rd.length ≤ 400
  src : ∀ s, s ∈ h.rd → s.length ≤ 400
  la : h.la.length ≤ 400
theorem hist_sm {n : Nat} {ks : List Kd} {js : List Nat} (T : TabR n ks) (hj : ∀ j, j ∈ js → j < ks.length) (few : js.length ≤ 400) : HSm (hist n ks js) := by
  have sz := hist_sz (n := n) (ks := ks) (js := js)
  refine ⟨by rw [sz.rd]; exact few, ?_, by rw [sz.la]; have := T.n8; omega⟩
  have go : ∀ (js : List Nat) (h : Hs), (∀ j, j ∈ js → j < ks.length) → (∀ s, s ∈ h.rd → s.length ≤ 400) → ∀ s, s ∈ (js.foldl (fun h j => stepH h (ks.getD j (0, []))) h).rd → s.length ≤ 400 := by
    intro js
    induction js with
    | nil => exact fun h _ k => k
    | cons j js ih =>
      intro h hj k
      refine ih _ (fun i hi => hj i (List.mem_cons_of_mem _ hi)) fun s hs => ?_
      have hs' : s ∈ h.rd ++ [(ks.getD j (0, [])).2.map fun c => h.la.getD c 0] := hs
      rcases List.mem_append.mp hs' with hs | hs
      · exact k s hs
      · rw [List.mem_singleton.mp hs, List.length_map, List.getD_eq_getElem?_getD, List.getElem?_eq_getElem (hj j List.mem_cons_self)]
        exact Nat.le_trans (T.few _ (List.getElem_mem (hj j List.mem_cons_self))) (by decide)
  exact go js (hist0 n) hj fun s hs => (by cases hs)
def layF (h : Hs) (pl : List Int) (cs : List Nat) : List Int := cs.foldl (fun p c => p.set c (h.la.getD c 0)) pl
theorem layF_len {h : Hs} {cs : List Nat} : ∀ {pl : List Int}, (layF h pl cs).length = pl.length := by
  induction cs with
  | nil => intro pl; rfl
  | cons c cs ih => intro pl; show (layF h (pl.set c _) cs).length = _; rw [ih, List.length_set]
theorem layF_get {h : Hs} {cs : List Nat} {i : Nat} : ∀ {pl : List Int}, i < pl.length → (layF h pl cs).getD i 0 = if i ∈ cs then h.la.getD i 0 else pl.getD i 0 := by
  induction cs with
  | nil => intro pl hi; simp [layF]
  | cons c cs ih =>
    intro pl hi
    show (layF h (pl.set c _) cs).getD i 0 = _
    rw [ih (by rw [List.length_set]; exact hi)]
    by_cases m : i ∈ cs
    · rw [if_pos m, if_pos (List.mem_cons_of_mem _ m)]
    · rw [if_neg m]
      by_cases e : c = i
      · subst e
        rw [if_pos List.mem_cons_self, getD_set_self hi]
      · rw [if_neg (by rw [List.mem_cons]; exact fun z => z.elim (fun q => e q.symm) m), getD_set_ne e]
theorem layF_eq (h : Hs) (pl : List Int) (cs : List Nat) : layF h pl cs = withL h pl cs := by
  have l2 : (withL h pl cs).length = pl.length := by unfold withL; rw [List.length_map, List.length_range]
  apply List.ext_getElem (by rw [layF_len, l2])
  intro i h1 h2
  have hi : i < pl.length := by rwa [layF_len] at h1
  have a := layF_get (h := h) (cs := cs) hi
  rw [List.getD_eq_getElem?_getD, List.getElem?_eq_getElem h1] at a
  have b : (withL h pl cs)[i] = if i ∈ cs then h.la.getD i 0 else pl.getD i 0 := by simp only [withL, List.getElem_map, List.getElem_range]
  rw [b]; exact a
theorem wanted_eq (h : Hs) (pl : List Int) : ((pl.zipIdx).filter fun x => !decide (x.1 = h.la.getD x.2 0)).map (·.2) = wanted h pl := by
  unfold wanted
  have go : ∀ (pl' : List Int) (k : Nat) (f : Nat → Bool), (∀ x, x ∈ pl'.zipIdx k → (!decide (x.1 = h.la.getD x.2 0)) = f x.2) → ((pl'.zipIdx k).filter fun x => !decide (x.1 = h.la.getD x.2 0)).map (·.2) = (List.range' k pl'.length).filter f := by
    intro pl'
    induction pl' with
    | nil => intro k f _; rfl
    | cons v pl' ih =>
      intro k f hf
      rw [List.zipIdx_cons, List.length_cons, List.range'_succ, List.filter_cons, List.filter_cons]
      have e1 := hf (v, k) (by rw [List.zipIdx_cons]; exact List.mem_cons_self)
      have e2 := ih (k + 1) f fun x hx => hf x (by rw [List.zipIdx_cons]; exact List.mem_cons_of_mem _ hx)
      simp only [] at e1
      rw [e1]
      cases f k with
      | true => exact congrArg (k :: ·) e2
      | false => exact e2
  have := go pl 0 (fun c => !decide (pl.getD c 0 = h.la.getD c 0)) fun x hx => by
    have := zip_at hx
    have e3 : pl.getD x.2 0 = x.1 := by rw [List.getD_eq_getElem?_getD, this]; rfl
    rw [e3]
  rwa [← List.range_eq_range'] at this
section
variable {P : Program} {w : World} {K : PySem.W.Frag} {mg : Str → Option Value} {base : Heap}
theorem c_is_all_there (T : Tp K mg) : Callee P w K mg base "is_all_there" 2 ["history", "plates"] (SpY (fun z : Hs × List Int => [tHis K z.1, tD K (dI z.2)]) (fun z => HSm z.1 ∧ z.2.length ≤ 400) fun z => tBo (safeB z.1 z.2)) := by
  obtain ⟨fd, F, b⟩ := T.defIsAllThere
  refine ⟨_, fd, fnY F scIsAllThere (fun _ => rfl) (fun _ => none) (fun _ _ h => by cases h) fun ⟨h, pl⟩ ⟨sm, fp⟩ cdv A outer s H E hr => ?_, T.gIsAllThere, F.kp, b⟩
  have nd := scIsAllThere.nd
  have sm : HSm h := sm
  have fp : pl.length ≤ 400 := fp
  have hu := hu_of hr
  refine s_asg (i := 2) (y_call (c_closure T) hr (by rfl) (h, pl) ⟨sm.rd, fp, sm.src⟩ (ya_cons (yv 0) (ya_cons (yv 1) ya_nil))) ?_ nd (hx := Or.inr rfl)
  refine s_ret (PY.eq (y_all (bs := h.la.map fun v => decide (v ∈ clo pl h.rd)) (by rfl) (by rfl) T.fAll (PY.eq (y_lc1 3 h.la (fun v => tD K (.int v)) (fun _ => true) (fun v => .bool (decide (v ∈ clo pl h.rd))) (by have := sm.la; omega) (fun _ _ => rfl) (by rfl) nd (i_tupM (y_fld T.cHistory T.nHistoryLast rfl (yv 0))) (blkOk_by (N := ["history", "plates", "found", "version"]) (sc := defScope sIsAllThere) (by decide +kernel)) rfl (by rfl)
    (fun _ _ _ _ _ _ _ => ts_no) (fun v hv _ _ _ _ _ _ => PY.ofBool ((y_inS (by exact hu) (PY.int (yv 3)) (yv 2)).val _))) ?_)) ?_) rfl
  · rw [filter_all]
    show _ = tD K (.list ((h.la.map fun v => decide (v ∈ clo pl h.rd)).map .bool))
    rw [List.map_map]; rfl
  · rw [List.all_map]; rfl
theorem c_check_safe (T : Tp K mg) : Callee P w K mg base "check_safe" 6 ["table", "journal", "plates"] (SpY (fun z : Nat × List Kd × List Nat => [tTab K z.1 z.2.1, tD K (dT z.2.2), tD K (dI (la0 z.1))]) (fun z => TabR z.1 z.2.1 ∧ (∀ j, j ∈ z.2.2 → j < z.2.1.length) ∧ z.2.2.length ≤ 400 ∧ safeB (hist z.1 z.2.1 z.2.2) (la0 z.1) = true) fun z => tHis K (hist z.1 z.2.1 z.2.2)) := by
  obtain ⟨fd, F, b⟩ := T.defCheckSafe
  refine ⟨_, fd, fnY F scCheckSafe (fun _ => rfl) (fun _ => none) (fun _ _ h => by cases h) fun ⟨n, ks, js⟩ ⟨TR, hj, few, safe⟩ cdv A outer s H E hr => ?_, T.gCheckSafe, F.kp, b⟩
  refine s_asg (i := 3) (y_call (c_check_plates T) hr (by rfl) (n, ks, js) ⟨TR, hj, few⟩ (ya_cons (yv 0) (ya_cons (yv 1) (ya_cons (yv 2) ya_nil)))) ?_ scCheckSafe.nd
  refine s_ifR (k := false) (t_not (k := true) (y_t (PY.eq (y_call (c_is_all_there T) (hr.mono (by decide)) (by rfl) (hist n ks js, la0 n) ⟨hist_sm TR hj few, by rw [la0_len]; have := TR.n8; show n ≤ 400; have h8 : n ≤ 8 := TR.n8; omega⟩ (ya_cons (yv 3) (ya_cons (yv 2) ya_nil))) (congrArg tBo safe)))) (fun h => by cases h) fun _ => ?_
  exact s_ret (yv 3) rfl
theorem c_laid (T : Tp K mg) : Callee P w K mg base "laid" 1 ["history", "plates", "cell"] (SpY (fun z : Hs × List Int × Nat => [tHis K z.1, tD K (dI z.2.1), tI (z.2.2 : Int)]) (fun z => z.2.2 < z.2.1.length ∧ z.2.2 < z.1.la.length ∧ z.2.1.length ≤ 400) fun z => tD K (dI (z.2.1.set z.2.2 (z.1.la.getD z.2.2 0)))) := by
  obtain ⟨fd, F, b⟩ := T.defLaid
  refine ⟨_, fd, fnY F scLaid (fun _ => rfl) (fun _ => none) (fun _ _ h => by cases h) fun ⟨h, pl, c⟩ ⟨hc, hl, few⟩ cdv A outer s H E hr => ?_, T.gLaid, F.kp, b⟩
  have hc : c < pl.length := hc
  have hl : c < h.la.length := hl
  have few : pl.length ≤ 400 := few
  refine s_ret (PY.eq (y_catT (ds := (pl.map PyData.int).take c ++ [.int (h.la.getD c 0)]) (es' := (pl.map PyData.int).drop (c + 1)) (by simp; omega) (y_catT (ds := (pl.map PyData.int).take c) (es' := [.int (h.la.getD c 0)]) (by simp; omega) (y_slT0 (yv 1) (yv 2)) (y_tup (ds := [.int (h.la.getD c 0)]) (ya_cons (y_ixT (ds := h.la.map .int) (j := c) ?_ (y_fld T.cHistory T.nHistoryLast rfl (yv 0)) (yv 2)) ya_nil) (by show 1 ≤ 100000; decide))) (y_slT1 (i := c + 1) (yv 1) (PY.eq (y_add (yv 2) y_int) (congrArg tI (by simp))))) ?_) rfl
  · rw [List.getElem?_map, List.getElem?_eq_getElem hl, List.getD_eq_getElem?_getD, List.getElem?_eq_getElem hl]; rfl
  · show tD K _ = tD K (.tuple ((pl.set c (h.la.getD c 0)).map .int))
    rw [List.set_eq_take_append_cons_drop, if_pos hc]
    simp [List.map_take, List.map_drop]
theorem c_all_laid (T : Tp K mg) : Callee P w K mg base "all_laid" 2 ["history", "plates", "cells"] (SpY (fun z : Hs × List Int × List Nat => [tHis K z.1, tD K (dI z.2.1), tD K (dT z.2.2)]) (fun z => (∀ c, c ∈ z.2.2 → c < z.2.1.length ∧ c < z.1.la.length) ∧ z.2.1.length ≤ 400) fun z => tD K (dI (withL z.1 z.2.1 z.2.2))) := by
  obtain ⟨fd, F, b⟩ := T.defAllLaid
  refine ⟨_, fd, fnY F scAllLaid (fun _ => rfl) (fun _ => none) (fun _ _ h => by cases h) fun ⟨h, pl, cs⟩ ⟨hc, few⟩ cdv A outer s H E hr => ?_, T.gAllLaid, F.kp, b⟩
  have nd := scAllLaid.nd
  have hc : ∀ c, c ∈ cs → c < pl.length ∧ c < h.la.length := hc
  refine s_asg (i := 3) (yv 1) ?_ nd
  refine s_for (vs := [4]) (fun i => [some (tHis K h), some (tD K (dI pl)), some (tD K (dT cs)), some (tD K (dI (layF h pl (cs.take i)))), none]) (fun i => [some (tHis K h), some (tD K (dI pl)), some (tD K (dT cs)), some (tD K (dI (layF h pl (cs.take i)))), some (tD K (iN (cs.getD i 0)))]) (fun _ _ g => g) rfl
    (i_lot (yv 2)) (pg_name (i := 4) nd rfl (.inl rfl)) (fun i τ hτ => ?_) (fun i hi => ?_) (s_ret (yv 3) ?_)
  · rw [List.getElem?_map] at hτ
    cases e : cs[i]? with
    | none => rw [e] at hτ; cases hτ
    | some c =>
      rw [e] at hτ
      cases hτ
      have ec : cs.getD i 0 = c := by rw [List.getD_eq_getElem?_getD, e]; rfl
      rw [ec]
      exact tg_name List.mem_cons_self
  · have hil : i < cs.length := by simpa using hi
    have e : cs.getD i 0 = cs[i] := by rw [List.getD_eq_getElem?_getD, List.getElem?_eq_getElem hil]; rfl
    have hci := hc _ (List.getElem_mem hil)
    refine s_asg (i := 3) (PY.eq (y_call (c_laid T) hr (by rfl) (h, layF h pl (cs.take i), cs.getD i 0) ⟨?_, ?_, ?_⟩ (ya_cons (yv 0) (ya_cons (yv 3) (ya_cons (PY.int (yv 4)) ya_nil)))) (τ' := tD K (dI (layF h pl (cs.take (i + 1))))) ?_) (s_endW (fun σ H g => g.forget 4) rfl) nd
    · show cs.getD i 0 < (layF _ _ _).length; rw [layF_len, e]; exact hci.1
    · show cs.getD i 0 < h.la.length; rw [e]; exact hci.2
    · show (layF _ _ _).length ≤ 400; rw [layF_len]; exact few
    · show tD K (dI ((layF h pl (cs.take i)).set (cs.getD i 0) (h.la.getD (cs.getD i 0) 0))) = _
      rw [e]
      unfold layF
      rw [List.take_succ, List.getElem?_eq_getElem hil, List.foldl_append]; rfl
  · rw [List.length_map, List.take_length, layF_eq]
theorem c_left_of (T : Tp K mg) : Callee P w K mg base "left_of" 1 ["history", "plates"] (SpY (fun z : Hs × List Int => [tHis K z.1, tD K (dI z.2)]) (fun z => z.2.length ≤ 400 ∧ z.2.length ≤ z.1.la.length) fun z => tD K (dT (wanted z.1 z.2))) := by
  obtain ⟨fd, F, b⟩ := T.defLeftOf
  refine ⟨_, fd, fnY F scLeftOf (fun _ => rfl) (fun _ => none) (fun _ _ h => by cases h) fun ⟨h, pl⟩ ⟨few, hl⟩ cdv A outer s H E hr => ?_, T.gLeftOf, F.kp, b⟩
  have nd := scLeftOf.nd
  have few : pl.length ≤ 400 := few
  have hl : pl.length ≤ h.la.length := hl
  refine s_ret (y_tupleL (by rfl) T.fTuple (PY.eq (y_lc2 2 3 pl.zipIdx (fun x => tI ((x.2 : Nat) : Int)) (fun x => tD K (.int x.1)) (fun x => !decide (x.1 = h.la.getD x.2 0)) (fun x => iN x.2) (by rw [List.length_zipIdx]; omega) (fun _ _ => rfl) (by rfl) nd (i_enumTM (by rfl) T.fEnumerate (yv 1))
    (blkOk_by (N := ["history", "plates", "cell", "version"]) (sc := defScope sLeftOf) (by decide +kernel)) rfl rfl (by rfl) (by rfl) (fun x hx _ _ _ _ _ => ts_one ((c_neI (PY.int (yv 3)) (PY.int (y_ixT (ds := h.la.map .int) (j := x.2) ?_ (y_fld T.cHistory T.nHistoryLast rfl (yv 0)) (yv 2)))).tst _)) (fun x hx _ _ _ _ _ _ => PY.ofInt (yv 2))) ?_)) rfl
  · have hx2 : x.2 < h.la.length := Nat.lt_of_lt_of_le (List.getElem?_eq_some_iff.mp (zip_at hx)).1 hl
    rw [List.getElem?_map, List.getElem?_eq_getElem hx2, List.getD_eq_getElem?_getD, List.getElem?_eq_getElem hx2]; rfl
  · show tD K (.list _) = tD K (.list ((zs (wanted h pl)).map .int))
    rw [← wanted_eq]
    unfold zs
    rw [List.map_map, List.map_map]; rfl
theorem c_with_cell (T : Tp K mg) : Callee P w K mg base "with_cell" 1 ["lot", "cell"] (SpY (fun z : List Nat × Nat => [tD K (dT z.1), tI (z.2 : Int)]) (fun z => z.1.length ≤ 400) fun z => tTk (zs ((z.1 ++ [z.2]).mergeSort leC))) := by
  obtain ⟨fd, F, b⟩ := T.defWithCell
  refine ⟨_, fd, fnY F scWithCell (fun _ => rfl) (fun _ => none) (fun _ _ h => by cases h) fun ⟨l, c⟩ few cdv A outer s H E hr => ?_, T.gWithCell, F.kp, b⟩
  have few : l.length ≤ 400 := few
  refine s_ret (y_tupleK (by rfl) T.fTuple (PY.eq (n_sortT (by rfl) (hu16 hr) ordC (l ++ [c]) (fun _ _ => trivial) (by simp; omega) (by rfl) T.fSorted (PY.eq (y_catT (ds := (zs l).map .int) (es' := [iN c]) (by simp [zs]; omega) (yv 0) (y_tup (ds := [iN c]) (ya_cons (PY.ofInt (yv 1)) ya_nil) (by show 1 ≤ 100000; decide))) ?_)).y ?_)) rfl
  · show tD K (.tuple _) = _
    unfold zs
    rw [List.map_map, List.map_append]; rfl
  · show tD K (.list _) = _
    unfold zs
    rw [List.map_map]; rfl
end
end Lp
/-! LpLay -/
/-! Plain: counting the ways through lots. -/
namespace Lp
def sortC (l : List Nat) : List Nat := l.mergeSort leC
theorem sortC_perm (l : List Nat) : (sortC l).Perm l := List.mergeSort_perm _ _
theorem mem_sortC {l : List Nat} {c : Nat} : c ∈ sortC l ↔ c ∈ l := (sortC_perm l).mem_iff
theorem sortC_le (l : List Nat) : (sortC l).Pairwise (fun x y => leC x y = true) := ordC.pw l
theorem sortC_congr {l m : List Nat} (p : l.Perm m) : sortC l = sortC m := one_sorted ordC.anti ((sortC_perm l).trans (p.trans (sortC_perm m).symm)) (sortC_le l) (sortC_le m)
theorem sortC_lt {l : List Nat} (nd : l.Nodup) : (sortC l).Pairwise (· < ·) := by
  have h1 := sortC_le l
  have h2 : (sortC l).Nodup := (sortC_perm l).nodup_iff.mpr nd
  exact List.Pairwise.imp (fun {a b} h => by
    have h3 : ((a : Nat) : Int) ≤ (b : Int) := of_decide_eq_true h.1
    have h4 : a ≠ b := h.2
    omega) (h1.and h2)
theorem sortC_id {l : List Nat} (h : l.Pairwise (· < ·)) : sortC l = l := one_sorted ordC.anti (sortC_perm l) (sortC_le l) (h.imp fun {a b} h => decide_eq_true (by omega))
theorem asc_nodup {l : List Nat} (h : l.Pairwise (· < ·)) : l.Nodup := h.imp fun {a b} h => by omega
theorem asc_eq {l m : List Nat} (h1 : l.Pairwise (· < ·)) (h2 : m.Pairwise (· < ·)) (p : l.Perm m) : l = m := by
  rw [← sortC_id h1, ← sortC_id h2]; exact sortC_congr p
theorem withL_congr {h : Hs} {pl : List Int} {S S' : List Nat} (e : ∀ c, c ∈ S ↔ c ∈ S') : withL h pl S = withL h pl S' := by
  unfold withL
  refine List.map_congr_left fun c _ => ?_
  by_cases m : c ∈ S
  · rw [if_pos m, if_pos ((e c).mp m)]
  · rw [if_neg m, if_neg fun z => m ((e c).mpr z)]
theorem nodup_sub_perm {l m : List Nat} (nl : l.Nodup) (nm : m.Nodup) (h : ∀ c, c ∈ l → c ∈ m) (hl : m.length ≤ l.length) : l.Perm m := by
  induction l generalizing m with
  | nil => rw [List.eq_nil_of_length_eq_zero (Nat.le_zero.mp hl)]
  | cons x l ih =>
    have hx := h x List.mem_cons_self
    have p := List.perm_cons_erase hx
    refine List.Perm.trans (List.Perm.cons x (ih (m := m.erase x) (List.nodup_cons.mp nl).2 (nm.erase x) (fun c hc => ?_) ?_)) p.symm
    · have ne : c ≠ x := fun e => (List.nodup_cons.mp nl).1 (e ▸ hc)
      exact (List.mem_erase_of_ne ne).mpr (h c (List.mem_cons_of_mem _ hc))
    · rw [List.length_erase_of_mem hx]
      rw [List.length_cons] at hl
      omega
def subs {α : Type} : List α → List (List α)
  | [] => [[]]
  | x :: l => subs l ++ (subs l).map (x :: ·)
theorem subs_len {α : Type} : ∀ l : List α, (subs l).length = 2 ^ l.length
  | [] => rfl
  | x :: l => by
    show (subs l ++ (subs l).map (x :: ·)).length = _
    rw [List.length_append, List.length_map, subs_len l, List.length_cons, Nat.pow_succ]; omega
theorem subs_mem : ∀ {W l : List Nat}, W.Pairwise (· < ·) → l.Pairwise (· < ·) → (∀ c, c ∈ l → c ∈ W) → l ∈ subs W
  | [], l, _, _, h => by
    cases l with
    | nil => exact List.mem_singleton.mpr rfl
    | cons c l => exact absurd (h c List.mem_cons_self) List.not_mem_nil
  | x :: W, l, hW, hl, h => by
    show l ∈ subs W ++ (subs W).map (x :: ·)
    rw [List.mem_append]
    cases l with
    | nil => exact .inl (subs_mem (List.pairwise_cons.mp hW).2 List.Pairwise.nil fun c hc => (by cases hc))
    | cons c l =>
      have hl1 := List.pairwise_cons.mp hl
      have hW1 := List.pairwise_cons.mp hW
      by_cases e : c = x
      · subst e
        refine .inr (List.mem_map.mpr ⟨l, subs_mem hW1.2 hl1.2 fun d hd => ?_, rfl⟩)
        rcases List.mem_cons.mp (h d (List.mem_cons_of_mem _ hd)) with q | q
        · have := hl1.1 d hd; omega
        · exact q
      · refine .inl (subs_mem hW1.2 hl fun d hd => ?_)
        have hcW : c ∈ W := (List.mem_cons.mp (h c List.mem_cons_self)).resolve_left e
        rcases List.mem_cons.mp (h d hd) with q | q
        · subst q
          have h1 := hW1.1 c hcW
          rcases List.mem_cons.mp hd with z | z
          · omega
          · have := hl1.1 d z; omega
        · exact q
section
variable (h : Hs) (pl : List Int)
theorem wanted_asc : (wanted h pl).Pairwise (· < ·) := by
  unfold wanted
  exact List.Pairwise.filter _ List.pairwise_lt_range
def steps (lot : List Nat) : List Nat := (wanted h pl).filter fun c => !decide (c ∈ lot) && safeB h (withL h pl (sortC (lot ++ [c])))
def cntF : Nat → List Nat → Nat
  | 0, _ => 1
  | m + 1, lot => ((steps h pl lot).map fun c => cntF m (sortC (lot ++ [c]))).sum
def cnt (lot : List Nat) : Nat := cntF h pl ((wanted h pl).length - lot.length) lot
structure Lot (lot : List Nat) : Prop where
  asc : lot.Pairwise (· < ·)
  sub : ∀ c, c ∈ lot → c ∈ wanted h pl
variable {h pl}
theorem Lot.nil : Lot h pl [] := ⟨List.Pairwise.nil, fun c hc => (by cases hc)⟩
theorem Lot.full {lot : List Nat} (L : Lot h pl lot) (hl : (wanted h pl).length ≤ lot.length) : lot = wanted h pl :=
  asc_eq L.asc (wanted_asc h pl) (nodup_sub_perm (asc_nodup L.asc) (asc_nodup (wanted_asc h pl)) L.sub hl)
theorem Lot.lt {lot : List Nat} (L : Lot h pl lot) (ne : lot ≠ wanted h pl) : lot.length < (wanted h pl).length := by
  cases Nat.lt_or_ge lot.length (wanted h pl).length with
  | inl h => exact h
  | inr h => exact absurd (L.full h) ne
theorem Lot.le {lot : List Nat} (L : Lot h pl lot) : lot.length ≤ (wanted h pl).length := by
  by_cases e : lot = wanted h pl
  · rw [e]; exact Nat.le_refl _
  · exact Nat.le_of_lt (L.lt e)
theorem Lot.add {lot : List Nat} (L : Lot h pl lot) {c : Nat} (hc : c ∈ wanted h pl) (hn : c ∉ lot) : Lot h pl (sortC (lot ++ [c])) := by
  have nd : (lot ++ [c]).Nodup := List.nodup_append.mpr ⟨asc_nodup L.asc, List.nodup_cons.mpr ⟨List.not_mem_nil, List.nodup_nil⟩, fun x hx y hy e => hn (by rw [List.mem_singleton.mp hy] at e; rw [← e]; exact hx)⟩
  refine ⟨sortC_lt nd, fun d hd => ?_⟩
  rcases List.mem_append.mp (mem_sortC.mp hd) with q | q
  · exact L.sub d q
  · rw [List.mem_singleton.mp q]; exact hc
theorem add_len {lot : List Nat} {c : Nat} : (sortC (lot ++ [c])).length = lot.length + 1 := by rw [(sortC_perm _).length_eq]; simp
theorem mem_steps {lot : List Nat} {c : Nat} : c ∈ steps h pl lot ↔ c ∈ wanted h pl ∧ c ∉ lot ∧ safeB h (withL h pl (sortC (lot ++ [c]))) = true := by
  unfold steps
  rw [List.mem_filter]
  simp
theorem Lot.step {lot : List Nat} (L : Lot h pl lot) {c : Nat} (hc : c ∈ steps h pl lot) : Lot h pl (sortC (lot ++ [c])) := let m := mem_steps.mp hc; L.add m.1 m.2.1
theorem cnt_full : cnt h pl (wanted h pl) = 1 := by unfold cnt; rw [Nat.sub_self]; rfl
theorem cnt_step {lot : List Nat} (L : Lot h pl lot) (ne : lot ≠ wanted h pl) : cnt h pl lot = ((steps h pl lot).map fun c => cnt h pl (sortC (lot ++ [c]))).sum := by
  have lt := L.lt ne
  have e : (wanted h pl).length - lot.length = ((wanted h pl).length - lot.length - 1) + 1 := by omega
  have e2 : cnt h pl lot = ((steps h pl lot).map fun c => cntF h pl ((wanted h pl).length - lot.length - 1) (sortC (lot ++ [c]))).sum := by
    unfold cnt
    rw [e]; rfl
  rw [e2]
  congr 1
  refine List.map_congr_left fun c _ => ?_
  unfold cnt
  rw [add_len, Nat.sub_sub]
theorem sum_pos {l : List Nat} {x : Nat} (h : x ∈ l) (hx : 0 < x) : 0 < l.sum := by
  induction l with
  | nil => cases h
  | cons y l ih =>
    rw [List.sum_cons]
    rcases List.mem_cons.mp h with e | h
    · omega
    · have := ih h; omega
theorem pos_sum {l : List Nat} (h : 0 < l.sum) : ∃ x, x ∈ l ∧ 0 < x := by
  induction l with
  | nil => simp at h
  | cons y l ih =>
    rw [List.sum_cons] at h
    by_cases hy : 0 < y
    · exact ⟨y, List.mem_cons_self, hy⟩
    · obtain ⟨x, hx, hp⟩ := ih (by omega)
      exact ⟨x, List.mem_cons_of_mem _ hx, hp⟩
theorem next_pos {lot : List Nat} (L : Lot h pl lot) (ne : lot ≠ wanted h pl) (hp : 0 < cnt h pl lot) : ∃ c, c ∈ steps h pl lot ∧ 0 < cnt h pl (sortC (lot ++ [c])) := by
  rw [cnt_step L ne] at hp
  obtain ⟨x, hx, hp⟩ := pos_sum hp
  obtain ⟨c, hc, rfl⟩ := List.mem_map.mp hx
  exact ⟨c, hc, hp⟩
theorem lot_of {ord : List Nat} (p : ord.Perm (wanted h pl)) (i : Nat) : Lot h pl (sortC (ord.take i)) := by
  have nd : ord.Nodup := p.nodup_iff.mpr (asc_nodup (wanted_asc h pl))
  refine ⟨sortC_lt (nd.sublist (List.take_sublist _ _)), fun c hc => p.mem_iff.mp (List.mem_of_mem_take (mem_sortC.mp hc))⟩
theorem take_next {ord : List Nat} (p : ord.Perm (wanted h pl)) {i : Nat} (hi : i < ord.length) (safe : safeB h (withL h pl (ord.take (i + 1))) = true) : ord[i] ∈ steps h pl (sortC (ord.take i)) ∧ sortC (sortC (ord.take i) ++ [ord[i]]) = sortC (ord.take (i + 1)) := by
  have nd : ord.Nodup := p.nodup_iff.mpr (asc_nodup (wanted_asc h pl))
  have tk : ord.take (i + 1) = ord.take i ++ [ord[i]] := by rw [List.take_succ, List.getElem?_eq_getElem hi]; rfl
  have e1 : sortC (sortC (ord.take i) ++ [ord[i]]) = sortC (ord.take (i + 1)) := by rw [tk]; exact sortC_congr ((sortC_perm _).append_right _)
  refine ⟨mem_steps.mpr ⟨p.mem_iff.mp (List.getElem_mem hi), fun hc => ?_, ?_⟩, e1⟩
  · have h1 : ord[i] ∈ ord.take i := mem_sortC.mp hc
    have h2 : (ord.take (i + 1)).Nodup := nd.sublist (List.take_sublist _ _)
    rw [tk] at h2
    exact (List.nodup_append.mp h2).2.2 _ h1 _ (List.mem_singleton.mpr rfl) rfl
  · rw [e1, withL_congr (S' := ord.take (i + 1)) fun c => mem_sortC]; exact safe
theorem cnt_pos {ord : List Nat} (p : ord.Perm (wanted h pl)) (safe : ∀ i, safeB h (withL h pl (ord.take i)) = true) : 0 < cnt h pl [] := by
  have go : ∀ (m i : Nat), i + m = ord.length → 0 < cnt h pl (sortC (ord.take i)) := by
    intro m
    induction m with
    | zero =>
      intro i hi
      have e : sortC (ord.take i) = wanted h pl := by
        rw [show i = ord.length from hi, List.take_length, sortC_congr p, sortC_id (wanted_asc h pl)]
      rw [e, cnt_full]; decide
    | succ m ih =>
      intro i hi
      have lt : i < ord.length := by omega
      obtain ⟨st, e1⟩ := take_next p lt (safe (i + 1))
      have ne : sortC (ord.take i) ≠ wanted h pl := fun e => by
        have h1 := congrArg List.length e
        rw [(sortC_perm _).length_eq, List.length_take, ← p.length_eq] at h1
        omega
      rw [cnt_step (lot_of p i) ne]
      refine sum_pos (List.mem_map.mpr ⟨_, st, rfl⟩) ?_
      rw [e1]
      exact ih (i + 1) (by omega)
  have := go ord.length 0 (by omega)
  have e : sortC (ord.take 0) = [] := List.eq_nil_of_length_eq_zero (by rw [(sortC_perm _).length_eq]; rfl)
  rwa [e] at this
end
end Lp
/-! LpVol -/
/-! Expressions that change a few known objects. -/
namespace Lp
open PySem PySem.Spec PyProof.Rows L2
/-- but for the objects of M all stands as it stood -/
def EM (M : List Addr) (H H' : Hp) : Prop := ∀ a o, a ∉ M → H a = some o → H' a = some o
theorem EM.refl {M : List Addr} (H : Hp) : EM M H H := fun _ _ _ h => h
theorem EM.trans {M : List Addr} {H H1 H2 : Hp} (a : EM M H H1) (b : EM M H1 H2) : EM M H H2 := fun c o n h => b c o n (a c o n h)
theorem EM.same {M : List Addr} {H H' : Hp} (s : Same H H') : EM M H H' := fun a o _ h => s a o h
theorem EM.new {M : List Addr} {H H' : Hp} {D : Addr} {o : HO} (e : EM M H H') (h : H D = none) : EM M H (upd H' D o) := fun a u n ha => by rw [upd_ne (ne_of_none ha h)]; exact e a u n ha
theorem EM.own {M : List Addr} {H H' : Hp} {D : Addr} {o : HO} (e : EM M H H') (h : D ∈ M) : EM M H (upd H' D o) := fun a u n ha => by rw [upd_ne (fun z : a = D => n (by rw [z]; exact h))]; exact e a u n ha
theorem EM.mono {M M' : List Addr} {H H' : Hp} (e : EM M H H') (h : ∀ a, a ∈ M → a ∈ M') : EM M' H H' := fun a o n ha => e a o (fun z => n (h a z)) ha
def NoTup (H : Hp) (m : Addr) : Prop := ∃ o, H m = some o ∧ (∀ xs, o ≠ .tup xs) ∧ ∀ ob xs, o ≠ .frz ob (.tup xs)
theorem EM.tupK {K : PySem.W.Frag} {M : List Addr} {H H' : Hp} (e : EM M H H') (n : ∀ m, m ∈ M → NoTup H m) : TupK K H H' := fun a xs q => by
  rcases q with (q | ⟨ob, q⟩) | q
  · refine .inl (.inl (e _ _ (fun z => ?_) q))
    obtain ⟨o, h1, h2, _⟩ := n a z
    rw [q] at h1
    exact h2 xs (Option.some.inj h1).symm
  · refine .inl (.inr ⟨ob, e _ _ (fun z => ?_) q⟩)
    obtain ⟨o, h1, _, h3⟩ := n a z
    rw [q] at h1
    exact h3 ob xs (Option.some.inj h1).symm
  · exact .inr q
theorem EM.seqL {K : PySem.W.Frag} {M : List Addr} {H H' : Hp} {a : Addr} {xs : List V} (e : EM M H H') (n : a ∉ M) (q : SqL K H a xs) : SqL K H' a xs := by
  rcases q with (q | ⟨ob, q⟩) | q
  · exact .inl (.inl (e _ _ n q))
  · exact .inl (.inr ⟨ob, e _ _ n q⟩)
  · exact .inr q
inductive All2 {α β : Type} (R : α → β → Prop) : List α → List β → Prop
  | nil : All2 R [] []
  | cons {a : α} {b : β} {l : List α} {m : List β} : R a b → All2 R l m → All2 R (a :: l) (b :: m)
theorem All2.snoc {α β : Type} {R : α → β → Prop} {a : α} {b : β} : ∀ {l : List α} {m : List β}, All2 R l m → R a b → All2 R (l ++ [a]) (m ++ [b])
  | _, _, .nil, h => .cons h .nil
  | _, _, .cons h t, h' => .cons h (t.snoc h')
theorem All2.len {α β : Type} {R : α → β → Prop} : ∀ {l : List α} {m : List β}, All2 R l m → m.length = l.length
  | _, _, .nil => rfl
  | _, _, .cons _ t => by simp [t.len]
theorem All2.eq {α β : Type} {g : α → β} : ∀ {l : List α} {m : List β}, All2 (fun a b => b = g a) l m → m = l.map g
  | _, _, .nil => rfl
  | _, _, .cons h t => by rw [h, t.eq]; rfl
theorem All2.left {α β : Type} {R : α → β → Prop} : ∀ {l : List α} {m : List β}, All2 R l m → ∀ b, b ∈ m → ∃ a, a ∈ l ∧ R a b
  | _, _, .cons h t, b, hb => by
    rcases List.mem_cons.mp hb with e | hb
    · subst e; exact ⟨_, List.mem_cons_self, h⟩
    · obtain ⟨a, h1, h2⟩ := t.left b hb
      exact ⟨a, List.mem_cons_of_mem _ h1, h2⟩
section
variable {K : PySem.W.Frag} {Γ : Cxt} {σ : L2.St} {H1 : Hp} {Q : VK}
theorem lcV {M : List Addr} {β : Type} (G : Nat → Hp → Prop) (Gdep : ∀ i H H', G i H → (∀ m, m ∈ M → H' m = H m) → G i H') (Gno : ∀ i H, G i H → ∀ m, m ∈ M → NoTup H m) (l : List β) (hz : l.length ≤ 100000) (tyx : β → Ty) (f : β → Bool) (pd : β → PyData → Prop) (hpd : ∀ x d, x ∈ l → pd x d → fz d = true)
    {J : It} {j : Nat} {tt : TT} {te : TE} {ok : Hp → Prop} {val : Nat → V → Prop} (g0 : G 0 H1) (env : ∀ H', EM M H1 H' → Env Γ σ H') (wk : W2 J ok l.length fun i v _ => val i v) (zok : ∀ H', EM M H1 H' → ok H') (zval : ∀ H' i v x, EM M H1 H' → val i v → l[i]? = some x → (tyx x).is v H')
    (htt : ∀ i x σ' H', l[i]? = some x → EM M H1 H' → G i H' → Env (Γ.set j (some (tyx x))) σ' H' → ∀ Q, (∀ H'', EM M H' H'' → G i H'' → Q (f x) H'') → tt σ' H' Q)
    (hte : ∀ i x σ' H', l[i]? = some x → f x = true → EM M H1 H' → G i H' → Env (Γ.set j (some (tyx x))) σ' H' → ∀ Q, (∀ v d H'', EM M H' H'' → G (i + 1) H'' → pd x d → Dp K H'' v d → Q v H'') → te σ' H' Q)
    (skip : ∀ i x H', l[i]? = some x → f x = false → G i H' → G (i + 1) H')
    (fin : ∀ D vs ds H', H1 D = none → EM M H1 H' → G l.length H' → H' D = some (.lst vs) → DpAll K H' vs ds → All2 pd (l.filter f) ds → Q (.ref D) H') :
    ∀ D, H1 D = none → ∃ W : Nat → Nat → Hp → Prop, (∃ m, W 0 m (upd H1 D (.lst []))) ∧ ∀ i m H, W i m H →
      (J.stop i H ∧ Q (.ref D) H) ∨ (J.go i H ∧ ∃ Nx : Hp → Prop, (∀ H', Nx H' → ∃ m', m' < m ∧ W (i + 1) m' H') ∧ ∀ x H', J.yld i H x H' → gName j x (wipe σ [j]) H' fun σ2 H2 => wipe σ2 [j] = wipe σ [j] ∧ tt σ2 H2 fun b H3 =>
        if b = true then te σ2 H3 fun y H4 => ∃ acc, H4 D = some (.lst acc) ∧ acc.length < sizeLine ∧ Nx (upd H4 D (.lst (acc ++ [y]))) else Nx H3) := by
  intro D hD
  have DM : D ∉ M := fun z => by
    obtain ⟨o, h, _⟩ := Gno 0 H1 g0 D z
    rw [hD] at h; cases h
  have apart : ∀ m, m ∈ M → m ≠ D := fun m hm e => DM (e ▸ hm)
  let W : Nat → Nat → Hp → Prop := fun i m H' => m = l.length - i ∧ i ≤ l.length ∧ EM M H1 H' ∧ G i H' ∧ ∃ vs ds, H' D = some (.lst vs) ∧ DpAll K H' vs ds ∧ All2 pd ((l.take i).filter f) ds
  refine ⟨W, ⟨l.length, by simp, Nat.zero_le _, (EM.refl H1).new hD, Gdep 0 H1 _ g0 fun m hm => upd_ne (apart m hm), [], [], upd_same, .nil, .nil⟩, ?_⟩
  rintro i m H' ⟨rfl, hi', e1, gi, vs, ds, hvs, hd, h2⟩
  by_cases lt : i < l.length
  · refine .inr ⟨wk.goes i H' (zok H' e1) lt, W (i + 1) (l.length - (i + 1)), fun H'' w => ⟨_, by omega, w⟩, fun x H2 y => ?_⟩
    obtain ⟨s3, hv⟩ := wk.yields i H' x H2 (zok H' e1) y lt
    obtain ⟨z, hz1⟩ : ∃ z, l[i]? = some z := ⟨_, List.getElem?_eq_getElem lt⟩
    have hzl : z ∈ l := List.mem_of_getElem? hz1
    have e2 : EM M H1 H2 := e1.trans (EM.same s3)
    have hM : ∀ m, m ∈ M → H2 m = H' m := fun m hm => by
      obtain ⟨o, h, _⟩ := Gno i H' gi m hm
      rw [h]; exact s3 _ _ h
    have gi2 : G i H2 := Gdep i H' H2 gi hM
    have envx : ∀ H'', EM M H1 H'' → Env (Γ.set j (some (tyx z))) ((wipe σ [j]).set j (some x)) H'' := fun H'' e => by
      show Env _ ((σ.set j none).set j (some x)) H''
      rw [List.set_set]
      exact (env H'' e).set (zval H'' i x z e hv hz1)
    refine ⟨?_, htt i z _ H2 hz1 e2 gi2 (envx H2 e2) _ fun H3 e3 gi3 => ?_⟩
    · show ((σ.set j none).set j (some x)).set j none = σ.set j none
      rw [List.set_set, List.set_set]
    have tk : (l.take (i + 1)).filter f = (l.take i).filter f ++ (if f z = true then [z] else []) := by
      rw [List.take_succ, hz1]
      show (l.take i ++ [z]).filter f = _
      rw [List.filter_append]
      cases hf : f z <;> simp [hf]
    have hD2 : H2 D = some (.lst vs) := s3 _ _ hvs
    have dpEM : ∀ {Ha Hb : Hp} {i : Nat}, G i Ha → EM M Ha Hb → DpAll K Ha vs ds → DpAll K Hb vs ds := fun g e q => by
      have fzd : fzA ds = true := fzA_all fun d hdd => by
        obtain ⟨a, ha, hp⟩ := h2.left d hdd
        exact hpd a d (List.mem_of_mem_take (List.mem_filter.mp ha).1) hp
      exact DpAll.fz (e.tupK (Gno _ _ g)) fzd q
    cases hf : f z with
    | true =>
      rw [hf, if_pos rfl] at tk
      rw [if_pos rfl]
      refine hte i z _ H3 hz1 hf (e2.trans e3) gi3 (envx H3 (e2.trans e3)) _ fun v d H4 e4 gi4 pv dv => ?_
      have hD4 : H4 D = some (.lst vs) := e4 _ _ DM (e3 _ _ DM hD2)
      have hd4 := dpEM gi3 e4 (dpEM gi2 e3 (DpAll.up s3 hd))
      have tkD := TupK.upd (K := K) (o' := .lst (vs ++ [v])) hD4 (by intro xs h; cases h) (by intro ob xs h; cases h)
      have all := All2.snoc h2 pv
      have fzd : fzA (ds ++ [d]) = true := fzA_all fun d' hdd => by
        obtain ⟨a, ha, hp⟩ := all.left d' hdd
        rcases List.mem_append.mp ha with ha | ha
        · exact hpd a d' (List.mem_of_mem_take (List.mem_filter.mp ha).1) hp
        · rw [List.mem_singleton.mp ha] at hp; exact hpd z d' hzl hp
      refine ⟨vs, hD4, ?_, rfl, lt, ((e2.trans e3).trans e4).new hD, Gdep _ H4 _ gi4 fun m hm => upd_ne (apart m hm), vs ++ [v], ds ++ [d], upd_same, DpAll.fz tkD fzd (dpAll_app hd4 (.cons dv .nil)), ?_⟩
      · have h5 := dpAll_len hd
        have h6 := h2.len
        have h7 := List.length_filter_le f (l.take i)
        rw [List.length_take] at h7
        exact sz_lt (by omega)
      · rw [tk]; exact all
    | false =>
      rw [hf] at tk
      rw [if_neg (by decide)]
      refine ⟨rfl, lt, e2.trans e3, skip i z H3 hz1 hf gi3, vs, ds, e3 _ _ DM hD2, dpEM gi2 e3 (DpAll.up s3 hd), ?_⟩
      rw [tk]; simpa using h2
  · obtain rfl : i = l.length := by omega
    rw [List.take_length] at h2
    exact .inl ⟨wk.stops H' (zok H' e1), fin D vs ds H' hD e1 gi hvs hd h2⟩
end
end Lp
/-! LpF8 -/
namespace Lp
open PySem PySem.Spec PyProof.Rows L2
def tAny : Ty := ⟨fun _ _ => True, fun _ h => h⟩
/-- an empty dict with tuple keys, made behind Hb -/
def tEmp (Hb : Hp) : Ty := ⟨fun v H => ∃ D, v = .ref D ∧ H D = some (.dT []) ∧ Hb D = none, fun e ⟨D, h1, h2, h3⟩ => ⟨D, h1, e _ _ h2, h3⟩⟩
/-- and all of Hb stands -/
def tSince (Hb : Hp) (τ : Ty) : Ty := ⟨fun v H => τ.is v H ∧ Same Hb H, fun e ⟨h1, h2⟩ => ⟨τ.up e h1, h2.trans e⟩⟩
abbrev layFs (K : PySem.W.Frag) (h : Hs) (pl : List Int) (τ : Ty) : List (Str × Ty) := [("history", tHis K h), ("plates", tD K (dI pl)), ("wanted", tD K (dT (wanted h pl))), ("known", τ)]
abbrev tLay (K : PySem.W.Frag) (h : Hs) (pl : List Int) (τ : Ty) : Ty := tObj (He.ga K "Layings") (layFs K h pl τ)
section
variable {X : Cx} {Γ : Cxt} {e o : Expr} {es : List Expr} {pos apos : Pos} {α : Type} {C : Addr} {m : Str} {args : α → List Ty} {dom : α → Prop} {res : α → Ty} {k : Nat} {ps : List Str} {ts : List (Str × Ty)} {τs : List Ty}
theorem y_mcall {pl : Sem Bool} (c : CalleeM X.prog X.w X.K X.mg X.base C m k ps (SpY args dom res)) (hr : Room k X.A) (ho : PY X o Γ (tObj C ts)) (hn : ts.lookup m = none) (z : α) (hz : dom z) (ha : PYA X (e :: es) Γ τs) (hargs : args z = tObj C ts :: τs)
    (hst : starEach (e :: es) X.env = (false, eval e X.env) :: starEach es X.env := by rfl) (hpl : (backTo pos (starEach es X.env)).any (·.1) = false := by rfl)
    (ht : eval (.Call (.Attribute o m apos) (e :: es) [] pos) X.env = (do
      let ov ← eval o X.env
      standAt apos.atName
      let (f, first) ← holding [ov] (getMethod ov m pl)
      callWith pos f first (backTo pos (starEach (e :: es) X.env)) (backToKw pos (keywordEach [] X.env))) := by rfl) : PY X (.Call (.Attribute o m apos) (e :: es) [] pos) Γ (res z) := by
  obtain ⟨f, fd, F, cl, M, b⟩ := c.ex
  refine y_meth (pe_meth ho cl M F hr b .nil pass0 ha hst hpl ht) hn fun v vs H Q hv hvs q E => ⟨z, hz, ?_, q⟩
  rw [hargs]
  exact .cons hv hvs
end
section
variable {P : Program} {w : World} {K : PySem.W.Frag} {mg : Str → Option Value} {base : Heap}
structure LayOk (h : Hs) (pl : List Int) : Prop where
  sm : HSm h
  p8 : pl.length ≤ 8
  la : pl.length ≤ h.la.length
theorem LayOk.few {h : Hs} {pl : List Int} (L : LayOk h pl) : (wanted h pl).length ≤ 8 := by
  unfold wanted
  exact Nat.le_trans (List.length_filter_le _ _) (by rw [List.length_range]; exact L.p8)
theorem LayOk.cell {h : Hs} {pl : List Int} (L : LayOk h pl) {c : Nat} (hc : c ∈ wanted h pl) : c < pl.length ∧ c < h.la.length := by
  unfold wanted at hc
  have := List.mem_range.mp (List.mem_filter.mp hc).1
  exact ⟨this, Nat.lt_of_lt_of_le this L.la⟩
theorem c_layings (T : Tp K mg) : CalleeI P w K mg base (He.ga K "Layings") 2 ["self", "history", "plates"] (SpI (He.ga K "Layings") (fun z : Hs × List Int × Hp => [tSince z.2.2 (tHis K z.1), tD K (dI z.2.1)]) (fun z => LayOk z.1 z.2.1) fun z => layFs K z.1 z.2.1 (tEmp z.2.2)) := by
  obtain ⟨fd, F, b⟩ := T.defLayingsInit
  refine ⟨_, fd, fnH F scLayingsInit (fun vs H Q E ⟨x, dx, z, rest, H0, e, _, _, _, _, _, h, _⟩ => by rw [e, List.length_cons, h.len]; rfl) fun vs H Q E hsp cdv A outer s hr => ?_, T.kLayings, b⟩
  obtain ⟨x, dx, ⟨h, pl, Hb⟩, rest, H0, rfl, nx, ndx, nex, rfl, ok, hvs, q⟩ := hsp
  have ok : LayOk h pl := ok
  obtain ⟨vh, vp, rfl, ⟨hh, hHb⟩, hp⟩ := all2 hvs
  have nd := scLayingsInit.nd
  let Γ0 : Cxt := [none, some (tHis K h), some (tD K (dI pl))]
  have sameB : Same H0 (upd (upd H0 dx (.own x)) x (.ins (He.ga K "Layings") dx [])) := Same.mut (Same.new ndx) nx
  have env0 : Env Γ0 (L2.start ["self", "history", "plates"] [.ref x, vh, vp]) H0 := by
    have e := env_start (N := ["self", "history", "plates"]) (AllY.cons (τ := tV (.ref x)) rfl (AllY.cons hh (AllY.cons hp .nil)))
    exact e.forget 0
  let S : List (Str × V) → SP2 := fun fs σ H => Env Γ0 σ H0 ∧ Same H0 H ∧ (σ[0]? = some (some (.ref x)) ∧ σ[1]? = some (some vh) ∧ σ[2]? = some (some vp)) ∧ H x = some (.ins (He.ga K "Layings") dx fs)
  refine ⟨S [], ⟨env0, sameB, ⟨rfl, rfl, rfl⟩, upd_same⟩, ?_⟩
  refine h_by (M := S [("history", vh)]) (ps_fld (t_var (i := 0)) (t_var (i := 1)) (by rfl)) (fun D σ H ⟨g, sm, ⟨e0, e1, e2⟩, hx⟩ m _ => ⟨vh, e1, _, e0, x, _, dx, [], rfl, hx, T.cLayings, T.nLayingsHistory, by decide, m _ _ ⟨g, Same.mut sm nx, ⟨e0, e1, e2⟩, upd_same⟩⟩) ?_
  refine h_by (M := S [("history", vh), ("plates", vp)]) (ps_fld (t_var (i := 0)) (t_var (i := 2)) (by rfl)) (fun D σ H ⟨g, sm, ⟨e0, e1, e2⟩, hx⟩ m _ => ⟨vp, e2, _, e0, x, _, dx, _, rfl, hx, T.cLayings, T.nLayingsPlates, by show 1 < 1000; decide, m _ _ ⟨g, Same.mut sm nx, ⟨e0, e1, e2⟩, upd_same⟩⟩) ?_
  refine h_fld (Γ := Γ0) (t_var (i := 0)) (y_call (c_left_of T) hr (by rfl) (h, pl) ⟨by have := ok.p8; show pl.length ≤ 400; omega, ok.la⟩ (ya_cons (yv 1) (ya_cons (yv 2) ya_nil))) (fun σ H p => p.1.up p.2.1) (fun σ H ⟨g, sm, ⟨e0, e1, e2⟩, hx⟩ => ⟨x, _, dx, _, hx, T.cLayings, T.nLayingsWanted, by show 2 < 1000; decide, fun H' Q s k => ⟨_, e0, k⟩, fun v H' s hv => ?_⟩)
    (M := fun σ H => ∃ vw, S [("history", vh), ("plates", vp), ("wanted", vw)] σ H ∧ Dp K H vw (dT (wanted h pl))) ?_
  · have tk := tupK_ins (K := K) (o' := .ins (He.ga K "Layings") dx (putF "wanted" v [("history", vh), ("plates", vp)])) (s _ _ hx)
    exact ⟨v, ⟨g, Same.mut (sm.trans s) nx, ⟨e0, e1, e2⟩, upd_same⟩, Dp.fz tk (fz_ints _) hv⟩
  refine h_ex fun vw => ?_
  refine h_one (ps_fld (t_var (i := 0)) pe_dnewT (by rfl)) fun D σ H ⟨⟨g, sm, ⟨e0, e1, e2⟩, hx⟩, hw⟩ m _ => fun d hd => ⟨_, e0, x, _, dx, [("history", vh), ("plates", vp), ("wanted", vw)], rfl, ?_, T.cLayings, T.nLayingsKnown, by show 3 < 1000; decide, m _ _ (q _ _ (Same.mut (sm.trans (Same.new hd)) nx) upd_same ?_)⟩
  · rw [upd_ne (ne_of_none hx hd)]; exact hx
  · have ne : x ≠ d := ne_of_none hx hd
    have s2 : Same H0 (upd (upd H d (.dT [])) x (.ins (He.ga K "Layings") dx (putF "known" (.ref d) [("history", vh), ("plates", vp), ("wanted", vw)]))) := Same.mut (sm.trans (Same.new hd)) nx
    have hx' : (upd H d (.dT [])) x = some (.ins (He.ga K "Layings") dx [("history", vh), ("plates", vp), ("wanted", vw)]) := by rw [upd_ne ne]; exact hx
    have tk := tupK_ins (K := K) (o' := .ins (He.ga K "Layings") dx (putF "known" (.ref d) [("history", vh), ("plates", vp), ("wanted", vw)])) hx'
    exact .cons ((tHis K h).up s2 hh) (.cons ((tD K (dI pl)).up s2 hp) (.cons (Dp.fz tk (fz_ints _) (Dp.up (Same.new hd) hw)) (.cons ⟨d, rfl, by rw [upd_ne ne.symm]; exact upd_same, hHb.free (sm.free hd)⟩ .nil)))
theorem c_is_safe_with (T : Tp K mg) : CalleeM P w K mg base (He.ga K "Layings") "is_safe_with" 3 ["self", "lot"] (SpY (fun z : Hs × List Int × List Nat => [tLay K z.1 z.2.1 tAny, tD K (dT z.2.2)]) (fun z => LayOk z.1 z.2.1 ∧ ∀ c, c ∈ z.2.2 → c ∈ wanted z.1 z.2.1) fun z => tBo (safeB z.1 (withL z.1 z.2.1 z.2.2))) := by
  obtain ⟨fd, F, b⟩ := T.defLayingsIsSafeWith
  refine ⟨_, fd, fnY F scLayingsIsSafeWith (fun _ => rfl) (fun _ => none) (fun _ _ h => by cases h) fun ⟨h, pl, lot⟩ ⟨ok, hl⟩ cdv A outer s H E hr => ?_, T.cLayings, T.mLayingsIsSafeWith, b⟩
  have ok : LayOk h pl := ok
  have lw : (withL h pl lot).length = pl.length := by unfold withL; rw [List.length_map, List.length_range]
  refine s_ret (y_call (c_is_all_there T) hr (by rfl) (h, withL h pl lot) ⟨ok.sm, by rw [lw]; have := ok.p8; omega⟩ (ya_cons (y_fld T.cLayings T.nLayingsHistory rfl (yv 0)) (ya_cons (y_call (c_all_laid T) hr (by rfl) (h, pl, lot) ⟨fun c hc => ok.cell (hl c hc), by have := ok.p8; show pl.length ≤ 400; omega⟩ (ya_cons (y_fld T.cLayings T.nLayingsHistory rfl (yv 0)) (ya_cons (y_fld T.cLayings T.nLayingsPlates rfl (yv 0)) (ya_cons (yv 1) ya_nil)))) ya_nil))) rfl
theorem c_steps_from (T : Tp K mg) : CalleeM P w K mg base (He.ga K "Layings") "steps_from" 4 ["self", "lot"] (SpY (fun z : Hs × List Int × List Nat => [tLay K z.1 z.2.1 tAny, tD K (dT z.2.2)]) (fun z => LayOk z.1 z.2.1 ∧ Lot z.1 z.2.1 z.2.2) fun z => tD K (.list ((steps z.1 z.2.1 z.2.2).map iN))) := by
  obtain ⟨fd, F, b⟩ := T.defLayingsStepsFrom
  refine ⟨_, fd, fnY F scLayingsStepsFrom (fun _ => rfl) (fun _ => none) (fun _ _ h => by cases h) fun ⟨h, pl, lot⟩ ⟨ok, L⟩ cdv A outer s H E hr => ?_, T.cLayings, T.mLayingsStepsFrom, b⟩
  have ok : LayOk h pl := ok
  have L : Lot h pl lot := L
  have l8 := Nat.le_trans L.le ok.few
  refine s_ret (y_lc1 2 (wanted h pl) (fun c => tD K (iN c)) (fun c => !decide (c ∈ lot) && safeB h (withL h pl (sortC (lot ++ [c])))) iN (by have := ok.few; omega) (fun _ _ => rfl) (by rfl) scLayingsStepsFrom.nd (i_lot (y_fld T.cLayings T.nLayingsWanted rfl (yv 0)))
    (blkOk_by (N := ["self", "lot", "cell"]) (sc := defScope sLayingsStepsFrom) (by decide +kernel)) rfl (by rfl) (fun c hc _ _ _ _ _ => ts_one (t_w (w_and (k := !decide (c ∈ lot)) (PYT.eq ((c_ninT (is := zs lot) (PY.int (yv 2)) (yv 1)).tst _) (by rw [decide_eq_decide.mpr mem_zs])) fun hn => w_and1 (y_t (PY.eq (y_mcall (c_is_safe_with T) (by exact hr) (PY.to (yv 0) fun _ _ q => q) rfl (h, pl, sortC (lot ++ [c])) ⟨ok, fun d hd => ?_⟩ (ya_cons (PY.to (y_call (c_with_cell T) (by exact hr.mono (by decide)) (by rfl) (lot, c) (by show lot.length ≤ 400; omega) (ya_cons (yv 1) (ya_cons (PY.int (yv 2)) ya_nil))) tk_data) ya_nil) rfl) rfl))))) (fun c hc _ _ _ _ _ _ => yv 2)) rfl
  rcases List.mem_append.mp (mem_sortC.mp hd) with q | q
  · exact L.sub d q
  · rw [List.mem_singleton.mp q]; exact hc
end
end Lp
/-! LpF9 -/
namespace Lp
open PySem PySem.Spec PyProof.Rows L2
theorem canL_ints : ∀ ns : List Int, PyData.canLayAll0 (ns.map .int) = true
  | [] => rfl
  | _ :: r => by simp [PyData.canLayAll0, PyData.canLay0, canL_ints r]
theorem shaped_dI (l : List Int) : SeqAt.shaped (dI l) = true := by
  show SeqAt.shaped (.tuple (l.map .int)) = true
  simp [SeqAt.shaped, PyData.canLay0, PyData.depth, canL_ints, PySem.W.depth_ints]
theorem eqv_dT (l m : List Nat) : PyData.eqv (dT l) (dT m) = decide (l = m) := by
  rw [eqv_ints]
  exact decide_eq_decide.mpr ⟨zs_inj, fun e => by rw [e]⟩
/-! ### kinds that stay while a known dict changes -/
def XS (D : Addr) (τ : Ty) : Prop := ∀ v H H', (∃ kvs, H D = some (.dT kvs)) → EM [D] H H' → τ.is v H → τ.is v H'
section
variable {D : Addr} {K : PySem.W.Frag} {H H' : Hp}
theorem x_seqL (hD : ∃ kvs, H D = some (.dT kvs)) (e : EM [D] H H') {a : Addr} {xs : List V} (q : SqL K H a xs) : SqL K H' a xs := by
  obtain ⟨kvs, hD⟩ := hD
  have ne : ∀ u, H a = some u → u ≠ .dT kvs → a ∉ [D] := fun u hu hn z => by
    rw [List.mem_singleton.mp z, hD] at hu
    exact hn (Option.some.inj hu).symm
  rcases q with (q | ⟨ob, q⟩) | q
  · exact .inl (.inl (e _ _ (ne _ q (by intro z; cases z)) q))
  · exact .inl (.inr ⟨ob, e _ _ (ne _ q (by intro z; cases z)) q⟩)
  · exact .inr q
theorem x_seqT (hD : ∃ kvs, H D = some (.dT kvs)) (e : EM [D] H H') {a : Addr} {xs : List V} (q : SqT K H a xs) : SqT K H' a xs := by
  obtain ⟨kvs, hD⟩ := hD
  have ne : ∀ u, H a = some u → u ≠ .dT kvs → a ∉ [D] := fun u hu hn z => by
    rw [List.mem_singleton.mp z, hD] at hu
    exact hn (Option.some.inj hu).symm
  rcases q with (q | ⟨ob, q⟩) | q
  · exact .inl (.inl (e _ _ (ne _ q (by intro z; cases z)) q))
  · exact .inl (.inr ⟨ob, e _ _ (ne _ q (by intro z; cases z)) q⟩)
  · exact .inr q
mutual
theorem Dp.em (hD : ∃ kvs, H D = some (.dT kvs)) (e : EM [D] H H') : ∀ {v : V} {d : PyData}, Dp K H v d → Dp K H' v d
  | _, _, .non => .non
  | _, _, .bl b => .bl b
  | _, _, .int i => .int i
  | _, _, .str x => .str x
  | _, _, .lst q a => .lst (x_seqL hD e q) (DpAll.em hD e a)
  | _, _, .tup q a => .tup (x_seqT hD e q) (DpAll.em hD e a)
theorem DpAll.em (hD : ∃ kvs, H D = some (.dT kvs)) (e : EM [D] H H') : ∀ {vs : List V} {ds : List PyData}, DpAll K H vs ds → DpAll K H' vs ds
  | _, _, .nil => .nil
  | _, _, .cons q a => .cons (Dp.em hD e q) (DpAll.em hD e a)
end
theorem xs_data {d : PyData} : XS D (tD K d) := fun _ _ _ h e q => Dp.em h e q
theorem xs_v {u : V} : XS D (tV u) := fun _ _ _ _ _ q => q
theorem xs_any : XS D tAny := fun _ _ _ _ _ q => q
theorem xs_tk {l : List Int} : XS D (tTk l) := fun v H H' ⟨kvs, hD⟩ e ⟨b, e1, h⟩ => ⟨b, e1, e _ _ (fun z => by rw [List.mem_singleton.mp z, hD] at h; cases h) h⟩
theorem xs_relF (hD : ∃ kvs, H D = some (.dT kvs)) (e : EM [D] H H') : ∀ {ts : List (Str × Ty)} {fs : List (Str × V)}, (∀ p, p ∈ ts → XS D p.2) → RelF ts fs H → RelF ts fs H'
  | _, _, _, .nil => .nil
  | _, _, st, .cons h a => .cons (st _ List.mem_cons_self _ _ _ hD e h) (xs_relF hD e (fun p hp => st p (List.mem_cons_of_mem _ hp)) a)
theorem xs_obj {C : Addr} {ts : List (Str × Ty)} (st : ∀ p, p ∈ ts → XS D p.2) : XS D (tObj C ts) := fun v H H' hD e ⟨a, dx, fs, e1, h1, h2⟩ => ⟨a, dx, fs, e1, e _ _ (fun z => by
  obtain ⟨kvs, hD⟩ := hD
  rw [List.mem_singleton.mp z, hD] at h1; cases h1) h1, xs_relF hD e st h2⟩
theorem xs_his {h : Hs} : XS D (tHis K h) := xs_obj fun p hp => by
  simp only [List.mem_cons, List.not_mem_nil, or_false] at hp
  rcases hp with rfl | rfl | rfl <;> exact xs_data
theorem xs_lay {h : Hs} {pl : List Int} {u : V} : XS D (tLay K h pl (tV u)) := xs_obj fun p hp => by
  simp only [List.mem_cons, List.not_mem_nil, or_false] at hp
  rcases hp with rfl | rfl | rfl | rfl
  · exact xs_his
  · exact xs_data
  · exact xs_data
  · exact xs_v
theorem Env.em {Γ : Cxt} {σ : L2.St} (g : Env Γ σ H) (st : ∀ (i : Nat) (τ : Ty), Γ[i]? = some (some τ) → XS D τ) (hD : ∃ kvs, H D = some (.dT kvs)) (e : EM [D] H H') : Env Γ σ H' := ⟨g.len, fun i τ hi => by
  obtain ⟨v, h1, h2⟩ := g.at_ i τ hi
  exact ⟨v, h1, st i τ hi v H H' hD e h2⟩⟩
end
/-! ### the known ways -/
def KnW (h : Hs) (pl : List Int) (D : Addr) (H : Hp) (p : List (List Int) → Prop) : Prop := ∃ ks ρ, H D = some (.dT (dkg kkT.f ks ρ)) ∧ ks.Nodup ∧ (∀ k, k ∈ ks → ∃ lot, k = zs lot ∧ Lot h pl lot ∧ ρ k = .int (cnt h pl lot : Nat)) ∧ p ks
abbrev Kn (h : Hs) (pl : List Int) (D : Addr) (H : Hp) : Prop := KnW h pl D H fun _ => True
theorem KnW.at_ {h : Hs} {pl : List Int} {D : Addr} {H H' : Hp} {p : List (List Int) → Prop} (k : KnW h pl D H p) (e : H' D = H D) : KnW h pl D H' p := let ⟨ks, ρ, a, b⟩ := k; ⟨ks, ρ, by rw [e]; exact a, b⟩
theorem KnW.up {h : Hs} {pl : List Int} {D : Addr} {H H' : Hp} {p : List (List Int) → Prop} (k : KnW h pl D H p) (e : Same H H') : KnW h pl D H' p := let ⟨ks, ρ, a, b⟩ := k; ⟨ks, ρ, e _ _ a, b⟩
theorem KnW.dic {h : Hs} {pl : List Int} {D : Addr} {H : Hp} {p : List (List Int) → Prop} (k : KnW h pl D H p) : ∃ kvs, H D = some (.dT kvs) := let ⟨_, _, a, _⟩ := k; ⟨_, a⟩
theorem KnW.weak {h : Hs} {pl : List Int} {D : Addr} {H : Hp} {p : List (List Int) → Prop} (k : KnW h pl D H p) : Kn h pl D H := let ⟨ks, ρ, a, b, c, _⟩ := k; ⟨ks, ρ, a, b, c, trivial⟩
theorem KnW.few {h : Hs} {pl : List Int} {ks : List (List Int)} {ρ : List Int → V} (ok : LayOk h pl) (nd : ks.Nodup) (hk : ∀ k, k ∈ ks → ∃ lot, k = zs lot ∧ Lot h pl lot ∧ ρ k = .int (cnt h pl lot : Nat)) : ks.length ≤ 256 := by
  have h1 := Lq.few_of (D := (subs (wanted h pl)).map zs) nd fun k hkk => by
    obtain ⟨lot, e, L, _⟩ := hk k hkk
    rw [e]
    exact List.mem_map.mpr ⟨lot, subs_mem (wanted_asc h pl) L.asc L.sub, rfl⟩
  rw [List.length_map, subs_len] at h1
  have h2 : 2 ^ (wanted h pl).length ≤ 2 ^ 8 := Nat.pow_le_pow_right (by decide) ok.few
  have : (2 : Nat) ^ 8 = 256 := by decide
  omega
def SpCount (K : PySem.W.Frag) (m : Nat) : Sp := fun vs H Q _ => ∃ x D h pl lot b, vs = [.ref x, .ref b] ∧ LayOk h pl ∧ Lot h pl lot ∧ (wanted h pl).length - lot.length ≤ m ∧ (tLay K h pl (tV (.ref D))).is (.ref x) H ∧ H b = some (.tup ((zs lot).map V.int)) ∧ Kn h pl D H ∧ ∀ H', EM [D] H H' → Kn h pl D H' → Q (.int (cnt h pl lot : Nat)) H'
section
variable {X : Cx} {Γ : Cxt} {c : Expr} {pos : Pos} {ss rest body : List Stmt} {P M N : SP2} {R : V → Hp → Prop}
/-- if c: body, the answer not known ahead -/
theorem h_ifU {tc : TT} {P1 : Bool → SP2} (hc : PT X c tc) (q : ∀ σ H (Q : Bool → Hp → Prop), P σ H → (∀ b H', P1 b σ H' → Q b H') → tc σ H Q) (h1 : HT X body (P1 true) M R) (h0 : ∀ σ H, P1 false σ H → M σ H) (hr : HT X rest M N R) : HT X (.If c body [] pos :: rest) P N R :=
  h_by (t := tIfS tc (tHT (P1 true) M R) (tHT (P1 false) M R)) (ps_if hc h1 (h_end h0)) (fun D σ H p m r => q σ H _ p fun b H' pb => by
    cases b with
    | true => exact ⟨pb, m, r⟩
    | false => exact ⟨pb, m, r⟩) hr
end
section
variable {P : Program} {w : World} {K : PySem.W.Frag} {mg : Str → Option Value} {base : Heap}
theorem lay_any {h : Hs} {pl : List Int} {τ : Ty} : ∀ v H, (tLay K h pl τ).is v H → (tLay K h pl tAny).is v H := fun v H ⟨a, dx, fs, e, h1, h2⟩ => by
  refine ⟨a, dx, fs, e, h1, ?_⟩
  cases h2 with
  | cons a1 t => cases t with
    | cons a2 t => cases t with
      | cons a3 t => cases t with
        | cons a4 t => cases t; exact .cons a1 (.cons a2 (.cons a3 (.cons trivial .nil)))
theorem nat_sum (l : List Nat) : ((l.map fun (c : Nat) => (c : Int)).sum) = ((l.sum : Nat) : Int) := by
  induction l with
  | nil => rfl
  | cons x l ih => rw [List.map_cons, List.sum_cons, List.sum_cons, ih]; omega
theorem kn_no {h : Hs} {pl : List Int} {D : Addr} {H : Hp} (k : Kn h pl D H) : ∀ m, m ∈ [D] → NoTup H m := fun m hm => by
  obtain ⟨kvs, e⟩ := k.dic
  rw [List.mem_singleton.mp hm]
  exact ⟨_, e, fun xs z => (by cases z), fun ob xs z => (by cases z)⟩
theorem count_body (T : Tp K mg) (m : Nat) (ih : ∀ m', m = m' + 1 → CalleeM P w K mg base (He.ga K "Layings") "count" (5 + m') ["self", "lot"] (SpCount K m')) : CalleeM P w K mg base (He.ga K "Layings") "count" (5 + m) ["self", "lot"] (SpCount K m) := by
  obtain ⟨fd, F, b⟩ := T.defLayingsCount
  refine ⟨_, fd, ?_, T.cLayings, T.mLayingsCount, b⟩
  have lev : 5 + m = (4 + m) + 1 := by omega
  rw [lev]
  refine fnH F scLayingsCount (fun vs H Q E ⟨x, D, h, pl, lot, b, e, _⟩ => by rw [e]; rfl) fun vs H0 Q E hsp cdv A outer s hr => ?_
  obtain ⟨x, D, h, pl, lot, bl, rfl, ok, L, hm, hx, hb, kn, q⟩ := hsp
  have nd := scLayingsCount.nd
  have hu := hu_of hr
  have l8 := Nat.le_trans L.le ok.few
  let Γ0 : Cxt := [some (tLay K h pl (tV (.ref D))), some (tTk (zs lot)), none]
  have xst : ∀ (i : Nat) (τ : Ty), Γ0[i]? = some (some τ) → XS D τ := fun i τ hi => by
    match i, hi with
    | 0, hi => cases hi; exact xs_lay
    | 1, hi => cases hi; exact xs_tk
    | 2, hi => cases hi
    | i + 3, hi => cases hi
  let S : (List (List Int) → Prop) → SP2 := fun p σ H => Env Γ0 σ H ∧ EM [D] H0 H ∧ KnW h pl D H p
  have up : ∀ p σ H H', S p σ H → Same H H' → S p σ H' := fun p σ H H' ⟨g, e, k⟩ s => ⟨g.up s, e.trans (EM.same s), k.up s⟩
  have put : ∀ σ H3 y, S (fun _ => True) σ H3 → (tTk (zs lot)).is y H3 → ∃ H4, DPut H3 D y (.int (cnt h pl lot : Nat)) H4 ∧ S (fun ks => zs lot ∈ ks) σ H4 := fun σ H3 y ⟨g, e, k⟩ hy => by
    obtain ⟨ks, ρ, hD, ndk, hk, _⟩ := k
    have few := KnW.few ok ndk hk
    have e4 : EM [D] H3 (upd H3 D (kkT.cons (putK (dkg kkT.f ks ρ) (kkT.f (zs lot)) (.int (cnt h pl lot : Nat))))) := (EM.refl H3).own List.mem_cons_self
    refine ⟨_, kkT.put (k := zs lot) hy hD (by rw [dkg_len]; exact sz_lt (by omega)), g.em xst ⟨_, hD⟩ e4, e.trans e4, addk ks (zs lot), (fun j => if j = zs lot then .int (cnt h pl lot : Nat) else ρ j), ?_, addk_nodup ndk, fun k hkk => ?_, addk_mem.mpr (.inr rfl)⟩
    · rw [upd_same, putK_dkg kkT.inj]; rfl
    · by_cases ek : k = zs lot
      · exact ⟨lot, ek, L, if_pos ek⟩
      · obtain ⟨lot', e1, L', e2⟩ := hk k ((addk_mem.mp hkk).resolve_right ek)
        exact ⟨lot', e1, L', by show (if k = zs lot then _ else ρ k) = _; rw [if_neg ek]; exact e2⟩
  refine ⟨S fun _ => True, ⟨env_start (N := ["self", "lot", "cell"]) (AllY.cons (τ := tLay K h pl (tV (.ref D))) hx (AllY.cons (τ := tTk (zs lot)) ⟨bl, rfl, hb⟩ .nil)), EM.refl _, kn⟩, ?_⟩
  refine h_ifU (P1 := fun b => if b = true then S (fun _ => True) else S (fun ks => zs lot ∈ ks)) (M := S fun ks => zs lot ∈ ks) (pt_cmp (pc_dnotin (by exact hu) (yv 1 (Γ := Γ0)) (y_fld T.cLayings T.nLayingsKnown rfl (yv 0 (Γ := Γ0)))) (by rfl)) (fun σ H Q p k => ⟨p.1, fun y H1 s1 hy => ⟨p.1.up s1, fun v H2 s2 hv => ?_⟩⟩) ?_ (fun σ H p => p) ?_
  · have p2 := up _ _ _ _ p (s1.trans s2)
    obtain ⟨ks, ρ, hD, ndk, hk, _⟩ := p2.2.2
    refine ⟨D, _, hv, kkT.get (k := zs lot) ((tTk _).up s2 hy) hD, _, rfl, k _ H2 ?_⟩
    rw [valV_dkg kkT.inj]
    by_cases c : zs lot ∈ ks
    · rw [if_pos c]
      show S (fun ks => zs lot ∈ ks) σ H2
      exact ⟨p2.1, p2.2.1, ks, ρ, hD, ndk, hk, c⟩
    · rw [if_neg c]
      exact p2
  · -- a new lot
    refine h_ifE (b := decide (lot = wanted h pl)) (Γ := Γ0) (PYT.eq ((c_eqD (d := dT lot) (e := dT (wanted h pl)) (by exact hr.units) (shaped_dI _) (shaped_dI _) (PY.ofTk (yv 1)) (y_fld T.cLayings T.nLayingsWanted rfl (yv 0))).tst _) (eqv_dT _ _)) (fun σ H p => p.1) (fun σ H H' p s => up _ _ _ _ p s) (M := S fun ks => zs lot ∈ ks) (fun hl => ?_) (fun hl => ?_) (h_end fun σ H p => p)
    · refine h_one (L2.ps_dput (by exact hu) (y_fld T.cLayings T.nLayingsKnown rfl (yv 0 (Γ := Γ0))) (yv 1 (Γ := Γ0)) (y_int (Γ := Γ0)) (by rfl)) fun Dd σ H p m _ => ⟨p.1, fun v H1 s1 hv => ⟨p.1.up s1, fun d H2 s2 hd => ⟨p.1.up (s1.trans s2), fun y H3 s3 hy => ?_⟩⟩⟩
      have e1 : cnt h pl lot = 1 := by rw [of_decide_eq_true hl]; exact cnt_full
      obtain ⟨H4, a, b⟩ := put σ H3 y (up _ _ _ _ p ((s1.trans s2).trans s3)) hy
      rw [e1] at a
      exact ⟨D, H4, hd, by rw [show v = V.int ((1 : Nat) : Int) from hv]; exact a, m _ _ b⟩
    · have ne : lot ≠ wanted h pl := of_decide_eq_false hl
      have lt := L.lt ne
      obtain ⟨m', rfl⟩ : ∃ m', m = m' + 1 := ⟨m - 1, by omega⟩
      obtain ⟨f', fd', F', cl, M', b'⟩ := (ih m' rfl).ex
      have hr' : Room (5 + m') (A.deeper (envOfC "Layings.count" (defScope sLayingsCount) s.heap.objs.size (He.fAd K ("Layings", some "count")) cdv)) := by
        have e : 4 + (m' + 1) = 5 + m' := by omega
        rw [← e]; exact hr
      have steps8 : (steps h pl lot).length ≤ 8 := Nat.le_trans (List.length_filter_le _ _) ok.few
      let Γc : Nat → Cxt := fun c => Γ0.set 2 (some (tD K (iN c)))
      let teC : TE := fun σ H Q => ∃ z : { c // c ∈ steps h pl lot }, tMeth (He.ga K "Layings") "count" (SpCount K m') [] E0 (tY (Γc z.1) (tLay K h pl (tV (.ref D)))) (tYA (Γc z.1) [tTk (zs (sortC (lot ++ [z.1])))]) σ H Q
      refine h_one (L2.ps_dput (by exact hu) (y_fld T.cLayings T.nLayingsKnown rfl (yv 0 (Γ := Γ0))) (yv 1 (Γ := Γ0)) (tv := fun σ H Q => S (fun _ => True) σ H ∧ ∀ H', S (fun _ => True) σ H' → Q (.int (cnt h pl lot : Nat)) H') ?_ (by rfl)) fun Dd σ H p m _ => ⟨p, fun H1 p1 => ⟨p1.1, fun d H2 s2 hd => ⟨p1.1.up s2, fun y H3 s3 hy => ?_⟩⟩⟩
      · refine PE.imp (pe_callB (x := "sum") (cr_sum (by rfl)) (by rfl) T.fSum (by decide +kernel) (pa_cons (pe_lc (own := [("cell", 2)]) (g := gName 2) (tt := tYes) (by rfl) nd (g_list (PY.to (y_mcall (c_steps_from T) (by exact hr'.mono (by omega)) (PY.to (yv 0 (Γ := Γ0)) lay_any) rfl (h, pl, lot) ⟨ok, L⟩ (ya_cons (PY.ofTk (yv 1)) ya_nil) rfl) lst_ofM)) (blkOk_by (N := ["self", "lot", "cell"]) (sc := defScope sLayingsCount) (by decide +kernel)) (fun _ _ _ _ _ => pg_name (i := 2) nd rfl (Or.inl rfl)) (fun _ _ _ _ _ => pts_nil)
          (te := teC)
          (fun _ _ _ _ _ => pe_ex fun z => pe_meth (yv 0) cl M' F' (by exact hr') b' .nil pass0 (ya_cons (y_call (c_with_cell T) (by exact hr'.mono (by omega)) (by rfl) (lot, z.1) (by show lot.length ≤ 400; omega) (ya_cons (PY.ofTk (yv 1)) (ya_cons (PY.int (yv 2)) ya_nil))) ya_nil))) pa_nil)) fun σ H Q ⟨p, k⟩ => ?_
        refine ⟨p.1, fun z J H1 s1 ⟨z1, z2⟩ wk => ?_⟩
        have p1 := up _ _ _ _ p s1
        rw [List.length_map] at wk
        refine lcV (K := K) (M := [D]) (tt := tYes) (te := teC) (Q := fun v H' => rSum K [v] H' Q) (fun _ H' => Kn h pl D H') (fun i H H' k e => k.at_ (e D List.mem_cons_self)) (fun i H k => kn_no k) (steps h pl lot) (by omega) (fun c => tD K (iN c)) (fun _ => true) (fun c d => d = .int (cnt h pl (sortC (lot ++ [c])) : Nat)) (fun c d _ e => by rw [e]; rfl) (Γ := Γ0) (j := 2) (ok := fun H => SqL K H z.1 z.2) (val := fun i v => z.2[i]? = some v) p1.2.2 (fun H' e => p1.1.em xst p1.2.2.dic e) wk (fun H' e => x_seqL p1.2.2.dic e z1) (fun H' i v c e hv hc => ?_) (fun i c σ' H' hc e gi env Q q => q H' (EM.refl _) gi) (fun i c σ' H' hc _ e gi env Q q => ?_) (fun i c H' hc hf => by cases hf) (fun D' vs ds H' f e gn hD' hdp hall => ?_)
        · obtain ⟨τ, t1, t2⟩ := z2.at hv
          rw [List.getElem?_map, hc] at t1
          cases t1
          exact xs_data _ _ _ p1.2.2.dic e t2
        · have hcm : c ∈ steps h pl lot := List.mem_of_getElem? hc
          refine ⟨⟨c, hcm⟩, env, fun v H2 s2 ⟨a, dx, fs, ev, ha, rf⟩ => ⟨a, dx, fs, ev, ha, rf.none rfl, env.up s2, fun vs H3 s3 hvs => ?_⟩⟩
          obtain ⟨b2, rfl, b3, e4, hb3⟩ := all1 hvs
          subst ev; subst e4
          refine ⟨a, D, h, pl, sortC (lot ++ [c]), b3, rfl, ok, L.step hcm, by rw [add_len]; omega, ((tLay K h pl (tV (.ref D))).up s3 ⟨a, dx, fs, rfl, ha, rf⟩), hb3, gi.up (s2.trans s3), fun H4 e5 k5 => q _ (.int (cnt h pl (sortC (lot ++ [c])) : Nat)) H4 ((EM.same (s2.trans s3)).trans e5) k5 rfl (.int _)⟩
        · rw [filter_all] at hall
          have ed := hall.eq
          subst ed
          have ed2 : (steps h pl lot).map (fun c => PyData.int (cnt h pl (sortC (lot ++ [c])) : Nat)) = (((steps h pl lot).map fun c => cnt h pl (sortC (lot ++ [c]))).map fun (c : Nat) => (c : Int)).map .int := by rw [List.map_map, List.map_map]; rfl
          rw [ed2] at hdp
          rw [dpAll_ints hdp] at hD'
          refine ⟨D', _, rfl, SqL.of hD', ?_⟩
          rw [nat_sum, ← cnt_step L ne]
          exact k H' ⟨p1.1.em xst p1.2.2.dic e, p1.2.1.trans e, gn⟩
      · obtain ⟨H4, a, b⟩ := put σ H3 y (up _ _ _ _ p1 (s2.trans s3)) hy
        exact ⟨D, H4, hd, a, m _ _ b⟩
  · -- what is known
    refine h_one (ps_ret (pe_dget (by exact hu) (y_fld T.cLayings T.nLayingsKnown rfl (yv 0 (Γ := Γ0))) (yv 1 (Γ := Γ0)) (fun _ _ => rfl))) fun Dd σ H p n r => ⟨p.1, fun d H1 s1 hd => ⟨p.1.up s1, fun y H2 s2 hy => ?_⟩⟩
    have p2 := up _ _ _ _ p (s1.trans s2)
    obtain ⟨ks, ρ, hD, ndk, hk, hin⟩ := p2.2.2
    obtain ⟨lot', e1, L', e2⟩ := hk _ hin
    obtain rfl := zs_inj e1
    have g := kkT.get (k := zs lot) hy hD
    rw [valV_dkg kkT.inj, if_pos hin] at g
    exact ⟨D, _, hd, g, r _ _ (by rw [e2]; exact q H2 p2.2.1 ⟨ks, ρ, hD, ndk, hk, trivial⟩)⟩
theorem c_count (T : Tp K mg) : ∀ m, CalleeM P w K mg base (He.ga K "Layings") "count" (5 + m) ["self", "lot"] (SpCount K m)
  | 0 => count_body T 0 fun m' e => (by cases e)
  | m + 1 => count_body T (m + 1) fun m' e => by cases e; exact c_count T m
end
end Lp
/-! LpF10 -/
namespace Lp
open PySem PySem.Spec PyProof.Rows L2
theorem xs_set {Γ : Cxt} {D : Addr} {j : Nat} {τ0 : Ty} (h : ∀ (i : Nat) (τ : Ty), Γ[i]? = some (some τ) → XS D τ) (t : XS D τ0) : ∀ (i : Nat) (τ : Ty), (Γ.set j (some τ0))[i]? = some (some τ) → XS D τ := fun i τ hi => by
  by_cases e : j = i
  · subst e
    by_cases hl : j < Γ.length
    · rw [List.getElem?_set_self hl] at hi
      cases hi; exact t
    · rw [List.getElem?_eq_none (by simp; omega)] at hi; cases hi
  · rw [List.getElem?_set_ne e] at hi
    exact h i τ hi
/-- an order of laying that is safe behind each step -/
structure Order (h : Hs) (pl : List Int) (ord : List Nat) : Prop where
  perm : ord.Perm (wanted h pl)
  safe : ∀ i, i < ord.length → safeB h (withL h pl (ord.take (i + 1))) = true
def SpOrder (K : PySem.W.Frag) : Sp := fun vs H Q _ => ∃ x D h pl, vs = [.ref x] ∧ LayOk h pl ∧ (tLay K h pl (tV (.ref D))).is (.ref x) H ∧ Kn h pl D H ∧ 0 < cnt h pl [] ∧ ∀ H' v ord, EM [D] H H' → Order h pl ord → Dp K H' v (dT ord) → Q v H'
/-- a way that is begun -/
structure Begun (h : Hs) (pl : List Int) (f : List Nat) : Prop where
  nd : f.Nodup
  sub : ∀ c, c ∈ f → c ∈ wanted h pl
  safe : ∀ i, i < f.length → safeB h (withL h pl (f.take (i + 1))) = true
  pos : 0 < cnt h pl (sortC f)
theorem Begun.lot {h : Hs} {pl : List Int} {f : List Nat} (b : Begun h pl f) : Lot h pl (sortC f) := ⟨sortC_lt b.nd, fun c hc => b.sub c (mem_sortC.mp hc)⟩
theorem Begun.nil {h : Hs} {pl : List Int} (hp : 0 < cnt h pl []) : Begun h pl [] := ⟨List.nodup_nil, fun _ h => (by cases h), fun _ h => (by cases h), by
  have e : sortC [] = [] := List.eq_nil_of_length_eq_zero (by rw [(sortC_perm _).length_eq]; rfl)
  rw [e]; exact hp⟩
theorem sort_snoc (f : List Nat) (c : Nat) : sortC (sortC f ++ [c]) = sortC (f ++ [c]) := sortC_congr ((sortC_perm _).append_right _)
theorem Begun.next {h : Hs} {pl : List Int} {f : List Nat} (b : Begun h pl f) {c : Nat} (hc : c ∈ steps h pl (sortC f)) (hp : 0 < cnt h pl (sortC (sortC f ++ [c]))) : Begun h pl (f ++ [c]) := by
  obtain ⟨m1, m2, m3⟩ := mem_steps.mp hc
  rw [sort_snoc] at m3 hp
  refine ⟨List.nodup_append.mpr ⟨b.nd, List.nodup_cons.mpr ⟨List.not_mem_nil, List.nodup_nil⟩, fun x hx y hy e => m2 (mem_sortC.mpr (by rw [List.mem_singleton.mp hy] at e; rw [← e]; exact hx))⟩, fun d hd => ?_, fun i hi => ?_, hp⟩
  · rcases List.mem_append.mp hd with q | q
    · exact b.sub d q
    · rw [List.mem_singleton.mp q]; exact m1
  · rw [List.length_append, List.length_singleton] at hi
    by_cases lt : i < f.length
    · rw [List.take_append_of_le_length (by omega)]; exact b.safe i lt
    · rw [List.take_of_length_le (by simp; omega)]
      rw [withL_congr (S' := sortC (f ++ [c])) fun d => mem_sortC.symm]
      exact m3
theorem Begun.done {h : Hs} {pl : List Int} {f : List Nat} (b : Begun h pl f) (e : sortC f = wanted h pl) : Order h pl f := ⟨by rw [← e]; exact (sortC_perm f).symm, b.safe⟩
theorem Begun.len {h : Hs} {pl : List Int} {f : List Nat} (b : Begun h pl f) : f.length ≤ (wanted h pl).length := by
  have := b.lot.le
  rwa [(sortC_perm f).length_eq] at this
section
variable {P : Program} {w : World} {K : PySem.W.Frag} {mg : Str → Option Value} {base : Heap}
theorem c_order (T : Tp K mg) : CalleeM P w K mg base (He.ga K "Layings") "order" 14 ["self"] (SpOrder K) := by
  obtain ⟨fd, F, b⟩ := T.defLayingsOrder
  refine ⟨_, fd, fnH F scLayingsOrder (fun vs H Q E ⟨x, D, h, pl, e, _⟩ => by rw [e]; rfl) fun vs H0 Q E hsp cdv A outer s hr => ?_, T.cLayings, T.mLayingsOrder, b⟩
  obtain ⟨x, D, h, pl, rfl, ok, hx, kn, hpos, q⟩ := hsp
  obtain ⟨f', fd', F', cl, M', b'⟩ := (c_count (P := P) (w := w) (base := base) T 8).ex
  have nd := scLayingsOrder.nd
  have hu := hu_of hr
  have w8 := ok.few
  let Γ0 : Cxt := [some (tLay K h pl (tV (.ref D))), none, none, none, none]
  have xst : ∀ (i : Nat) (τ : Ty), Γ0[i]? = some (some τ) → XS D τ := fun i τ hi => by
    match i, hi with
    | 0, hi => cases hi; exact xs_lay
    | 1, hi => cases hi
    | 2, hi => cases hi
    | 3, hi => cases hi
    | 4, hi => cases hi
    | i + 5, hi => cases hi
  let S : SP2 := fun σ H => Env Γ0 σ H ∧ EM [D] H0 H ∧ Kn h pl D H
  have up : ∀ σ H H', S σ H → Same H H' → S σ H' := fun σ H H' ⟨g, e, k⟩ s => ⟨g.up s, e.trans (EM.same s), k.up s⟩
  refine ⟨S, ⟨env_start (N := ["self", "found", "lot", "cell", "one"]) (AllY.cons (τ := tLay K h pl (tV (.ref D))) hx .nil), EM.refl _, kn⟩, ?_⟩
  -- if self.count(()) == 0
  refine h_ifU (P1 := fun b σ H => b = false ∧ S σ H) (M := S) (pt_cmpR op_eq (pe_meth (yv 0 (Γ := Γ0) (τ := tLay K h pl (tV (.ref D)))) cl M' F' (hr.mono (by decide)) b' .nil pass0 (ya_cons (τ := tTk (zs [])) (y_tupK (is := []) ya_nil (by decide)) ya_nil)) (y_int (Γ := Γ0)) (nomark _)) (fun σ H Q p k => ⟨p.1, fun v H1 s1 ⟨a, dx, fs, ev, ha, rf⟩ => ⟨a, dx, fs, ev, ha, rf.none rfl, p.1.up s1, fun vs H2 s2 hvs => ?_⟩⟩) ⟨fun _ _ _ _ _ _ ⟨⟨e, _⟩, _⟩ => by cases e⟩ (fun σ H p => p.2) ?_
  · obtain ⟨b2, rfl, b3, e4, hb3⟩ := all1 hvs
    subst ev; subst e4
    have p2 := up _ _ _ p (s1.trans s2)
    refine ⟨a, D, h, pl, [], b3, rfl, ok, Lot.nil, by have : ([] : List Nat).length = 0 := rfl; omega, (tLay K h pl (tV (.ref D))).up s2 ⟨a, dx, fs, rfl, ha, rf⟩, hb3, p2.2.2, fun H3 e3 k3 => ?_⟩
    have g3 : Env Γ0 σ H3 := p2.1.em xst p2.2.2.dic e3
    refine ⟨g3, fun y H4 s4 hy => ?_⟩
    have hy' : y = V.int 0 := hy
    subst hy'
    refine ⟨rfl, _, rfl, k _ H4 ⟨?_, up _ _ _ ⟨g3, p2.2.1.trans e3, k3⟩ s4⟩⟩
    rw [V_int_eq]
    exact decide_eq_false (by omega)
  -- found = (), lot = ()
  let B : List Nat → SP2 := fun f σ H => S σ H ∧ (∃ v, σ[1]? = some (some v) ∧ Dp K H v (dT f)) ∧ ∃ u, σ[2]? = some (some u) ∧ Dp K H u (dT (sortC f))
  have upB : ∀ f σ H H', B f σ H → Same H H' → B f σ H' := fun f σ H H' ⟨p, ⟨v, e1, h1⟩, u, e2, h2⟩ s => ⟨up _ _ _ p s, ⟨v, e1, Dp.up s h1⟩, u, e2, Dp.up s h2⟩
  have slotS : ∀ (i : Nat) (a : Option V) σ H, Γ0[i]? = some none → S σ H → S (σ.set i a) H := fun i a σ H hi ⟨g, e, k⟩ => ⟨g.keep hi, e, k⟩
  let ΓB : List Nat → Cxt := fun f => (Γ0.set 1 (some (tD K (dT f)))).set 2 (some (tD K (dT (sortC f))))
  have envB : ∀ {f σ H}, B f σ H → Env (ΓB f) σ H := fun ⟨p, ⟨v, e1, h1⟩, u, e2, h2⟩ => (p.1.put e1 h1).put e2 h2
  have e0 : sortC [] = [] := List.eq_nil_of_length_eq_zero (by rw [(sortC_perm _).length_eq]; rfl)
  refine h_asg (i := 1) (Γ := Γ0) (PY.ofTk (y_tupK (is := []) ya_nil (by decide))) (fun σ H p => p.1) (M := fun σ H => S σ H ∧ ∃ v, σ[1]? = some (some v) ∧ Dp K H v (dT [])) (fun σ H v H' p s hv => ⟨slotS 1 _ _ _ rfl (up _ _ _ p s), v, List.getElem?_set_self (by rw [p.1.len]; show 1 < 5; decide), hv⟩) ?_ nd
  refine h_asg (i := 2) (Γ := Γ0) (PY.ofTk (y_tupK (is := []) ya_nil (by decide))) (fun σ H p => p.1.1) (M := B []) (fun σ H v H' ⟨p, v1, e1, h1⟩ s hv => ⟨slotS 2 _ _ _ rfl (up _ _ _ p s), ⟨v1, by rw [List.getElem?_set_ne (by decide)]; exact e1, Dp.up s h1⟩, v, List.getElem?_set_self (by rw [p.1.len]; show 2 < 5; decide), by rw [e0]; exact hv⟩) ?_ nd (hx := by first | exact Or.inl rfl | exact Or.inr rfl)
  refine h_while (P := B []) (ζ := { f // Begun h pl f }) (fun f => B f.1) (fun f => (wanted h pl).length - f.1.length) (fun f => ΓB f.1) (fun f => !decide (sortC f.1 = wanted h pl)) (fun f => PYT.eq ((c_neD (d := dT (sortC f.1)) (e := dT (wanted h pl)) (by exact hr.units) (shaped_dI _) (shaped_dI _) (yv 2) (y_fld T.cLayings T.nLayingsWanted rfl (yv 0 (τ := tLay K h pl (tV (.ref D)))))).tst _) (by rw [eqv_dT])) (fun f σ H p => envB p) (fun f => upB f.1) (fun σ H p => ⟨⟨[], Begun.nil hpos⟩, p⟩) (fun ⟨f, bg⟩ hb => ?_) ?_
  · -- a turn
    let lot := sortC f
    have L : Lot h pl lot := bg.lot
    have l8 : lot.length ≤ 8 := Nat.le_trans L.le w8
    have steps8 : (steps h pl lot).length ≤ 8 := Nat.le_trans (List.length_filter_le _ _) w8
    let good : Nat → Bool := fun c => decide (0 < cnt h pl (sortC (lot ++ [c])))
    let C : Nat → SP2 := fun c σ H => B f σ H ∧ (c ∈ steps h pl lot ∧ good c = true) ∧ σ[3]? = some (some (.int (c : Nat)))
    have bst : ∀ (i : Nat) (τ : Ty), (ΓB f)[i]? = some (some τ) → XS D τ := xs_set (xs_set xst xs_data) xs_data
    let Γc : Nat → Cxt := fun c => (ΓB f).set 4 (some (tD K (iN c)))
    let ttC : TT := fun σ H Q => ∃ z : { c // c ∈ steps h pl lot ∧ lot.length ≤ 8 }, tTest (tOp (rI0 fun i j => .bl (decide (j < i))) (tMeth (He.ga K "Layings") "count" (SpCount K 8) [] E0 (tY (Γc z.1) (tLay K h pl (tV (.ref D)))) (tYA (Γc z.1) [tTk (zs (sortC (lot ++ [z.1])))])) (tY (Γc z.1) (tI 0))) σ H Q
    let teC : TE := fun σ H Q => ∃ c : Nat, tY (Γc c) (tD K (iN c)) σ H Q
    refine h_asgE (i := 3) (te := fun σ H Q => B f σ H ∧ ∀ c H', B f σ H' → c ∈ steps h pl lot → good c = true → Q (.int (c : Nat)) H') ?_ (M := fun σ H => ∃ c, C c σ H) (fun σ H Q p k => ⟨p, fun c H' p' hc hg => k _ _ ⟨c, ⟨slotS 3 _ _ _ rfl p'.1, ?_, ?_⟩, ⟨hc, hg⟩, List.getElem?_set_self (by rw [p'.1.1.len]; show 3 < 5; decide)⟩⟩) (h_ex fun c => ?_) nd
    · have cst : ∀ (c i : Nat) (τ : Ty), (Γc c)[i]? = some (some τ) → XS D τ := fun c => xs_set bst xs_data
      refine PE.imp (pe_ix ix_list (pe_lc (own := [("one", 4)]) (g := gName 4) (tt := ttC) (te := teC) (by rfl) nd (g_list (PY.to (y_mcall (c_steps_from T) (by exact hr.mono (by decide)) (PY.to (yv 0 (Γ := ΓB f) (τ := tLay K h pl (tV (.ref D)))) lay_any) rfl (h, pl, lot) ⟨ok, L⟩ (ya_cons (yv 2) ya_nil) rfl) lst_ofM)) (blkOk_by (N := ["self", "found", "lot", "cell", "one"]) (sc := defScope sLayingsOrder) (by decide +kernel)) (fun _ _ _ _ _ => pg_name (i := 4) nd rfl (Or.inl rfl))
        (fun _ _ _ _ _ => pts_one (pt_ex fun z => pt_cmpR op_gt (pe_meth (yv 0) cl M' F' (by exact hr.mono (by decide)) b' .nil pass0 (ya_cons (y_call (c_with_cell T) (by exact hr.mono (by decide)) (by rfl) (lot, z.1) (by show lot.length ≤ 400; have := z.2.2; omega) (ya_cons (yv 2) (ya_cons (PY.int (yv 4)) ya_nil))) ya_nil)) y_int (nomark _))) (fun _ _ _ _ _ => pe_ex fun c => yv 4)) pe_int (fun _ _ => rfl)) fun σ H Q ⟨p, k⟩ => ?_
      · refine ⟨envB p, fun z J H1 s1 ⟨z1, z2⟩ wk => ?_⟩
        have p1 := upB _ _ _ _ p s1
        have bB : ∀ H', EM [D] H1 H' → Kn h pl D H' → B f σ H' := fun H' e kk => by
          obtain ⟨pS, ⟨v, e1, h1⟩, u, e2, h2⟩ := p1
          exact ⟨⟨pS.1.em xst pS.2.2.dic e, pS.2.1.trans e, kk⟩, ⟨v, e1, Dp.em pS.2.2.dic e h1⟩, u, e2, Dp.em pS.2.2.dic e h2⟩
        rw [List.length_map] at wk
        refine lcV (K := K) (M := [D]) (tt := ttC) (te := teC) (Q := fun v H' => rIxL K v (.int 0) H' Q) (fun _ H' => Kn h pl D H') (fun i H H' k e => k.at_ (e D List.mem_cons_self)) (fun i H k => kn_no k) (steps h pl lot) (by omega) (fun c => tD K (iN c)) good (fun c d => d = iN c) (fun c d _ e => by rw [e]; rfl) (Γ := ΓB f) (j := 4) (ok := fun H => SqL K H z.1 z.2) (val := fun i v => z.2[i]? = some v) p1.1.2.2 (fun H' e => (envB p1).em bst p1.1.2.2.dic e) wk (fun H' e => x_seqL p1.1.2.2.dic e z1) (fun H' i v c e hv hc => ?_) (fun i c σ' H' hc e gi env Q q => ?_) (fun i c σ' H' hc _ e gi env Q q => ⟨c, env, fun v H2 s2 hv => q v (iN c) H2 (EM.same s2) (gi.up s2) rfl hv⟩) (fun i c H' hc hf k => k) (fun D' vs ds H' fr e gn hD' hdp hall => ?_)
        · obtain ⟨τ, t1, t2⟩ := z2.at hv
          rw [List.getElem?_map, hc] at t1
          cases t1
          exact xs_data _ _ _ p1.1.2.2.dic e t2
        · have hcm : c ∈ steps h pl lot := List.mem_of_getElem? hc
          refine ⟨⟨c, hcm, l8⟩, env, fun v H2 s2 ⟨a, dx, fs, ev, ha, rf⟩ => ⟨a, dx, fs, ev, ha, rf.none rfl, env.up s2, fun vs H3 s3 hvs => ?_⟩⟩
          obtain ⟨b2, rfl, b3, e4, hb3⟩ := all1 hvs
          subst ev; subst e4
          refine ⟨a, D, h, pl, sortC (lot ++ [c]), b3, rfl, ok, L.step hcm, by omega, ((tLay K h pl (tV (.ref D))).up s3 ⟨a, dx, fs, rfl, ha, rf⟩), hb3, gi.up (s2.trans s3), fun H4 e5 k5 => ⟨(env.up (s2.trans s3)).em (cst c) (gi.up (s2.trans s3)).dic e5, fun y H5 s5 hy => ⟨_, 0, rfl, hy, _, rfl, ?_⟩⟩⟩
          have eg : decide ((0 : Int) < ((cnt h pl (sortC (lot ++ [c])) : Nat) : Int)) = good c := decide_eq_decide.mpr (by omega)
          show Q (decide ((0 : Int) < ((cnt h pl (sortC (lot ++ [c])) : Nat) : Int))) H5
          rw [eg]
          exact q H5 ((EM.same (s2.trans s3)).trans (e5.trans (EM.same s5))) (k5.up s5)
        · have ed := hall.eq
          subst ed
          have ne : lot ≠ wanted h pl := by
            have := hb
            simp only [Bool.not_eq_true', decide_eq_false_iff_not] at this
            exact this
          obtain ⟨c1, hc1, hp1⟩ := next_pos L ne bg.pos
          cases hfl : (steps h pl lot).filter good with
          | nil =>
            have : c1 ∈ (steps h pl lot).filter good := List.mem_filter.mpr ⟨hc1, decide_eq_true hp1⟩
            rw [hfl] at this; cases this
          | cons c r =>
            rw [hfl] at hdp
            have hc2 : c ∈ (steps h pl lot).filter good := by rw [hfl]; exact List.mem_cons_self
            obtain ⟨hc3, hc4⟩ := List.mem_filter.mp hc2
            cases hdp with
            | cons d1 d2 =>
              refine ⟨D', _, 0, _, rfl, rfl, SqL.of hD', at_nat (j := 0) rfl, ?_⟩
              rw [dp_int d1]
              exact k c H' (bB H' e gn) hc3 hc4
    · obtain ⟨v, e1, h1⟩ := p'.2.1
      exact ⟨v, by rw [List.getElem?_set_ne (by decide)]; exact e1, h1⟩
    · obtain ⟨u, e2, h2⟩ := p'.2.2
      exact ⟨u, by rw [List.getElem?_set_ne (by decide)]; exact e2, h2⟩
    · -- found = found + (cell,)
      let Γd : Cxt := (ΓB f).set 3 (some (tI (c : Nat)))
      have envC : ∀ {σ H}, C c σ H → Env Γd σ H := fun ⟨p, _, e3⟩ => (envB p).put e3 rfl
      have ecat : PyData.tuple ((zs f).map .int ++ [iN c]) = dT (f ++ [c]) := by rw [dT_map]; unfold zs; rw [List.map_map, List.map_append]; rfl
      refine h_asg (i := 1) (Γ := Γd) (τ := tD K (dT (f ++ [c]))) (PY.eq (y_catT (ds := (zs f).map .int) (es' := [iN c]) ?_ (yv 1) (y_tup (ds := [iN c]) (ya_cons (PY.ofInt (yv 3)) ya_nil) (by show 1 ≤ 100000; decide))) (congrArg (tD K) ecat)) (fun σ H p => envC p) (M := fun σ H => S σ H ∧ (c ∈ steps h pl lot ∧ good c = true) ∧ (∃ v, σ[1]? = some (some v) ∧ Dp K H v (dT (f ++ [c]))) ∧ (∃ u, σ[2]? = some (some u) ∧ Dp K H u (dT lot)) ∧ σ[3]? = some (some (.int (c : Nat)))) (fun σ H v H' ⟨⟨p, _, u, e2, h2⟩, hc, e3⟩ s hv => ⟨slotS 1 _ _ _ rfl (up _ _ _ p s), hc, ⟨v, List.getElem?_set_self (by rw [p.1.len]; show 1 < 5; decide), hv⟩, ⟨u, by rw [List.getElem?_set_ne (by decide)]; exact e2, Dp.up s h2⟩, by rw [List.getElem?_set_ne (by decide)]; exact e3⟩) ?_ nd
      · have lf := bg.len
        show ((zs f).map PyData.int).length + 1 ≤ 100000
        rw [List.length_map, zs_len]; omega
      · refine h_asg (i := 2) (Γ := ((Γ0.set 2 (some (tD K (dT lot)))).set 3 (some (tI (c : Nat))))) (y_call (c_with_cell T) (by exact hr.mono (by decide)) (by rfl) (lot, c) (by show lot.length ≤ 400; omega) (ya_cons (yv 2) (ya_cons (yv 3) ya_nil))) (fun σ H ⟨p, _, _, ⟨u, e2, h2⟩, e3⟩ => (p.1.put e2 h2).put e3 rfl) (fun σ H v H' ⟨p, ⟨hc, hg⟩, ⟨w1, e1, h1⟩, _, e3⟩ s hv => ?_) (h_end fun σ H p => p) nd (hx := by first | exact Or.inl rfl | exact Or.inr rfl)
        · have bg' := bg.next hc (of_decide_eq_true hg)
          have l1 := bg'.len
          rw [List.length_append, List.length_singleton] at l1
          refine ⟨⟨f ++ [c], bg'⟩, by show (wanted h pl).length - (f ++ [c]).length < (wanted h pl).length - f.length; rw [List.length_append, List.length_singleton]; omega, slotS 2 _ _ _ rfl (up _ _ _ p s), ⟨w1, by rw [List.getElem?_set_ne (by decide)]; exact e1, Dp.up s h1⟩, v, List.getElem?_set_self (by rw [p.1.len]; show 2 < 5; decide), ?_⟩
          have hv' := tk_data (K := K) v H' hv
          rw [show (lot ++ [c]).mergeSort leC = sortC (f ++ [c]) from sort_snoc f c] at hv'
          exact hv'
  · refine h_ex fun ⟨f, bg⟩ => h_and fun hb => h_retY (Γ := ΓB f) (yv 1) (fun σ H p => envB p) fun σ H v H' p s hv => q H' v f (p.1.2.1.trans (EM.same s)) (bg.done (by simpa using hb)) hv
end
end Lp
/-! LpF11 -/
namespace Lp
open PySem PySem.Spec PyProof.Rows L2
/-- an order of laying -/
def tOrd (K : PySem.W.Frag) (h : Hs) (pl : List Int) : Ty := ⟨fun v H => ∃ ord, Order h pl ord ∧ Dp K H v (dT ord), fun e ⟨ord, h1, h2⟩ => ⟨ord, h1, Dp.up e h2⟩⟩
section
variable {P : Program} {w : World} {K : PySem.W.Frag} {mg : Str → Option Value} {base : Heap}
theorem c_order_from (T : Tp K mg) : Callee P w K mg base "order_from" 15 ["history", "plates"] (SpY (fun z : Hs × List Int => [tHis K z.1, tD K (dI z.2)]) (fun z => LayOk z.1 z.2 ∧ 0 < cnt z.1 z.2 []) fun z => tOrd K z.1 z.2) := by
  obtain ⟨fd, F, b⟩ := T.defOrderFrom
  refine ⟨_, fd, fnH F scOrderFrom (fun vs H Q E ⟨z, _, h, _⟩ => by rw [h.len]; rfl) fun vs H0 Q E hsp cdv A outer s hr => ?_, T.gOrderFrom, F.kp, b⟩
  obtain ⟨⟨h, pl⟩, ⟨ok, hpos⟩, hvs, q⟩ := hsp
  obtain ⟨vh, vp, rfl, hh, hp⟩ := all2 hvs
  obtain ⟨f', fd', F', cl, M', b'⟩ := (c_order (P := P) (w := w) (base := base) T).ex
  let Γ0 : Cxt := [some (tSince H0 (tHis K h)), some (tD K (dI pl))]
  refine ⟨fun σ H => Env Γ0 σ H0 ∧ H = H0, ⟨env_start (N := ["history", "plates"]) (AllY.cons (τ := tSince H0 (tHis K h)) ⟨hh, Same.refl _⟩ (AllY.cons (τ := tD K (dI pl)) hp .nil)), rfl⟩, ?_⟩
  refine h_one (ps_ret (pe_meth0 (y_make (c_layings T) (hr.mono (by decide)) (by rfl) T.gLayings (h, pl, H0) ok (ya_cons (yv 0 (Γ := Γ0)) (ya_cons (yv 1) ya_nil))) cl M' F' hr b' .nil pass0)) fun D σ H ⟨g, e⟩ m r => ⟨by rw [e]; exact g, fun v H1 s1 ⟨a, dx, fs, ev, ha, rf⟩ => ⟨a, dx, fs, ev, ha, rf.none rfl, ?_⟩⟩
  obtain ⟨vk, k1, k2⟩ := rf.look (f := "known") (τ := tEmp H0) rfl
  obtain ⟨D', ek, hD, fr⟩ := k2
  subst ev
  subst e
  have hx : (tLay K h pl (tV (.ref D'))).is (.ref a) H1 := by
    refine ⟨a, dx, fs, rfl, ha, ?_⟩
    cases rf with
    | cons a1 t => cases t with
      | cons a2 t => cases t with
        | cons a3 t => cases t with
          | cons a4 t =>
            cases t
            have : vk = _ := Option.some.inj (k1.symm.trans (by rfl))
            refine .cons a1 (.cons a2 (.cons a3 (.cons ?_ .nil)))
            show _ = V.ref D'
            rw [← ek, this]
  refine ⟨a, D', h, pl, rfl, ok, hx, ⟨[], fun _ => .non, hD, List.nodup_nil, fun k hk => (by cases hk), trivial⟩, hpos, fun H' v ord e2 o dv => r _ _ (q v H' (fun a o ha => e2 a o (fun z => ?_) (s1 a o ha)) ⟨ord, o, dv⟩)⟩
  rw [List.mem_singleton.mp z, fr] at ha; cases ha
theorem lay_ok {n : Nat} {ks : List Kd} {js : List Nat} (TR : TabR n ks) (hj : ∀ j, j ∈ js → j < ks.length) (few : js.length ≤ 400) : LayOk (hist n ks js) (la0 n) :=
  ⟨hist_sm TR hj few, by rw [la0_len]; exact TR.n8, by rw [la0_len, (hist_sz (n := n) (ks := ks) (js := js)).la]; exact Nat.le_refl _⟩
/-- behind this journal there is a way -/
structure Way (n : Nat) (ks : List Kd) (js : List Nat) : Prop where
  tab : TabR n ks
  num : ∀ j, j ∈ js → j < ks.length
  few : js.length ≤ 400
  safe : safeB (hist n ks js) (la0 n) = true
  pos : 0 < cnt (hist n ks js) (la0 n) []
theorem c_lay_out (T : Tp K mg) : Callee P w K mg base "lay_out" 16 ["table", "journal", "plates"] (SpY (fun z : Nat × List Kd × List Nat => [tTab K z.1 z.2.1, tD K (dT z.2.2), tD K (dI (la0 z.1))]) (fun z => Way z.1 z.2.1 z.2.2) fun z => tOrd K (hist z.1 z.2.1 z.2.2) (la0 z.1)) := by
  obtain ⟨fd, F, b⟩ := T.defLayOut
  refine ⟨_, fd, fnY F scLayOut (fun _ => rfl) (fun _ => none) (fun _ _ h => by cases h) fun ⟨n, ks, js⟩ W cdv A outer s H E hr => ?_, T.gLayOut, F.kp, b⟩
  have W : Way n ks js := W
  exact s_ret (y_call (c_order_from T) hr (by rfl) (hist n ks js, la0 n) ⟨lay_ok W.tab W.num W.few, W.pos⟩ (ya_cons (y_call (c_check_safe T) (hr.mono (by decide)) (by rfl) (n, ks, js) ⟨W.tab, W.num, W.few, W.safe⟩ (ya_cons (yv 0) (ya_cons (yv 1) (ya_cons (yv 2) ya_nil)))) (ya_cons (yv 2) ya_nil))) rfl
theorem ord_ref {h : Hs} {pl : List Int} : ∀ v H, (tOrd K h pl).is v H → v ≠ .non := fun v H ⟨ord, _, d⟩ => by
  obtain ⟨a, xs, e, _⟩ := dp_tup d
  rw [e]; intro z; cases z
theorem c_sticks (T : Tp K mg) : Callee P w K mg base "sticks" 16 ["table", "journal"] (SpY (fun z : Nat × List Kd × List Nat => [tTab K z.1 z.2.1, tD K (dT z.2.2)]) (fun z => Way z.1 z.2.1 z.2.2) fun z => tBo false) := by
  obtain ⟨fd, F, b⟩ := T.defSticks
  refine ⟨_, fd, fnY F scSticks (fun _ => rfl) (fun _ => none) (fun _ _ h => by cases h) fun ⟨n, ks, js⟩ W cdv A outer s H E hr => ?_, T.gSticks, F.kp, b⟩
  have W : Way n ks js := W
  exact s_ret ((c_isNr ord_ref (y_call (c_order_from T) hr (by rfl) (hist n ks js, la0 n) ⟨lay_ok W.tab W.num W.few, W.pos⟩ (ya_cons (y_make (c_history T) (hr.mono (by decide)) (by rfl) T.gHistory (n, ks, js) ⟨W.tab, W.num, W.few⟩ (ya_cons (yv 0) (ya_cons (yv 1) ya_nil))) (ya_cons (y_call (c_all_fresh T) (hr.mono (by decide)) (by rfl) (n, ks) W.tab.n8 (ya_cons (yv 0) ya_nil)) ya_nil))) y_non).val _) rfl
theorem c_is_sticking (T : Tp K mg) : Callee P w K mg base "is_sticking" 17 ["table", "thing"] (SpY (fun z : Nat × List Kd × List Nat => [tTab K z.1 z.2.1, tD K (dT z.2.2)]) (fun z => Way z.1 z.2.1 z.2.2) fun z => tBo false) := by
  obtain ⟨fd, F, b⟩ := T.defIsSticking
  refine ⟨_, fd, fnY F scIsSticking (fun _ => rfl) (fun _ => none) (fun _ _ h => by cases h) fun ⟨n, ks, js⟩ W cdv A outer s H E hr => ?_, T.gIsSticking, F.kp, b⟩
  have W : Way n ks js := W
  exact s_ret (τ := tBo (true && false)) (y_and (y_call (c_is_journal T) (hr.mono (by decide)) (by rfl) (n, ks, js) ⟨W.num, W.few⟩ (ya_cons (yv 0) (ya_cons (yv 1) ya_nil))) fun _ => y_one (y_call (c_sticks T) hr (by rfl) (n, ks, js) W (ya_cons (yv 0) (ya_cons (yv 1) ya_nil)))) rfl
end
end Lp
/-! LpWeb -/
/-! Plain: webs, knots, rows. -/
namespace Lp
theorem sort_same {β : Type} {enc : β → PySem.PyData} {le : β → β → Bool} {P : β → Prop} (O : OrdE enc le P) {l m : List β} (nl : l.Nodup) (nm : m.Nodup) (h : ∀ x, x ∈ l ↔ x ∈ m) : l.mergeSort le = m.mergeSort le :=
  one_sorted O.anti ((List.mergeSort_perm l le).trans (((List.perm_ext_iff_of_nodup nl nm).mpr h).trans (List.mergeSort_perm m le).symm)) (O.pw l) (O.pw m)
theorem mem_sort {β : Type} {le : β → β → Bool} {l : List β} {x : β} : x ∈ l.mergeSort le ↔ x ∈ l := (List.mergeSort_perm l le).mem_iff
def chg (ks : List Kd) : List Nat := (dd (ks.map (·.1))).mergeSort leC
theorem mem_chg {ks : List Kd} {c : Nat} : c ∈ chg ks ↔ Chg ks c := by
  unfold chg Chg
  rw [mem_sort, dd_mem, List.mem_map]
theorem chg_nodup (ks : List Kd) : (chg ks).Nodup := (List.mergeSort_perm _ _).nodup_iff.mpr dd_nodup
def rawT (ks : List Kd) (some : List Nat) : List (Nat × Nat) := ks.flatMap fun k => (k.2.filter fun r => !decide (r = k.1) && decide (r ∈ some)).map fun r => (r, k.1)
theorem mem_rawT {ks : List Kd} {some : List Nat} (hs : ∀ c, c ∈ some ↔ Chg ks c) {p : Nat × Nat} : p ∈ rawT ks some ↔ Tie ks p.1 p.2 := by
  unfold rawT Tie
  rw [List.mem_flatMap]
  constructor
  · rintro ⟨k, hk, hp⟩
    obtain ⟨r, hr, e⟩ := List.mem_map.mp hp
    obtain ⟨h1, h2⟩ := List.mem_filter.mp hr
    simp only [Bool.and_eq_true, Bool.not_eq_true', decide_eq_false_iff_not, decide_eq_true_eq] at h2
    subst e
    exact ⟨h2.1, (hs r).mp h2.2, k, hk, rfl, h1⟩
  · rintro ⟨h1, h2, k, hk, e, hr⟩
    refine ⟨k, hk, List.mem_map.mpr ⟨p.1, List.mem_filter.mpr ⟨hr, ?_⟩, by rw [e]⟩⟩
    rw [decide_eq_true ((hs p.1).mpr h2), decide_eq_false (by rw [e]; exact h1)]; rfl
def tie (ks : List Kd) : List (Nat × Nat) := (dd (rawT ks (chg ks))).mergeSort leP
theorem mem_tie {ks : List Kd} {p : Nat × Nat} : p ∈ tie ks ↔ Tie ks p.1 p.2 := by
  unfold tie
  rw [mem_sort, dd_mem, mem_rawT fun c => mem_chg]
theorem tie_nodup (ks : List Kd) : (tie ks).Nodup := (List.mergeSort_perm _ _).nodup_iff.mpr dd_nodup
theorem few_sub {l : List Nat} {m : Nat} (nd : l.Nodup) (h : ∀ x, x ∈ l → x < m) : l.length ≤ m := by
  have := Lq.few_of (D := List.range m) nd fun x hx => List.mem_range.mpr (h x hx)
  rwa [List.length_range] at this
/-- no more than 8 * 8 -/
theorem pairs_few {l : List (Nat × Nat)} (nd : l.Nodup) (h : ∀ p, p ∈ l → p.1 < 8 ∧ p.2 < 8 ∧ p.1 ≠ p.2) : l.length ≤ 56 := by
  have := Lq.few_of (D := (List.range 8).flatMap fun a => ((List.range 8).filter fun b => !decide (a = b)).map fun b => (a, b)) nd fun p hp => by
    obtain ⟨h1, h2, h3⟩ := h p hp
    exact List.mem_flatMap.mpr ⟨p.1, List.mem_range.mpr h1, List.mem_map.mpr ⟨p.2, List.mem_filter.mpr ⟨List.mem_range.mpr h2, by simpa using h3⟩, rfl⟩⟩
  exact Nat.le_trans this (by decide)
section
variable {ks : List Kd}
/-- cells of a table of eight -/
structure C8 (ks : List Kd) : Prop where
  cell : ∀ k, k ∈ ks → k.1 < 8
  read : ∀ k, k ∈ ks → ∀ r, r ∈ k.2 → r < 8
theorem C8.ends (c : C8 ks) {a b : Nat} (t : Tie ks a b) : a < 8 ∧ b < 8 ∧ a ≠ b := by
  obtain ⟨h1, ⟨k, hk, e⟩, k', hk', e', hr⟩ := t
  exact ⟨e ▸ c.cell k hk, e' ▸ c.cell k' hk', h1⟩
theorem C8.tieL (c : C8 ks) : (tie ks).length ≤ 56 := pairs_few (tie_nodup ks) fun p hp => c.ends (mem_tie.mp hp)
theorem C8.chgL (c : C8 ks) : (chg ks).length ≤ 8 := few_sub (chg_nodup ks) fun x hx => by
  obtain ⟨k, hk, e⟩ := mem_chg.mp hx
  exact e ▸ c.cell k hk
theorem C8.reach (c : C8 ks) {a b : Nat} (ha : a < 8) (r : Reach ks a b) : b < 8 := by
  cases r with
  | refl => exact ha
  | step _ t => exact (c.ends t).2.1
/-! ### the law's rounds -/
def rnd (web : List (Nat × Nat)) (f : List Nat) : List Nat := (dd (f ++ (web.filter fun p => decide (p.1 ∈ f)).map (·.2))).mergeSort leC
def rnds (web : List (Nat × Nat)) : Nat → List Nat → List Nat
  | 0, f => f
  | n + 1, f => rnd web (rnds web n f)
def ledL (web : List (Nat × Nat)) (c : Nat) : List Nat := rnds web 8 [c]
theorem mem_rnd {web : List (Nat × Nat)} {f : List Nat} {x : Nat} : x ∈ rnd web f ↔ x ∈ f ∨ ∃ a, a ∈ f ∧ (a, x) ∈ web := by
  unfold rnd
  rw [mem_sort, dd_mem, List.mem_append]
  refine or_congr Iff.rfl ⟨fun h => ?_, fun ⟨a, ha, hw⟩ => ?_⟩
  · obtain ⟨p, hp, e⟩ := List.mem_map.mp h
    obtain ⟨h1, h2⟩ := List.mem_filter.mp hp
    exact ⟨p.1, of_decide_eq_true h2, by rw [← e]; exact h1⟩
  · exact List.mem_map.mpr ⟨(a, x), List.mem_filter.mpr ⟨hw, decide_eq_true ha⟩, rfl⟩
theorem rnds_nodup {web : List (Nat × Nat)} {c : Nat} : ∀ n, (rnds web n [c]).Nodup
  | 0 => by simp [rnds]
  | n + 1 => (List.mergeSort_perm _ _).nodup_iff.mpr dd_nodup
def Closed (ks : List Kd) (f : List Nat) : Prop := ∀ a b, a ∈ f → Tie ks a b → b ∈ f
theorem closed_reach {f : List Nat} (cl : Closed ks f) {c x : Nat} (hc : c ∈ f) (r : Reach ks c x) : x ∈ f := by
  induction r with
  | refl => exact hc
  | step _ t ih => exact cl _ _ ih t
theorem mem_rnds {c : Nat} : ∀ (n : Nat) {x : Nat}, x ∈ rnds (tie ks) n [c] → Reach ks c x
  | 0, x, h => by rw [List.mem_singleton.mp h]; exact .refl
  | n + 1, x, h => by
    rcases mem_rnd.mp h with h | ⟨a, ha, hw⟩
    · exact mem_rnds n h
    · exact .step (mem_rnds n ha) (mem_tie.mp hw)
theorem ledL_closed (c8 : C8 ks) {c : Nat} (hc : c < 8) : Closed ks (ledL (tie ks) c) := by
  have go : ∀ n, Closed ks (rnds (tie ks) n [c]) ∨ n + 1 ≤ (rnds (tie ks) n [c]).length := by
    intro n
    induction n with
    | zero => exact .inr (by simp [rnds])
    | succ n ih =>
      have sub : ∀ x, x ∈ rnds (tie ks) n [c] → x ∈ rnds (tie ks) (n + 1) [c] := fun x h => mem_rnd.mpr (.inl h)
      by_cases cl : Closed ks (rnds (tie ks) n [c])
      · refine .inl fun a b ha t => ?_
        rcases mem_rnd.mp ha with ha | ⟨a', ha', hw⟩
        · exact sub _ (cl a b ha t)
        · exact sub _ (cl a b (cl a' a ha' (mem_tie.mp hw)) t)
      · refine .inr ?_
        have l1 := ih.resolve_left cl
        obtain ⟨a, b, ha, t, hb⟩ : ∃ a b, a ∈ rnds (tie ks) n [c] ∧ Tie ks a b ∧ b ∉ rnds (tie ks) n [c] := by
          refine Classical.byContradiction fun h => cl fun a b ha t => Classical.byContradiction fun hb => h ⟨a, b, ha, t, hb⟩
        have hb' : b ∈ rnds (tie ks) (n + 1) [c] := mem_rnd.mpr (.inr ⟨a, ha, mem_tie.mpr t⟩)
        have := Lq.few_of (l := b :: rnds (tie ks) n [c]) (D := rnds (tie ks) (n + 1) [c]) (List.nodup_cons.mpr ⟨hb, rnds_nodup n⟩) fun x hx => by
          rcases List.mem_cons.mp hx with rfl | hx
          · exact hb'
          · exact sub x hx
        rw [List.length_cons] at this
        omega
  rcases go 8 with h | h
  · exact h
  · have := few_sub (rnds_nodup (web := tie ks) (c := c) 8) fun x hx => c8.reach hc (mem_rnds 8 hx)
    omega
theorem mem_ledL (c8 : C8 ks) {c x : Nat} (hc : c < 8) : x ∈ ledL (tie ks) c ↔ Reach ks c x := by
  refine ⟨mem_rnds 8, closed_reach (ledL_closed c8 hc) ?_⟩
  have : ∀ n, c ∈ rnds (tie ks) n [c] := by
    intro n
    induction n with
    | zero => exact List.mem_singleton.mpr rfl
    | succ n ih => exact mem_rnd.mpr (.inl ih)
  exact this 8
/-! ### the program's way -/
def bfs (web : List (Nat × Nat)) : Nat → List Nat → Nat → List Nat
  | 0, f, _ => f
  | k + 1, f, d => if d < f.length then bfs web k (f ++ (web.filter fun p => decide (p.1 = f.getD d 0) && !decide (p.2 ∈ f)).map (·.2)) (d + 1) else f
def ledP (web : List (Nat × Nat)) (c : Nat) : List Nat := bfs web 9 [c] 0
structure Bf (ks : List Kd) (c : Nat) (f : List Nat) (d : Nat) : Prop where
  nd : f.Nodup
  rc : ∀ x, x ∈ f → Reach ks c x
  c0 : c ∈ f
  le : d ≤ f.length
  cl : ∀ i, i < d → ∀ b, Tie ks (f.getD i 0) b → b ∈ f
theorem getD_app {f g : List Nat} {i : Nat} (h : i < f.length) : (f ++ g).getD i 0 = f.getD i 0 := by
  rw [List.getD_eq_getElem?_getD, List.getD_eq_getElem?_getD, List.getElem?_append_left h]
theorem getD_mem {f : List Nat} {i : Nat} (h : i < f.length) : f.getD i 0 ∈ f := by
  rw [List.getD_eq_getElem?_getD, List.getElem?_eq_getElem h]; exact List.getElem_mem h
theorem Bf.next {c : Nat} {f : List Nat} {d : Nat} (b : Bf ks c f d) (lt : d < f.length) : Bf ks c (f ++ ((tie ks).filter fun p => decide (p.1 = f.getD d 0) && !decide (p.2 ∈ f)).map (·.2)) (d + 1) := by
  have mem : ∀ x, x ∈ ((tie ks).filter fun p => decide (p.1 = f.getD d 0) && !decide (p.2 ∈ f)).map (·.2) ↔ Tie ks (f.getD d 0) x ∧ x ∉ f := fun x => by
    rw [List.mem_map]
    constructor
    · rintro ⟨p, hp, rfl⟩
      obtain ⟨h1, h2⟩ := List.mem_filter.mp hp
      simp only [Bool.and_eq_true, decide_eq_true_eq, Bool.not_eq_true', decide_eq_false_iff_not] at h2
      have := mem_tie.mp h1
      rw [h2.1] at this
      exact ⟨this, h2.2⟩
    · rintro ⟨h1, h2⟩
      exact ⟨(f.getD d 0, x), List.mem_filter.mpr ⟨mem_tie.mpr h1, by simp [h2]⟩, rfl⟩
  refine ⟨List.nodup_append.mpr ⟨b.nd, ?_, fun x hx y hy e => ((mem y).mp hy).2 (e ▸ hx)⟩, fun x hx => ?_, List.mem_append_left _ b.c0, by rw [List.length_append]; omega, fun i hi x t => ?_⟩
  · refine List.pairwise_map.mpr (List.Pairwise.imp_of_mem (fun {p q} hp hq ne e => ?_) ((tie_nodup ks).filter _))
    have h1 := (List.mem_filter.mp hp).2
    have h2 := (List.mem_filter.mp hq).2
    simp only [Bool.and_eq_true, decide_eq_true_eq] at h1 h2
    exact ne (Prod.ext (h1.1.trans h2.1.symm) e)
  · rcases List.mem_append.mp hx with hx | hx
    · exact b.rc x hx
    · exact .step (b.rc _ (getD_mem lt)) ((mem x).mp hx).1
  · by_cases e : i = d
    · subst e
      rw [getD_app lt] at t
      by_cases hx : x ∈ f
      · exact List.mem_append_left _ hx
      · exact List.mem_append_right _ ((mem x).mpr ⟨t, hx⟩)
    · rw [getD_app (by omega)] at t
      exact List.mem_append_left _ (b.cl i (by omega) x t)
theorem Bf.len (c8 : C8 ks) {c : Nat} (hc : c < 8) {f : List Nat} {d : Nat} (b : Bf ks c f d) : f.length ≤ 8 := few_sub b.nd fun x hx => c8.reach hc (b.rc x hx)
theorem Bf.nil {c : Nat} : Bf ks c [c] 0 := ⟨by simp, fun x hx => by rw [List.mem_singleton.mp hx]; exact .refl, List.mem_singleton.mpr rfl, Nat.zero_le _, fun i hi => by omega⟩
theorem bfs_end {web : List (Nat × Nat)} {k : Nat} {f : List Nat} {d : Nat} (h : ¬ d < f.length) : bfs web k f d = f := by
  cases k with
  | zero => rfl
  | succ k => unfold bfs; rw [if_neg h]
theorem bfs_closed (c8 : C8 ks) {c : Nat} (hc : c < 8) : ∀ (k : Nat) (f : List Nat) (d : Nat), Bf ks c f d → 9 ≤ k + d → Bf ks c (bfs (tie ks) k f d) (bfs (tie ks) k f d).length
  | 0, f, d, b, h => by
    have l := b.len c8 hc
    have l2 := b.le
    omega
  | k + 1, f, d, b, h => by
    by_cases lt : d < f.length
    · unfold bfs
      rw [if_pos lt]
      exact bfs_closed c8 hc k _ (d + 1) (b.next lt) (by omega)
    · rw [bfs_end lt]
      have e : d = f.length := by have := b.le; omega
      rw [← e]; exact b
theorem mem_ledP (c8 : C8 ks) {c x : Nat} (hc : c < 8) : x ∈ ledP (tie ks) c ↔ Reach ks c x := by
  have b := bfs_closed c8 hc 9 [c] 0 Bf.nil (by omega)
  refine ⟨fun h => b.rc x h, closed_reach (fun a y ha t => ?_) b.c0⟩
  obtain ⟨i, hi, e⟩ := List.getElem_of_mem ha
  refine b.cl i hi y ?_
  have e2 : (ledP (tie ks) c).getD i 0 = a := by rw [List.getD_eq_getElem?_getD, List.getElem?_eq_getElem hi]; exact e
  show Tie ks ((ledP (tie ks) c).getD i 0) y
  rw [e2]; exact t
/-! ### knots -/
def knotL (ks : List Kd) (c : Nat) : List Nat := (chg ks).filter fun one => decide (one ∈ ledP (tie ks) c) && decide (c ∈ ledP (tie ks) one)
theorem chg8 (c8 : C8 ks) {c : Nat} (h : c ∈ chg ks) : c < 8 := by
  obtain ⟨k, hk, e⟩ := mem_chg.mp h
  exact e ▸ c8.cell k hk
theorem mem_knotL (c8 : C8 ks) {c x : Nat} (hc : c ∈ chg ks) : x ∈ knotL ks c ↔ Knot ks c x := by
  unfold knotL Knot
  rw [List.mem_filter]
  constructor
  · rintro ⟨h1, h2⟩
    simp only [Bool.and_eq_true, decide_eq_true_eq] at h2
    exact ⟨(mem_ledP c8 (chg8 c8 hc)).mp h2.1, (mem_ledP c8 (chg8 c8 h1)).mp h2.2⟩
  · rintro ⟨h1, h2⟩
    have hx : x ∈ chg ks := by
      cases h1 with
      | refl => exact hc
      | step _ t =>
        obtain ⟨_, _, k, hk, e, _⟩ := t
        exact mem_chg.mpr ⟨k, hk, e⟩
    refine ⟨hx, ?_⟩
    rw [decide_eq_true ((mem_ledP c8 (chg8 c8 hc)).mpr h1), decide_eq_true ((mem_ledP c8 (chg8 c8 hx)).mpr h2)]; rfl
theorem knotL_law (c8 : C8 ks) {c : Nat} (hc : c ∈ chg ks) : ((chg ks).filter fun one => decide (one ∈ ledL (tie ks) c) && decide (c ∈ ledL (tie ks) one)) = knotL ks c := by
  unfold knotL
  refine List.filter_congr fun x hx => ?_
  rw [decide_eq_decide.mpr ((mem_ledL c8 (chg8 c8 hc)).trans (mem_ledP c8 (chg8 c8 hc)).symm), decide_eq_decide.mpr ((mem_ledL c8 (chg8 c8 hx)).trans (mem_ledP c8 (chg8 c8 hx)).symm)]
theorem self_knot (c8 : C8 ks) {c : Nat} (hc : c ∈ chg ks) : c ∈ knotL ks c := (mem_knotL c8 hc).mpr ⟨.refl, .refl⟩
theorem knotL_len (c8 : C8 ks) {c : Nat} : (knotL ks c).length ≤ 8 := Nat.le_trans (List.length_filter_le _ _) c8.chgL
theorem knotL_nodup (c : Nat) : (knotL ks c).Nodup := (chg_nodup ks).filter _
def knots (ks : List Kd) : List (List Nat) := (dd ((chg ks).map (knotL ks))).mergeSort leN
theorem mem_knots {K : List Nat} : K ∈ knots ks ↔ ∃ c, c ∈ chg ks ∧ knotL ks c = K := by
  unfold knots
  rw [mem_sort, dd_mem, List.mem_map]
theorem knots_len (c8 : C8 ks) : (knots ks).length ≤ 8 := by
  unfold knots
  rw [(List.mergeSort_perm _ _).length_eq]
  refine Nat.le_trans dd_len ?_
  rw [List.length_map]; exact c8.chgL
end
end Lp
/-! LpRow -/
/-! Plain: rows. -/
namespace Lp
section
variable {ks : List Kd}
def Adj (ks : List Kd) (a b : Nat) : Prop := Tie ks a b ∨ Tie ks b a
theorem Adj.symm {a b : Nat} (h : Adj ks a b) : Adj ks b a := h.elim .inr .inl
theorem Adj.ne {a b : Nat} (h : Adj ks a b) : a ≠ b := h.elim (fun t => t.1) fun t => t.1.symm
theorem nodup_at {r : List Nat} (nd : r.Nodup) {i j : Nat} (hi : i < r.length) (hj : j < r.length) (e : r[i] = r[j]) : i = j := by
  have h := List.pairwise_iff_getElem.mp nd
  rcases Nat.lt_trichotomy i j with l | l | l
  · exact absurd e (h i j hi hj l)
  · exact l
  · exact absurd e.symm (h j i hj hi l)
/-- a row: its neighbours are tied, no others are -/
structure Path (ks : List Kd) (r : List Nat) : Prop where
  nd : r.Nodup
  adj : ∀ i j, i < j → j < r.length → (Adj ks (r.getD i 0) (r.getD j 0) ↔ j = i + 1)
theorem Path.any {r : List Nat} (p : Path ks r) {i j : Nat} (hi : i < r.length) (hj : j < r.length) : Adj ks (r.getD i 0) (r.getD j 0) ↔ j = i + 1 ∨ i = j + 1 := by
  rcases Nat.lt_trichotomy i j with l | l | l
  · rw [p.adj i j l hj]; omega
  · subst l
    exact ⟨fun h => absurd rfl h.ne, fun h => by omega⟩
  · have := p.adj j i l hi
    exact ⟨fun h => .inr (this.mp h.symm), fun h => (this.mpr (h.resolve_left (by omega))).symm⟩
theorem Path.rev {r : List Nat} (p : Path ks r) : Path ks r.reverse := by
  have g : ∀ i, i < r.length → r.reverse.getD i 0 = r.getD (r.length - 1 - i) 0 := fun i hi => by
    rw [List.getD_eq_getElem?_getD, List.getD_eq_getElem?_getD, List.getElem?_reverse hi]
  refine ⟨(List.reverse_perm r).nodup_iff.mpr p.nd, fun i j ij hj => ?_⟩
  rw [List.length_reverse] at hj
  rw [g i (by omega), g j hj]
  rw [p.any (by omega) (by omega)]
  omega
/-- a knot that is a row, each kind reading one of it at most -/
structure SoundK (ks : List Kd) (kn : List Nat) : Prop where
  row : ∃ r, Path ks r ∧ ∀ x, x ∈ r ↔ x ∈ kn
  one : ∀ k, k ∈ ks → k.1 ∈ kn → (k.2.filter fun r => decide (r ∈ kn)).length ≤ 1
def posIn (r : List Nat) (x : Nat) : Nat := r.idxOf x
theorem pos_get {r : List Nat} {x : Nat} (h : x ∈ r) : posIn r x < r.length ∧ r.getD (posIn r x) 0 = x := by
  have h1 : r.idxOf x < r.length := List.idxOf_lt_length_iff.mpr h
  refine ⟨h1, ?_⟩
  rw [List.getD_eq_getElem?_getD]
  unfold posIn
  rw [List.getElem?_eq_getElem h1]
  exact List.getElem_idxOf h1
theorem two_of {α : Type} {l : List α} (nd : l.Nodup) {a b : α} (ha : a ∈ l) (hb : b ∈ l) (hl : l.length ≤ 1) : a = b := by
  match l, hl with
  | [], _ => cases ha
  | [x], _ => rw [List.mem_singleton.mp ha, List.mem_singleton.mp hb]
  | x :: y :: l, hl => simp at hl
theorem sound_all (c8 : C8 ks) (asc : ∀ k, k ∈ ks → k.2.Nodup) (h : ∀ c, c ∈ chg ks → SoundK ks (knotL ks c)) : SoundT ks := by
  intro c hc
  have hc' := mem_chg.mpr hc
  obtain ⟨⟨r, p, mem⟩, one⟩ := h c hc'
  have inr : ∀ x, Knot ks c x → x ∈ r := fun x hx => (mem x).mpr ((mem_knotL c8 hc').mpr hx)
  refine ⟨posIn r, fun a b ha hb e => ?_, fun a b ha hb t => ?_, fun k hk hkn x y hx hy hkx hky => ?_⟩
  · have h1 := (pos_get (inr a ha)).2
    rw [e, (pos_get (inr b hb)).2] at h1
    exact h1.symm
  · obtain ⟨a1, a2⟩ := pos_get (inr a ha)
    obtain ⟨b1, b2⟩ := pos_get (inr b hb)
    have := (p.any a1 b1).mp (by rw [a2, b2]; exact .inl t)
    omega
  · have hm : ∀ z, Knot ks c z → z ∈ knotL ks c := fun z hz => (mem_knotL c8 hc').mpr hz
    exact two_of ((asc k hk).filter _) (List.mem_filter.mpr ⟨hx, decide_eq_true (hm x hkx)⟩) (List.mem_filter.mpr ⟨hy, decide_eq_true (hm y hky)⟩) (one k hk (hm _ hkn))
/-! ### the law's rows -/
def pairsIn (web : List (Nat × Nat)) (kn : List Nat) : List (Nat × Nat) := web.filter fun p => decide (p.1 ∈ kn) && decide (p.2 ∈ kn)
theorem mem_pairs {web : List (Nat × Nat)} {kn : List Nat} {a b : Nat} : (a, b) ∈ pairsIn web kn ↔ (a, b) ∈ web ∧ a ∈ kn ∧ b ∈ kn := by
  unfold pairsIn
  rw [List.mem_filter]
  refine and_congr Iff.rfl ?_
  show (decide (a ∈ kn) && decide (b ∈ kn)) = true ↔ _
  rw [Bool.and_eq_true, decide_eq_true_eq, decide_eq_true_eq]
def nearOf (pairs : List (Nat × Nat)) (row : List Nat) (c : Nat) : List Nat := row.filter fun one => decide ((one, c) ∈ pairs) || decide ((c, one) ∈ pairs)
def grow (pairs : List (Nat × Nat)) (kn : List Nat) (row : List Nat) : List (List Nat) := (kn.filter fun c => !decide (c ∈ row) && decide (nearOf pairs row c = [row.getLastD 0])).map fun c => row ++ [c]
def rowsAt (pairs : List (Nat × Nat)) (kn : List Nat) : Nat → List (List Nat)
  | 0 => kn.map fun c => [c]
  | t + 1 => (rowsAt pairs kn t).flatMap (grow pairs kn)
structure RowOk (ks : List Kd) (kn : List Nat) (t : Nat) (r : List Nat) : Prop where
  len : r.length = t + 1
  path : Path ks r
  sub : ∀ x, x ∈ r → x ∈ kn
theorem getD_last {r : List Nat} (h : r ≠ []) : r.getLastD 0 = r.getD (r.length - 1) 0 := by
  rw [List.getD_eq_getElem?_getD, ← List.getLast?_eq_getElem?, List.getLastD_eq_getLast?]
theorem rows_ok {kn : List Nat} : ∀ (t : Nat) (r : List Nat), r ∈ rowsAt (pairsIn (tie ks) kn) kn t → RowOk ks kn t r
  | 0, r, h => by
    obtain ⟨c, hc, rfl⟩ := List.mem_map.mp h
    exact ⟨rfl, ⟨by simp, fun i j ij hj => by simp at hj; omega⟩, fun x hx => by rw [List.mem_singleton.mp hx]; exact hc⟩
  | t + 1, r, h => by
    obtain ⟨row, hrow, hr⟩ := List.mem_flatMap.mp h
    obtain ⟨c, hc, rfl⟩ := List.mem_map.mp hr
    obtain ⟨h1, h2⟩ := List.mem_filter.mp hc
    simp only [Bool.and_eq_true, Bool.not_eq_true', decide_eq_false_iff_not, decide_eq_true_eq] at h2
    obtain ⟨hn, hnear⟩ := h2
    have ok := rows_ok t row hrow
    have ne : row ≠ [] := fun e => by have := ok.len; rw [e] at this; simp at this
    have near : ∀ i, i < row.length → (Adj ks (row.getD i 0) c ↔ i + 1 = row.length) := fun i hi => by
      have m1 : row.getD i 0 ∈ nearOf (pairsIn (tie ks) kn) row c ↔ Adj ks (row.getD i 0) c := by
        unfold nearOf
        rw [List.mem_filter]
        have hm := getD_mem hi
        have hk := ok.sub _ hm
        rw [Bool.or_eq_true, decide_eq_true_eq, decide_eq_true_eq, mem_pairs, mem_pairs, mem_tie, mem_tie]
        constructor
        · rintro ⟨_, ⟨t, _⟩ | ⟨t, _⟩⟩
          · exact .inl t
          · exact .inr t
        · rintro (t | t)
          · exact ⟨hm, .inl ⟨t, hk, h1⟩⟩
          · exact ⟨hm, .inr ⟨t, h1, hk⟩⟩
      rw [← m1, hnear, List.mem_singleton, getD_last ne]
      constructor
      · intro e
        have lt : row.length - 1 < row.length := by omega
        rw [List.getD_eq_getElem?_getD, List.getD_eq_getElem?_getD, List.getElem?_eq_getElem hi, List.getElem?_eq_getElem lt] at e
        have := nodup_at ok.path.nd hi lt e
        omega
      · intro e
        rw [show i = row.length - 1 by omega]
    refine ⟨by rw [List.length_append, ok.len]; rfl, ⟨List.nodup_append.mpr ⟨ok.path.nd, by simp, fun x hx y hy e => hn (by rw [List.mem_singleton.mp hy] at e; exact e ▸ hx)⟩, fun i j ij hj => ?_⟩, fun x hx => ?_⟩
    · rw [List.length_append, List.length_singleton] at hj
      by_cases lt : j < row.length
      · rw [getD_app (by omega), getD_app lt]
        exact ok.path.adj i j ij lt
      · have e : j = row.length := by omega
        subst e
        have gc : (row ++ [c]).getD row.length 0 = c := by rw [List.getD_eq_getElem?_getD, List.getElem?_append_right (Nat.le_refl _)]; simp
        rw [getD_app ij, gc, near i ij]
        omega
    · rcases List.mem_append.mp hx with q | q
      · exact ok.sub x q
      · rw [List.mem_singleton.mp q]; exact h1
def readsTwo (ks : List Kd) (kn : List Nat) : List Bool := ks.map fun k => decide (k.1 ∈ kn) && decide (1 < (k.2.filter fun r => decide (r ∈ kn)).length)
def lawS (ks : List Kd) (kn : List Nat) : Bool := !decide (rowsAt (pairsIn (tie ks) kn) kn (kn.length - 1) = []) && !(readsTwo ks kn).any id
theorem lawS_ok {kn : List Nat} (nd : kn.Nodup) (ne : kn ≠ []) (h : lawS ks kn = true) : SoundK ks kn := by
  unfold lawS at h
  simp only [Bool.and_eq_true, Bool.not_eq_true', decide_eq_false_iff_not] at h
  obtain ⟨h1, h2⟩ := h
  have pos : 0 < kn.length := List.length_pos_iff.mpr ne
  refine ⟨?_, fun k hk hkn => ?_⟩
  · cases q : rowsAt (pairsIn (tie ks) kn) kn (kn.length - 1) with
    | nil => exact absurd q h1
    | cons r rs =>
      have ok := rows_ok (ks := ks) (kn := kn) (kn.length - 1) r (by rw [q]; exact List.mem_cons_self)
      refine ⟨r, ok.path, fun x => ⟨ok.sub x, fun hx => ?_⟩⟩
      have p := nodup_sub_perm ok.path.nd nd ok.sub (by rw [ok.len]; omega)
      exact p.mem_iff.mpr hx
  · refine Classical.byContradiction fun hgt => ?_
    have : true ∈ readsTwo ks kn := List.mem_map.mpr ⟨k, hk, by rw [decide_eq_true hkn, decide_eq_true (by omega)]; rfl⟩
    have h3 : (readsTwo ks kn).any id = true := List.any_eq_true.mpr ⟨true, this, rfl⟩
    rw [h2] at h3; cases h3
/-! ### the program's row -/
def nearStep (kn : List Nat) (c : Nat) (f : List Nat) (p : Nat × Nat) : List Nat :=
  if decide (p.1 ∈ kn) && decide (p.2 ∈ kn) then (if c = p.2 then addk (if c = p.1 then addk f p.2 else f) p.1 else (if c = p.1 then addk f p.2 else f)) else f
def nearF (web : List (Nat × Nat)) (kn : List Nat) (c : Nat) : List Nat := web.foldl (nearStep kn c) []
theorem mem_nearF {web : List (Nat × Nat)} {kn : List Nat} {c x : Nat} : x ∈ nearF web kn c ↔ c ∈ kn ∧ x ∈ kn ∧ ((c, x) ∈ web ∨ (x, c) ∈ web) := by
  have go : ∀ (web : List (Nat × Nat)) (f : List Nat), x ∈ web.foldl (nearStep kn c) f ↔ x ∈ f ∨ (c ∈ kn ∧ x ∈ kn ∧ ((c, x) ∈ web ∨ (x, c) ∈ web)) := by
    intro web
    induction web with
    | nil => intro f; simp
    | cons p web ih =>
      intro f
      rw [List.foldl_cons, ih]
      have st : x ∈ nearStep kn c f p ↔ x ∈ f ∨ (c ∈ kn ∧ x ∈ kn ∧ ((c, x) = p ∨ (x, c) = p)) := by
        obtain ⟨a, b⟩ := p
        unfold nearStep
        by_cases ha : a ∈ kn
        · by_cases hb : b ∈ kn
          · rw [if_pos (by simp [ha, hb])]
            simp only [Prod.mk.injEq]
            by_cases h1 : c = b
            · by_cases h2 : c = a
              · rw [if_pos h1, if_pos h2, addk_mem, addk_mem]
                subst h1; subst h2
                constructor
                · rintro ((h | h) | h)
                  · exact .inl h
                  · exact .inr ⟨ha, h ▸ ha, .inl ⟨rfl, h⟩⟩
                  · exact .inr ⟨ha, h ▸ ha, .inl ⟨rfl, h⟩⟩
                · rintro (h | ⟨_, _, h | h⟩)
                  · exact .inl (.inl h)
                  · exact .inr h.2
                  · exact .inr h.1
              · rw [if_pos h1, if_neg h2, addk_mem]
                subst h1
                constructor
                · rintro (h | h)
                  · exact .inl h
                  · exact .inr ⟨hb, h ▸ ha, .inr ⟨h, rfl⟩⟩
                · rintro (h | ⟨_, _, h | h⟩)
                  · exact .inl h
                  · exact absurd h.1 h2
                  · exact .inr h.1
            · by_cases h2 : c = a
              · rw [if_neg h1, if_pos h2, addk_mem]
                subst h2
                constructor
                · rintro (h | h)
                  · exact .inl h
                  · exact .inr ⟨ha, h ▸ hb, .inl ⟨rfl, h⟩⟩
                · rintro (h | ⟨_, _, h | h⟩)
                  · exact .inl h
                  · exact .inr h.2
                  · exact absurd h.2 h1
              · rw [if_neg h1, if_neg h2]
                constructor
                · exact .inl
                · rintro (h | ⟨_, _, h | h⟩)
                  · exact h
                  · exact absurd h.1 h2
                  · exact absurd h.2 h1
          · rw [if_neg (by simp [hb])]
            simp only [Prod.mk.injEq]
            constructor
            · exact .inl
            · rintro (h | ⟨hc, hx, h | h⟩)
              · exact h
              · exact absurd (h.2 ▸ hx) hb
              · exact absurd (h.2 ▸ hc) hb
        · rw [if_neg (by simp [ha])]
          simp only [Prod.mk.injEq]
          constructor
          · exact .inl
          · rintro (h | ⟨hc, hx, h | h⟩)
            · exact h
            · exact absurd (h.1 ▸ hc) ha
            · exact absurd (h.1 ▸ hx) ha
      rw [st]
      simp only [List.mem_cons]
      constructor
      · rintro ((h | ⟨h1, h2, h | h⟩) | ⟨h1, h2, h | h⟩)
        · exact .inl h
        · exact .inr ⟨h1, h2, .inl (.inl h)⟩
        · exact .inr ⟨h1, h2, .inr (.inl h)⟩
        · exact .inr ⟨h1, h2, .inl (.inr h)⟩
        · exact .inr ⟨h1, h2, .inr (.inr h)⟩
      · rintro (h | ⟨h1, h2, (h | h) | (h | h)⟩)
        · exact .inl (.inl h)
        · exact .inl (.inr ⟨h1, h2, .inl h⟩)
        · exact .inr ⟨h1, h2, .inl h⟩
        · exact .inl (.inr ⟨h1, h2, .inr h⟩)
        · exact .inr ⟨h1, h2, .inr h⟩
  have := go web []
  unfold nearF
  rw [this]
  simp
theorem nearF_nodup {web : List (Nat × Nat)} {kn : List Nat} {c : Nat} : (nearF web kn c).Nodup := by
  have go : ∀ (web : List (Nat × Nat)) (f : List Nat), f.Nodup → (web.foldl (nearStep kn c) f).Nodup := by
    intro web
    induction web with
    | nil => exact fun f h => h
    | cons p web ih =>
      intro f h
      rw [List.foldl_cons]
      refine ih _ ?_
      unfold nearStep
      split
      · split
        · refine addk_nodup ?_
          split
          · exact addk_nodup h
          · exact h
        · split
          · exact addk_nodup h
          · exact h
      · exact h
  exact go web [] List.nodup_nil
theorem mem_near {kn : List Nat} {c x : Nat} : x ∈ nearF (tie ks) kn c ↔ c ∈ kn ∧ x ∈ kn ∧ Adj ks c x := by
  rw [mem_nearF, mem_tie, mem_tie]; rfl
/-- what stands beside the i-th of a row -/
theorem near_path {kn r : List Nat} (p : Path ks r) (mem : ∀ x, x ∈ r ↔ x ∈ kn) {i : Nat} (hi : i < r.length) {x : Nat} : x ∈ nearF (tie ks) kn (r.getD i 0) ↔ ∃ j, j < r.length ∧ x = r.getD j 0 ∧ (j = i + 1 ∨ i = j + 1) := by
  rw [mem_near]
  constructor
  · rintro ⟨_, hx, a⟩
    obtain ⟨h1, h2⟩ := pos_get ((mem x).mpr hx)
    refine ⟨posIn r x, h1, h2.symm, ?_⟩
    rw [← h2] at a
    have := (p.any hi h1).mp a
    omega
  · rintro ⟨j, hj, rfl, h⟩
    exact ⟨(mem _).mp (getD_mem hi), (mem _).mp (getD_mem hj), (p.any hi hj).mpr (by omega)⟩
theorem getD_inj {r : List Nat} (nd : r.Nodup) {i j : Nat} (hi : i < r.length) (hj : j < r.length) (e : r.getD i 0 = r.getD j 0) : i = j := by
  rw [List.getD_eq_getElem?_getD, List.getD_eq_getElem?_getD, List.getElem?_eq_getElem hi, List.getElem?_eq_getElem hj] at e
  exact nodup_at nd hi hj e
theorem row_start {kn : List Nat} (S : SoundK ks kn) (ne : kn ≠ []) : (kn.filter fun c => decide ((nearF (tie ks) kn c).length < 2)) ≠ [] ∧ (∀ c, c ∈ kn → (nearF (tie ks) kn c).length ≤ 2) ∧
    ∀ e, e ∈ (kn.filter fun c => decide ((nearF (tie ks) kn c).length < 2)) → ∃ r, Path ks r ∧ (∀ x, x ∈ r ↔ x ∈ kn) ∧ 0 < r.length ∧ r.getD 0 0 = e := by
  obtain ⟨⟨r, p, mem⟩, _⟩ := S
  have hr : 0 < r.length := by
    cases r with
    | nil =>
      cases kn with
      | nil => exact absurd rfl ne
      | cons c kn => exact absurd ((mem c).mpr List.mem_cons_self) List.not_mem_nil
    | cons _ _ => simp
  have two : ∀ c, c ∈ kn → (nearF (tie ks) kn c).length ≤ 2 := fun c hc => by
    obtain ⟨h1, h2⟩ := pos_get ((mem c).mpr hc)
    have := Lq.few_of (D := [r.getD (posIn r c + 1) 0, r.getD (posIn r c - 1) 0]) (nearF_nodup (web := tie ks) (kn := kn) (c := c)) fun x hx => by
      rw [← h2] at hx
      obtain ⟨j, hj, rfl, e⟩ := (near_path p mem h1).mp hx
      rcases e with e | e
      · rw [e]; exact List.mem_cons_self
      · rw [show j = posIn r c - 1 by omega]; exact List.mem_cons_of_mem _ List.mem_cons_self
    exact this
  have first : r.getD 0 0 ∈ (kn.filter fun c => decide ((nearF (tie ks) kn c).length < 2)) := by
    refine List.mem_filter.mpr ⟨(mem _).mp (getD_mem hr), decide_eq_true ?_⟩
    have := Lq.few_of (D := [r.getD 1 0]) (nearF_nodup (web := tie ks) (kn := kn) (c := r.getD 0 0)) fun x hx => by
      obtain ⟨j, hj, rfl, e⟩ := (near_path p mem hr).mp hx
      rw [show j = 1 by omega]; exact List.mem_cons_self
    rw [List.length_singleton] at this
    omega
  refine ⟨fun e => (by rw [e] at first; cases first), two, fun e he => ?_⟩
  obtain ⟨h1, h2⟩ := List.mem_filter.mp he
  have h2 := of_decide_eq_true h2
  obtain ⟨q1, q2⟩ := pos_get ((mem e).mpr h1)
  by_cases z0 : posIn r e = 0
  · exact ⟨r, p, mem, hr, by rw [z0] at q2; exact q2⟩
  · by_cases z1 : posIn r e + 1 = r.length
    · refine ⟨r.reverse, p.rev, fun x => by rw [List.mem_reverse]; exact mem x, by rw [List.length_reverse]; exact hr, ?_⟩
      rw [List.getD_eq_getElem?_getD, List.getElem?_reverse hr, ← List.getD_eq_getElem?_getD, show r.length - 1 - 0 = posIn r e by omega]
      exact q2
    · have a1 : r.getD (posIn r e - 1) 0 ∈ nearF (tie ks) kn e := by
        have := (near_path p mem q1 (x := r.getD (posIn r e - 1) 0)).mpr ⟨posIn r e - 1, by omega, rfl, by omega⟩
        rwa [q2] at this
      have a2 : r.getD (posIn r e + 1) 0 ∈ nearF (tie ks) kn e := by
        have := (near_path p mem q1 (x := r.getD (posIn r e + 1) 0)).mpr ⟨posIn r e + 1, by omega, rfl, by omega⟩
        rwa [q2] at this
      have := Lq.few_of (l := [r.getD (posIn r e - 1) 0, r.getD (posIn r e + 1) 0]) (D := nearF (tie ks) kn e) (by
        refine List.nodup_cons.mpr ⟨fun h => ?_, by simp⟩
        have := getD_inj p.nd (by omega) (by omega) (List.mem_singleton.mp h)
        omega) fun x hx => by
          rcases List.mem_cons.mp hx with rfl | hx
          · exact a1
          · rw [List.mem_singleton.mp hx]; exact a2
      simp at this
      omega
theorem row_next {kn r : List Nat} (p : Path ks r) (mem : ∀ x, x ∈ r ↔ x ∈ kn) {i : Nat} (h1 : 1 ≤ i) (hi : i < r.length) : ∃ rest, (nearF (tie ks) kn (r.getD (i - 1) 0)).filter (fun c => !decide (c ∈ r.take i)) = r.getD i 0 :: rest := by
  have only : ∀ x, x ∈ (nearF (tie ks) kn (r.getD (i - 1) 0)).filter (fun c => !decide (c ∈ r.take i)) ↔ x = r.getD i 0 := fun x => by
    rw [List.mem_filter, near_path p mem (by omega)]
    simp only [Bool.not_eq_true', decide_eq_false_iff_not]
    constructor
    · rintro ⟨⟨j, hj, rfl, e⟩, hn⟩
      have : j = i := by
        refine Classical.byContradiction fun hne => hn ?_
        have hji : j < i := by omega
        rw [List.getD_eq_getElem?_getD, List.getElem?_eq_getElem hj]
        have : (r.take i)[j]'(by rw [List.length_take]; omega) = r[j] := List.getElem_take
        show r[j] ∈ r.take i
        rw [← this]; exact List.getElem_mem _
      rw [this]
    · rintro rfl
      refine ⟨⟨i, hi, rfl, by omega⟩, fun hm => ?_⟩
      obtain ⟨j, hj, e⟩ := List.getElem_of_mem hm
      rw [List.length_take] at hj
      have e2 : r.getD j 0 = r.getD i 0 := by
        rw [← e, List.getD_eq_getElem?_getD, List.getElem?_eq_getElem (by omega)]
        show r[j]'(by omega) = (r.take i)[j]
        exact List.getElem_take.symm
      have := getD_inj p.nd (by omega) hi e2
      omega
  cases q : (nearF (tie ks) kn (r.getD (i - 1) 0)).filter (fun c => !decide (c ∈ r.take i)) with
  | nil =>
    have := (only (r.getD i 0)).mpr rfl
    rw [q] at this; cases this
  | cons x rest =>
    have := (only x).mp (by rw [q]; exact List.mem_cons_self)
    exact ⟨rest, by rw [this]⟩
end
end Lp
/-! LpG1 -/
namespace Lp
open PySem PySem.Spec PyProof.Rows L2
theorem sw_trueD {kx vx : Expr} {gs : List Comprehension} {scope : Scope} {pos py : Pos} {y : Str} {l : Nat} {env : PySem.Env} (hk : env.scope.kind = .function) (hy : env.scope.names.lookup y = some .local) (hl : (py.line == pos.line) = true)
    (ha : (scope.names.any fun (n, k) => n == y && (k == .local || k == .cell)) = false) : swapsWith (.DictComp kx vx gs scope pos) (some (.Name y py)) l env = pure true := by
  have ky : env.kindOf y = some .local := hy
  have hb : env.blockKind = .function := by unfold PySem.Env.blockKind; rw [hk]; rfl
  unfold swapsWith
  simp only [hb, ky, ha, Expr.pos, hl]
  rfl
theorem adds_map {α β : Type} [DecidableEq α] [DecidableEq β] {f : α → β} (inj : ∀ x y, f x = f y → x = y) : ∀ (l ks : List α), adds (ks.map f) (l.map f) = (adds ks l).map f
  | [], ks => rfl
  | x :: l, ks => by
    have e : addk (ks.map f) (f x) = (addk ks x).map f := by
      unfold addk
      have h : f x ∈ ks.map f ↔ x ∈ ks := by
        rw [List.mem_map]
        exact ⟨fun ⟨a, h, e⟩ => inj _ _ e ▸ h, fun h => ⟨x, h, rfl⟩⟩
      by_cases c : x ∈ ks
      · rw [if_pos c, if_pos (h.mpr c)]
      · rw [if_neg c, if_neg fun z => c (h.mp z), List.map_append]; rfl
    show adds (addk (ks.map f) (f x)) (l.map f) = (adds (addk ks x) l).map f
    rw [e]
    exact adds_map inj l _
theorem adds_zs (l : List Nat) : adds [] (l.map fun (c : Nat) => (c : Int)) = zs (adds [] l) := adds_map (fun x y e => Int.ofNat_inj.mp e) l []
section
variable {X : Cx} {Γ : Cxt} {e : Expr} {pos p : Pos} {β : Type} {enc : β → PyData} {le : β → β → Bool} {Pp : β → Prop}
/-- sorted(d), d with tuple keys -/
theorem n_sortDK (hc : X.calm = true) (hu : X.A.units + 16 < cLine) (O : OrdE enc le Pp) (l : List β) (key : β → List Int) (henc : ∀ x, enc x = dI (key x)) {dv : List Int → PyData} (hP : ∀ x, x ∈ l → Pp x) (hz : l.length ≤ 100000) (hg : Gl X "sorted") (hm : X.mg "sorted" = none) (h : PY X e Γ (tDict kkT X.K (l.map key) dv)) (hs : starEach [e] X.env = (false, eval e X.env) :: starEach [] X.env := by rfl) :
    PYN X (.Call (.Name "sorted" p) [e] [] pos) Γ ((l.mergeSort le).map enc) :=
  n_sorted Lq.coll_dict hc hu O l hP hz (fun v H hv => by
    obtain ⟨a, ρ, rfl, h1, _⟩ := hv
    refine ⟨a, _, rfl, ⟨_, .inl h1, rfl⟩, ?_⟩
    have e1 : (dkg kkT.f (l.map key) ρ).map (fun p => PyData.tuple (p.1.map Lq.keyD)) = l.map enc := by
      unfold dkg
      rw [List.map_map, List.map_map]
      refine List.map_congr_left fun x _ => ?_
      show PyData.tuple (((key x).map (Sum.inl : Int → L2.Key)).map Lq.keyD) = enc x
      rw [henc, List.map_map]; rfl
    rw [e1]) hg hm h hs
end
theorem xs_dst {τ : Ty} (h : ∀ D, XS D τ) : DStab kkT τ := fun v H D kvs o' hD hv => h D v H _ ⟨kvs, hD⟩ ((EM.refl H).own List.mem_cons_self) hv
theorem dst_set {α κ : Type} [DecidableEq α] [DecidableEq κ] {k : KK α κ} {Γ : Cxt} {j : Nat} {τ0 : Ty} (h : ∀ (i : Nat) (τ : Ty), Γ[i]? = some (some τ) → DStab k τ) (t : DStab k τ0) : ∀ (i : Nat) (τ : Ty), (Γ.set j (some τ0))[i]? = some (some τ) → DStab k τ := fun i τ hi => by
  by_cases e : j = i
  · subst e
    by_cases hl : j < Γ.length
    · rw [List.getElem?_set_self hl] at hi
      cases hi; exact t
    · rw [List.getElem?_eq_none (by simp; omega)] at hi; cases hi
  · rw [List.getElem?_set_ne e] at hi
    exact h i τ hi
section
variable {P : Program} {w : World} {K : PySem.W.Frag} {mg : Str → Option Value} {base : Heap}
theorem xs_tab {D : Addr} {n : Nat} {ks : List Kd} : XS D (tTab K n ks) := xs_obj fun p hp => by
  simp only [List.mem_cons, List.not_mem_nil, or_false] at hp
  rcases hp with rfl | rfl
  · exact xs_v
  · exact xs_data
theorem TabR.c8 {n : Nat} {ks : List Kd} (T : TabR n ks) : C8 ks := ⟨fun k hk => Nat.lt_of_lt_of_le (T.cell k hk) T.n8, fun k hk r hr => Nat.lt_of_lt_of_le (T.read k hk r hr) T.n8⟩
theorem c_changing (T : Tp K mg) : Callee P w K mg base "changing" 1 ["table"] (SpY (fun z : Nat × List Kd => [tTab K z.1 z.2]) (fun z => TabR z.1 z.2) fun z => tD K (dT (chg z.2))) := by
  obtain ⟨fd, F, b⟩ := T.defChanging
  refine ⟨_, fd, fnY F scChanging (fun _ => rfl) (fun _ => none) (fun _ _ h => by cases h) fun ⟨n, ks⟩ TR cdv A outer s H E hr => ?_, T.gChanging, F.kp, b⟩
  have TR : TabR n ks := TR
  have k40 := TR.k40
  have e1 : adds [] ((ks.filter fun _ => true).map fun k => ((k.1 : Nat) : Int)) = zs (adds [] (ks.map (·.1))) := by rw [filter_all, ← adds_zs, List.map_map]; rfl
  have few : (adds [] (ks.map (·.1))).length < 64 := by
    have := adds_len (ks := ([] : List Nat)) (l := ks.map (·.1))
    simp at this; omega
  refine s_ret (PY.eq (y_tupleL (by rfl) T.fTuple (n_sortDI (by rfl) few (by rfl) T.fSorted (PY.eq (PE.imp (n_d1p kkI 1 2 ks (fun k => tD K (iN k.1)) (fun k => tD K (dT k.2)) (fun _ => true) (fun k => ((k.1 : Nat) : Int)) (fun _ => .bool true) (by omega) (by rfl) (by exact hu_of hr) scChanging.nd (i_pairs (i_tupM (y_fld T.cTable T.nTableKinds rfl (yv 0)))) (blkOk_by (N := ["table", "cell", "reads"]) (sc := defScope sChanging) (by decide +kernel)) rfl rfl (by rfl) (by rfl) (fun _ _ _ _ _ _ _ => ts_no) (fun k hk _ _ _ _ _ _ => PY.int (yv 1)) (fun k hk _ _ _ _ _ _ => PY.ofBool y_bl)) (dn_y kkI)) (by rw [e1]))).y) ?_) rfl
  have e2 : (adds [] (ks.map (·.1))).mergeSort leC = chg ks := sort_same ordC (adds_nodup List.nodup_nil) dd_nodup fun x => by rw [adds_mem, dd_mem]; simp
  rw [e2, ← dT_map]; rfl
theorem flt_raw (ks : List Kd) (some : List Nat) : flt ks (fun _ => true) (fun k => k.2) (fun k r => !decide (r = k.1) && decide (r ∈ some)) (fun k r => [((r : Nat) : Int), ((k.1 : Nat) : Int)]) = (rawT ks some).map fun p => [((p.1 : Nat) : Int), ((p.2 : Nat) : Int)] := by
  unfold flt rawT
  rw [List.map_flatMap]
  congr 1
  funext k
  rw [if_pos rfl, List.map_map]; rfl
theorem c_ties (T : Tp K mg) : Callee P w K mg base "ties" 2 ["table"] (SpY (fun z : Nat × List Kd => [tTab K z.1 z.2]) (fun z => TabR z.1 z.2) fun z => tD K (.list ((tie z.2).map dP))) := by
  obtain ⟨fd, F, b⟩ := T.defTies
  refine ⟨_, fd, fnY F scTies (fun _ => rfl) (fun _ => none) (fun _ _ h => by cases h) fun ⟨n, ks⟩ TR cdv A outer s H E hr => ?_, T.gTies, F.kp, b⟩
  have TR : TabR n ks := TR
  have k40 := TR.k40
  have nd := scTies.nd
  have inj : ∀ p q : Nat × Nat, [((p.1 : Nat) : Int), ((p.2 : Nat) : Int)] = [((q.1 : Nat) : Int), ((q.2 : Nat) : Int)] → p = q := fun p q e => by
    simp only [List.cons.injEq, and_true] at e
    exact Prod.ext (Int.ofNat_inj.mp e.1) (Int.ofNat_inj.mp e.2)
  have e1 : adds [] (flt ks (fun _ => true) (fun k => k.2) (fun k r => !decide (r = k.1) && decide (r ∈ chg ks)) (fun k r => [((r : Nat) : Int), ((k.1 : Nat) : Int)])) = (adds [] (rawT ks (chg ks))).map fun p => [((p.1 : Nat) : Int), ((p.2 : Nat) : Int)] := by
    rw [flt_raw]
    exact adds_map inj _ []
  have lraw : (adds [] (rawT ks (chg ks))).length ≤ 120 := by
    have h1 := adds_len (ks := ([] : List (Nat × Nat))) (l := rawT ks (chg ks))
    have h2 := flt_len (l := ks) (f := fun _ => true) (l1 := fun k => k.2) (f1 := fun k r => !decide (r = k.1) && decide (r ∈ chg ks)) (key := fun k r => [((r : Nat) : Int), ((k.1 : Nat) : Int)]) (m := 3) fun k hk => TR.few k hk
    rw [flt_raw, List.length_map] at h2
    simp at h1
    omega
  refine s_asg (i := 1) (y_call (c_changing T) hr (by rfl) (n, ks) TR (ya_cons (yv 0) ya_nil)) ?_ nd (hx := Or.inr rfl)
  refine s_by (vs := [2]) (ps_d2 kkT (Γ := [some (tTab K n ks), some (tD K (dT (chg ks))), none, none, none, none]) 3 4 5 2 ks (fun k => tD K (iN k.1)) (fun k => tD K (dT k.2)) (fun _ => true) (fun k => k.2) (fun k r => iN r) (fun k r => !decide (r = k.1) && decide (r ∈ chg ks)) (fun k r => [((r : Nat) : Int), ((k.1 : Nat) : Int)]) (fun _ => .bool true) 3 (fun k hk => TR.few k hk) (by omega) (by rfl) (by exact hu_of hr) nd (by rfl) (by rfl) ?_
    (i_pairs (i_tupM (y_fld T.cTable T.nTableKinds rfl (yv 0)))) (blkOk_by (N := ["table", "some", "found", "cell", "reads", "one"]) (sc := defScope sTies) (by decide +kernel)) (by rfl) (by rfl) (by rfl) (by rfl) (by rfl) (by rfl) (by rfl) (by decide) (fun k hk => dst_set (dst_set ?_ (dst_data kkT)) (dst_data kkT)) (fun _ _ _ _ _ _ _ => ts_no) (fun k hk _ _ _ _ _ => PY.eq (yv 4) (congrArg (tD K) (dT_map _)))
    (fun k r hk hr _ _ _ _ _ => ts_one (t_w (w_and (k := !decide (r = k.1)) (PYT.eq ((c_neI (PY.int (yv 5)) (PY.int (yv 3))).tst _) (by congr 1; exact decide_eq_decide.mpr Int.ofNat_inj)) fun _ => w_and1 (PYT.eq ((c_inT (is := zs (chg ks)) (PY.int (yv 5)) (yv 1)).tst _) (decide_eq_decide.mpr mem_zs))))) (fun k r hk hr _ _ _ _ _ _ _ => y_tupK (ya_cons (PY.int (yv 5)) (ya_cons (PY.int (yv 3)) ya_nil)) (by show 2 ≤ 100000; decide)) (fun _ _ => rfl) (fun k r hk hr _ _ _ _ _ => PY.ofBool y_bl))
    (fun σ H Q h => dn_y kkT σ H Q h) (tg_name List.mem_cons_self) ?_
  · exact sw_trueD (by rfl) (by rfl) (by rfl) (by decide +kernel)
  · intro i τ hi
    match i, hi with
    | 0, hi => cases hi; exact xs_dst fun D => xs_tab
    | 1, hi => cases hi; exact dst_data kkT
    | 2, hi => cases hi
    | 3, hi => cases hi
    | 4, hi => cases hi
    | 5, hi => cases hi
    | i + 6, hi => cases hi
  · refine s_ret (PY.eq (n_sortDK (by rfl) (hu16 hr) ordP (adds [] (rawT ks (chg ks))) (fun p => [((p.1 : Nat) : Int), ((p.2 : Nat) : Int)]) (fun p => rfl) (dv := fun _ => .bool true) (fun _ _ => trivial) (by omega) (by rfl) T.fSorted (PY.eq (yv 2) (by rw [e1]))).y ?_) rfl
    have e2 : (adds [] (rawT ks (chg ks))).mergeSort leP = tie ks := sort_same ordP (adds_nodup List.nodup_nil) dd_nodup fun x => by rw [adds_mem, dd_mem]; simp
    rw [e2]; rfl
end
end Lp
/-! LpG2 -/
namespace Lp
open PySem PySem.Spec PyProof.Rows L2
section
variable {P : Program} {w : World} {K : PySem.W.Frag} {mg : Str → Option Value} {base : Heap}
theorem iN_zs (f : List Nat) : f.map iN = (zs f).map .int := by unfold zs; rw [List.map_map]; rfl
theorem iN_V (f : List Nat) : (zs f).map V.int = f.map fun (c : Nat) => V.int (c : Int) := by unfold zs; rw [List.map_map]; rfl
theorem bfs_succ {web : List (Nat × Nat)} {k : Nat} {f : List Nat} {d : Nat} : bfs web (k + 1) f d = if d < f.length then bfs web k (f ++ (web.filter fun p => decide (p.1 = f.getD d 0) && !decide (p.2 ∈ f)).map (·.2)) (d + 1) else f := rfl
structure LedG (ks : List Kd) (c : Nat) (z : List Nat × Nat) : Prop where
  b : Bf ks c z.1 z.2
  e : bfs (tie ks) (9 - z.2) z.1 z.2 = ledP (tie ks) c
theorem c_led_from (T : Tp K mg) : Callee P w K mg base "led_from" 1 ["web", "cell"] (SpY (fun z : List Kd × Nat => [tD K (.list ((tie z.1).map dP)), tI (z.2 : Int)]) (fun z => C8 z.1 ∧ z.2 < 8) fun z => tD K (.list ((ledP (tie z.1) z.2).map iN))) := by
  obtain ⟨fd, F, b⟩ := T.defLedFrom
  refine ⟨_, fd, fnH F scLedFrom (fun vs H Q E ⟨z, _, h, _⟩ => by rw [h.len]; rfl) fun vs H0 Q E hsp cdv A outer s hr => ?_, T.gLedFrom, F.kp, b⟩
  obtain ⟨⟨ks, c⟩, ⟨c8, hc⟩, hvs, q⟩ := hsp
  have c8 : C8 ks := c8
  have hc : c < 8 := hc
  have nd := scLedFrom.nd
  let Γ0 : Cxt := [some (tD K (.list ((tie ks).map dP))), some (tI (c : Int)), none, none, none, none]
  refine ⟨fun σ H => Env Γ0 σ H0 ∧ Same H0 H, ⟨env_start (N := ["web", "cell", "found", "done", "one", "later"]) hvs, Same.refl _⟩, ?_⟩
  -- found = [cell], done = 0
  refine h_new (i := 2) (Γ := Γ0) (n_lst (ds := [iN c]) (ya_cons (PY.ofInt (yv 1)) ya_nil) (by show 1 ≤ 100000; decide)) (fun σ H p => p.1.up p.2) (M := fun σ H => ∃ l, H0 l = none ∧ Env Γ0 σ H0 ∧ Same H0 H ∧ σ[2]? = some (some (.ref l)) ∧ H l = some (.lst ((zs [c]).map V.int))) (fun σ H l vs H' ⟨g, sm⟩ f s h1 hv => ⟨l, sm.free f, g.keep rfl, sm.trans s, List.getElem?_set_self (by rw [g.len]; show 2 < 6; decide), by rw [h1, dpAll_ints (is := zs [c]) hv]⟩) (h_ex fun l => h_and fun hl => ?_) nd (hx := Or.inr rfl)
  let I : List Nat × Nat → SP2 := fun z σ H => Env Γ0 σ H0 ∧ Same H0 H ∧ σ[2]? = some (some (.ref l)) ∧ H l = some (.lst ((zs z.1).map V.int)) ∧ σ[3]? = some (some (.int (z.2 : Nat)))
  have upI : ∀ z σ H H', I z σ H → Same H H' → I z σ H' := fun z σ H H' ⟨g, sm, e2, h2, e3⟩ s => ⟨g, sm.trans s, e2, s _ _ h2, e3⟩
  let ΓI : List Nat × Nat → Cxt := fun z => (Γ0.set 2 (some (tD K (.list (z.1.map iN))))).set 3 (some (tI (z.2 : Nat)))
  have envI : ∀ {z σ H}, I z σ H → Env (ΓI z) σ H := fun {z σ H} ⟨g, sm, e2, h2, e3⟩ => ((g.up sm).put e2 (show Dp K H (.ref l) _ by rw [iN_zs]; exact .lst (SqL.of h2) (ints_dpAll _))).put e3 rfl
  refine h_asg (i := 3) (Γ := Γ0) (y_int (i := 0)) (fun σ H p => p.1.up p.2.1) (M := I ([c], 0)) (fun σ H v H' ⟨g, sm, e2, h2⟩ s hv => ⟨g.keep rfl, sm.trans s, by rw [List.getElem?_set_ne (by decide)]; exact e2, s _ _ h2, by rw [List.getElem?_set_self (by rw [g.len]; show 3 < 6; decide), show v = V.int 0 from hv]; rfl⟩) ?_ nd (hx := Or.inr rfl)
  refine h_while (P := I ([c], 0)) (ζ := { z // LedG ks c z }) (fun z => I z.1) (fun z => 9 - z.1.2) (fun z => ΓI z.1) (fun z => decide (z.1.2 < z.1.1.length)) (fun z => PYT.eq ((c_lt (yv 3) (y_lenL (ds := z.1.1.map iN) (by rfl) T.fLen (yv 2))).tst _) (by rw [List.length_map]; exact decide_eq_decide.mpr Int.ofNat_lt)) (fun z σ H p => envI p) (fun z => upI z.1) (fun σ H p => ⟨⟨([c], 0), Bf.nil, rfl⟩, p⟩) (fun ⟨⟨f, d⟩, lg⟩ hb => ?_) ?_
  · have lt : d < f.length := of_decide_eq_true hb
    have bf : Bf ks c f d := lg.b
    have l8 := bf.len c8 hc
    have nx := bf.next lt
    have l9 := nx.len c8 hc
    have ltie := c8.tieL
    let new := (tie ks).filter fun p => decide (p.1 = f.getD d 0) && !decide (p.2 ∈ f)
    have lnew : new.length ≤ 56 := Nat.le_trans (List.length_filter_le _ _) ltie
    have hd : (f.map iN)[d]? = some (iN (f.getD d 0)) := by rw [List.getElem?_map, List.getElem?_eq_getElem lt, List.getD_eq_getElem?_getD, List.getElem?_eq_getElem lt]; rfl
    refine h_extend (M := fun σ H => Env Γ0 σ H0 ∧ Same H0 H ∧ σ[2]? = some (some (.ref l)) ∧ H l = some (.lst ((zs (f ++ new.map (·.2))).map V.int)) ∧ σ[3]? = some (some (.int (d : Nat)))) (Γ := ΓI (f, d)) (t_var (i := 2)) (n_lc2 4 5 (tie ks) (fun p => tD K (iN p.1)) (fun p => tD K (iN p.2)) (fun p => decide (p.1 = f.getD d 0) && !decide (p.2 ∈ f)) (fun p => iN p.2) (by omega) (fun _ _ => rfl) (by rfl) nd (i_pairs (i_listM (yv 0))) (blkOk_by (N := ["web", "cell", "found", "done", "one", "later"]) (sc := defScope sLedFrom) (by decide +kernel)) rfl rfl (by rfl) (by rfl)
      (fun p hp _ _ _ _ _ => ts_one (t_w (w_and (k := decide (p.1 = f.getD d 0)) (PYT.eq ((c_eqI (PY.int (yv 4)) (PY.int (y_ixL hd (yv 2) (yv 3)))).tst _) (decide_eq_decide.mpr Int.ofNat_inj)) fun _ => w_and1 (PYT.eq ((c_ninI (is := zs f) (PY.int (yv 5)) (PY.eq (yv 2) (by rw [← iN_zs]; rfl))).tst _) (by rw [decide_eq_decide.mpr mem_zs]))))) (fun p hp _ _ _ _ _ _ => yv 5)) (fun σ H p => envI p) (fun σ H ⟨g, sm, e2, h2, e3⟩ => ⟨l, _, h2, ?_, fun Q k => ⟨_, e2, k⟩, fun b zs' H' fr s hb hd' => ?_⟩) ?_
    · rw [List.length_map, List.length_map, zs_len]
      show f.length + new.length < _
      omega
    · have ez : zs' = (zs (new.map (·.2))).map V.int := dpAll_ints (by
        have e : (new.map fun p => iN p.2) = (zs (new.map (·.2))).map .int := by rw [← iN_zs, List.map_map]; rfl
        rw [← e]; exact hd')
      refine ⟨g, Same.mut (sm.trans s) hl, e2, ?_, e3⟩
      rw [upd_same, ez, zs_app, List.map_append]
    · -- done += 1
      refine h_one (ps_aug (i := 3) nd (by rfl) (Or.inr rfl) (pe_int (i := 1)) iop_add) fun D σ H ⟨g, sm, e2, h2, e3⟩ m _ => ⟨_, e3, d, 1, rfl, rfl, m _ _ ⟨⟨(f ++ new.map (·.2), d + 1), nx, ?_⟩, by show 9 - (d + 1) < 9 - d; omega, g.keep rfl, sm, by rw [List.getElem?_set_ne (by decide)]; exact e2, h2, ?_⟩⟩
      · have e := lg.e
        show bfs (tie ks) (9 - (d + 1)) _ (d + 1) = _
        rw [← e]
        show _ = bfs (tie ks) (9 - d) f d
        rw [show 9 - d = (9 - (d + 1)) + 1 by omega]
        rw [bfs_succ, if_pos lt]
      · rw [List.getElem?_set_self (by rw [g.len]; show 3 < 6; decide)]; rfl
  · refine h_ex fun ⟨⟨f, d⟩, lg⟩ => h_and fun hb => h_retY (Γ := ΓI (f, d)) (yv 2) (fun σ H p => envI p) fun σ H v H' p s hv => q v H' (p.2.1.trans s) ?_
    have e := lg.e
    rw [bfs_end (of_decide_eq_false hb)] at e
    show Dp K H' v (.list ((ledP (tie ks) c).map iN))
    rw [← e]; exact hv
end
end Lp
/-! LpG3 -/
namespace Lp
open PySem PySem.Spec PyProof.Rows L2
/-- a dict with whole numbers as keys that is being walked -/
def tDictF (K : PySem.W.Frag) (ks : List Int) (dv : Int → PyData) : Ty := ⟨fun v H => ∃ a ob ρ, v = .ref a ∧ H a = some (.frz ob (.dK (dkg Sum.inl ks ρ))) ∧ ∀ j, j ∈ ks → Dp K H (ρ j) (dv j), fun e ⟨a, ob, ρ, h1, h2, h3⟩ => ⟨a, ob, ρ, h1, e _ _ h2, fun j hj => Dp.up e (h3 j hj)⟩⟩
section
variable {X : Cx} {Γ : Cxt} {τ : Ty} {e a b tg : Expr} {pos : Pos} {st : Stmt} {rest : List Stmt} {E : EndY}
theorem y_getF {ks : List Int} {dv : Int → PyData} {j : Int} (hj : j ∈ ks) (hu : X.A.units + 1 < cLine) (hb : PY X b Γ (tDictF X.K ks dv)) (ha : PY X a Γ (tI j)) (hs : NoSl a := by exact fun _ _ => rfl) : PY X (.Subscript b a pos) Γ (tD X.K (dv j)) :=
  PE.imp (pe_dget hu hb ha hs) fun σ H Q ⟨g, q⟩ => ⟨g, fun x H1 s1 hx => ⟨g.up s1, fun y H2 s2 hy => by
    obtain ⟨c, ob, ρ, rfl, h1, h2⟩ := (tDictF X.K ks dv).up s2 hx
    refine ⟨c, ρ j, rfl, .inl ⟨_, Sum.inl j, .inr ⟨ob, h1⟩, hy, ?_⟩, q _ H2 (s1.trans s2) (h2 j hj)⟩
    have := valV_dkg kkI.inj (ρ := ρ) (k := j) (ks := ks)
    rw [if_pos hj] at this
    exact this.symm⟩⟩
theorem i_keysF {ks : List Int} {dv : Int → PyData} (h : PY X e Γ (tDictF X.K ks dv)) : PYI X tg e Γ (ks.map tI) :=
  PI.imp (pi_keys h) fun σ H R ⟨g, q⟩ => ⟨g, fun v H1 s1 ⟨c, ob, ρ, ev, h1, h2⟩ => ⟨c, ob, ev, .inl ⟨_, h1, q _ H1 s1 ⟨fun i H' s hi => ⟨s _ _ h1, by rw [dkg_len]; simpa using hi⟩, fun H' s => ⟨s _ _ h1, by rw [dkg_len]; simp⟩, fun i H' x H'' s ⟨e2, k, u, hk, ex⟩ hi => by
    subst e2
    refine ⟨Same.refl _, ?_⟩
    unfold dkg at hk
    rw [List.getElem?_map] at hk
    cases hq : ks[i]? with
    | none => rw [hq] at hk; cases hk
    | some j =>
      rw [hq] at hk
      cases hk
      exact ⟨tI j, by rw [List.getElem?_map, hq]; rfl, ex⟩⟩⟩⟩⟩
theorem i_keysN {l : List Nat} {dv : Int → PyData} (h : PY X e Γ (tDictF X.K (zs l) dv)) : PYI X tg e Γ (l.map fun c => tI (c : Nat)) := by
  have := i_keysF (tg := tg) h
  unfold zs at this
  rwa [List.map_map] at this
theorem dst_relF {α κ : Type} [DecidableEq α] [DecidableEq κ] {k : KK α κ} {H : Hp} {D : Addr} {kvs : List (κ × V)} {o' : HO} (hD : H D = some (k.cons kvs)) : ∀ {ts : List (Str × Ty)} {fs : List (Str × V)}, (∀ p, p ∈ ts → DStab k p.2) → RelF ts fs H → RelF ts fs (upd H D o')
  | _, _, _, .nil => .nil
  | _, _, st, .cons h a => .cons (st _ List.mem_cons_self _ _ _ _ _ hD h) (dst_relF hD (fun p hp => st p (List.mem_cons_of_mem _ hp)) a)
theorem dst_obj {C : Addr} {ts : List (Str × Ty)} (st : ∀ p, p ∈ ts → DStab kkI p.2) : DStab kkI (tObj C ts) := fun v H D kvs o' hD ⟨a, dx, fs, e1, h1, h2⟩ => ⟨a, dx, fs, e1, by rw [upd_ne (ne_of h1 hD (by intro z; cases z))]; exact h1, dst_relF hD st h2⟩
/-- a statement that walks a dict of the def's own: the dict is locked meanwhile -/
theorem s_lock_d1 {i jw : Nat} {ks0 : List Int} {dv0 : Int → PyData} {ks : List (List Int)} {dv : List Int → PyData} (hjw : Γ[jw]? = some (some (tDict kkI X.K ks0 dv0))) (hst : ∀ (q : Nat) (τ : Ty), q ≠ jw → Γ[q]? = some (some τ) → DStab kkI τ) (hdv : ∀ k, dv k = .bool true) (h : PS X st (tAsg (tDn kkT X.K (Γ.set jw (some (tDictF X.K ks0 dv0))) ks dv) (gName i))) (hr : PSY X rest (Γ.set i (some (tDict kkT X.K (adds [] ks) dv))) E) : PSY X (st :: rest) Γ E :=
  PSs.imp (pss_cons (ps_lock h) hr) fun D σ H g => by
    obtain ⟨v, hv, a, ρ, rfl, ha, hd⟩ := g.1.at_ jw _ hjw
    refine ⟨a, _, ha, trivial, fun od => ⟨⟨by rw [List.length_set]; exact g.1.len, fun q τ hq => ?_⟩, fun p ρ' H' fr s hp hd' => ?_⟩⟩
    · by_cases e : jw = q
      · subst e
        by_cases hl : jw < Γ.length
        · rw [List.getElem?_set_self hl] at hq
          cases hq
          exact ⟨_, hv, a, od, ρ, rfl, upd_same, fun j hj => Dp.upd ha (kkI.no _) (hd j hj)⟩
        · rw [List.getElem?_eq_none (by simp; omega)] at hq; cases hq
      · rw [List.getElem?_set_ne e] at hq
        obtain ⟨u, h1, h2⟩ := g.1.at_ q τ hq
        exact ⟨u, h1, hst q τ (Ne.symm e) hq u H a _ _ ha h2⟩
    · have hA : H' a = some (.frz od (kkI.cons (dkg kkI.f ks0 ρ))) := s _ _ upd_same
      have sm : Same H (upd H' a (kkI.cons (dkg kkI.f ks0 ρ))) := fun b o hb => by
        by_cases e : b = a
        · subst e
          rw [ha] at hb
          cases hb; exact upd_same
        · rw [upd_ne e]
          exact s _ _ (by rw [upd_ne e]; exact hb)
      have nep : p ≠ a := fun e => by rw [e, upd_same] at fr; cases fr
      refine ⟨hA, tail_ok g sm ((g.1.up sm).set ⟨p, ρ', rfl, by rw [upd_ne nep]; exact hp, fun j hj => ?_⟩)⟩
      have := hd' j hj
      rw [hdv] at this ⊢
      rw [show ρ' j = .bl true from dp_bool this]
      exact .bl true
/-- as ps_d1, the target's name told by its rule -/
theorem ps_d1g {κ α : Type} [DecidableEq α] [DecidableEq κ] {β : Type} {it kx vx : Expr} {tpos spos py : Pos} {ifs : List Expr} {scope : Scope} (k : KK α κ) {nm y : Str} (i j : Nat) (l : List β) (t : β → Ty) (f : β → Bool) (key : β → α) (dv : α → PyData) (hz : l.length ≤ 100000) (hc : X.calm = true) (hu : X.A.units + 1 < cLine) (hN : X.N.Nodup) (hy : X.N[j]? = some y) (hyl : X.env.scope.names.lookup y = some .local) (hsw : swapsWith (.DictComp kx vx [⟨.Name nm tpos, it, ifs, 0⟩] scope pos) (some (.Name y py)) spos.line X.env = pure true)
    (hi : PYI X (.Name nm tpos) it Γ (l.map t)) (ok : BlkOk X.N X.env.scope scope [(nm, i)]) (hg : Bl X scope fun Y => PG Y (.Name nm tpos) (gName i)) (ht : ∀ x, x ∈ l → Bl X scope fun Y => PTs Y ifs (tYT (Γ.set i (some (t x))) (f x))) (hk : ∀ x, x ∈ l → f x = true → Bl X scope fun Y => PE Y kx (tY (Γ.set i (some (t x))) (k.ty (key x))))
    (he : ∀ x, x ∈ l → f x = true → Bl X scope fun Y => PE Y vx (tY (Γ.set i (some (t x))) (tD X.K (dv (key x))))) (hs : ∀ x, foldedSetIterable it X.env x = pure x := by intro _; rfl) : PS X (.Assign [.Name y py] (.DictComp kx vx [⟨.Name nm tpos, it, ifs, 0⟩] scope pos) spos) (tAsg (tDn k X.K Γ ((l.filter f).map key) dv) (gName j)) :=
  PS.imp (Lq.ps_d1 (g := gName i) (own := [(nm, i)]) (tt := ttL l f fun x => Γ.set i (some (t x))) (tk := tkL k l f key fun x => Γ.set i (some (t x))) (tv := teL X.K l f (fun x => dv (key x)) fun x => Γ.set i (some (t x))) hc hu hN hy hyl hsw hi ok k.emp hg
    (fun s H C cl fp => ⟨fun pins s' σ H' Q I ⟨x, hx, q⟩ => (ht x hx s H C cl fp).run pins s' σ H' Q I q⟩) (fun s H C cl fp => ⟨fun pins s' σ H' Q I ⟨x, hx, hf, q⟩ => (hk x hx hf s H C cl fp).run pins s' σ H' Q I q⟩) (fun s H C cl fp => ⟨fun pins s' σ H' Q I ⟨x, hx, hf, q⟩ => (he x hx hf s H C cl fp).run pins s' σ H' Q I q⟩) hs) fun D σ H h => d1_sem k l t f key dv _ hz (fun x _ => oneG) h
end
section
variable {P : Program} {w : World} {K : PySem.W.Frag} {mg : Str → Option Value} {base : Heap}
theorem dst_tab {n : Nat} {ks : List Kd} : DStab kkI (tTab K n ks) := dst_obj fun p hp => by
  simp only [List.mem_cons, List.not_mem_nil, or_false] at hp
  rcases hp with rfl | rfl
  · exact dst_v kkI
  · exact dst_data kkI
theorem adds_id {α : Type} [DecidableEq α] : ∀ (l ks : List α), (ks ++ l).Nodup → adds ks l = ks ++ l
  | [], ks, _ => by rw [List.append_nil]; rfl
  | x :: l, ks, h => by
    have hx : x ∉ ks := fun z => (List.nodup_append.mp h).2.2 x z x List.mem_cons_self rfl
    show adds (addk ks x) l = _
    unfold addk
    rw [if_neg hx, adds_id l (ks ++ [x]) (by rw [List.append_assoc]; exact h), List.append_assoc]; rfl
theorem adds_chg (ks : List Kd) : adds [] ((chg ks).map fun (c : Nat) => (c : Int)) = zs (chg ks) := by
  rw [adds_zs, adds_id (chg ks) [] (by simpa using chg_nodup ks)]; rfl
theorem c_knot_list (T : Tp K mg) : Callee P w K mg base "knot_list" 3 ["table"] (SpY (fun z : Nat × List Kd => [tTab K z.1 z.2]) (fun z => TabR z.1 z.2) fun z => tD K (.list ((knots z.2).map dT))) := by
  obtain ⟨fd, F, b⟩ := T.defKnotList
  refine ⟨_, fd, fnY F scKnotList (fun _ => rfl) (fun _ => none) (fun _ _ h => by cases h) fun ⟨n, ks⟩ TR cdv A outer s H E hr => ?_, T.gKnotList, F.kp, b⟩
  have TR : TabR n ks := TR
  have c8 := TR.c8
  have chgL := c8.chgL
  have nd := scKnotList.nd
  have hu := hu_of hr
  let dv0 : Int → PyData := fun j => .list ((ledP (tie ks) j.toNat).map iN)
  refine s_asg (i := 1) (y_call (c_ties T) hr (by rfl) (n, ks) TR (ya_cons (yv 0) ya_nil)) ?_ nd (hx := Or.inr rfl)
  refine s_asg (i := 2) (τ := tDict kkI K (zs (chg ks)) dv0) (PY.eq (PE.imp (n_d1 kkI 3 (chg ks) (fun c => tD K (iN c)) (fun _ => true) (fun (c : Nat) => (c : Int)) dv0 (by omega) (by rfl) (by exact hu) nd (i_lot (y_call (c_changing T) (hr.mono (by decide)) (by rfl) (n, ks) TR (ya_cons (yv 0) ya_nil))) (blkOk_by (N := ["table", "web", "ways", "cell", "found", "one"]) (sc := defScope sKnotList) (by decide +kernel)) (by rfl) (by rfl) (fun _ _ _ _ _ _ _ => ts_no) (fun c hc _ _ _ _ _ _ => PY.int (yv 3)) (fun c hc _ _ _ _ _ _ => y_call (c_led_from T) (by exact hr.mono (by decide)) (by rfl) (ks, c) ⟨c8, chg8 c8 hc⟩ (ya_cons (yv 1) (ya_cons (PY.int (yv 3)) ya_nil)))) (dn_y kkI)) ?_) ?_ nd (hx := Or.inr rfl)
  · rw [filter_all, adds_chg]; rfl
  have edv : ∀ c : Nat, tD K (dv0 (c : Int)) = tD K (dLi (zs (ledP (tie ks) c))) := fun c => by show tD K (.list ((ledP (tie ks) c).map iN)) = _; rw [iN_zs]
  refine s_lock_d1 (i := 4) (jw := 2) (ks0 := zs (chg ks)) (dv0 := dv0) (dv := fun _ => .bool true) (ks := ((chg ks).filter fun _ => true).map fun c => zs (knotL ks c)) (by rfl) ?_ (fun _ => rfl) (ps_d1g kkT 3 4 (chg ks) (fun c => tI (c : Nat)) (fun _ => true) (fun c => zs (knotL ks c)) (fun _ => .bool true) (by omega) (by rfl) (by exact hu) nd (by rfl) (by rfl) (sw_trueD (by rfl) (by rfl) (by rfl) (by decide +kernel)) (i_keysN (yv 2)) (blkOk_by (N := ["table", "web", "ways", "cell", "found", "one"]) (sc := defScope sKnotList) (by decide +kernel)) (fun _ _ _ _ _ => pg_name (i := 3) nd rfl (Or.inr (by rfl)) (Or.inl (by rfl))) (fun _ _ _ _ _ _ _ => ts_no) (fun c hc _ _ _ _ _ _ => ?_) (fun c hc _ _ _ _ _ _ => PY.ofBool y_bl)) ?_
  · intro q τ hq hi
    match q, hi with
    | 0, hi => cases hi; exact dst_tab
    | 1, hi => cases hi; exact dst_data kkI
    | 2, hi => exact absurd rfl hq
    | 3, hi => cases hi
    | 4, hi => cases hi
    | 5, hi => cases hi
    | i + 6, hi => cases hi
  · refine y_tupleK (by rfl) T.fTuple (PY.eq (y_lc1 5 (chg ks) (fun c => tI (c : Nat)) (fun one => decide (one ∈ ledP (tie ks) c) && decide (c ∈ ledP (tie ks) one)) iN (by omega) (fun _ _ => rfl) (by rfl) nd (i_keysN (yv 2)) (blkOk_by (by rfl)) (by rfl) (by rfl) (fun x hx _ _ _ _ _ => ts_one (t_w (w_and (k := decide (x ∈ ledP (tie ks) c)) ?_ fun _ => ?_))) (fun x hx _ _ _ _ _ _ => PY.ofInt (yv 5))) ?_)
    · exact PYT.eq ((c_inI (is := zs (ledP (tie ks) c)) (yv 5) (PY.eq (y_getF (j := (c : Int)) (mem_zs.mpr hc) (by exact hu) (yv 2) (yv 3)) (edv c))).tst _) (decide_eq_decide.mpr mem_zs)
    · exact w_and1 (PYT.eq ((c_inI (is := zs (ledP (tie ks) x)) (yv 3) (PY.eq (y_getF (j := (x : Int)) (mem_zs.mpr hx) (by exact hu) (yv 2) (yv 5)) (edv x))).tst _) (decide_eq_decide.mpr mem_zs))
    · rw [iN_zs]; rfl
  · have ek : adds [] (((chg ks).filter fun _ => true).map fun c => zs (knotL ks c)) = (adds [] ((chg ks).map (knotL ks))).map zs := by
      have := adds_map (f := zs) (fun x y e => zs_inj e) ((chg ks).map (knotL ks)) []
      rw [filter_all, ← this, List.map_map]; rfl
    have l8 : (adds [] ((chg ks).map (knotL ks))).length ≤ 8 := by
      have := adds_len (ks := ([] : List (List Nat))) (l := (chg ks).map (knotL ks))
      simp at this; omega
    refine s_ret (PY.eq (n_sortDK (by rfl) (hu16 hr) ordN (adds [] ((chg ks).map (knotL ks))) zs (fun l => rfl) (dv := fun _ => .bool true) (fun l hl => ?_) (by omega) (by rfl) T.fSorted (PY.eq (yv 4) (by rw [ek]))).y ?_) rfl
    · obtain ⟨c, hc, rfl⟩ := List.mem_map.mp ((adds_mem.mp hl).resolve_left List.not_mem_nil)
      exact List.ne_nil_of_mem (self_knot c8 hc)
    · have e2 : (adds [] ((chg ks).map (knotL ks))).mergeSort leN = knots ks := sort_same ordN (adds_nodup List.nodup_nil) dd_nodup fun x => by rw [adds_mem, dd_mem]; simp
      rw [e2]; rfl
end
end Lp
/-! LpG4 -/
namespace Lp
open PySem PySem.Spec PyProof.Rows L2
/-! ### a dict of new lists -/
theorem zs_snoc (l : List Nat) (c : Nat) : zs (l ++ [c]) = zs l ++ [(c : Int)] := zs_app l [c]
abbrev lref (lo : Int → Addr) : Int → V := fun j => .ref (lo j)
structure NewL (kn : List Nat) (H0 : Hp) (D : Addr) (lo : Int → Addr) : Prop where
  d : H0 D = none
  l : ∀ c, c ∈ kn → H0 (lo (c : Nat)) = none
  inj : ∀ c c', c ∈ kn → c' ∈ kn → lo (c : Nat) = lo (c' : Nat) → c = c'
def tNewD (K : PySem.W.Frag) (Γ : Cxt) (kn : List Nat) : TE := fun σ H Q => Env Γ σ H ∧ ∀ D lo H', NewL kn H D lo → Same H H' → H' D = some (.dK (dkg Sum.inl (zs kn) (lref lo))) → (∀ c, c ∈ kn → H' (lo (c : Nat)) = some (.lst [])) → Q (.ref D) H'
def tkN (kn : List Nat) (Γt : Nat → Cxt) : TE := fun σ H Q => ∃ c, c ∈ kn ∧ tY (Γt c) (tI (c : Nat)) σ H Q
theorem newd_sem {K : PySem.W.Frag} {Γ : Cxt} {i : Nat} (kn : List Nat) (nd : kn.Nodup) (hz : kn.length ≤ 1000) {σ : L2.St} {H : Hp} {Q : VK} (h : tNewD K Γ kn σ H Q) :
    Lq.tD1 (.dK []) (iY Γ (kn.map fun c => tD K (iN c))) (gName i) tYes (tkN kn fun c => Γ.set i (some (tD K (iN c)))) (L2.tLst tNil) [i] σ H Q := by
  obtain ⟨gm, q⟩ := h
  refine ⟨gm, fun J H1 s1 wk => ?_⟩
  intro D hD
  let W : Nat → Nat → Hp → Prop := fun i m H' => m = kn.length - i ∧ i ≤ kn.length ∧ Same H1 H' ∧ ∃ lo : Int → Addr, NewL (kn.take i) H1 D lo ∧ H' D = some (.dK (dkg Sum.inl (zs (kn.take i)) (lref lo))) ∧ ∀ c, c ∈ kn.take i → H' (lo (c : Nat)) = some (.lst [])
  refine ⟨W, ⟨kn.length, by simp, Nat.zero_le _, Same.new hD, fun _ => D, ⟨hD, fun c hc => (by cases hc), fun c c' hc => (by cases hc)⟩, upd_same, fun c hc => (by cases hc)⟩, ?_⟩
  rintro j m H' ⟨rfl, hj, s2, lo, nl, hd, hl⟩
  have lenl : (kn.map fun c => tD K (iN c)).length = kn.length := List.length_map _
  by_cases lt : j < kn.length
  · refine .inr ⟨wk.goes j H' s2 (by rw [lenl]; exact lt), W (j + 1) (kn.length - (j + 1)), fun H'' w => ⟨_, by omega, w⟩, fun x H2 y => ?_⟩
    obtain ⟨s3, τ, t1, t2⟩ := wk.yields j H' x H2 s2 y (by rw [lenl]; exact lt)
    have hc : kn[j]? = some kn[j] := List.getElem?_eq_getElem lt
    rw [List.getElem?_map, hc] at t1
    cases t1
    have tk : kn.take (j + 1) = kn.take j ++ [kn[j]] := by rw [List.take_succ, hc]; rfl
    have hm : kn[j] ∈ kn := List.getElem_mem lt
    have hnew : kn[j] ∉ kn.take j := fun hin => by
      have h2 : (kn.take (j + 1)).Nodup := nd.sublist (List.take_sublist _ _)
      rw [tk] at h2
      exact (List.nodup_append.mp h2).2.2 _ hin _ (List.mem_singleton.mpr rfl) rfl
    refine oneG (Γ := Γ) x _ H2 ((gm.up (s1.trans (s2.trans s3))).wipe _) t2 _ fun σ' e' hw => ⟨by rw [hw]; exact wipe_wipe _, ?_⟩
    show Lq.tSto D (tkN kn fun c => List.set Γ i (some (tD K (iN c)))) (L2.tLst tNil) (W (j + 1) (kn.length - (j + 1))) σ' H2
    refine ⟨kn[j], hm, e', fun yv H3 s4 hy => ⟨Nat.zero_le _, fun p hp => ?_⟩⟩
    have s24 : Same H' H3 := s3.trans s4
    have hD3 := s24 _ _ hd
    have neD : p ≠ D := fun e => by rw [e, hD3] at hp; cases hp
    have hD4 : (upd H3 p (.lst [])) D = some (.dK (dkg Sum.inl (zs (kn.take j)) (lref lo))) := by rw [upd_ne neD.symm]; exact hD3
    obtain ⟨lo', v1, v2, v3⟩ : ∃ lo' : Int → Addr, lo' ((kn[j] : Nat) : Int) = p ∧ (∀ c, c ∈ kn.take j → lo' (c : Nat) = lo (c : Nat)) ∧ ∀ k, (if k = ((kn[j] : Nat) : Int) then V.ref p else V.ref (lo k)) = V.ref (lo' k) := by
      refine ⟨fun k => if k = ((kn[j] : Nat) : Int) then p else lo k, by simp, fun c hc => ?_, fun k => ?_⟩
      · have : ¬ ((c : Nat) : Int) = ((kn[j] : Nat) : Int) := fun e => by rw [Int.ofNat_inj.mp e] at hc; exact hnew hc
        simp only [this, if_false]
      · by_cases e : k = ((kn[j] : Nat) : Int) <;> simp [e]
    have old : ∀ c, c ∈ kn.take j → lo (c : Nat) ≠ p := fun c hc e => by
      have := s24 _ _ (hl c hc)
      rw [e, hp] at this; cases this
    refine ⟨_, kkI.put (k := (kn[j] : Nat)) (show (tI ((kn[j] : Nat) : Int)).is yv _ from hy) hD4 (by rw [dkg_len, zs_len, List.length_take]; exact sz_lt (by omega)), rfl, lt, Same.mut (s2.trans (s24.trans (Same.new hp))) hD, lo', ⟨hD, fun c hc' => ?_, fun c c' hc1 hc2 e => ?_⟩, ?_, fun c hc' => ?_⟩
    · rw [tk] at hc'
      rcases List.mem_append.mp hc' with q' | q'
      · rw [v2 c q']; exact nl.l c q'
      · rw [List.mem_singleton.mp q', v1]
        exact (s2.trans s24).free hp
    · rw [tk] at hc1 hc2
      rcases List.mem_append.mp hc1 with a | a
      · rcases List.mem_append.mp hc2 with b | b
        · rw [v2 c a, v2 c' b] at e
          exact nl.inj c c' a b e
        · rw [v2 c a, List.mem_singleton.mp b, v1] at e
          exact absurd e (old c a)
      · rcases List.mem_append.mp hc2 with b | b
        · rw [v2 c' b, List.mem_singleton.mp a, v1] at e
          exact absurd e.symm (old c' b)
        · rw [List.mem_singleton.mp a, List.mem_singleton.mp b]
    · rw [upd_same]
      show some (HO.dK (putK (dkg Sum.inl (zs (kn.take j)) (lref lo)) (Sum.inl ((kn[j] : Nat) : Int)) (.ref p))) = _
      rw [putK_dkg (f := (Sum.inl : Int → L2.Key)) kkI.inj, tk, zs_snoc]
      have ea : addk (zs (kn.take j)) ((kn[j] : Nat) : Int) = zs (kn.take j) ++ [((kn[j] : Nat) : Int)] := by unfold addk; rw [if_neg fun z => hnew (mem_zs.mp z)]
      rw [ea]
      have ef : (fun k => if k = ((kn[j] : Nat) : Int) then V.ref p else lref lo k) = lref lo' := funext v3
      rw [ef]
    · rw [tk] at hc'
      rcases List.mem_append.mp hc' with q' | q'
      · rw [v2 c q']
        have h3 := s24 _ _ (hl c q')
        have n1 : lo (c : Nat) ≠ D := ne_of h3 hD3 (by intro z; cases z)
        have n2 : lo (c : Nat) ≠ p := ne_of_none h3 hp
        rw [upd_ne n1, upd_ne n2]; exact h3
      · rw [List.mem_singleton.mp q', v1, upd_ne neD]; exact upd_same
  · obtain rfl : j = kn.length := by omega
    rw [List.take_length] at nl hd hl
    exact .inl ⟨by have := wk.stops H' s2; rwa [lenl] at this, q D lo H' ⟨s1.free nl.d, fun c hc => s1.free (nl.l c hc), nl.inj⟩ (s1.trans s2) hd hl⟩
section
variable {X : Cx} {Γ : Cxt} {it : Expr} {tpos spos py pos : Pos} {scope : Scope} {p1 posl : Pos}
theorem ps_newD {nm y : Str} (i j : Nat) (kn : List Nat) (ndk : kn.Nodup) (hz : kn.length ≤ 1000) (hc : X.calm = true) (hu : X.A.units + 1 < cLine) (hN : X.N.Nodup) (hy : X.N[j]? = some y) (hyl : X.env.scope.names.lookup y = some .local) (hsw : swapsWith (.DictComp (.Name nm p1) (.List [] posl) [⟨.Name nm tpos, it, [], 0⟩] scope pos) (some (.Name y py)) spos.line X.env = pure true)
    (hi : PYI X (.Name nm tpos) it Γ (kn.map fun c => tD X.K (iN c))) (ok : BlkOk X.N X.env.scope scope [(nm, i)]) (hn : X.N[i]? = some nm) (hl : scope.names.lookup nm = some .local) (hk : ∀ c, c ∈ kn → Bl X scope fun Y => PE Y (.Name nm p1) (tY (Γ.set i (some (tD X.K (iN c)))) (tI (c : Nat))))
    (hs : ∀ x, foldedSetIterable it X.env x = pure x := by intro _; rfl) : PS X (.Assign [.Name y py] (.DictComp (.Name nm p1) (.List [] posl) [⟨.Name nm tpos, it, [], 0⟩] scope pos) spos) (tAsg (tNewD X.K Γ kn) (gName j)) :=
  PS.imp (Lq.ps_d1 (o := .dK []) (g := gName i) (own := [(nm, i)]) (tt := tYes) (tk := tkN kn fun c => Γ.set i (some (tD X.K (iN c)))) (tv := L2.tLst tNil) hc hu hN hy hyl hsw hi ok (.inl rfl) (fun _ _ _ _ _ => pg_name (i := i) hN hn (Or.inl (lookup_relabel_local hl)) (.inr (lookup_relabel_local hl))) (fun _ _ _ _ _ => pts_nil)
    (fun s H C cl fp => ⟨fun pins s' σ H' Q I ⟨x, hx, q⟩ => (hk x hx s H C cl fp).run pins s' σ H' Q I q⟩) (fun _ _ _ _ _ => pe_lst pa_nil) hs) fun D σ H h => newd_sem kn ndk hz h
end
end Lp
/-! LpG5 -/
namespace Lp
open PySem PySem.Spec PyProof.Rows L2
abbrev dNear (f : Nat → List Nat) : Int → PyData := fun j => .list ((f j.toNat).map iN)
structure BsS (K : PySem.W.Frag) (kn : List Nat) (H0 : Hp) (Γ0 : Cxt) (D : Addr) (lo : Int → Addr) (f : Nat → List Nat) (σ : L2.St) (H : Hp) : Prop where
  env : Env Γ0 σ H0
  same : Same H0 H
  slot : σ[2]? = some (some (.ref D))
  dic : H D = some (.dK (dkg Sum.inl (zs kn) (lref lo)))
  lst : ∀ c, c ∈ kn → H (lo (c : Nat)) = some (.lst ((zs (f c)).map V.int))
section
variable {K : PySem.W.Frag} {kn : List Nat} {H0 : Hp} {Γ0 : Cxt} {D : Addr} {lo : Int → Addr} {f f' : Nat → List Nat} {σ : L2.St} {H H' : Hp}
theorem BsS.up (b : BsS K kn H0 Γ0 D lo f σ H) (e : Same H H') : BsS K kn H0 Γ0 D lo f σ H' := ⟨b.env, b.same.trans e, b.slot, e _ _ b.dic, fun c hc => e _ _ (b.lst c hc)⟩
theorem BsS.set (b : BsS K kn H0 Γ0 D lo f σ H) {i : Nat} {a : Option V} (hi : Γ0[i]? = some none) (h2 : i ≠ 2) : BsS K kn H0 Γ0 D lo f (σ.set i a) H := ⟨b.env.keep hi, b.same, by rw [List.getElem?_set_ne h2]; exact b.slot, b.dic, b.lst⟩
theorem BsS.congr (b : BsS K kn H0 Γ0 D lo f σ H) (e : ∀ c, c ∈ kn → f c = f' c) : BsS K kn H0 Γ0 D lo f' σ H := ⟨b.env, b.same, b.slot, b.dic, fun c hc => by rw [← e c hc]; exact b.lst c hc⟩
theorem BsS.dict (b : BsS K kn H0 Γ0 D lo f σ H) : (tDict kkI K (zs kn) (dNear f)).is (.ref D) H := ⟨D, lref lo, rfl, b.dic, fun j hj => by
  obtain ⟨c, hc, rfl⟩ : ∃ c, c ∈ kn ∧ j = ((c : Nat) : Int) := by
    unfold zs at hj
    obtain ⟨c, h1, h2⟩ := List.mem_map.mp hj
    exact ⟨c, h1, h2.symm⟩
  show Dp K H (.ref (lo (c : Nat))) (.list ((f c).map iN))
  rw [iN_zs]
  exact .lst (SqL.of (b.lst c hc)) (ints_dpAll _)⟩
/-- a list of references is none of whole numbers -/
theorem seqL_ints {a : Addr} {xs : List V} {p : Addr} {ns : List Int} {o' : HO} (hq : SqL K H a xs) (hne : ∃ q r, xs = V.ref q :: r) (hp : H p = some (.lst (ns.map V.int))) : SqL K (upd H p o') a xs := by
  rcases hq with (q | ⟨ob, q⟩) | q
  · refine .inl (.inl ?_)
    rw [upd_ne (fun e => ?_)]; exact q
    rw [e, hp] at q
    obtain ⟨r1, r2, rfl⟩ := hne
    have := Option.some.inj q
    injection this with this
    cases ns with
    | nil => cases this
    | cons i ns => rw [List.map_cons] at this; injection this with h1 _; cases h1
  · refine .inl (.inr ⟨ob, ?_⟩)
    rw [upd_ne (fun e => ?_)]; exact q
    rw [e, hp] at q; cases q
  · exact .inr q
theorem ref_head {ds : List PyData} {ts : List PyData} {xs : List V} (h : DpAll K H xs (.tuple ts :: ds)) : ∃ q r, xs = V.ref q :: r := by
  cases h with
  | cons h t =>
    obtain ⟨a, ys, rfl, _⟩ := dp_tup h
    exact ⟨a, _, rfl⟩
end
def sub1 (q : Nat × Nat) (f : Nat → List Nat) : Nat → List Nat := fun c => if c = q.1 then addk (f c) q.2 else f c
theorem near_subs {kn : List Nat} {p : Nat × Nat} (h1 : p.1 ∈ kn) (h2 : p.2 ∈ kn) (f : Nat → List Nat) (c : Nat) : nearStep kn c (f c) p = sub1 (p.2, p.1) (sub1 (p.1, p.2) f) c := by
  unfold nearStep sub1
  rw [if_pos (by rw [decide_eq_true h1, decide_eq_true h2]; rfl)]
theorem near_no {kn : List Nat} {p : Nat × Nat} (h : ¬ (p.1 ∈ kn ∧ p.2 ∈ kn)) (f : List Nat) (c : Nat) : nearStep kn c f p = f := by
  unfold nearStep
  rw [if_neg]
  simpa using h
section
variable {P : Program} {w : World} {K : PySem.W.Frag} {mg : Str → Option Value} {base : Heap}
theorem addk_small {f : List Nat} {x : Nat} (h : x ∉ f) : addk f x = f ++ [x] := by unfold addk; rw [if_neg h]
theorem addk_in {f : List Nat} {x : Nat} (h : x ∈ f) : addk f x = f := by unfold addk; rw [if_pos h]
/-- few names of few lists -/
def Few (kn : List Nat) (m : Nat) (f : Nat → List Nat) : Prop := ∀ c, c ∈ kn → (f c).length ≤ m
theorem few_sub1 {kn : List Nat} {m : Nat} {f : Nat → List Nat} {q : Nat × Nat} (h : Few kn m f) : Few kn (m + 1) (sub1 q f) := fun c hc => by
  unfold sub1
  have := h c hc
  split
  · have := addk_len (ks := f c) (k := q.2); omega
  · omega
/-- the lists behind some pairs -/
def nearAt (web : List (Nat × Nat)) (kn : List Nat) (i : Nat) : Nat → List Nat := fun c => (web.take i).foldl (nearStep kn c) []
theorem nearAt_next {web : List (Nat × Nat)} {kn : List Nat} {i : Nat} {p : Nat × Nat} (h : web[i]? = some p) (c : Nat) : nearAt web kn (i + 1) c = nearStep kn c (nearAt web kn i c) p := by
  unfold nearAt
  rw [List.take_succ, h]
  show (web.take i ++ [p]).foldl _ _ = _
  rw [List.foldl_append]; rfl
theorem nearAt_few {web : List (Nat × Nat)} {kn : List Nat} : ∀ i, Few kn (2 * i) (nearAt web kn i)
  | 0, c, _ => Nat.le_refl _
  | i + 1, c, hc => by
    have ih := nearAt_few (web := web) i c hc
    cases q : web[i]? with
    | none =>
      have : nearAt web kn (i + 1) c = nearAt web kn i c := by unfold nearAt; rw [List.take_succ, q]; simp
      rw [this]; omega
    | some p =>
      rw [nearAt_next q]
      unfold nearStep
      have h1 := addk_len (ks := nearAt web kn i c) (k := p.2)
      have h2 := addk_len (ks := nearAt web kn i c) (k := p.1)
      have h3 := addk_len (ks := addk (nearAt web kn i c) p.2) (k := p.1)
      split
      · split <;> split <;> omega
      · omega
theorem c_beside (T : Tp K mg) : Callee P w K mg base "beside" 3 ["table", "knot"] (SpY (fun z : Nat × List Kd × List Nat => [tTab K z.1 z.2.1, tD K (dT z.2.2)]) (fun z => TabR z.1 z.2.1 ∧ z.2.2.Nodup ∧ z.2.2.length ≤ 8) fun z => tDict kkI K (zs z.2.2) (dNear (nearF (tie z.2.1) z.2.2))) := by
  obtain ⟨fd, F, b⟩ := T.defBeside
  refine ⟨_, fd, fnH F scBeside (fun vs H Q E ⟨z, _, h, _⟩ => by rw [h.len]; rfl) fun vs H0 Q E hsp cdv A outer s hr => ?_, T.gBeside, F.kp, b⟩
  obtain ⟨⟨n, ks, kn⟩, ⟨TR, ndk, k8⟩, hvs, q⟩ := hsp
  have TR : TabR n ks := TR
  have ndk : kn.Nodup := ndk
  have k8 : kn.length ≤ 8 := k8
  have c8 := TR.c8
  have tl := c8.tieL
  have nd := scBeside.nd
  have hu := hu_of hr
  let Γ0 : Cxt := [some (tTab K n ks), some (tD K (dT kn)), none, none, none, none, none]
  refine ⟨fun σ H => Env Γ0 σ H0 ∧ H = H0, ⟨env_start (N := ["table", "knot", "found", "cell", "one", "other", "neighbour"]) hvs, rfl⟩, ?_⟩
  refine h_by (ps_newD (Γ := Γ0) 3 2 kn ndk (by omega) (by rfl) (by exact hu) nd (by rfl) (by rfl) (sw_trueD (by rfl) (by rfl) (by rfl) (by decide +kernel)) (i_lot (yv 1)) (blkOk_by (N := ["table", "knot", "found", "cell", "one", "other", "neighbour"]) (sc := defScope sBeside) (by decide +kernel)) (by rfl) (by rfl) (fun c hc _ _ _ _ _ => PY.int (yv 3)))
    (M := fun σ H => ∃ D, ∃ lo, NewL kn H0 D lo ∧ BsS K kn H0 Γ0 D lo (fun _ => []) σ H) (fun Dd σ H ⟨g, e⟩ m _ => ⟨by rw [e]; exact g, fun D lo H' nl s hD hl => m _ _ ⟨D, lo, by rw [← e]; exact nl, g.keep rfl, by rw [← e]; exact s, List.getElem?_set_self (by rw [g.len]; show 2 < 7; decide), hD, hl⟩⟩) ?_
  refine h_ex fun D => h_ex fun lo => h_and fun nl => ?_
  -- one step: a list of the dict grows
  have grow : ∀ {f : Nat → List Nat} {σ : L2.St} {H H' : Hp} {c x : Nat} {v : V}, BsS K kn H0 Γ0 D lo f σ H → c ∈ kn → x ∉ f c → Same H H' → v = .int (x : Nat) → BsS K kn H0 Γ0 D lo (sub1 (c, x) f) σ (upd H' (lo (c : Nat)) (.lst ((zs (f c)).map V.int ++ [v]))) := fun {f σ H H' c x v} bs hc hx s ev => by
    have b' := bs.up s
    refine ⟨bs.env, Same.mut b'.same (nl.l c hc), bs.slot, ?_, fun c' hc' => ?_⟩
    · rw [upd_ne (ne_of b'.dic (b'.lst c hc) (by intro z; cases z))]; exact b'.dic
    · unfold sub1
      by_cases e : c' = c
      · subst e
        rw [upd_same, if_pos rfl, addk_small hx, zs_snoc, List.map_append, ev]; rfl
      · rw [if_neg e, upd_ne (fun z => e (nl.inj c' c hc' hc z))]
        exact b'.lst c' hc'
  let I : Zs → Nat → SP2 := fun z i σ H => SqL K H z.1 z.2 ∧ DpAll K H z.2 ((tie ks).map dP) ∧ BsS K kn H0 Γ0 D lo (nearAt (tie ks) kn i) σ H
  let B : Zs → Nat → SP2 := fun z i σ H => ∃ p, (tie ks)[i]? = some p ∧ I z i σ H ∧ σ[4]? = some (some (.int (p.1 : Nat))) ∧ σ[5]? = some (some (.int (p.2 : Nat)))
  refine h_for (Γ := Γ0) I B (by rfl) (g_list (ts := (tie ks).map fun p => tD K (dP p)) (PY.to (y_call (c_ties T) hr (by rfl) (n, ks) TR (ya_cons (yv 0) ya_nil)) lst_ofM)) (pg_tup (by rfl) (pgs_cons (pg_name (i := 4) nd rfl (Or.inl rfl)) (pgs_cons (pg_name (i := 5) nd rfl (Or.inl rfl)) pgs_nil)))
    (fun σ H p => p.env.up p.same) (fun z σ H H' p s ⟨z1, z2⟩ => ⟨z1, AllY.data (by rw [map_ty]; exact z2), (p.up s).congr fun c _ => rfl⟩) (fun z i σ H _ p => p.1) (fun z i σ H H2 v lt p s hv => ?_) (fun z i lt => ?_) ?_ (mono := mono_pair)
  · have lt' : i < (tie ks).length := by simpa using lt
    obtain ⟨d, d1, d2⟩ := dpAll_at p.2.1 hv
    rw [List.getElem?_map, List.getElem?_eq_getElem lt'] at d1
    cases d1
    obtain ⟨a, xs, rfl, h1, h2⟩ := dp_tup (Dp.up s d2)
    obtain ⟨u1, u2, rfl, e1, e2⟩ : ∃ u1 u2, xs = [u1, u2] ∧ u1 = V.int ((tie ks)[i].1 : Nat) ∧ u2 = V.int ((tie ks)[i].2 : Nat) := by
      cases h2 with
      | cons a t => cases t with
        | cons b t => cases t; exact ⟨_, _, rfl, dp_int a, dp_int b⟩
    subst e1; subst e2
    exact gp_pair h1 ⟨_, List.getElem?_eq_getElem lt', ⟨s.seq p.1, DpAll.up s p.2.1, ((p.2.2.up s).set rfl (by decide)).set rfl (by decide)⟩, by rw [List.getElem?_set_ne (by decide)]; exact List.getElem?_set_self (by rw [p.2.2.env.len]; show 4 < 7; decide), List.getElem?_set_self (by rw [List.length_set, p.2.2.env.len]; show 5 < 7; decide)⟩
  · refine h_ex fun pr => h_and fun hpr => ?_
    have lt' : i < (tie ks).length := (List.getElem?_eq_some_iff.mp hpr).1
    let f := nearAt (tie ks) kn i
    have few : Few kn (2 * i) f := nearAt_few i
    let Γ1 : Cxt := ((Γ0.set 2 (some (tDict kkI K (zs kn) (dNear f)))).set 4 (some (tI (pr.1 : Nat)))).set 5 (some (tI (pr.2 : Nat)))
    have env1 : ∀ {σ H}, (I z i σ H ∧ σ[4]? = some (some (.int (pr.1 : Nat))) ∧ σ[5]? = some (some (.int (pr.2 : Nat)))) → Env Γ1 σ H := fun ⟨p, e4, e5⟩ => (((p.2.2.env.up p.2.2.same).put p.2.2.slot p.2.2.dict).put e4 rfl).put e5 rfl
    have upI : ∀ {i σ H H'}, I z i σ H → Same H H' → I z i σ H' := fun ⟨a, b, c⟩ s => ⟨s.seq a, DpAll.up s b, c.up s⟩
    have hne : ∀ {H}, DpAll K H z.2 ((tie ks).map dP) → ∃ q r, z.2 = V.ref q :: r := fun h => by
      cases e : tie ks with
      | nil => rw [e] at lt'; exact absurd lt' (Nat.not_lt_zero _)
      | cons p0 ps => rw [e] at h; exact ref_head h
    have fzw : ∀ l : List (Nat × Nat), fzA (l.map dP) = true := fun l => fzA_all fun d hd => by
      obtain ⟨p, _, rfl⟩ := List.mem_map.mp hd
      exact ordP.fr p
    refine h_if (b := decide (pr.1 ∈ kn) && decide (pr.2 ∈ kn)) (Γ := Γ1) (t_w (w_and (k := decide (pr.1 ∈ kn)) (PYT.eq ((y_inD kkI (by exact hu) (yv 4) (yv 2)).tst _) (decide_eq_decide.mpr mem_zs)) fun _ => w_and1 (PYT.eq ((y_inD kkI (by exact hu) (yv 5) (yv 2)).tst _) (decide_eq_decide.mpr mem_zs)))) (fun σ H p => env1 p) (fun σ H H' ⟨p, e4, e5⟩ s => ⟨upI p s, e4, e5⟩) (M := I z (i + 1)) (fun hb => ?_) (fun hb σ H ⟨p, _⟩ => ⟨p.1, p.2.1, p.2.2.congr fun c _ => ?_⟩) (h_end fun σ H p => p)
    · simp only [Bool.and_eq_true, decide_eq_true_eq] at hb
      obtain ⟨k1, k2⟩ := hb
      let qs : List (Nat × Nat) := [pr, (pr.2, pr.1)]
      let fj : Nat → Nat → List Nat := fun j => (qs.take j).foldl (fun g q => sub1 q g) f
      have fjf : ∀ j, j ≤ 2 → Few kn (2 * i + j) (fj j) := fun j hj => by
        match j, hj with
        | 0, _ => exact few
        | 1, _ => exact few_sub1 few
        | 2, _ => exact few_sub1 (few_sub1 few)
      let I2 : Zs → Nat → SP2 := fun z2 j σ H => ((SqL K H z.1 z.2 ∧ DpAll K H z.2 ((tie ks).map dP)) ∧ (SqL K H z2.1 z2.2 ∧ DpAll K H z2.2 (qs.map dP))) ∧ BsS K kn H0 Γ0 D lo (fj j) σ H
      let B2 : Zs → Nat → SP2 := fun z2 j σ H => ∃ q, qs[j]? = some q ∧ I2 z2 j σ H ∧ σ[3]? = some (some (.int (q.1 : Nat))) ∧ σ[6]? = some (some (.int (q.2 : Nat)))
      have upI2 : ∀ {z2 j σ H H'}, I2 z2 j σ H → Same H H' → I2 z2 j σ H' := fun ⟨⟨⟨a, b⟩, c, d⟩, e⟩ s => ⟨⟨⟨s.seq a, DpAll.up s b⟩, s.seq c, DpAll.up s d⟩, e.up s⟩
      refine h_for (Γ := Γ1) I2 B2 (by rfl) (g_list (ts := qs.map fun p => tD K (dP p)) (PY.to (n_lst (ds := qs.map dP) (ya_cons (y_tup (ds := [iN pr.1, iN pr.2]) (ya_cons (PY.ofInt (yv 4)) (ya_cons (PY.ofInt (yv 5)) ya_nil)) (by show 2 ≤ 100000; decide)) (ya_cons (y_tup (ds := [iN pr.2, iN pr.1]) (ya_cons (PY.ofInt (yv 5)) (ya_cons (PY.ofInt (yv 4)) ya_nil)) (by show 2 ≤ 100000; decide)) ya_nil)) (by show 2 ≤ 100000; decide)).y lst_ofM)) (pg_tup (by rfl) (pgs_cons (pg_name (i := 3) nd rfl (Or.inl rfl)) (pgs_cons (pg_name (i := 6) nd rfl (Or.inl rfl)) pgs_nil)))
        (fun σ H p => env1 p) (fun z2 σ H H' ⟨p, _⟩ s ⟨a, b⟩ => ⟨⟨⟨s.seq p.1, DpAll.up s p.2.1⟩, a, AllY.data (by rw [map_ty]; exact b)⟩, p.2.2.up s⟩) (fun z2 j σ H _ p => p.1.2.1) (fun z2 j σ H H2 v lt p s hv => ?_) (fun z2 j lt => ?_) (h_end fun σ H ⟨z2, p⟩ => ⟨p.1.1.1, p.1.1.2, p.2.congr fun c _ => ?_⟩) (mono := mono_pair)
      · have lt2 : j < qs.length := by simpa using lt
        obtain ⟨d, d1, d2⟩ := dpAll_at p.1.2.2 hv
        rw [List.getElem?_map, List.getElem?_eq_getElem lt2] at d1
        cases d1
        obtain ⟨a, xs, rfl, h1, h2⟩ := dp_tup (Dp.up s d2)
        obtain ⟨u1, u2, rfl, e1, e2⟩ : ∃ u1 u2, xs = [u1, u2] ∧ u1 = V.int (qs[j].1 : Nat) ∧ u2 = V.int (qs[j].2 : Nat) := by
          cases h2 with
          | cons a t => cases t with
            | cons b t => cases t; exact ⟨_, _, rfl, dp_int a, dp_int b⟩
        subst e1; subst e2
        have p' := upI2 p s
        exact gp_pair h1 ⟨_, List.getElem?_eq_getElem lt2, ⟨p'.1, (p'.2.set rfl (by decide)).set rfl (by decide)⟩, by rw [List.getElem?_set_ne (by decide)]; exact List.getElem?_set_self (by rw [p'.2.env.len]; show 3 < 7; decide), List.getElem?_set_self (by rw [List.length_set, p'.2.env.len]; show 6 < 7; decide)⟩
      · refine h_ex fun qq => h_and fun hqq => ?_
        have lt2 : j < 2 := (List.getElem?_eq_some_iff.mp hqq).1
        have qm : qq.1 ∈ kn ∧ qq.2 ∈ kn := by
          have := List.mem_of_getElem? hqq
          rcases List.mem_cons.mp this with e | e
          · rw [e]; exact ⟨k1, k2⟩
          · rw [List.mem_singleton.mp e]; exact ⟨k2, k1⟩
        have fstep : fj (j + 1) = sub1 qq (fj j) := by
          show (qs.take (j + 1)).foldl _ f = _
          rw [List.take_succ, hqq]
          show (qs.take j ++ [qq]).foldl _ f = _
          rw [List.foldl_append]; rfl
        have fw := fjf j (by omega) qq.1 qm.1
        let Γ2 : Cxt := ((Γ0.set 2 (some (tDict kkI K (zs kn) (dNear (fj j))))).set 3 (some (tI (qq.1 : Nat)))).set 6 (some (tI (qq.2 : Nat)))
        have env2 : ∀ {σ H}, (I2 z2 j σ H ∧ σ[3]? = some (some (.int (qq.1 : Nat))) ∧ σ[6]? = some (some (.int (qq.2 : Nat)))) → Env Γ2 σ H := fun ⟨p, e3, e6⟩ => (((p.2.env.up p.2.same).put p.2.slot p.2.dict).put e3 rfl).put e6 rfl
        have edn : tD K (dNear (fj j) ((qq.1 : Nat) : Int)) = tD K (dLi (zs (fj j qq.1))) := by show tD K (.list ((fj j qq.1).map iN)) = _; rw [iN_zs]
        refine h_if (b := !decide (qq.2 ∈ fj j qq.1)) (Γ := Γ2) (PYT.eq ((c_ninI (is := zs (fj j qq.1)) (yv 6) (PY.eq (y_getD kkI (j := ((qq.1 : Nat) : Int)) (mem_zs.mpr qm.1) (by exact hu) (yv 2) (yv 3)) edn)).tst _) (by rw [decide_eq_decide.mpr mem_zs])) (fun σ H p => env2 p) (fun σ H H' ⟨p, e⟩ s => ⟨upI2 p s, e⟩) (M := I2 z2 (j + 1)) (fun hb => ?_) (fun hb σ H ⟨p, _⟩ => ⟨p.1, p.2.congr fun c _ => ?_⟩) (h_end fun σ H p => p)
        · have hn : qq.2 ∉ fj j qq.1 := by simpa using hb
          refine h_append (M := I2 z2 (j + 1)) (Γ := Γ2) (τ := tI (qq.2 : Nat)) (pe_dget (by exact hu) (t_var (i := 2)) (t_var (i := 3)) (fun _ _ => rfl)) (yv 6) (fun σ H p => env2 p) (fun σ H ⟨p, e3, e6⟩ => ⟨lo (qq.1 : Nat), _, p.2.lst qq.1 qm.1, by rw [List.length_map, zs_len]; omega, fun Q k => ⟨_, p.2.slot, _, e3, D, .ref (lo (qq.1 : Nat)), rfl, ?_, k⟩, fun v H' s hv => ?_⟩) (h_end fun σ H p => p)
          · have g := kkI.get (k := ((qq.1 : Nat) : Int)) (y := V.int (qq.1 : Nat)) rfl p.2.dic
            have hv := valV_dkg kkI.inj (ρ := lref lo) (k := ((qq.1 : Nat) : Int)) (ks := zs kn)
            rw [if_pos (mem_zs.mpr qm.1)] at hv
            rw [show valV (dkg Sum.inl (zs kn) (lref lo)) (kkI.f ((qq.1 : Nat) : Int)) = some (lref lo ((qq.1 : Nat) : Int)) from hv] at g
            exact g
          · have p' := upI2 p s
            have hl := p'.2.lst qq.1 qm.1
            have tk := tupK_lst (K := K) (o' := .lst ((zs (fj j qq.1)).map V.int ++ [v])) hl
            refine ⟨⟨⟨seqL_ints p'.1.1.1 (hne p'.1.1.2) hl, DpAll.fz tk (fzw _) p'.1.1.2⟩, seqL_ints p'.1.2.1 (ref_head p'.1.2.2) hl, DpAll.fz tk (fzw _) p'.1.2.2⟩, ?_⟩
            rw [fstep]
            exact grow p.2 qm.1 hn s hv
        · rw [fstep]
          have hin : qq.2 ∈ fj j qq.1 := by simpa using hb
          unfold sub1
          by_cases e : c = qq.1
          · rw [if_pos e, e, addk_in hin]
          · rw [if_neg e]
      · show fj (qs.map fun p => tD K (dP p)).length c = nearAt (tie ks) kn (i + 1) c
        rw [nearAt_next hpr, near_subs k1 k2]; rfl
    · rw [nearAt_next hpr, near_no]
      intro h
      simp [h.1, h.2] at hb
  · refine h_ex fun z => h_retY (Γ := Γ0.set 2 (some (tDict kkI K (zs kn) (dNear (nearF (tie ks) kn))))) (yv 2) (fun σ H p => (p.2.2.env.up p.2.2.same).put p.2.2.slot ?_) fun σ H v H' p s hv => q v H' (p.2.2.same.trans s) hv
    have := p.2.2.dict
    have e : nearAt (tie ks) kn (((tie ks).map fun p => tD K (dP p)).length) = nearF (tie ks) kn := by
      funext c
      unfold nearAt nearF
      rw [List.length_map, List.take_length]
    rw [e] at this
    exact this
end
end Lp
/-! LpG6 -/
namespace Lp
open PySem PySem.Spec PyProof.Rows L2
def tRef : Ty := ⟨fun v _ => v ≠ .non, fun _ h => h⟩
section
variable {X : Cx} {Γ : Cxt} {τ : Ty} {a b : Expr} {pos : Pos} {ss : List Stmt}
theorem psy_of {N : SP2} (h : ∀ Hb, HT X ss (fun σ H => Env Γ σ Hb ∧ H = Hb) (fun _ _ => False) (fun v H' => Same Hb H' ∧ τ.is v H')) : PSY X ss Γ ⟨none, some τ⟩ :=
  PSs.imp (pss_ex h) fun D σ H g => ⟨H, ⟨g.1, rfl⟩, fun _ _ h => h.elim, fun v H' r => g.2.2 τ rfl v H' r.1 r.2⟩
/-- xs[-1] -/
theorem y_last {ds : List PyData} {d : PyData} (hne : ds ≠ []) (hd : ds[ds.length - 1]? = some d) (ha : PY X a Γ (tD X.K (.list ds))) (hb : PY X b Γ (tI (-1))) (hs : PlainIx b := by exact fun _ _ => rfl) : PY X (.Subscript a b pos) Γ (tD X.K d) :=
  PE.imp (pe_ix ix_list ha hb hs) fun σ H Q ⟨g, q⟩ => ⟨g, fun x H1 s1 hx => ⟨g.up s1, fun y H2 s2 hy => by
    obtain ⟨p, xs, rfl, h1, h2⟩ := dp_lst (Dp.up s2 hx)
    obtain ⟨v, e1, e2⟩ := dpAll_get h2 hd
    have len := dpAll_len h2
    have pos := List.length_pos_iff.mpr hne
    refine ⟨p, xs, -1, v, rfl, hy, h1, ?_, q v H2 (s1.trans s2) e2⟩
    unfold atI ixN
    rw [if_neg (by decide), if_pos (by omega)]
    show xs[((-1 : Int) + (xs.length : Nat)).toNat]? = some v
    rw [show ((-1 : Int) + (xs.length : Nat)).toNat = ds.length - 1 by omega]
    exact e1⟩⟩
end
section
variable {P : Program} {w : World} {K : PySem.W.Frag} {mg : Str → Option Value} {base : Heap}
structure KnOk (ks : List Kd) (kn : List Nat) : Prop where
  nd : kn.Nodup
  l8 : kn.length ≤ 8
  ne : kn ≠ []
  sound : SoundK ks kn
theorem near_kn {ks : List Kd} {kn : List Nat} {c : Nat} (h : kn.length ≤ 8) : (nearF (tie ks) kn c).length ≤ 8 := by
  have := Lq.few_of (D := kn) (nearF_nodup (web := tie ks) (kn := kn) (c := c)) fun x hx => (mem_near.mp hx).2.1
  omega
theorem c_row_in (T : Tp K mg) : Callee P w K mg base "row_in" 4 ["table", "knot"] (SpY (fun z : Nat × List Kd × List Nat => [tTab K z.1 z.2.1, tD K (dT z.2.2)]) (fun z => TabR z.1 z.2.1 ∧ KnOk z.2.1 z.2.2) fun _ => tRef) := by
  obtain ⟨fd, F, b⟩ := T.defRowIn
  refine ⟨_, fd, fnY F scRowIn (fun _ => rfl) (fun _ => none) (fun _ _ h => by cases h) fun ⟨n, ks, kn⟩ ⟨TR, ok⟩ cdv A outer s H E hr => ?_, T.gRowIn, F.kp, b⟩
  have TR : TabR n ks := TR
  have ok : KnOk ks kn := ok
  have l8 := ok.l8
  have nd := scRowIn.nd
  have hu := hu_of hr
  let near := nearF (tie ks) kn
  have nl : ∀ c, (near c).length ≤ 8 := fun c => near_kn l8
  obtain ⟨ene, two, ends⟩ := row_start ok.sound ok.ne
  have edn : ∀ c : Nat, tD K (dNear near ((c : Nat) : Int)) = tD K (.list ((near c).map iN)) := fun c => rfl
  have dm : ∀ c, c ∈ kn → ((c : Nat) : Int) ∈ zs kn := fun c hc => mem_zs.mpr hc
  refine s_asg (i := 2) (y_call (c_beside T) hr (by rfl) (n, ks, kn) ⟨TR, ok.nd, l8⟩ (ya_cons (yv 0) (ya_cons (yv 1) ya_nil))) ?_ nd (hx := Or.inr rfl)
  let L := kn.filter fun c => decide ((near c).length < 2)
  refine s_by (vs := [3]) (τ := tD K (.list (L.map iN))) (ps_lc1 (Γ := [some (tTab K n ks), some (tD K (dT kn)), some (tDict kkI K (zs kn) (dNear near)), none, none, none]) 4 3 kn (fun c => tD K (iN c)) (fun c => decide ((near c).length < 2)) iN (by omega) (fun _ _ => rfl) (by rfl) nd (by rfl) (by rfl) (sw_true (by rfl) (by rfl) (by rfl) (by decide +kernel)) (i_lot (yv 1)) (blkOk_by (N := ["table", "knot", "near", "ends", "cell", "found"]) (sc := defScope sRowIn) (by decide +kernel)) (by rfl) (by rfl)
    (fun c hc _ _ _ _ _ => ts_one (PYT.eq ((c_lt (y_lenL (ds := (near c).map iN) (by rfl) T.fLen (PY.eq (y_getD kkI (j := ((c : Nat) : Int)) (dm c hc) (by exact hu) (yv 2) (PY.int (yv 4))) (edn c))) y_int).tst _) (by rw [List.length_map]; exact decide_eq_decide.mpr (by omega)))) (fun c hc _ _ _ _ _ _ => yv 4)) (fun σ H Q ⟨g, k⟩ => ⟨g, fun p vs H' _ s hp hd => k _ H' s (.lst (SqL.of hp) hd)⟩) (tg_name List.mem_cons_self) ?_
  have hL0 : L.length ≠ 0 := fun e => ene (List.eq_nil_of_length_eq_zero e)
  have hL8 : L.length ≤ 8 := Nat.le_trans (List.length_filter_le _ _) l8
  refine s_ifR (k := false) (t_w (w_or (k := false) (l := false) (PYT.eq ((c_eqI (y_lenL (ds := L.map iN) (by rfl) T.fLen (yv 3)) y_int).tst _) (decide_eq_false (by rw [List.length_map]; omega))) fun _ => w_or1 (y_t (PY.eq (y_any (bs := kn.map fun _ => false) (by rfl) (by rfl) T.fAny (PY.eq (y_lc1 4 kn (fun c => tD K (iN c)) (fun _ => true) (fun _ => .bool false) (by omega) (fun _ _ => rfl) (by rfl) nd (i_lot (yv 1)) (blkOk_by (N := ["table", "knot", "near", "ends", "cell", "found"]) (sc := defScope sRowIn) (by decide +kernel)) (by rfl) (by rfl) (fun _ _ _ _ _ _ _ => ts_no)
    (fun c hc _ _ _ _ _ _ => PY.ofBool (PY.eq ((c_gt (y_lenL (ds := (near c).map iN) (by rfl) T.fLen (PY.eq (y_getD kkI (j := ((c : Nat) : Int)) (dm c hc) (by exact hu) (yv 2) (PY.int (yv 4))) (edn c))) y_int).val _) (congrArg tBo (decide_eq_false (by rw [List.length_map]; have := two c hc; show ¬ ((2 : Int) < (near c).length); have h2 : (near c).length ≤ 2 := this; omega)))))) ?_)) ?_)))) (fun h => by cases h) fun _ => ?_
  · rw [filter_all, List.map_map]; rfl
  · congr 1
    rw [List.any_map]
    exact List.any_eq_false.mpr fun _ _ => by simp
  obtain ⟨e, rest, hL⟩ : ∃ e rest, L = e :: rest := by
    cases q : L with
    | nil => exact absurd q ene
    | cons e rest => exact ⟨e, rest, rfl⟩
  obtain ⟨r, path, mem, r0, re⟩ := ends e (by show e ∈ L; rw [hL]; exact List.mem_cons_self)
  have rlen : r.length = kn.length := (nodup_sub_perm path.nd ok.nd (fun x hx => (mem x).mp hx) (by
    have := Lq.few_of (l := kn) (D := r) ok.nd fun x hx => (mem x).mpr hx
    exact this)).length_eq
  let Γ0 : Cxt := [some (tTab K n ks), some (tD K (dT kn)), some (tDict kkI K (zs kn) (dNear near)), some (tD K (.list (L.map iN))), none, none]
  refine psy_of (Γ := Γ0) (N := fun _ _ => False) fun Hb => ?_
  have h0 : (L.map iN)[0]? = some (iN e) := by rw [hL]; rfl
  have t1 : r.take 1 = [e] := by
    cases r with
    | nil => simp at r0
    | cons x r => simp at re ⊢; exact re
  refine h_new (i := 5) (Γ := Γ0) (n_lst (ds := [iN e]) (ya_cons (y_ixL (j := 0) h0 (yv 3) y_int) ya_nil) (by show 1 ≤ 100000; decide)) (fun σ H ⟨g, eq⟩ => by rw [eq]; exact g) (M := fun σ H => ∃ l, Hb l = none ∧ Env Γ0 σ Hb ∧ Same Hb H ∧ σ[5]? = some (some (.ref l)) ∧ H l = some (.lst ((zs (r.take 1)).map V.int))) (fun σ H l vs H' ⟨g, eq⟩ f s h1 hv => ⟨l, by rw [← eq]; exact f, g.keep rfl, by rw [← eq]; exact s, List.getElem?_set_self (by rw [g.len]; show 5 < 6; decide), by rw [h1, t1, dpAll_ints (is := zs [e]) hv]⟩) (h_ex fun l => h_and fun hl => ?_) nd (hx := Or.inr rfl)
  let I : Nat → SP2 := fun i σ H => Env Γ0 σ Hb ∧ Same Hb H ∧ σ[5]? = some (some (.ref l)) ∧ H l = some (.lst ((zs (r.take i)).map V.int))
  have upI : ∀ i σ H H', I i σ H → Same H H' → I i σ H' := fun i σ H H' ⟨g, sm, e5, h5⟩ s => ⟨g, sm.trans s, e5, s _ _ h5⟩
  let ΓI : Nat → Cxt := fun i => Γ0.set 5 (some (tD K (.list ((r.take i).map iN))))
  have envI : ∀ {i σ H}, I i σ H → Env (ΓI i) σ H := fun {i σ H} ⟨g, sm, e5, h5⟩ => (g.up sm).put e5 (show Dp K H (.ref l) _ by rw [iN_zs]; exact .lst (SqL.of h5) (ints_dpAll _))
  refine h_while (P := I 1) (ζ := { i : Nat // 1 ≤ i ∧ i ≤ r.length }) (fun z => I z.1) (fun z => r.length - z.1) (fun z => ΓI z.1) (fun z => decide (z.1 < r.length)) (fun z => PYT.eq ((c_lt (y_lenL (ds := (r.take z.1).map iN) (by rfl) T.fLen (yv 5)) (y_lenT (ds := (zs kn).map .int) (by rfl) T.fLen (yv 1))).tst _) (by rw [List.length_map, List.length_map, zs_len, List.length_take, Nat.min_eq_left z.2.2, ← rlen]; exact decide_eq_decide.mpr Int.ofNat_lt)) (fun z σ H p => envI p) (fun z => upI z.1) (fun σ H p => ⟨⟨1, Nat.le_refl _, r0⟩, p⟩) (fun ⟨i, hi1, hi2⟩ hb => ?_) ?_
  · have lt : i < r.length := of_decide_eq_true hb
    obtain ⟨rest', hrest⟩ := row_next path mem hi1 lt
    have hlast : ((r.take i).map iN)[((r.take i).map iN).length - 1]? = some (iN (r.getD (i - 1) 0)) := by
      rw [List.length_map, List.length_take, Nat.min_eq_left hi2, List.getElem?_map, List.getElem?_take_of_lt (by omega), List.getElem?_eq_getElem (by omega), List.getD_eq_getElem?_getD, List.getElem?_eq_getElem (by omega)]; rfl
    have hlne : (r.take i).map iN ≠ [] := fun e => by
      have := congrArg List.length e
      rw [List.length_map, List.length_take, Nat.min_eq_left hi2] at this
      simp at this; omega
    have hm : r.getD (i - 1) 0 ∈ kn := (mem _).mp (getD_mem (by omega))
    have h00 : (((near (r.getD (i - 1) 0)).filter fun c => !decide (c ∈ r.take i)).map iN)[0]? = some (iN (r.getD i 0)) := by rw [hrest]; rfl
    have hn8 := nl (r.getD (i - 1) 0)
    have hgi : r.getD i 0 = r[i] := by rw [List.getD_eq_getElem?_getD, List.getElem?_eq_getElem lt]; rfl
    refine h_append (M := fun σ H => ∃ z' : { i : Nat // 1 ≤ i ∧ i ≤ r.length }, r.length - z'.1 < r.length - i ∧ I z'.1 σ H) (Γ := ΓI i) (τ := tI (r.getD i 0 : Nat)) (t_var (i := 5)) (PY.int (y_ixL (j := 0) h00 (y_lc1 4 (near (r.getD (i - 1) 0)) (fun c => tD K (iN c)) (fun c => !decide (c ∈ r.take i)) iN (by omega) (fun _ _ => rfl) (by rfl) nd (i_listM (PY.eq (y_getD kkI (j := ((r.getD (i - 1) 0 : Nat) : Int)) (dm _ hm) (by exact hu) (yv 2) (PY.int (y_last hlne hlast (yv 5) (y_neg y_int)))) (edn _))) (blkOk_by (N := ["table", "knot", "near", "ends", "cell", "found"]) (sc := defScope sRowIn) (by decide +kernel)) (by rfl) (by rfl)
      (fun c hc _ _ _ _ _ => ts_one (PYT.eq ((c_ninI (is := zs (r.take i)) (PY.int (yv 4)) (PY.eq (yv 5) (by rw [← iN_zs]; rfl))).tst _) (by rw [decide_eq_decide.mpr mem_zs]))) (fun c hc _ _ _ _ _ _ => yv 4)) y_int)) (fun σ H p => envI p) (fun σ H ⟨g, sm, e5, h5⟩ => ⟨l, _, h5, by rw [List.length_map, zs_len, List.length_take]; omega, fun Q k => ⟨_, e5, k⟩, fun v H' s hv => ⟨⟨i + 1, by omega, by omega⟩, by show r.length - (i + 1) < r.length - i; omega, g, Same.mut (sm.trans s) hl, e5, ?_⟩⟩) (h_end fun σ H p => p)
    rw [upd_same, show v = V.int (r.getD i 0 : Nat) from hv, List.take_succ, List.getElem?_eq_getElem lt, hgi]
    show _ = some (HO.lst ((zs (r.take i ++ [r[i]])).map V.int))
    rw [zs_snoc, List.map_append]; rfl
  · refine h_ex fun ⟨i, hi⟩ => h_and fun hb => h_retY (Γ := ΓI i) (y_tupleL (by rfl) T.fTuple (yv 5)) (fun σ H p => envI p) fun σ H v H' p s hv => ⟨p.2.1.trans s, ?_⟩
    obtain ⟨a, xs, e, _⟩ := dp_tup hv
    rw [e]; intro z; cases z
end
end Lp
/-! LpG7 -/
namespace Lp
open PySem PySem.Spec PyProof.Rows L2
section
variable {P : Program} {w : World} {K : PySem.W.Frag} {mg : Str → Option Value} {base : Heap}
theorem c_reads_two (T : Tp K mg) : Callee P w K mg base "reads_two" 1 ["table", "knot"] (SpY (fun z : Nat × List Kd × List Nat => [tTab K z.1 z.2.1, tD K (dT z.2.2)]) (fun z => TabR z.1 z.2.1 ∧ KnOk z.2.1 z.2.2) fun _ => tNo) := by
  obtain ⟨fd, F, b⟩ := T.defReadsTwo
  refine ⟨_, fd, fnY F scReadsTwo (fun _ => rfl) (fun _ => none) (fun _ _ h => by cases h) fun ⟨n, ks, kn⟩ ⟨TR, ok⟩ cdv A outer s H E hr => ?_, T.gReadsTwo, F.kp, b⟩
  have TR : TabR n ks := TR
  have ok : KnOk ks kn := ok
  have k40 := TR.k40
  have nd := scReadsTwo.nd
  let Γ0 : Cxt := [some (tTab K n ks), some (tD K (dT kn)), none, none, none, none, none]
  have forget : ∀ {Γ : Cxt} {σ H}, Env ((((Γ0.set 2 none).set 3 none).set 4 none).set 5 none) σ H → Env Γ0 σ H := fun g => g
  refine s_for (vs := [2, 3]) (fun _ => Γ0) (fun i => (Γ0.set 2 (some (tI (i : Nat)))).set 3 (some (tD K (dKd (ks.getD i (0, []))))) ) (fun _ _ g => g) (by rfl) (i_enumTM (by rfl) T.fEnumerate (y_fld T.cTable T.nTableKinds rfl (yv 0))) (pg_tup (by rfl) (pgs_cons (pg_name (i := 2) nd rfl (Or.inl rfl)) (pgs_cons (pg_name (i := 3) nd rfl (Or.inl rfl)) pgs_nil))) (fun i τ hτ => ?_) (fun i hi => ?_) (s_ret y_non rfl)
  · rw [List.getElem?_map, List.getElem?_zipIdx, Nat.zero_add] at hτ
    cases q : ks[i]? with
    | none => rw [q] at hτ; cases hτ
    | some k =>
      rw [q] at hτ
      cases hτ
      have ek : ks.getD i (0, []) = k := by rw [List.getD_eq_getElem?_getD, q]; rfl
      rw [ek]
      exact tg_pair (by decide) (by decide)
  · have hil : i < ks.length := by simpa using hi
    obtain ⟨k, q⟩ : ∃ k, ks[i]? = some k := ⟨_, List.getElem?_eq_getElem hil⟩
    have ek : ks.getD i (0, []) = k := by rw [List.getD_eq_getElem?_getD, q]; rfl
    have hk : k ∈ ks := List.mem_of_getElem? q
    rw [ek]
    refine s_asgG (yv 3) (pg_tup (by rfl) (pgs_cons (pg_name (i := 4) nd rfl (Or.inl rfl)) (pgs_cons (pg_name (i := 5) nd rfl (Or.inl rfl)) pgs_nil))) (tg_pairD (vs := [4, 5]) (d := iN k.1) (d' := dT k.2) (by decide) (by decide)) ?_
    refine s_ifR (k := false) (PYT.eq (t_w (w_and (k := decide (k.1 ∈ kn)) (l := decide (1 < (k.2.filter fun r => decide (r ∈ kn)).length)) (PYT.eq ((c_inT (is := zs kn) (PY.int (yv 4)) (yv 1)).tst _) (decide_eq_decide.mpr mem_zs)) fun _ => w_and1 (PYT.eq ((c_gt (y_lenL (ds := (k.2.filter fun r => decide (r ∈ kn)).map iN) (by rfl) T.fLen (y_lc1 6 k.2 (fun c => tD K (iN c)) (fun c => decide (c ∈ kn)) iN (by have := TR.few k hk; omega) (fun _ _ => rfl) (by rfl) nd (i_lot (yv 5)) (blkOk_by (N := ["table", "knot", "number", "kind", "cell", "reads", "one"]) (sc := defScope sReadsTwo) (by decide +kernel)) (by rfl) (by rfl)
      (fun c hc _ _ _ _ _ => ts_one (PYT.eq ((c_inT (is := zs kn) (PY.int (yv 6)) (yv 1)).tst _) (decide_eq_decide.mpr mem_zs))) (fun c hc _ _ _ _ _ _ => yv 6))) y_int).tst _) (by rw [List.length_map]; exact decide_eq_decide.mpr (by omega))))) ?_) (fun h => by cases h) fun _ => s_endW (fun σ H g => (((g.forget 2).forget 3).forget 4).forget 5) rfl
    by_cases hin : k.1 ∈ kn
    · have := ok.sound.one k hk hin
      rw [decide_eq_true hin, decide_eq_false (by omega)]; rfl
    · rw [decide_eq_false hin]; rfl
theorem c_is_sound (T : Tp K mg) : Callee P w K mg base "is_sound" 5 ["table", "knot"] (SpY (fun z : Nat × List Kd × List Nat => [tTab K z.1 z.2.1, tD K (dT z.2.2)]) (fun z => TabR z.1 z.2.1 ∧ KnOk z.2.1 z.2.2) fun _ => tBo true) := by
  obtain ⟨fd, F, b⟩ := T.defIsSound
  refine ⟨_, fd, fnY F scIsSound (fun _ => rfl) (fun _ => none) (fun _ _ h => by cases h) fun ⟨n, ks, kn⟩ ok cdv A outer s H E hr => ?_, T.gIsSound, F.kp, b⟩
  exact s_ret (τ := tBo (true && true)) (y_and (k := true) (l := true) ((c_notNr (σ1 := tRef) (fun v H h => h) (y_call (c_row_in T) hr (by rfl) (n, ks, kn) ok (ya_cons (yv 0) (ya_cons (yv 1) ya_nil))) y_non).val _) fun _ => y_one (PY.eq ((c_isN (y_call (c_reads_two T) (hr.mono (by decide)) (by rfl) (n, ks, kn) ok (ya_cons (yv 0) (ya_cons (yv 1) ya_nil))) y_non).val _) (congrArg tBo (decide_eq_true rfl)))) rfl
/-- a right table, all of its knots sound -/
structure SndT (n : Nat) (ks : List Kd) : Prop where
  tab : TabR n ks
  kn : ∀ k, k ∈ knots ks → KnOk ks k
theorem c_knots (T : Tp K mg) : Callee P w K mg base "knots" 4 ["table"] (SpY (fun z : Nat × List Kd => [tTab K z.1 z.2]) (fun z => TabR z.1 z.2) fun z => tD K (.list ((knots z.2).map dT))) := by
  obtain ⟨fd, F, b⟩ := T.defKnots
  refine ⟨_, fd, fnY F scKnots (fun _ => rfl) (fun _ => none) (fun _ _ h => by cases h) fun ⟨n, ks⟩ TR cdv A outer s H E hr => ?_, T.gKnots, F.kp, b⟩
  exact s_ret (y_call (c_knot_list T) hr (by rfl) (n, ks) TR (ya_cons (yv 0) ya_nil)) rfl
theorem fr_knots (k : List Nat) : fz (dT k) = true := ordN.fr k
theorem c_sound (T : Tp K mg) : Callee P w K mg base "sound" 6 ["table"] (SpY (fun z : Nat × List Kd => [tTab K z.1 z.2]) (fun z => SndT z.1 z.2) fun z => tD K (.list ((knots z.2).map dT))) := by
  obtain ⟨fd, F, b⟩ := T.defSound
  refine ⟨_, fd, fnY F scSound (fun _ => rfl) (fun _ => none) (fun _ _ h => by cases h) fun ⟨n, ks⟩ S cdv A outer s H E hr => ?_, T.gSound, F.kp, b⟩
  have S : SndT n ks := S
  have kl := knots_len S.tab.c8
  refine s_ret (PY.eq (y_lc1 1 (knots ks) (fun k => tD K (dT k)) (fun _ => true) dT (by omega) (fun k _ => fr_knots k) (by rfl) scSound.nd (i_listM (y_call (c_knot_list T) (hr.mono (by decide)) (by rfl) (n, ks) S.tab (ya_cons (yv 0) ya_nil))) (blkOk_by (N := ["table", "knot"]) (sc := defScope sSound) (by decide +kernel)) (by rfl) (by rfl) (fun k hk _ _ _ _ _ => ts_one (y_t (y_call (c_is_sound T) (by exact hr) (by rfl) (n, ks, k) ⟨S.tab, S.kn k hk⟩ (ya_cons (yv 0) (ya_cons (yv 1) ya_nil))))) (fun k hk _ _ _ _ _ _ => yv 1)) ?_) rfl
  rw [filter_all]; rfl
theorem c_never_sticks (T : Tp K mg) : Callee P w K mg base "never_sticks" 6 ["table"] (SpY (fun z : Nat × List Kd => [tTab K z.1 z.2]) (fun z => SndT z.1 z.2) fun _ => tBo true) := by
  obtain ⟨fd, F, b⟩ := T.defNeverSticks
  refine ⟨_, fd, fnY F scNeverSticks (fun _ => rfl) (fun _ => none) (fun _ _ h => by cases h) fun ⟨n, ks⟩ S cdv A outer s H E hr => ?_, T.gNeverSticks, F.kp, b⟩
  have S : SndT n ks := S
  have kl := knots_len S.tab.c8
  refine s_ret (PY.eq (y_all (bs := (knots ks).map fun _ => true) (by rfl) (by rfl) T.fAll (PY.eq (y_lc1 1 (knots ks) (fun k => tD K (dT k)) (fun _ => true) (fun _ => .bool true) (by omega) (fun _ _ => rfl) (by rfl) scNeverSticks.nd (i_listM (y_call (c_knot_list T) (hr.mono (by decide)) (by rfl) (n, ks) S.tab (ya_cons (yv 0) ya_nil))) (blkOk_by (N := ["table", "knot"]) (sc := defScope sNeverSticks) (by decide +kernel)) (by rfl) (by rfl) (fun _ _ _ _ _ _ _ => ts_no) (fun k hk _ _ _ _ _ _ => PY.ofBool (y_call (c_is_sound T) (by exact hr) (by rfl) (n, ks, k) ⟨S.tab, S.kn k hk⟩ (ya_cons (yv 0) (ya_cons (yv 1) ya_nil))))) ?_)) ?_) rfl
  · rw [filter_all, List.map_map]; rfl
  · rw [all_true]
theorem c_sticking (T : Tp K mg) : Callee P w K mg base "sticking" 6 ["table"] (SpY (fun z : Nat × List Kd => [tTab K z.1 z.2]) (fun z => SndT z.1 z.2) fun _ => tNo) := by
  obtain ⟨fd, F, b⟩ := T.defSticking
  refine ⟨_, fd, fnY F scSticking (fun _ => rfl) (fun _ => none) (fun _ _ h => by cases h) fun ⟨n, ks⟩ S cdv A outer s H E hr => ?_, T.gSticking, F.kp, b⟩
  have S : SndT n ks := S
  have nd := scSticking.nd
  refine s_for (vs := [1]) (fun _ => [some (tTab K n ks), none]) (fun i => [some (tTab K n ks), some (tD K (dT ((knots ks).getD i [])))]) (fun _ _ g => g) (by rfl) (i_listM (y_call (c_knot_list T) (hr.mono (by decide)) (by rfl) (n, ks) S.tab (ya_cons (yv 0) ya_nil))) (pg_name (i := 1) nd rfl (.inl rfl)) (fun i τ hτ => ?_) (fun i hi => ?_) (s_ret y_non rfl)
  · rw [List.getElem?_map] at hτ
    cases q : (knots ks)[i]? with
    | none => rw [q] at hτ; cases hτ
    | some k =>
      rw [q] at hτ
      cases hτ
      have ek : (knots ks).getD i [] = k := by rw [List.getD_eq_getElem?_getD, q]; rfl
      rw [ek]
      exact tg_name List.mem_cons_self
  · have hil : i < (knots ks).length := by simpa using hi
    have hk : (knots ks).getD i [] ∈ knots ks := by rw [List.getD_eq_getElem?_getD, List.getElem?_eq_getElem hil]; exact List.getElem_mem hil
    exact s_ifR (k := false) (t_not (k := true) (y_t (y_call (c_is_sound T) hr (by rfl) (n, ks, (knots ks).getD i []) ⟨S.tab, S.kn _ hk⟩ (ya_cons (yv 0) (ya_cons (yv 1) ya_nil))))) (fun h => by cases h) fun _ => s_endW (fun σ H g => g.forget 1) rfl
end
end Lp
/-! LpL1 -/
namespace Lp
open PySem PySem.Spec PyProof.Rows L2
abbrev dHis (h : Hs) : PyData := .tuple [dLi (zs h.wr), dRd h.rd, dLi h.la]
section
variable {P : Program} {w : World} {K : PySem.W.Frag} {mg : Str → Option Value} {base : Heap}
theorem c_law_is_int (T : Tp K mg) : Callee P w K mg base "_law_is_int" 1 ["_law_thing", "_law_least", "_law_most"] (SpY (fun z : Int × Int × Int => [tI z.1, tI z.2.1, tI z.2.2]) (fun _ => True) fun z => tBo (decide (z.2.1 ≤ z.1) && decide (z.1 ≤ z.2.2))) := by
  obtain ⟨fd, F, b⟩ := T.defLawIsInt
  refine ⟨_, fd, fnY F scLawIsInt (fun _ => rfl) (fun _ => none) (fun _ _ h => by cases h) fun z _ cdv A outer s H E hr => ?_, T.gLawIsInt, F.kp, b⟩
  exact s_ret (τ := tBo (true && (true && _))) (y_and (y_isi (by rfl) T.fIsinstance (by rfl) T.fInt (by decide +kernel) (r := true) (by decide +kernel) ty_int (yv 0)) fun _ => y_and (k := true) (y_not (y_isi (by rfl) T.fIsinstance (by rfl) T.fBool (by decide +kernel) (r := false) (by decide +kernel) ty_int (yv 0))) fun _ => y_one (y_chain (yv 1) (yv 0) (yv 2))) rfl
theorem c_law_fresh (T : Tp K mg) : Callee P w K mg base "_law_fresh" 1 ["_law_cells"] (SpY (fun n : Nat => [tI (n : Int)]) (fun n => n ≤ 8) fun n => tD K (dI (la0 n))) := by
  obtain ⟨fd, F, b⟩ := T.defLawFresh
  refine ⟨_, fd, fnY F scLawFresh (fun _ => rfl) (fun _ => none) (fun _ _ h => by cases h) fun n n8 cdv A outer s H E hr => ?_, T.gLawFresh, F.kp, b⟩
  have n8 : n ≤ 8 := n8
  refine s_ret (y_tupleL (by rfl) T.fTuple (PY.eq (y_lc1 1 (List.range n) (fun c => tI (c : Nat)) (fun _ => true) (fun c => .int (bg c)) (by rw [List.length_range]; omega) (fun _ _ => rfl) (by rfl) scLawFresh.nd (i_rng1 (by rfl) T.fRange (yv 0) (by omega))
    (blkOk_by (N := ["_law_cells", "_law_cell"]) (sc := defScope sLawFresh) (by decide +kernel)) rfl (by rfl) (fun _ _ _ _ _ _ _ => ts_no) fun c hc _ _ _ _ _ _ => PY.ofInt (y_sub (y_neg y_int) (yv 1))) ?_)) rfl
  rw [filter_all, ← la0_map]
theorem hla_at {h : Hs} {c : Nat} (hc : c < h.la.length) : (h.la.map PyData.int)[c]? = some (.int (h.la.getD c 0)) := by
  rw [List.getElem?_map, List.getElem?_eq_getElem hc, List.getD_eq_getElem?_getD, List.getElem?_eq_getElem hc]; rfl
theorem c_law_with (T : Tp K mg) : Callee P w K mg base "_law_with" 1 ["_law_history_here", "_law_plates", "_law_cells"] (SpY (fun z : Hs × List Int × List Nat => [tD K (dHis z.1), tD K (dI z.2.1), tD K (dT z.2.2)]) (fun z => z.2.1.length ≤ 400 ∧ z.2.1.length ≤ z.1.la.length) fun z => tD K (dI (withL z.1 z.2.1 z.2.2))) := by
  obtain ⟨fd, F, b⟩ := T.defLawWith
  refine ⟨_, fd, fnY F scLawWith (fun _ => rfl) (fun _ => none) (fun _ _ h => by cases h) fun ⟨h, pl, cs⟩ ⟨few, hl⟩ cdv A outer s H E hr => ?_, T.gLawWith, F.kp, b⟩
  have few : pl.length ≤ 400 := few
  have hl : pl.length ≤ h.la.length := hl
  have nd := scLawWith.nd
  refine s_ret (y_tupleL (by rfl) T.fTuple (PY.eq (y_lc2 3 4 pl.zipIdx (fun x => tI ((x.2 : Nat) : Int)) (fun x => tD K (.int x.1)) (fun _ => true) (fun x => .int (if x.2 ∈ cs then h.la.getD x.2 0 else x.1)) (by rw [List.length_zipIdx]; omega) (fun _ _ => rfl) (by rfl) nd (i_enumTM (by rfl) T.fEnumerate (yv 1))
    (blkOk_by (N := ["_law_history_here", "_law_plates", "_law_cells", "_law_cell", "_law_version"]) (sc := defScope sLawWith) (by decide +kernel)) rfl rfl (by rfl) (by rfl) (fun _ _ _ _ _ _ _ => ts_no) (fun x hx _ _ _ _ _ _ => ?_)) ?_)) rfl
  · refine y_if (k := decide (x.2 ∈ cs)) (PYT.eq ((c_inT (is := zs cs) (yv 3) (yv 2)).tst _) (decide_eq_decide.mpr mem_zs)) (fun hin => ?_) (fun hout => ?_)
    · rw [if_pos (of_decide_eq_true hin)]
      exact y_ixL (hla_at (Nat.lt_of_lt_of_le (List.getElem?_eq_some_iff.mp (zip_at hx)).1 hl)) (y_ixT (ds := [dLi (zs h.wr), dRd h.rd, dLi h.la]) (j := 2) rfl (yv 0) y_int) (yv 3)
    · rw [if_neg (of_decide_eq_false hout)]
      exact yv 4
  · rw [filter_all]
    have go : ∀ (pl' : List Int) (k : Nat) (g : Nat → Int), (∀ x, x ∈ pl'.zipIdx k → g x.2 = if x.2 ∈ cs then h.la.getD x.2 0 else x.1) → (pl'.zipIdx k).map (fun x => PyData.int (if x.2 ∈ cs then h.la.getD x.2 0 else x.1)) = ((List.range' k pl'.length).map g).map .int := by
      intro pl'
      induction pl' with
      | nil => intro k g _; rfl
      | cons v pl' ih =>
        intro k g hg
        rw [List.zipIdx_cons, List.length_cons, List.range'_succ, List.map_cons, List.map_cons, List.map_cons]
        rw [ih (k + 1) g fun x hx => hg x (by rw [List.zipIdx_cons]; exact List.mem_cons_of_mem _ hx)]
        have := hg (v, k) (by rw [List.zipIdx_cons]; exact List.mem_cons_self)
        rw [this]
    have := go pl 0 (fun c => if c ∈ cs then h.la.getD c 0 else pl.getD c 0) fun x hx => by
      have e3 : pl.getD x.2 0 = x.1 := by rw [List.getD_eq_getElem?_getD, zip_at hx]; rfl
      rw [e3]
    rw [this, ← List.range_eq_range']; rfl
theorem c_law_wanted (T : Tp K mg) : Callee P w K mg base "_law_wanted" 1 ["_law_history_here", "_law_plates"] (SpY (fun z : Hs × List Int => [tD K (dHis z.1), tD K (dI z.2)]) (fun z => z.2.length ≤ 400 ∧ z.2.length ≤ z.1.la.length) fun z => tD K (dT (wanted z.1 z.2))) := by
  obtain ⟨fd, F, b⟩ := T.defLawWanted
  refine ⟨_, fd, fnY F scLawWanted (fun _ => rfl) (fun _ => none) (fun _ _ h => by cases h) fun ⟨h, pl⟩ ⟨few, hl⟩ cdv A outer s H E hr => ?_, T.gLawWanted, F.kp, b⟩
  have nd := scLawWanted.nd
  have few : pl.length ≤ 400 := few
  have hl : pl.length ≤ h.la.length := hl
  refine s_ret (y_tupleL (by rfl) T.fTuple (PY.eq (y_lc2 2 3 pl.zipIdx (fun x => tI ((x.2 : Nat) : Int)) (fun x => tD K (.int x.1)) (fun x => !decide (x.1 = h.la.getD x.2 0)) (fun x => iN x.2) (by rw [List.length_zipIdx]; omega) (fun _ _ => rfl) (by rfl) nd (i_enumTM (by rfl) T.fEnumerate (yv 1))
    (blkOk_by (N := ["_law_history_here", "_law_plates", "_law_cell", "_law_version"]) (sc := defScope sLawWanted) (by decide +kernel)) rfl rfl (by rfl) (by rfl) (fun x hx _ _ _ _ _ => ts_one ((c_neI (PY.int (yv 3)) (PY.int (y_ixL (hla_at (Nat.lt_of_lt_of_le (List.getElem?_eq_some_iff.mp (zip_at hx)).1 hl)) (y_ixT (ds := [dLi (zs h.wr), dRd h.rd, dLi h.la]) (j := 2) rfl (yv 0) y_int) (yv 2)))).tst _)) (fun x hx _ _ _ _ _ _ => PY.ofInt (yv 2))) ?_)) rfl
  show tD K (.list _) = tD K (.list ((zs (wanted h pl)).map .int))
  rw [← wanted_eq]
  unfold zs
  rw [List.map_map, List.map_map]; rfl
end
end Lp
/-! LpL2 -/
namespace Lp
open PySem PySem.Spec PyProof.Rows L2
theorem pairs_of {K : PySem.W.Frag} {H : Hp} : ∀ {pl : List Int} {xs : List V}, DpAll K H xs (pl.map fun v => .tuple [.int v, .bool true]) → ∃ ps : List Addr, xs = ps.map V.ref ∧ Paired (fun p (kv : L2.Key × V) => SqT K H p [kV kv.1, kv.2]) ps (pl.map fun v => (Sum.inl v, V.bl true))
  | [], _, .nil => ⟨[], rfl, .nil⟩
  | v :: pl, _, .cons h t => by
    obtain ⟨ps, e1, e2⟩ := pairs_of t
    obtain ⟨a, ys, rfl, h1, h2⟩ := dp_tup h
    cases h2 with
    | cons a1 t1 => cases t1 with
      | cons a2 t2 =>
        cases t2
        rw [dp_int a1, dp_bool a2] at h1
        exact ⟨a :: ps, by rw [List.map_cons, e1], .cons h1 e2⟩
theorem mergeK_dkg : ∀ (l ks : List Int) (ρ0 : Int → V), ∃ ρ, mergeK (dkg Sum.inl ks ρ0) (l.map fun v => (Sum.inl v, V.bl true)) = dkg Sum.inl (adds ks l) ρ
  | [], ks, ρ0 => ⟨ρ0, rfl⟩
  | v :: l, ks, ρ0 => by
    obtain ⟨ρ, e⟩ := mergeK_dkg l (addk ks v) fun j => if j = v then V.bl true else ρ0 j
    refine ⟨ρ, ?_⟩
    show mergeK (putK (dkg Sum.inl ks ρ0) (Sum.inl v) (V.bl true)) (l.map _) = dkg Sum.inl (adds (addk ks v) l) ρ
    rw [putK_dkg (f := (Sum.inl : Int → L2.Key)) kkI.inj]
    exact e
section
variable {X : Cx} {Γ : Cxt} {a b : Expr}
theorem y_ninS {S : List Int} {j : Int} (hu : X.A.units + 1 < cLine) (ha : PY X a Γ (tI j)) (hb : PY X b Γ (tKset X.K S)) (hm : behindInMarks .NotIn b = false := by rfl) : CmpY X .NotIn a b Γ (!decide (j ∈ S)) where
  val := fun pos => PE.imp (pe_cmp (pc_dnotin hu ha hb) hm) fun σ H Q ⟨g, q⟩ => ⟨g, fun y H1 s1 hy => ⟨g.up s1, fun x H2 s2 ⟨c, ks, ρ, e1, h1, h2⟩ => ⟨c, _, e1, kkI.get (k := j) hy h1, q _ H2 (s1.trans s2) (by
    show V.bl (!(valV (dkg kkI.f ks ρ) (kkI.f j)).isSome) = V.bl _
    rw [valV_dkg kkI.inj]
    by_cases c : j ∈ ks
    · rw [if_pos c, decide_eq_true ((h2 j).mp c)]; rfl
    · rw [if_neg c, decide_eq_false fun z => c ((h2 j).mpr z)]; rfl)⟩⟩⟩
  tst := fun pos => PT.imp (pt_cmp (pc_dnotin hu ha hb) hm) fun σ H Q ⟨g, q⟩ => ⟨g, fun y H1 s1 hy => ⟨g.up s1, fun x H2 s2 ⟨c, ks, ρ, e1, h1, h2⟩ => ⟨c, _, e1, kkI.get (k := j) hy h1, _, rfl, by
    have e : (!(valV (dkg Sum.inl ks ρ) (kkI.f j)).isSome) = !decide (j ∈ S) := by
      show (!(valV (dkg kkI.f ks ρ) (kkI.f j)).isSome) = _
      rw [valV_dkg kkI.inj]
      by_cases c : j ∈ ks
      · rw [if_pos c, decide_eq_true ((h2 j).mp c)]; rfl
      · rw [if_neg c, decide_eq_false fun z => c ((h2 j).mpr z)]; rfl
    rw [e]
    exact q H2 (s1.trans s2)⟩⟩⟩
end
section
variable {P : Program} {w : World} {K : PySem.W.Frag} {mg : Str → Option Value} {base : Heap}
theorem c_law_closure (T : Tp K mg) : Callee P w K mg base "_law_closure" 1 ["_law_read", "_law_plates"] (SpY (fun z : List (List Int) × List Int => [tD K (dRd z.1), tD K (dI z.2)]) (fun z => z.1.length ≤ 400 ∧ z.2.length ≤ 400 ∧ ∀ s, s ∈ z.1 → s.length ≤ 400) fun z => tKset K (clo z.2 z.1)) := by
  obtain ⟨fd, F, b⟩ := T.defLawClosure
  refine ⟨_, fd, fnH F scLawClosure (fun vs H Q E ⟨z, _, h, _⟩ => by rw [h.len]; rfl) fun vs H0 Q E hsp cdv A outer s hr => ?_, T.gLawClosure, F.kp, b⟩
  obtain ⟨⟨rd, pl⟩, ⟨fr, fp, fs⟩, hvs, q⟩ := hsp
  have fr : rd.length ≤ 400 := fr
  have fp : pl.length ≤ 400 := fp
  have fs : ∀ s, s ∈ rd → s.length ≤ 400 := fs
  have nd := scLawClosure.nd
  let Γ0 : Cxt := [some (tD K (dRd rd)), some (tD K (dI pl)), none, none, none, none, none]
  have hu := hu_of hr
  refine ⟨fun σ H => Env Γ0 σ H0 ∧ H = H0, ⟨env_start (N := ["_law_read", "_law_plates", "_law_found", "_law_version", "_law_deed", "_law_some", "_law_source"]) hvs, rfl⟩, ?_⟩
  refine h_asgE (i := 2) (te := fun σ H Q => Env Γ0 σ H ∧ ∀ D ρ H', H D = none → Same H H' → H' D = some (.dK (dkg Sum.inl (adds [] pl) ρ)) → Q (.ref D) H') (PE.imp (pe_callTy (x := "dict") (call_dictP (by rfl)) (by rfl) T.fDict (by decide +kernel) (pa_cons (y_lc1 (Γ := Γ0) 3 pl (fun v => tD K (.int v)) (fun _ => true) (fun v => .tuple [.int v, .bool true]) (by omega) (fun _ _ => rfl) (by rfl) nd (i_tupM (yv 1)) (blkOk_by (N := ["_law_read", "_law_plates", "_law_found", "_law_version", "_law_deed", "_law_some", "_law_source"]) (sc := defScope sLawClosure) (by decide +kernel)) (by rfl) (by rfl) (fun _ _ _ _ _ _ _ => ts_no) (fun v hv _ _ _ _ _ _ => y_tup (ds := [.int v, .bool true]) (ya_cons (yv 3) (ya_cons (PY.ofBool y_bl) ya_nil)) (by show 2 ≤ 100000; decide))) pa_nil)) fun σ H Q ⟨g, k⟩ => ⟨g, fun v H1 s1 hv => ?_⟩)
    (M := fun σ H => ∃ D, H0 D = none ∧ ClS K D H0 Γ0 pl pl pl.length σ H) (fun σ H Q ⟨g, e⟩ k => ⟨by rw [e]; exact g, fun D ρ H' f s hD => k _ _ ⟨D, by rw [← e]; exact f, g.keep rfl, by rw [← e]; exact s, List.getElem?_set_self (by rw [g.len]; show 2 < 7; decide), _, ρ, hD, fun i => ?_, ?_⟩⟩) ?_ nd (hx := Or.inr rfl)
  · rw [filter_all] at hv
    obtain ⟨a, xs, rfl, h1, h2⟩ := dp_lst hv
    obtain ⟨ps, e1, e2⟩ := pairs_of h2
    rw [e1] at h1
    obtain ⟨ρ, em⟩ := mergeK_dkg pl [] fun _ => .non
    refine ⟨a, ps, pl.map fun v => (Sum.inl v, V.bl true), rfl, h1, e2, fun p hp => k p ρ _ (s1.free hp) (s1.trans (Same.new hp)) ?_⟩
    rw [upd_same]
    exact congrArg (fun z => some (HO.dK z)) em
  · rw [adds_mem]; simp
  · have := adds_len (ks := ([] : List Int)) (l := pl)
    simpa using this
  refine h_ex fun D => h_and fun hD0 => ?_
  let I : Zs → Nat → SP2 := fun z i σ H => SqL K H z.1 z.2 ∧ DpAll K H z.2 (rd.map dI) ∧ ClS K D H0 Γ0 pl (cloAt pl 0 (rd.take i)) (pl.length + i) σ H
  let B : Zs → Nat → SP2 := fun z i σ H => ∃ s, rd[i]? = some s ∧ I z i σ H ∧ σ[4]? = some (some (.int (i : Nat))) ∧ ∃ v, σ[5]? = some (some v) ∧ Dp K H v (dI s)
  refine h_for (Γ := Γ0) I B (by rfl) (g_enumL (ts := rd.map fun s => tD K (dI s)) (by rfl) T.fEnumerate (PY.to (yv 0) lst_ofM)) (pg_tup (by rfl) (pgs_cons (pg_name (i := 4) nd rfl (Or.inl rfl)) (pgs_cons (pg_name (i := 5) nd rfl (Or.inl rfl)) pgs_nil)))
    (fun σ H p => p.env.up p.same) (fun z σ H H' p s ⟨z1, z2⟩ => ⟨z1, ?_, p.up s⟩) (fun z i σ H _ p => p.1) (fun z i σ H H2 v lt p s ⟨T', y, e, hT, hy⟩ => ?_) (fun z i lt => ?_) ?_ (mono := mono_pair)
  · exact AllY.data (by rw [map_ty]; exact z2)
  · subst e
    have lt' : i < rd.length := by simpa using lt
    obtain ⟨d, d1, d2⟩ := dpAll_at p.2.1 hy
    rw [List.getElem?_map, List.getElem?_eq_getElem lt'] at d1
    cases d1
    exact gp_pair hT ⟨_, List.getElem?_eq_getElem lt', ⟨s.seq p.1, DpAll.up s p.2.1, ((p.2.2.up s).set rfl (by decide)).set rfl (by decide)⟩, by rw [List.getElem?_set_ne (by decide)]; exact List.getElem?_set_self (by rw [p.2.2.env.len]; show 4 < 7; decide), _, List.getElem?_set_self (by rw [List.length_set, p.2.2.env.len]; show 5 < 7; decide), Dp.up s d2⟩
  · refine h_ex fun sc => h_and fun hsc => ?_
    have lt' : i < rd.length := (List.getElem?_eq_some_iff.mp hsc).1
    have take1 : rd.take (i + 1) = rd.take i ++ [sc] := by rw [List.take_succ, hsc]; rfl
    have step := cloAt_snoc sc (rd.take i) pl 0
    rw [← take1, Nat.zero_add, List.length_take, Nat.min_eq_left (by omega)] at step
    let S := cloAt pl 0 (rd.take i)
    let Γ1 : Cxt := (Γ0.set 2 (some (tKset K S))).set 5 (some (tD K (dI sc)))
    refine h_if (b := sc.all fun v => decide (v ∈ S)) (Γ := Γ1) (y_t (PY.eq (y_all (bs := sc.map fun v => decide (v ∈ S)) (by rfl) (by rfl) T.fAll (PY.eq (y_lc1 6 sc (fun v => tD K (.int v)) (fun _ => true) (fun v => .bool (decide (v ∈ S))) (by have := fs sc (List.mem_of_getElem? hsc); omega) (fun _ _ => rfl) (by rfl) nd (i_tupM (yv 5)) (blkOk_by (N := ["_law_read", "_law_plates", "_law_found", "_law_version", "_law_deed", "_law_some", "_law_source"]) (sc := defScope sLawClosure) (by decide +kernel)) rfl (by rfl) (fun _ _ _ _ _ _ _ => ts_no) (fun v hv _ _ _ _ _ _ => PY.ofBool ((y_inS (by exact hu) (PY.int (yv 6)) (yv 2)).val _))) ?_)) ?_))
      (fun σ H ⟨p, e4, v, e5, hv⟩ => ((p.2.2.env.up p.2.2.same).put p.2.2.slot p.2.2.kset).put e5 hv) (fun σ H H' ⟨p, e4, v, e5, hv⟩ s => ⟨⟨s.seq p.1, DpAll.up s p.2.1, p.2.2.up s⟩, e4, v, e5, Dp.up s hv⟩) (fun hall => ?_) (fun hall σ H ⟨p, _⟩ => ?_) (h_end fun σ H p => p) (M := I z (i + 1))
    · rw [filter_all]
      show _ = tD K (.list ((sc.map fun v => decide (v ∈ S)).map .bool))
      rw [List.map_map]; rfl
    · rw [List.all_map]; rfl
    · rw [hall] at step
      simp only [if_true] at step
      refine h_one (L2.ps_dput hu (t_var (i := 2)) (t_var (i := 4)) (y_bl (Γ := Γ1)) (by rfl)) fun Dd σ H ⟨p, e4, v, e5, hv⟩ m _ => ⟨((p.2.2.env.up p.2.2.same).put p.2.2.slot p.2.2.kset).put e5 hv, fun u H' s hu' => ?_⟩
      obtain ⟨ks, ρ, hD, hks, lks⟩ := p.2.2.dic
      have hD' := s _ _ hD
      refine ⟨_, p.2.2.slot, _, e4, D, _, rfl, DPut.k (k := Sum.inl (i : Int)) hD' (by rw [dkg_len]; exact sz_lt (by omega)), m _ _ ⟨seqL_upd hD' (kkI.no _) (s.seq p.1), DpAll.upd hD' (kkI.no _) (DpAll.up s p.2.1), p.2.2.env, Same.mut (p.2.2.same.trans s) hD0, p.2.2.slot, addk ks (i : Int), (fun j => if j = (i : Int) then u else ρ j), ?_, fun j => ?_, ?_⟩⟩
      · rw [upd_same]
        exact congrArg (fun z => some (HO.dK z)) (putK_dkg (f := (Sum.inl : Int → L2.Key)) kkI.inj)
      · rw [addk_mem, step, List.mem_cons, hks j, or_comm]
      · have := addk_len (ks := ks) (k := (i : Int)); omega
    · rw [hall] at step
      refine ⟨p.1, p.2.1, p.2.2.env, p.2.2.same, p.2.2.slot, ?_⟩
      obtain ⟨ks, ρ, hD, hks, lks⟩ := p.2.2.dic
      refine ⟨ks, ρ, hD, ?_, by omega⟩
      rw [step]; exact hks
  · refine h_ex fun z => h_retY (Γ := Γ0.set 2 (some (tKset K (clo pl rd)))) (yv 2) (fun σ H p => (p.2.2.env.up p.2.2.same).put p.2.2.slot ?_) fun σ H v H' p s hv => q v H' (p.2.2.same.trans s) hv
    have := p.2.2.kset
    rwa [List.length_map, List.take_length] at this
theorem lost_eq (h : Hs) (pl : List Int) : (((h.la.zipIdx).filter fun x => !decide (x.1 ∈ clo pl h.rd)).map fun x => iN x.2) = [] ↔ safeB h pl = true := by
  rw [List.map_eq_nil_iff, List.filter_eq_nil_iff]
  unfold safeB
  rw [List.all_eq_true]
  constructor
  · intro a v hv
    obtain ⟨i, hi, e⟩ := List.getElem_of_mem hv
    have := a (v, i) (List.mem_zipIdx_iff_getElem?.mpr (by rw [List.getElem?_eq_getElem hi, e]))
    simpa using this
  · intro a x hx
    have := a x.1 (List.mem_of_getElem? (zip_at hx))
    simpa using this
abbrev lostD (h : Hs) (pl : List Int) : List PyData := ((h.la.zipIdx).filter fun x => !decide (x.1 ∈ clo pl h.rd)).map fun x => iN x.2
theorem c_law_lost (T : Tp K mg) : Callee P w K mg base "_law_lost" 2 ["_law_history_here", "_law_plates"] (SpY (fun z : Hs × List Int => [tD K (dHis z.1), tD K (dI z.2)]) (fun z => HSm z.1 ∧ z.2.length ≤ 400) fun z => tD K (.tuple (lostD z.1 z.2))) := by
  obtain ⟨fd, F, b⟩ := T.defLawLost
  refine ⟨_, fd, fnY F scLawLost (fun _ => rfl) (fun _ => none) (fun _ _ h => by cases h) fun ⟨h, pl⟩ ⟨sm, fp⟩ cdv A outer s H E hr => ?_, T.gLawLost, F.kp, b⟩
  have nd := scLawLost.nd
  have hu := hu_of hr
  have sm : HSm h := sm
  have fp : pl.length ≤ 400 := fp
  have laL := sm.la
  refine s_asg (i := 2) (y_call (c_law_closure T) hr (by rfl) (h.rd, pl) ⟨sm.rd, fp, sm.src⟩ (ya_cons (y_ixT (ds := [dLi (zs h.wr), dRd h.rd, dLi h.la]) (j := 1) rfl (yv 0) y_int) (ya_cons (yv 1) ya_nil))) ?_ nd (hx := Or.inr rfl)
  exact s_ret (y_tupleL (by rfl) T.fTuple (y_lc2 3 4 h.la.zipIdx (fun x => tI ((x.2 : Nat) : Int)) (fun x => tD K (.int x.1)) (fun x => !decide (x.1 ∈ clo pl h.rd)) (fun x => iN x.2) (by rw [List.length_zipIdx]; omega) (fun _ _ => rfl) (by rfl) nd (i_enumLM (by rfl) T.fEnumerate (y_ixT (ds := [dLi (zs h.wr), dRd h.rd, dLi h.la]) (j := 2) rfl (yv 0) y_int))
    (blkOk_by (N := ["_law_history_here", "_law_plates", "_law_found", "_law_cell", "_law_version"]) (sc := defScope sLawLost) (by decide +kernel)) rfl rfl (by rfl) (by rfl) (fun x hx _ _ _ _ _ => ts_one ((y_ninS (by exact hu) (PY.int (yv 4)) (yv 2)).tst _)) (fun x hx _ _ _ _ _ _ => PY.ofInt (yv 3)))) rfl
end
end Lp
/-! LpL3 -/
namespace Lp
open PySem PySem.Spec PyProof.Rows L2
section
variable {P : Program} {w : World} {K : PySem.W.Frag} {mg : Str → Option Value} {base : Heap}
structure LhS (K : PySem.W.Frag) (l1 l2 l3 : Addr) (H0 : Hp) (Γ0 : Cxt) (h : Hs) (σ : L2.St) (H : Hp) : Prop where
  env : Env Γ0 σ H0
  same : Same H0 H
  s3 : σ[3]? = some (some (.ref l3))
  s5 : σ[5]? = some (some (.ref l1))
  s6 : σ[6]? = some (some (.ref l2))
  w : H l1 = some (.lst ((zs h.wr).map V.int))
  r : ∃ vs, H l2 = some (.lst vs) ∧ DpAll K H vs (h.rd.map dI)
  la : H l3 = some (.lst (h.la.map V.int))
structure Apart3 (l1 l2 l3 : Addr) (H0 : Hp) : Prop where
  n1 : H0 l1 = none
  n2 : H0 l2 = none
  n3 : H0 l3 = none
  e12 : l1 ≠ l2
  e13 : l1 ≠ l3
  e23 : l2 ≠ l3
section
variable {l1 l2 l3 : Addr} {H0 : Hp} {Γ0 : Cxt} {h : Hs} {σ : L2.St} {H : Hp}
theorem LhS.up {H' : Hp} (S : LhS K l1 l2 l3 H0 Γ0 h σ H) (e : Same H H') : LhS K l1 l2 l3 H0 Γ0 h σ H' :=
  ⟨S.env, S.same.trans e, S.s3, S.s5, S.s6, e _ _ S.w, let ⟨vs, a, b⟩ := S.r; ⟨vs, e _ _ a, DpAll.up e b⟩, e _ _ S.la⟩
theorem LhS.slot (S : LhS K l1 l2 l3 H0 Γ0 h σ H) {i : Nat} {a : Option V} (hi : Γ0[i]? = some none) (h3 : i ≠ 3) (h5 : i ≠ 5) (h6 : i ≠ 6) : LhS K l1 l2 l3 H0 Γ0 h (σ.set i a) H :=
  ⟨S.env.keep hi, S.same, by rw [List.getElem?_set_ne h3]; exact S.s3, by rw [List.getElem?_set_ne h5]; exact S.s5, by rw [List.getElem?_set_ne h6]; exact S.s6, S.w, S.r, S.la⟩
theorem LhS.lastD (S : LhS K l1 l2 l3 H0 Γ0 h σ H) : (tD K (dLi h.la)).is (.ref l3) H := .lst (SqL.of S.la) (ints_dpAll _)
end
theorem c_law_history (T : Tp K mg) : Callee P w K mg base "_law_history" 1 ["_law_cells", "_law_kinds", "_law_journal_here"] (SpY (fun z : Nat × List Kd × List Nat => [tI (z.1 : Int), tD K (dKs z.2.1), tD K (dT z.2.2)]) (fun z => TabR z.1 z.2.1 ∧ (∀ j, j ∈ z.2.2 → j < z.2.1.length) ∧ z.2.2.length ≤ 400) fun z => tD K (dHis (hist z.1 z.2.1 z.2.2))) := by
  obtain ⟨fd, F, b⟩ := T.defLawHistory
  refine ⟨_, fd, fnH F scLawHistory (fun vs H Q E ⟨z, _, h, _⟩ => by rw [h.len]; rfl) fun vs H0 Q E hsp cdv A outer s hr => ?_, T.gLawHistory, F.kp, b⟩
  obtain ⟨⟨n, ks, js⟩, ⟨TR, hj, few⟩, hvs, q⟩ := hsp
  have TR : TabR n ks := TR
  have few : js.length ≤ 400 := few
  have hj : ∀ j, j ∈ js → j < ks.length := hj
  have n8 := TR.n8
  have nd := scLawHistory.nd
  let Γ0 : Cxt := [some (tI (n : Int)), some (tD K (dKs ks)), some (tD K (dT js)), none, none, none, none, none, none, none, none]
  refine ⟨fun σ H => Env Γ0 σ H0 ∧ H = H0, ⟨env_start (N := ["_law_cells", "_law_kinds", "_law_journal_here", "_law_last", "_law_cell", "_law_written", "_law_read", "_law_deed", "_law_number", "_law_reads", "_law_one"]) hvs, rfl⟩, ?_⟩
  -- last = [..]
  refine h_new (i := 3) (Γ := Γ0) (n_lc1 4 (List.range n) (fun c => tI (c : Nat)) (fun _ => true) (fun c => .int (bg c)) (by rw [List.length_range]; omega) (fun _ _ => rfl) (by rfl) nd (i_rng1 (by rfl) T.fRange (yv 0) (by omega)) (blkOk_by (N := ["_law_cells", "_law_kinds", "_law_journal_here", "_law_last", "_law_cell", "_law_written", "_law_read", "_law_deed", "_law_number", "_law_reads", "_law_one"]) (sc := defScope sLawHistory) (by decide +kernel)) (by rfl) (by rfl) (fun _ _ _ _ _ _ _ => ts_no) fun c hc _ _ _ _ _ _ => PY.ofInt (y_sub (y_neg y_int) (yv 4)))
    (fun σ H ⟨g, e⟩ => by rw [e]; exact g) (M := fun σ H => ∃ l3, H0 l3 = none ∧ Env Γ0 σ H0 ∧ Same H0 H ∧ σ[3]? = some (some (.ref l3)) ∧ H l3 = some (.lst ((la0 n).map V.int))) (fun σ H l vs H' ⟨g, e⟩ f s h1 hv => ⟨l, by rw [← e]; exact f, g.keep rfl, by rw [← e]; exact s, List.getElem?_set_self (by rw [g.len]; show 3 < 11; decide), ?_⟩) (h_ex fun l3 => h_and fun n3 => ?_) nd (hx := Or.inr rfl)
  · rw [filter_all, ← la0_map] at hv
    rw [h1, dpAll_ints hv]
  refine h_new (i := 5) (Γ := Γ0) (n_lst (ds := []) ya_nil (by decide)) (fun σ H p => p.1.up p.2.1) (M := fun σ H => ∃ l1, (H0 l1 = none ∧ l1 ≠ l3) ∧ Env Γ0 σ H0 ∧ Same H0 H ∧ σ[3]? = some (some (.ref l3)) ∧ σ[5]? = some (some (.ref l1)) ∧ H l3 = some (.lst ((la0 n).map V.int)) ∧ H l1 = some (.lst [])) (fun σ H l vs H' ⟨g, sm, e3, h3⟩ f s h1 hv => ⟨l, ⟨sm.free f, (ne_of_none h3 f).symm⟩, g.keep rfl, sm.trans s, by rw [List.getElem?_set_ne (by decide)]; exact e3, List.getElem?_set_self (by rw [g.len]; show 5 < 11; decide), s _ _ h3, by cases hv; exact h1⟩) (h_ex fun l1 => h_and fun ⟨n1, e13⟩ => ?_) nd
  refine h_new (i := 6) (Γ := Γ0) (n_lst (ds := []) ya_nil (by decide)) (fun σ H p => p.1.up p.2.1) (M := fun σ H => ∃ l2, Apart3 l1 l2 l3 H0 ∧ LhS K l1 l2 l3 H0 Γ0 (hist0 n) σ H) (fun σ H l vs H' ⟨g, sm, e3, e5, h3, h1'⟩ f s h1 hv => ⟨l, ⟨n1, sm.free f, n3, ne_of_none h1' f, e13, (ne_of_none h3 f).symm⟩, g.keep rfl, sm.trans s, by rw [List.getElem?_set_ne (by decide)]; exact e3, by rw [List.getElem?_set_ne (by decide)]; exact e5, List.getElem?_set_self (by rw [g.len]; show 6 < 11; decide), s _ _ h1', ⟨[], by cases hv; exact h1, .nil⟩, s _ _ h3⟩) (h_ex fun l2 => h_and fun ap => ?_) nd
  let I : Zs → Nat → SP2 := fun z i σ H => z.2 = (zs js).map V.int ∧ SqT K H z.1 z.2 ∧ LhS K l1 l2 l3 H0 Γ0 (hist n ks (js.take i)) σ H
  let B : Zs → Nat → SP2 := fun z i σ H => ∃ j k, js[i]? = some j ∧ ks[j]? = some k ∧ I z i σ H ∧ σ[7]? = some (some (.int (i : Nat))) ∧ σ[8]? = some (some (.int (j : Nat)))
  refine h_for (Γ := Γ0) I B (by rfl) (g_enumT (ts := (zs js).map fun i => tD K (.int i)) (by rfl) T.fEnumerate (PY.to (yv 2) fun v H hv => by have := tup_of v H hv; rwa [map_ty] at this)) (pg_tup (by rfl) (pgs_cons (pg_name (i := 7) nd rfl (Or.inl rfl)) (pgs_cons (pg_name (i := 8) nd rfl (Or.inl rfl)) pgs_nil)))
    (fun σ H p => p.env.up p.same) (fun z σ H H' p s ⟨z1, z2⟩ => ⟨?_, z1, p.up s⟩) (fun z i σ H _ p => p.2.1) (fun z i σ H H2 v lt p s ⟨T', y, e, hT, hy⟩ => ?_) (fun z i lt => ?_) ?_ (mono := mono_pair)
  · have := AllY.data (ds := (zs js).map .int) (by rw [map_ty]; exact z2)
    exact dpAll_ints this
  · subst e
    have lt' : i < js.length := by simpa [zs] using lt
    obtain ⟨j, hjj⟩ : ∃ j, js[i]? = some j := ⟨_, List.getElem?_eq_getElem lt'⟩
    obtain ⟨k, hk⟩ : ∃ k, ks[j]? = some k := ⟨_, List.getElem?_eq_getElem (hj j (List.mem_of_getElem? hjj))⟩
    have ey : y = .int (j : Nat) := by
      rw [p.1, List.getElem?_map, zs_get hjj] at hy
      exact (Option.some.inj hy).symm
    subst ey
    exact gp_pair hT ⟨j, k, hjj, hk, ⟨p.1, Same.seqT s p.2.1, ((p.2.2.up s).slot rfl (by decide) (by decide) (by decide)).slot rfl (by decide) (by decide) (by decide)⟩, by rw [List.getElem?_set_ne (by decide)]; exact List.getElem?_set_self (by rw [p.2.2.env.len]; show 7 < 11; decide), List.getElem?_set_self (by rw [List.length_set, p.2.2.env.len]; show 8 < 11; decide)⟩
  · refine h_ex fun j => h_ex fun k => h_and fun hjj => h_and fun hk => ?_
    have km : k ∈ ks := List.mem_of_getElem? hk
    have lt' : i < js.length := (List.getElem?_eq_some_iff.mp hjj).1
    have sz := hist_sz (n := n) (ks := ks) (js := js.take i)
    rw [List.length_take, Nat.min_eq_left (by omega)] at sz
    let h := hist n ks (js.take i)
    let J : Hs → SP2 := fun h σ H => (z.2 = (zs js).map V.int ∧ SqT K H z.1 z.2 ∧ LhS K l1 l2 l3 H0 Γ0 h σ H) ∧ σ[7]? = some (some (.int (i : Nat))) ∧ σ[4]? = some (some (.int (k.1 : Nat))) ∧ ∃ v, σ[9]? = some (some v) ∧ Dp K H v (dT k.2)
    let Γ1 : Hs → Cxt := fun h => (((Γ0.set 3 (some (tD K (dLi h.la)))).set 7 (some (tI (i : Nat)))).set 4 (some (tI (k.1 : Nat)))).set 9 (some (tD K (dT k.2)))
    have envJ : ∀ {h σ H}, J h σ H → Env (Γ1 h) σ H := fun ⟨p, e4, e6, v, e7, hv⟩ => ((((p.2.2.env.up p.2.2.same).put p.2.2.s3 p.2.2.lastD).put e4 rfl).put e6 rfl).put e7 hv
    refine h_by (M := J h) (ps_asg (y_ixT (ds := ks.map dKd) (j := j) (d := dKd k) (Γ := Γ0.set 8 (some (tI (j : Nat)))) (by rw [List.getElem?_map, hk]; rfl) (yv 1) (yv 8)) (pg_tup (by rfl) (pgs_cons (pg_name (i := 4) nd rfl (Or.inl rfl)) (pgs_cons (pg_name (i := 9) nd rfl (Or.inl rfl)) pgs_nil)))) (fun D σ H ⟨p, e4, e5⟩ m _ => ⟨(p.2.2.env.up p.2.2.same).put e5 rfl, fun v H' s hv => ?_⟩) ?_
    · obtain ⟨a, xs, rfl, h1, h2⟩ := dp_tup hv
      obtain ⟨u1, u2, rfl, d1, d2⟩ : ∃ u1 u2, xs = [u1, u2] ∧ Dp K H' u1 (iN k.1) ∧ Dp K H' u2 (dT k.2) := by
        cases h2 with
        | cons a t => cases t with
          | cons b t => cases t; exact ⟨_, _, rfl, a, b⟩
      refine gp_pair h1 (m _ _ ⟨⟨p.1, Same.seqT s p.2.1, ((p.2.2.up s).slot rfl (by decide) (by decide) (by decide)).slot rfl (by decide) (by decide) (by decide)⟩, ?_, ?_, u2, ?_, d2⟩)
      · rw [List.getElem?_set_ne (by decide), List.getElem?_set_ne (by decide)]; exact e4
      · rw [List.getElem?_set_ne (by decide), dp_int d1]; exact List.getElem?_set_self (by rw [p.2.2.env.len]; show 4 < 11; decide)
      · exact List.getElem?_set_self (by rw [List.length_set, p.2.2.env.len]; show 9 < 11; decide)
    -- written.append(cell)
    refine h_append (M := J ⟨h.wr ++ [k.1], h.rd, h.la⟩) (Γ := Γ1 h) (t_var (i := 5)) (yv 4 (τ := tI (k.1 : Nat))) (fun σ H p => envJ p) (fun σ H ⟨⟨p1, p2, p⟩, e4, e6, v, e7, hv⟩ => ⟨l1, _, p.w, ?_, fun Q k => ⟨_, p.s5, k⟩, fun u H' s hu => ?_⟩) ?_
    · rw [List.length_map, zs_len, sz.wr]; omega
    · obtain ⟨vs, r1, r2⟩ := p.r
      have tk := tupK_lst (K := K) (o' := .lst ((zs h.wr).map V.int ++ [u])) (s _ _ p.w)
      refine ⟨⟨p1, tk _ _ (Same.seqT s p2), p.env, Same.mut (p.same.trans s) ap.n1, p.s3, p.s5, p.s6, ?_, ⟨vs, ?_, DpAll.fz tk (fz_rd _) (DpAll.up s r2)⟩, ?_⟩, e4, e6, v, e7, Dp.fz tk (fz_ints _) (Dp.up s hv)⟩
      · rw [upd_same, show u = V.int (k.1 : Nat) from hu, zs_app, List.map_append]; rfl
      · rw [upd_ne ap.e12.symm]; exact s _ _ r1
      · rw [upd_ne ap.e13.symm]; exact s _ _ p.la
    -- read.append(..)
    refine h_append (M := J ⟨h.wr ++ [k.1], h.rd ++ [k.2.map fun c => h.la.getD c 0], h.la⟩) (Γ := Γ1 ⟨h.wr ++ [k.1], h.rd, h.la⟩) (τ := tD K (dI (k.2.map fun c => h.la.getD c 0))) (t_var (i := 6)) ?_ (fun σ H p => envJ p) (fun σ H ⟨⟨p1, p2, p⟩, e4, e6, v, e7, hv⟩ => ?_) ?_
    · refine y_tupleL (by rfl) T.fTuple (PY.eq (y_lc1 10 k.2 (fun c => tD K (iN c)) (fun _ => true) (fun c => .int (h.la.getD c 0)) (by have := TR.few k km; omega) (fun _ _ => rfl) (by rfl) nd (i_lot (yv 9)) (blkOk_by (N := ["_law_cells", "_law_kinds", "_law_journal_here", "_law_last", "_law_cell", "_law_written", "_law_read", "_law_deed", "_law_number", "_law_reads", "_law_one"]) (sc := defScope sLawHistory) (by decide +kernel)) rfl (by rfl) (fun _ _ _ _ _ _ _ => ts_no) fun c hc _ _ _ _ _ _ => ?_) ?_)
      · have hcn : c < h.la.length := by rw [sz.la]; exact TR.read k km c hc
        exact y_ixL (ds := h.la.map .int) (j := c) (hla_at hcn) (yv 3) (PY.int (yv 10))
      · rw [filter_all, List.map_map]; rfl
    · obtain ⟨vs, r1, r2⟩ := p.r
      refine ⟨l2, vs, r1, ?_, fun Q k => ⟨_, p.s6, k⟩, fun u H' s hu => ?_⟩
      · have := dpAll_len r2
        rw [List.length_map] at this
        rw [this, sz.rd]; omega
      · have tk := tupK_lst (K := K) (o' := .lst (vs ++ [u])) (s _ _ r1)
        refine ⟨⟨p1, tk _ _ (Same.seqT s p2), p.env, Same.mut (p.same.trans s) ap.n2, p.s3, p.s5, p.s6, ?_, ⟨_, upd_same, DpAll.fz tk (fz_rd _) ?_⟩, ?_⟩, e4, e6, v, e7, Dp.fz tk (fz_ints _) (Dp.up s hv)⟩
        · rw [upd_ne ap.e12]; exact s _ _ p.w
        · rw [List.map_append]; exact dpAll_app (DpAll.up s r2) (.cons hu .nil)
        · rw [upd_ne ap.e23.symm]; exact s _ _ p.la
    -- last[cell] = deed
    refine h_one (ps_asg (yv 7 (Γ := Γ1 ⟨h.wr ++ [k.1], h.rd ++ [k.2.map fun c => h.la.getD c 0], h.la⟩) (τ := tI (i : Nat))) (pg_sub (t_var (i := 3)) (t_var (i := 4)) set_list)) fun D σ H ⟨⟨p1, p2, p⟩, e4, e6, v, e7, hv⟩ m _ => ⟨envJ ⟨⟨p1, p2, p⟩, e4, e6, v, e7, hv⟩, fun u H' s hu => ?_⟩
    have kn : k.1 < h.la.length := by rw [sz.la]; exact TR.cell k km
    refine ⟨_, p.s3, _, e6, l3, _, (k.1 : Nat), k.1, rfl, rfl, s _ _ p.la, ?_, m _ _ ⟨p1, ?_⟩⟩
    · unfold ixN
      rw [if_pos (by omega), if_pos (by rw [List.length_map]; exact Int.ofNat_lt.mpr kn)]; rfl
    · obtain ⟨vs, r1, r2⟩ := p.r
      have tk := tupK_lst (K := K) (o' := .lst ((h.la.map V.int).set k.1 u)) (s _ _ p.la)
      refine ⟨tk _ _ (Same.seqT s p2), p.env, Same.mut (p.same.trans s) ap.n3, p.s3, p.s5, p.s6, ?_, ⟨vs, ?_, ?_⟩, ?_⟩
      · rw [upd_ne ap.e13, hist_take hjj hk]; exact s _ _ p.w
      · rw [upd_ne ap.e23]; exact s _ _ r1
      · rw [hist_take hjj hk]; exact DpAll.fz tk (fz_rd _) (DpAll.up s r2)
      · rw [upd_same, hist_take hjj hk, show u = V.int (i : Nat) from hu]
        show some (HO.lst _) = some (HO.lst ((h.la.set k.1 ((h.wr.length : Nat) : Int)).map V.int))
        rw [List.map_set, sz.wr]
  · -- return (written, read, last)
    refine h_ex fun z => ?_
    have ej : js.take (zs js).length = js := by rw [zs_len]; exact List.take_length
    let hh := hist n ks js
    refine h_retY (Γ := ((Γ0.set 3 (some (tD K (dLi hh.la)))).set 5 (some (tD K (dLi (zs hh.wr))))).set 6 (some (tD K (dRd hh.rd)))) (τ := tD K (dHis hh)) (y_tup (ds := [dLi (zs hh.wr), dRd hh.rd, dLi hh.la]) (ya_cons (yv 5) (ya_cons (yv 6) (ya_cons (yv 3) ya_nil))) (by show 3 ≤ 100000; decide)) (fun σ H ⟨p1, p2, p⟩ => ?_) fun σ H v H' p s hv => q v H' (p.2.2.same.trans s) hv
    rw [List.length_map, ej] at p
    obtain ⟨vs, r1, r2⟩ := p.r
    exact (((p.env.up p.same).put p.s3 p.lastD).put p.s5 (show Dp K H _ (dLi _) from .lst (SqL.of p.w) (ints_dpAll _))).put p.s6 (show Dp K H _ (dRd _) from .lst (SqL.of r1) r2)
end
end Lp
/-! LpL4 -/
namespace Lp
open PySem PySem.Spec PyProof.Rows L2
section
variable {X : Cx} {Γ : Cxt} {tg it : Expr} {pos : Pos} {rest body : List Stmt} {P N : SP2} {R : V → Hp → Prop} {g : TG} {te : TE}
/-- for, over the list at a place that is known -/
theorem h_forL {a : Addr} {xs : List V} (I B : Nat → SP2) (hc : X.calm = true) (hi : PE X it te) (hg : PG X tg g) (qe : ∀ σ H (Q : VK), P σ H → Q (.ref a) H → te σ H Q) (i0 : ∀ σ H, P σ H → I 0 σ H) (okk : ∀ i σ H, I i σ H → SqL X.K H a xs) (tgt : ∀ i σ H x, xs[i]? = some x → I i σ H → g x σ H (B i))
    (hb : ∀ i, i < xs.length → HT X body (B i) (I (i + 1)) R) (hr : HT X rest (I xs.length) N R) (mono : ∀ v σ H Q Q', (∀ σ' H', Q σ' H' → Q' σ' H') → g v σ H Q → g v σ H Q') (hp : PassesOwn (model X.prog X.w) X.A X.env X.xe := by exact PassesOwn.never) (hs : ∀ x, foldedSetIterable it X.env x = pure x := by intro _; rfl) : HT X (.For tg it body [] pos :: rest) P N R := by
  refine h_by (M := I xs.length) (ps_for (tb := fun D σ H => ∃ i, i < xs.length ∧ tHT (B i) (I (i + 1)) R D σ H) hp hc (pi_list hi) hg ⟨fun pins s σ H D J ⟨i, lt, h⟩ => (hb i lt).run pins s σ H D J h⟩ hs) (fun D σ H p m r => qe σ H _ p ⟨a, rfl, ⟨xs, okk 0 _ _ (i0 _ _ p)⟩, ?_⟩) hr
  refine ⟨fun i k σ' H' => k = xs.length - i ∧ i ≤ xs.length ∧ I i σ' H', ⟨_, rfl, Nat.zero_le _, i0 _ _ p⟩, ?_⟩
  rintro i k σ' H' ⟨rfl, hle, g2⟩
  have hok := okk _ _ _ g2
  by_cases lt : i < xs.length
  · refine .inr ⟨⟨xs, xs[i], hok, List.getElem?_eq_getElem lt⟩, I (i + 1), fun σ2 H2 b => ⟨_, by omega, rfl, lt, b⟩, fun x H2 ⟨e, y⟩ => ?_⟩
    subst e
    exact mono _ _ _ _ _ (fun σ3 H3 b => ⟨i, lt, b, fun _ _ k => k, r⟩) (tgt i σ' _ x (y xs hok) g2)
  · obtain rfl : i = xs.length := by omega
    exact .inl ⟨⟨xs, hok, Nat.le_refl _⟩, m _ _ g2⟩
end
section
variable {P : Program} {w : World} {K : PySem.W.Frag} {mg : Str → Option Value} {base : Heap}
theorem rawT_take {ks : List Kd} {some : List Nat} {i : Nat} {k : Kd} (h : ks[i]? = Option.some k) : rawT (ks.take (i + 1)) some = rawT (ks.take i) some ++ (k.2.filter fun r => !decide (r = k.1) && decide (r ∈ some)).map fun r => (r, k.1) := by
  rw [List.take_succ, h]
  show rawT (ks.take i ++ [k]) some = _
  unfold rawT
  rw [List.flatMap_append]; simp
theorem fz_pairs (l : List (Nat × Nat)) : fzA (l.map dP) = true := fzA_all fun d hd => by
  obtain ⟨p, _, rfl⟩ := List.mem_map.mp hd
  exact ordP.fr p
theorem fz_kds (l : List Kd) : fzA (l.map dKd) = true := fzA_all fun d hd => by
  obtain ⟨p, _, rfl⟩ := List.mem_map.mp hd
  exact ordK.fr p
theorem rawT_len {ks : List Kd} {some : List Nat} (h : ∀ k, k ∈ ks → k.2.length ≤ 3) : (rawT ks some).length ≤ 3 * ks.length := by
  induction ks with
  | nil => simp [rawT]
  | cons k ks ih =>
    have h1 := ih fun x hx => h x (List.mem_cons_of_mem _ hx)
    have h2 := h k List.mem_cons_self
    have h3 := List.length_filter_le (fun r => !decide (r = k.1) && decide (r ∈ some)) k.2
    unfold rawT at h1 ⊢
    rw [List.flatMap_cons, List.length_append, List.length_map, List.length_cons]
    omega
theorem c_law_ties (T : Tp K mg) : Callee P w K mg base "_law_ties" 1 ["_law_kinds"] (SpY (fun z : Nat × List Kd => [tD K (dKs z.2)]) (fun z => TabR z.1 z.2) fun z => tD K (.list ((tie z.2).map dP))) := by
  obtain ⟨fd, F, b⟩ := T.defLawTies
  refine ⟨_, fd, fnY F scLawTies (fun _ => rfl) (fun _ => none) (fun _ _ h => by cases h) fun ⟨n, ks⟩ TR cdv A outer s H E hr => ?_, T.gLawTies, F.kp, b⟩
  have TR : TabR n ks := TR
  have k40 := TR.k40
  have c8 := TR.c8
  have nd := scLawTies.nd
  have hu := hu_of hr
  let cs := ks.map (·.1)
  have hcs : ∀ c, c ∈ cs ↔ Chg ks c := fun c => by show c ∈ ks.map (·.1) ↔ _; rw [List.mem_map]; rfl
  refine s_asg (i := 1) (τ := tD K (.list (cs.map iN))) (PY.eq (y_lc2 2 3 ks (fun k => tD K (iN k.1)) (fun k => tD K (dT k.2)) (fun _ => true) (fun k => iN k.1) (by omega) (fun _ _ => rfl) (by rfl) nd (i_pairs (i_tupM (yv 0))) (blkOk_by (N := ["_law_kinds", "_law_some", "_law_cell", "_law_reads", "_law_found", "_law_one"]) (sc := defScope sLawTies) (by decide +kernel)) (by rfl) (by rfl) (by rfl) (by rfl) (fun _ _ _ _ _ _ _ => ts_no) (fun k hk _ _ _ _ _ _ => yv 2)) ?_) ?_ nd (hx := Or.inr rfl)
  · rw [filter_all, List.map_map]; rfl
  let Γ0 : Cxt := [some (tD K (dKs ks)), some (tD K (.list (cs.map iN))), none, none, none, none]
  refine psy_of (Γ := Γ0) (N := fun _ _ => False) fun Hb => ?_
  refine h_new (i := 4) (Γ := Γ0) (n_lst (ds := []) ya_nil (by decide)) (fun σ H ⟨g, e⟩ => by rw [e]; exact g) (M := fun σ H => ∃ l, Hb l = none ∧ Env Γ0 σ Hb ∧ Same Hb H ∧ σ[4]? = some (some (.ref l)) ∧ H l = some (.lst [])) (fun σ H l vs H' ⟨g, e⟩ f s h1 hv => ⟨l, by rw [← e]; exact f, g.keep rfl, by rw [← e]; exact s, List.getElem?_set_self (by rw [g.len]; show 4 < 6; decide), by cases hv; exact h1⟩) (h_ex fun l => h_and fun hl => ?_) nd
  let St : Nat → SP2 := fun i σ H => Env Γ0 σ Hb ∧ Same Hb H ∧ σ[4]? = some (some (.ref l)) ∧ ∃ vs, H l = some (.lst vs) ∧ DpAll K H vs ((rawT (ks.take i) cs).map dP)
  have upS : ∀ {i σ H H'}, St i σ H → Same H H' → St i σ H' := fun ⟨g, sm, e4, vs, h1, h2⟩ s => ⟨g, sm.trans s, e4, vs, s _ _ h1, DpAll.up s h2⟩
  have setS : ∀ {i σ H j a}, Γ0[j]? = some none → j ≠ 4 → St i σ H → St i (σ.set j a) H := fun hj h4 ⟨g, sm, e4, r⟩ => ⟨g.keep hj, sm, by rw [List.getElem?_set_ne h4]; exact e4, r⟩
  let I : Zs → Nat → SP2 := fun z i σ H => SqT K H z.1 z.2 ∧ DpAll K H z.2 (ks.map dKd) ∧ St i σ H
  let B : Zs → Nat → SP2 := fun z i σ H => ∃ k, ks[i]? = some k ∧ I z i σ H ∧ σ[2]? = some (some (.int (k.1 : Nat))) ∧ ∃ v, σ[3]? = some (some v) ∧ Dp K H v (dT k.2)
  refine h_for (Γ := Γ0) I B (by rfl) (g_tup (ts := ks.map fun k => tD K (dKd k)) (PY.to (yv 0) tup_ofM)) (pg_tup (by rfl) (pgs_cons (pg_name (i := 2) nd rfl (Or.inr rfl)) (pgs_cons (pg_name (i := 3) nd rfl (Or.inl rfl)) pgs_nil)))
    (fun σ H p => p.1.up p.2.1) (fun z σ H H' p s ⟨z1, z2⟩ => ⟨z1, AllY.data (by rw [map_ty]; exact z2), p.1, p.2.1.trans s, p.2.2.1, [], s _ _ p.2.2.2, .nil⟩) (fun z i σ H _ p => p.1) (fun z i σ H H2 v lt p s hv => ?_) (fun z i lt => ?_) ?_ (mono := mono_pair)
  · have lt' : i < ks.length := by simpa using lt
    obtain ⟨d, d1, d2⟩ := dpAll_at p.2.1 hv
    rw [List.getElem?_map, List.getElem?_eq_getElem lt'] at d1
    cases d1
    obtain ⟨a, xs, rfl, h1, h2⟩ := dp_tup (Dp.up s d2)
    obtain ⟨u1, u2, rfl, e1, e2⟩ : ∃ u1 u2, xs = [u1, u2] ∧ u1 = V.int (ks[i].1 : Nat) ∧ Dp K H2 u2 (dT ks[i].2) := by
      cases h2 with
      | cons a t => cases t with
        | cons b t => cases t; exact ⟨_, _, rfl, dp_int a, b⟩
    subst e1
    have l6 := p.2.2.1.len
    exact gp_pair h1 ⟨_, List.getElem?_eq_getElem lt', ⟨Same.seqT s p.1, DpAll.up s p.2.1, setS rfl (by decide) (setS rfl (by decide) (upS p.2.2 s))⟩, by rw [List.getElem?_set_ne (by decide)]; exact List.getElem?_set_self (by rw [l6]; show 2 < 6; decide), u2, List.getElem?_set_self (by rw [List.length_set, l6]; show 3 < 6; decide), e2⟩
  · refine h_ex fun k => h_and fun hk => ?_
    have km : k ∈ ks := List.mem_of_getElem? hk
    let Γ1 : Cxt := (Γ0.set 2 (some (tI (k.1 : Nat)))).set 3 (some (tD K (dT k.2)))
    have lr := rawT_len (ks := ks.take i) (some := cs) fun x hx => TR.few x (List.mem_of_mem_take hx)
    have li : (ks.take i).length ≤ 40 := by rw [List.length_take]; omega
    refine h_extend (M := I z (i + 1)) (ds := (k.2.filter fun r => !decide (r = k.1) && decide (r ∈ cs)).map fun r => dP (r, k.1)) (Γ := Γ1) (t_var (i := 4)) (n_lc1 5 k.2 (fun r => tD K (iN r)) (fun r => !decide (r = k.1) && decide (r ∈ cs)) (fun r => dP (r, k.1)) (by have := TR.few k km; omega) (fun r _ => ordP.fr (r, k.1)) (by rfl) nd (i_lot (yv 3)) (blkOk_by (N := ["_law_kinds", "_law_some", "_law_cell", "_law_reads", "_law_found", "_law_one"]) (sc := defScope sLawTies) (by decide +kernel)) (by rfl) (by rfl)
      (fun r hr' _ _ _ _ _ => ts_one (t_w (w_and (k := !decide (r = k.1)) (PYT.eq ((c_neI (PY.int (yv 5)) (yv 2)).tst _) (by congr 1; exact decide_eq_decide.mpr Int.ofNat_inj)) fun _ => w_and1 (PYT.eq ((c_inI (is := zs cs) (PY.int (yv 5)) (PY.eq (yv 1) (by rw [← iN_zs]; rfl))).tst _) (decide_eq_decide.mpr mem_zs))))) (fun r hr' _ _ _ _ _ _ => y_tup (ds := [iN r, iN k.1]) (ya_cons (yv 5) (ya_cons (PY.ofInt (yv 2)) ya_nil)) (by show 2 ≤ 100000; decide)))
      (fun σ H ⟨p, e2, v, e3, hv⟩ => ((p.2.2.1.up p.2.2.2.1).put e2 rfl).put e3 hv) (fun σ H ⟨p, e2, v, e3, hv⟩ => ?_) (h_end fun σ H p => p)
    obtain ⟨g, sm, e4, vs, h1, h2⟩ := p.2.2
    refine ⟨l, vs, h1, ?_, fun Q k => ⟨_, e4, k⟩, fun b zs' H' fr s hb hd' => ?_⟩
    · have := dpAll_len h2
      rw [List.length_map] at this
      have h3 := List.length_filter_le (fun r => !decide (r = k.1) && decide (r ∈ cs)) k.2
      have h4 := TR.few k km
      rw [List.length_map]; omega
    · have tk := tupK_lst (K := K) (o' := .lst (vs ++ zs')) (s _ _ h1)
      refine ⟨tk _ _ (Same.seqT s p.1), DpAll.fz tk (fz_kds ks) (DpAll.up s p.2.1), g, Same.mut (sm.trans s) hl, e4, _, upd_same, ?_⟩
      rw [rawT_take hk, List.map_append, List.map_map]
      have e : ((k.2.filter fun r => !decide (r = k.1) && decide (r ∈ cs)).map (dP ∘ fun r => (r, k.1))) = (k.2.filter fun r => !decide (r = k.1) && decide (r ∈ cs)).map fun r => dP (r, k.1) := rfl
      rw [e]
      have up1 : DpAll K H' (vs ++ zs') ((rawT (ks.take i) cs).map dP ++ (k.2.filter fun r => !decide (r = k.1) && decide (r ∈ cs)).map fun r => dP (r, k.1)) := dpAll_app (DpAll.up s h2) hd'
      refine DpAll.fz tk (fzA_all fun d hd => ?_) up1
      rcases List.mem_append.mp hd with q | q
      · obtain ⟨p, _, rfl⟩ := List.mem_map.mp q
        exact ordP.fr p
      · obtain ⟨r, _, rfl⟩ := List.mem_map.mp q
        exact ordP.fr (r, k.1)
  · refine h_ex fun z => ?_
    have few : (dd (rawT ks cs)).length < 64 := by
      have := pairs_few (l := dd (rawT ks cs)) dd_nodup fun p hp => c8.ends ((mem_rawT hcs).mp (dd_mem.mp hp))
      omega
    have e2 : (dd (rawT ks cs)).mergeSort leP = tie ks := sort_same ordP dd_nodup dd_nodup fun x => by rw [dd_mem, dd_mem, mem_rawT hcs, mem_rawT fun c => mem_chg]
    refine h_retY (Γ := Γ0.set 4 (some (tD K (.list ((rawT ks cs).map dP))))) (τ := tD K (.list ((tie ks).map dP))) (PY.eq (n_sortSN (by rfl) (by exact hr.units) ordP nkeP (rawT ks cs) (fun _ _ => trivial) few (by rfl) T.fSorted (by rfl) T.fSet (yv 4)).y (by rw [e2]; rfl)) (fun σ H p => ?_) fun σ H v H' p s hv => ⟨p.2.2.2.1.trans s, hv⟩
    obtain ⟨g, sm, e4, vs, h1, h2⟩ := p.2.2
    rw [List.length_map, List.take_length] at h2
    exact (g.up sm).put e4 (show Dp K H _ _ from .lst (SqL.of h1) h2)
end
end Lp
/-! LpL5 -/
namespace Lp
open PySem PySem.Spec PyProof.Rows L2
/-- a list that is tracked -/
def tL2 (K : PySem.W.Frag) (ds : List PyData) : Ty := ⟨fun v H => ∃ p vs, v = .ref p ∧ H p = some (.lst vs) ∧ DpAll K H vs ds, fun e ⟨p, vs, h1, h2, h3⟩ => ⟨p, vs, h1, e _ _ h2, DpAll.up e h3⟩⟩
theorem l2_d {K : PySem.W.Frag} {ds : List PyData} : ∀ v H, (tL2 K ds).is v H → (tD K (.list ds)).is v H := fun v H ⟨p, vs, e, h1, h2⟩ => by subst e; exact .lst (SqL.of h1) h2
section
variable {X : Cx} {Γ : Cxt} {e a b : Expr} {pos : Pos}
theorem PYN.l2 {ds : List PyData} (h : PYN X e Γ ds) : PY X e Γ (tL2 X.K ds) := PE.imp h fun σ H Q ⟨g, q⟩ => ⟨g, fun p vs H' _ s hp hv => q _ H' s ⟨p, vs, rfl, hp, hv⟩⟩
theorem y_catL {ds es : List PyData} (hz : ds.length + es.length ≤ 100000) (ha : PY X a Γ (tL2 X.K ds)) (hb : PY X b Γ (tL2 X.K es)) : PY X (.BinOp a .Add b pos) Γ (tL2 X.K (ds ++ es)) := by
  refine y_op op_cat ha hb fun x y H Q hx hy k => ?_
  obtain ⟨p, xs, rfl, h1, h2⟩ := hx
  obtain ⟨q, ys, rfl, h3, h4⟩ := hy
  exact ⟨p, q, xs, ys, rfl, rfl, h1, h3, by rw [dpAll_len h2, dpAll_len h4]; exact sz_ok hz, fun t ht => k _ _ (Same.new ht) ⟨t, _, rfl, upd_same, DpAll.up (Same.new ht) (dpAll_app h2 h4)⟩⟩
end
section
variable {P : Program} {w : World} {K : PySem.W.Frag} {mg : Str → Option Value} {base : Heap}
theorem rnds_len {ks : List Kd} (c8 : C8 ks) {c : Nat} (hc : c < 8) (i : Nat) : (rnds (tie ks) i [c]).length ≤ 8 := few_sub (rnds_nodup i) fun x hx => c8.reach hc (mem_rnds i hx)
theorem c_law_led (T : Tp K mg) : Callee P w K mg base "_law_led" 1 ["_law_web", "_law_cell"] (SpY (fun z : List Kd × Nat => [tD K (.list ((tie z.1).map dP)), tI (z.2 : Int)]) (fun z => C8 z.1 ∧ z.2 < 8) fun z => tD K (.list ((ledL (tie z.1) z.2).map iN))) := by
  obtain ⟨fd, F, b⟩ := T.defLawLed
  refine ⟨_, fd, fnY F scLawLed (fun _ => rfl) (fun _ => none) (fun _ _ h => by cases h) fun ⟨ks, c⟩ ⟨c8, hc⟩ cdv A outer s H E hr => ?_, T.gLawLed, F.kp, b⟩
  have c8 : C8 ks := c8
  have hc : c < 8 := hc
  have tl := c8.tieL
  have nd := scLawLed.nd
  let web := tie ks
  let Γs : Nat → Cxt := fun i => [some (tD K (.list (web.map dP))), some (tI (c : Int)), some (tL2 K ((rnds web i [c]).map iN)), none, none, none]
  refine s_asg (i := 2) (n_lst (ds := [iN c]) (ya_cons (PY.ofInt (yv 1)) ya_nil) (by show 1 ≤ 100000; decide)).l2 ?_ nd (hx := Or.inr rfl)
  refine s_for (vs := [3]) Γs (fun i => (Γs i).set 3 (some (tI (i : Nat)))) (fun _ _ g => g) (by rfl) (i_rng1 (n := 8) (by rfl) T.fRange y_int (by decide)) (pg_name (i := 3) nd rfl (.inl rfl)) (fun i τ hτ => ?_) (fun i hi => ?_) (s_ret (PY.to (yv 2) l2_d) (by rw [List.length_map, List.length_range]; rfl))
  · rw [List.getElem?_map] at hτ
    cases q : (List.range 8)[i]? with
    | none => rw [q] at hτ; cases hτ
    | some y =>
      rw [q] at hτ
      cases hτ
      obtain ⟨hl, hy⟩ := List.getElem?_eq_some_iff.mp q
      rw [List.getElem_range] at hy
      subst hy
      exact tg_name List.mem_cons_self
  · let f := rnds web i [c]
    have fl := rnds_len c8 hc i
    have nl : ((web.filter fun p => decide (p.1 ∈ f)).map (·.2)).length ≤ 56 := by rw [List.length_map]; exact Nat.le_trans (List.length_filter_le _ _) tl
    refine s_asg (i := 2) (τ := tL2 K ((rnd web f).map iN)) (PY.eq (n_sortSC (by rfl) (by exact hr.units) (f ++ (web.filter fun p => decide (p.1 ∈ f)).map (·.2)) (by rw [List.length_append]; exact Nat.le_trans (Nat.add_le_add fl nl) (by decide)) (by rfl) T.fSorted (by rfl) T.fSet (PY.to (PY.eq (y_catL (ds := f.map iN) (es := (web.filter fun p => decide (p.1 ∈ f)).map fun p => iN p.2) (by rw [List.length_map] at nl; rw [List.length_map, List.length_map]; exact Nat.le_trans (Nat.add_le_add fl nl) (by decide)) (yv 2) (n_lc2 4 5 web (fun p => tD K (iN p.1)) (fun p => tD K (iN p.2)) (fun p => decide (p.1 ∈ f)) (fun p => iN p.2) (Nat.le_trans tl (by decide)) (fun _ _ => rfl) (by rfl) nd (i_pairs (i_listM (yv 0))) (blkOk_by (N := ["_law_web", "_law_cell", "_law_found", "_law_turn", "_law_one", "_law_two"]) (sc := defScope sLawLed) (by decide +kernel)) (by rfl) (by rfl) (by rfl) (by rfl)
      (fun p hp _ _ _ _ _ => ts_one (PYT.eq ((c_inI (is := zs f) (PY.int (yv 4)) (PY.eq (PY.to (yv 2) l2_d) (by rw [← iN_zs]; rfl))).tst _) (decide_eq_decide.mpr mem_zs))) (fun p hp _ _ _ _ _ _ => yv 5)).l2) (congrArg (tL2 K) (by rw [List.map_append, List.map_map]; rfl))) l2_d)).l2 rfl) (s_endW (fun σ H g => g.forget 3) rfl) nd (hx := Or.inr rfl)
theorem c_law_knots (T : Tp K mg) : Callee P w K mg base "_law_knots" 2 ["_law_kinds"] (SpY (fun z : Nat × List Kd => [tD K (dKs z.2)]) (fun z => TabR z.1 z.2) fun z => tD K (.list ((knots z.2).map dT))) := by
  obtain ⟨fd, F, b⟩ := T.defLawKnots
  refine ⟨_, fd, fnY F scLawKnots (fun _ => rfl) (fun _ => none) (fun _ _ h => by cases h) fun ⟨n, ks⟩ TR cdv A outer s H E hr => ?_, T.gLawKnots, F.kp, b⟩
  have TR : TabR n ks := TR
  have k40 := TR.k40
  have c8 := TR.c8
  have cl := c8.chgL
  have nd := scLawKnots.nd
  have hu := hu_of hr
  refine s_asg (i := 1) (y_call (c_law_ties T) hr (by rfl) (n, ks) TR (ya_cons (yv 0) ya_nil)) ?_ nd (hx := Or.inr rfl)
  refine s_asg (i := 2) (τ := tL2 K ((chg ks).map iN)) (PY.eq (n_sortSC (by rfl) (by exact hr.units) (ks.map (·.1)) (by rw [List.length_map]; omega) (by rfl) T.fSorted (by rfl) T.fSet (PY.eq (y_lc2 3 4 ks (fun k => tD K (iN k.1)) (fun k => tD K (dT k.2)) (fun _ => true) (fun k => iN k.1) (by omega) (fun _ _ => rfl) (by rfl) nd (i_pairs (i_tupM (yv 0))) (blkOk_by (N := ["_law_kinds", "_law_web", "_law_some", "_law_cell", "_law_reads", "_law_found", "_law_one"]) (sc := defScope sLawKnots) (by decide +kernel)) (by rfl) (by rfl) (by rfl) (by rfl) (fun _ _ _ _ _ _ _ => ts_no) (fun k hk _ _ _ _ _ _ => yv 3)) (by rw [filter_all, List.map_map]; rfl))).l2 rfl) ?_ nd
  let Γ0 : Cxt := [some (tD K (dKs ks)), some (tD K (.list ((tie ks).map dP))), some (tL2 K ((chg ks).map iN)), none, none, none, none]
  refine psy_of (Γ := Γ0) (N := fun _ _ => False) fun Hb => ?_
  refine h_new (i := 5) (Γ := Γ0) (n_lst (ds := []) ya_nil (by decide)) (fun σ H ⟨g, e⟩ => by rw [e]; exact g) (M := fun σ H => ∃ l, Hb l = none ∧ Env Γ0 σ Hb ∧ Same Hb H ∧ σ[5]? = some (some (.ref l)) ∧ H l = some (.lst [])) (fun σ H l vs H' ⟨g, e⟩ f s h1 hv => ⟨l, by rw [← e]; exact f, g.keep rfl, by rw [← e]; exact s, List.getElem?_set_self (by rw [g.len]; show 5 < 7; decide), by cases hv; exact h1⟩) (h_ex fun l => h_and fun hl => ?_) nd
  -- the list that is walked
  refine h_pre (P' := fun σ H => ∃ a, (Hb a = some (.lst ((zs (chg ks)).map V.int))) ∧ (Env Γ0 σ Hb ∧ Same Hb H ∧ (σ[2]? = some (some (.ref a)) ∧ σ[5]? = some (some (.ref l))) ∧ H l = some (.lst []))) (h_ex fun a => h_and fun hHa => ?_) fun σ H ⟨g, sm, e5, h5⟩ => ?_
  · let St : Nat → SP2 := fun i σ H => Env Γ0 σ Hb ∧ Same Hb H ∧ (σ[2]? = some (some (.ref a)) ∧ σ[5]? = some (some (.ref l))) ∧ ∃ vs, H l = some (.lst vs) ∧ DpAll K H vs (((chg ks).take i).map fun c => dT (knotL ks c))
    refine h_forL (te := tVar 2) (a := a) (xs := (zs (chg ks)).map V.int) St (fun i σ H => ∃ c, (chg ks)[i]? = some c ∧ St i σ H ∧ σ[3]? = some (some (.int (c : Nat)))) (by rfl) (t_var (i := 2)) (pg_name (i := 3) nd rfl (Or.inr rfl)) (fun σ H Q p k => ⟨_, p.2.2.1.1, k⟩) (fun σ H ⟨g, sm, ee, h5⟩ => ⟨g, sm, ee, [], h5, .nil⟩) (fun i σ H p => SqL.of (p.2.1 _ _ hHa)) (fun i σ H x hx p => ?_) (fun i lt => h_ex fun c => h_and fun hcc => ?_) ?_ (mono := mono_name)
    · unfold zs at hx
      rw [List.map_map, List.getElem?_map] at hx
      cases q : (chg ks)[i]? with
      | none => rw [q] at hx; cases hx
      | some c =>
        rw [q] at hx
        cases hx
        obtain ⟨g, sm, ⟨e2, e5⟩, r⟩ := p
        exact ⟨c, rfl, ⟨g.keep rfl, sm, ⟨by rw [List.getElem?_set_ne (by decide)]; exact e2, by rw [List.getElem?_set_ne (by decide)]; exact e5⟩, r⟩, List.getElem?_set_self (by rw [g.len]; show 3 < 7; decide)⟩
    · have hcm : c ∈ chg ks := List.mem_of_getElem? hcc
      let Γ1 : Cxt := Γ0.set 3 (some (tI (c : Nat)))
      refine h_append (M := St (i + 1)) (Γ := Γ1) (τ := tD K (dT (knotL ks c))) (t_var (i := 5)) (y_tupleL (by rfl) T.fTuple (PY.eq (y_lc1 6 (chg ks) (fun c => tD K (iN c)) (fun one => decide (one ∈ ledL (tie ks) c) && decide (c ∈ ledL (tie ks) one)) iN (by omega) (fun _ _ => rfl) (by rfl) nd (i_listM (PY.to (yv 2) l2_d)) (blkOk_by (N := ["_law_kinds", "_law_web", "_law_some", "_law_cell", "_law_reads", "_law_found", "_law_one"]) (sc := defScope sLawKnots) (by decide +kernel)) (by rfl) (by rfl)
        (fun x hx _ _ _ _ _ => ts_one (t_w (w_and (k := decide (x ∈ ledL (tie ks) c)) (PYT.eq ((c_inI (is := zs (ledL (tie ks) c)) (PY.int (yv 6)) (PY.eq (y_call (c_law_led T) (by exact hr.mono (by decide)) (by rfl) (ks, c) ⟨c8, chg8 c8 hcm⟩ (ya_cons (yv 1) (ya_cons (yv 3) ya_nil))) (by rw [← iN_zs]))).tst _) (decide_eq_decide.mpr mem_zs)) fun _ => w_and1 (PYT.eq ((c_inI (is := zs (ledL (tie ks) x)) (yv 3) (PY.eq (y_call (c_law_led T) (by exact hr.mono (by decide)) (by rfl) (ks, x) ⟨c8, chg8 c8 hx⟩ (ya_cons (yv 1) (ya_cons (PY.int (yv 6)) ya_nil))) (by rw [← iN_zs]))).tst _) (decide_eq_decide.mpr mem_zs))))) (fun x hx _ _ _ _ _ _ => yv 6)) (by rw [knotL_law c8 hcm, iN_zs])))
        (fun σ H ⟨p, e3⟩ => (p.1.up p.2.1).put e3 rfl) (fun σ H ⟨⟨g, sm, ee, vs, h1, h2⟩, e3⟩ => ⟨l, vs, h1, ?_, fun Q k => ⟨_, ee.2, k⟩, fun v H' s hv => ?_⟩) (h_end fun σ H p => p)
      · have := dpAll_len h2
        rw [List.length_map, List.length_take] at this
        omega
      · have tk := tupK_lst (K := K) (o' := .lst (vs ++ [v])) (s _ _ h1)
        have t1 : (chg ks).take (i + 1) = (chg ks).take i ++ [c] := by rw [List.take_succ, hcc]; rfl
        refine ⟨g, Same.mut (sm.trans s) hl, ee, _, upd_same, ?_⟩
        rw [t1, List.map_append]
        refine DpAll.fz tk (fzA_all fun d hd => ?_) (dpAll_app (DpAll.up s h2) (.cons hv .nil))
        rcases List.mem_append.mp hd with q | q
        · obtain ⟨x, _, rfl⟩ := List.mem_map.mp q
          exact ordN.fr _
        · rw [List.mem_singleton.mp q]; exact ordN.fr _
    · have len : ((zs (chg ks)).map V.int).length = (chg ks).length := by rw [List.length_map, zs_len]
      have few : (dd ((chg ks).map (knotL ks))).length < 64 := by
        have := dd_len (l := (chg ks).map (knotL ks))
        rw [List.length_map] at this; omega
      refine h_retY (Γ := Γ0.set 5 (some (tD K (.list (((chg ks).map (knotL ks)).map dT))))) (τ := tD K (.list ((knots ks).map dT))) (PY.eq (n_sortSN (by rfl) (by exact hr.units) ordN nkeN ((chg ks).map (knotL ks)) (fun x hx => ?_) few (by rfl) T.fSorted (by rfl) T.fSet (yv 5)).y rfl) (fun σ H ⟨g, sm, ee, vs, h1, h2⟩ => ?_) fun σ H v H' p s hv => ⟨p.2.1.trans s, hv⟩
      · obtain ⟨c, hc, rfl⟩ := List.mem_map.mp hx
        exact List.ne_nil_of_mem (self_knot c8 hc)
      · rw [len, List.take_length] at h2
        refine (g.up sm).put ee.2 (show Dp K H _ _ from .lst (SqL.of h1) ?_)
        rw [List.map_map]; exact h2
  · obtain ⟨v, hv, a, vs, e, h1, h2⟩ := g.at_ 2 _ rfl
    rw [iN_zs] at h2
    rw [dpAll_ints h2] at h1
    exact ⟨a, h1, g, sm, ⟨by rw [hv, e], e5⟩, h5⟩
end
end Lp
/-! LpL6 -/
namespace Lp
open PySem PySem.Spec PyProof.Rows L2
theorem hu65 {A : Around} {k : Nat} (hr : Room k A) : A.units + 65 < cLine := by have := hr.un; omega
section
variable {X : Cx} {Γ Γ' : Cxt} {τ : Ty} {a b : Expr} {pos : Pos} {ss : List Stmt}
theorem psy_ofN {o : Option Ty} (h : ∀ Hb, HT X ss (fun σ H => Env Γ σ Hb ∧ H = Hb) (fun σ' H' => Same Hb H' ∧ Env Γ' σ' H') (fun _ _ => False)) : PSY X ss Γ ⟨some Γ', o⟩ :=
  PSs.imp (pss_ex h) fun D σ H g => ⟨H, ⟨g.1, rfl⟩, fun σ' H' n => g.2.1 Γ' rfl σ' H' n.1 n.2, fun _ _ h => h.elim⟩
/-- t[-1] -/
theorem y_lastT {ds : List PyData} {d : PyData} (hne : ds ≠ []) (hd : ds[ds.length - 1]? = some d) (ha : PY X a Γ (tD X.K (.tuple ds))) (hb : PY X b Γ (tI (-1))) (hs : PlainIx b := by exact fun _ _ => rfl) : PY X (.Subscript a b pos) Γ (tD X.K d) :=
  PE.imp (pe_ix ix_tup ha hb hs) fun σ H Q ⟨g, q⟩ => ⟨g, fun x H1 s1 hx => ⟨g.up s1, fun y H2 s2 hy => by
    obtain ⟨p, xs, rfl, h1, h2⟩ := dp_tup (Dp.up s2 hx)
    obtain ⟨v, e1, e2⟩ := dpAll_get h2 hd
    have len := dpAll_len h2
    have pos := List.length_pos_iff.mpr hne
    refine ⟨p, xs, -1, v, rfl, hy, h1, ?_, q v H2 (s1.trans s2) e2⟩
    unfold atI ixN
    rw [if_neg (by decide), if_pos (by omega)]
    show xs[((-1 : Int) + (xs.length : Nat)).toNat]? = some v
    rw [show ((-1 : Int) + (xs.length : Nat)).toNat = ds.length - 1 by omega]
    exact e1⟩⟩
end
theorem eqvL_ints (xs ys : List Int) : PyData.eqv (.list (xs.map .int)) (.list (ys.map .int)) = decide (xs = ys) := by
  have := eqv_ints xs ys
  simp only [PyData.eqv] at this ⊢
  exact this
theorem shaped_dLi (l : List Int) : SeqAt.shaped (dLi l) = true := by
  show SeqAt.shaped (.list (l.map .int)) = true
  simp [SeqAt.shaped, PyData.canLay0, PyData.depth, canL_ints, PySem.W.depth_ints]
theorem canL_pairs : ∀ l : List (Nat × Nat), PyData.canLayAll0 (l.map dP) = true
  | [] => rfl
  | _ :: r => by simp [PyData.canLayAll0, PyData.canLay0, canL_pairs r]
theorem depth_pairs : ∀ l : List (Nat × Nat), PyData.depthAll (l.map dP) ≤ 1
  | [] => by simp [PyData.depthAll]
  | _ :: r => by
    have := depth_pairs r
    simp [PyData.depthAll, PyData.depth]
    omega
theorem shaped_pairs (l : List (Nat × Nat)) : SeqAt.shaped (.list (l.map dP)) = true := by
  have := depth_pairs l
  simp [SeqAt.shaped, PyData.canLay0, PyData.depth, canL_pairs]
  omega
theorem shaped_dP (p : Nat × Nat) : SeqAt.shaped (dP p) = true := shaped_dI [(p.1 : Int), (p.2 : Int)]
theorem eqv_dP (p q : Nat × Nat) : PyData.eqv (dP p) (dP q) = decide (p = q) := by
  have := eqv_ints [(p.1 : Int), (p.2 : Int)] [(q.1 : Int), (q.2 : Int)]
  refine this.trans (decide_eq_decide.mpr ?_)
  simp only [List.cons.injEq, and_true]
  exact ⟨fun h => Prod.ext (Int.ofNat_inj.mp h.1) (Int.ofNat_inj.mp h.2), fun h => by rw [h]; exact ⟨rfl, rfl⟩⟩
theorem any_pairs (l : List (Nat × Nat)) (p : Nat × Nat) : ((l.map dP).any fun z => PyData.eqv z (dP p)) = decide (p ∈ l) := by
  rw [List.any_map]
  by_cases h : p ∈ l
  · rw [decide_eq_true h]
    exact List.any_eq_true.mpr ⟨p, h, by show PyData.eqv (dP p) (dP p) = true; rw [eqv_dP, decide_eq_true rfl]⟩
  · rw [decide_eq_false h]
    refine List.any_eq_false.mpr fun q hq => ?_
    show ¬ PyData.eqv (dP q) (dP p) = true
    rw [eqv_dP, decide_eq_false fun (e : q = p) => h (e ▸ hq)]
    decide
/-! ### how many rows -/
def bnd : Nat → Nat
  | 0 => 8
  | t + 1 => bnd t * (7 - t)
theorem bnd_le : ∀ t, t ≤ 7 → bnd t ≤ 40320 := by decide
section
variable {ks : List Kd} {kn : List Nat}
theorem grow_len (nd : kn.Nodup) (l8 : kn.length ≤ 8) {t : Nat} {r : List Nat} (h : r ∈ rowsAt (pairsIn (tie ks) kn) kn t) : (grow (pairsIn (tie ks) kn) kn r).length ≤ 7 - t := by
  have ok := rows_ok t r h
  unfold grow
  rw [List.length_map]
  have h1 : (kn.filter fun c => !decide (c ∈ r) && decide (nearOf (pairsIn (tie ks) kn) r c = [r.getLastD 0])).length ≤ (kn.filter fun c => !decide (c ∈ r)).length := by
    have := (List.Sublist.refl kn)
    rw [show (kn.filter fun c => !decide (c ∈ r) && decide (nearOf (pairsIn (tie ks) kn) r c = [r.getLastD 0])) = (kn.filter fun c => !decide (c ∈ r)).filter fun c => decide (nearOf (pairsIn (tie ks) kn) r c = [r.getLastD 0]) by rw [List.filter_filter]; congr 1; funext c; exact Bool.and_comm _ _]
    exact List.length_filter_le _ _
  have h2 := Lq.few_of (l := r ++ kn.filter fun c => !decide (c ∈ r)) (D := kn) (List.nodup_append.mpr ⟨ok.path.nd, nd.filter _, fun x hx y hy e => by
    have := (List.mem_filter.mp hy).2
    simp at this
    exact this (e ▸ hx)⟩) fun x hx => by
      rcases List.mem_append.mp hx with q | q
      · exact ok.sub x q
      · exact (List.mem_filter.mp q).1
  rw [List.length_append, ok.len] at h2
  omega
theorem flat_le {α β : Type} {f : α → List β} {m : Nat} : ∀ {l : List α}, (∀ x, x ∈ l → (f x).length ≤ m) → (l.flatMap f).length ≤ l.length * m
  | [], _ => by simp
  | x :: l, h => by
    have h1 := flat_le (f := f) (l := l) fun y hy => h y (List.mem_cons_of_mem _ hy)
    have h2 := h x List.mem_cons_self
    rw [List.flatMap_cons, List.length_append, List.length_cons, Nat.succ_mul]
    omega
theorem rows_len (nd : kn.Nodup) (l8 : kn.length ≤ 8) : ∀ t, (rowsAt (pairsIn (tie ks) kn) kn t).length ≤ bnd t
  | 0 => by show (kn.map fun c => [c]).length ≤ 8; rw [List.length_map]; exact l8
  | t + 1 => Nat.le_trans (flat_le fun r hr => grow_len nd l8 hr) (Nat.mul_le_mul_right _ (rows_len nd l8 t))
theorem flat_take {α β : Type} {f : α → List β} {l : List α} (i : Nat) : ((l.take i).flatMap f).length ≤ (l.flatMap f).length := by
  have e : l.flatMap f = (l.take i).flatMap f ++ (l.drop i).flatMap f := by rw [← List.flatMap_append, List.take_append_drop]
  rw [e, List.length_append]; omega
section
variable {P : Program} {w : World} {K : PySem.W.Frag} {mg : Str → Option Value} {base : Heap}
theorem fz_lots (l : List (List Nat)) : fzA (l.map dT) = true := fzA_all fun d hd => by
  obtain ⟨p, _, rfl⟩ := List.mem_map.mp hd
  exact ordN.fr p
theorem c_law_rows (T : Tp K mg) : Callee P w K mg base "_law_rows" 1 ["_law_web", "_law_knot"] (SpY (fun z : List Kd × List Nat => [tD K (.list ((tie z.1).map dP)), tD K (dT z.2)]) (fun z => C8 z.1 ∧ z.2.Nodup ∧ z.2.length ≤ 8 ∧ z.2 ≠ []) fun z => tD K (.list (((rowsAt (pairsIn (tie z.1) z.2) z.2 (z.2.length - 1)).mergeSort leN).map dT))) := by
  obtain ⟨fd, F, b⟩ := T.defLawRows
  refine ⟨_, fd, fnY F scLawRows (fun _ => rfl) (fun _ => none) (fun _ _ h => by cases h) fun ⟨ks, kn⟩ ⟨c8, ndk, l8, ne⟩ cdv A outer s H E hr => ?_, T.gLawRows, F.kp, b⟩
  have c8 : C8 ks := c8
  have ndk : kn.Nodup := ndk
  have l8 : kn.length ≤ 8 := l8
  have ne : kn ≠ [] := ne
  have tl := c8.tieL
  have pos := List.length_pos_iff.mpr ne
  have nd := scLawRows.nd
  let web := tie ks
  let pairs := pairsIn web kn
  have pl : pairs.length ≤ 56 := Nat.le_trans (List.length_filter_le _ _) tl
  have rl : ∀ t, t ≤ 7 → (rowsAt pairs kn t).length ≤ 40320 := fun t ht => Nat.le_trans (rows_len ndk l8 t) (bnd_le t ht)
  refine s_asg (i := 2) (y_lc1 3 web (fun p => tD K (dP p)) (fun p => decide (p.1 ∈ kn) && decide (p.2 ∈ kn)) dP (Nat.le_trans tl (by decide)) (fun p _ => ordP.fr p) (by rfl) nd (i_listM (yv 0)) (blkOk_by (N := ["_law_web", "_law_knot", "_law_pairs", "_law_pair", "_law_found", "_law_cell", "_law_turn", "_law_later", "_law_row", "_law_near", "_law_one"]) (sc := defScope sLawRows) (by decide +kernel)) (by rfl) (by rfl)
    (fun p hp _ _ _ _ _ => ts_one (t_w (w_and (k := decide (p.1 ∈ kn)) (PYT.eq ((c_inT (is := zs kn) (PY.int (y_ixT (ds := [iN p.1, iN p.2]) (j := 0) rfl (yv 3) y_int)) (yv 1)).tst _) (decide_eq_decide.mpr mem_zs)) fun _ => w_and1 (PYT.eq ((c_inT (is := zs kn) (PY.int (y_ixT (ds := [iN p.1, iN p.2]) (j := 1) rfl (yv 3) y_int)) (yv 1)).tst _) (decide_eq_decide.mpr mem_zs))))) (fun p hp _ _ _ _ _ _ => yv 3)) ?_ nd (hx := Or.inr rfl)
  let Γs : Nat → Cxt := fun t => [some (tD K (.list (web.map dP))), some (tD K (dT kn)), some (tD K (.list (pairs.map dP))), none, some (tL2 K ((rowsAt pairs kn t).map dT)), none, none, none, none, none, none]
  refine s_by (vs := [4]) (τ := tL2 K ((rowsAt pairs kn 0).map dT)) (ps_lc1 (Γ := (Γs 0).set 4 none) 5 4 kn (fun c => tD K (iN c)) (fun _ => true) (fun c => dT [c]) (by omega) (fun c _ => ordN.fr [c]) (by rfl) nd (by rfl) (by rfl) (sw_true (by rfl) (by rfl) (by rfl) (by decide +kernel)) (i_lot (yv 1)) (blkOk_by (N := ["_law_web", "_law_knot", "_law_pairs", "_law_pair", "_law_found", "_law_cell", "_law_turn", "_law_later", "_law_row", "_law_near", "_law_one"]) (sc := defScope sLawRows) (by decide +kernel)) (by rfl) (by rfl) (fun _ _ _ _ _ _ _ => ts_no)
    (fun c hc _ _ _ _ _ _ => y_tup (ds := [iN c]) (ya_cons (yv 5) ya_nil) (by show 1 ≤ 100000; decide))) (fun σ H Q ⟨g, k⟩ => ⟨g, fun p vs H' _ s hp hd => k _ H' s ⟨p, vs, rfl, hp, by rw [filter_all] at hd; show DpAll K H' vs ((kn.map fun c => [c]).map dT); rw [List.map_map]; exact hd⟩⟩) (tg_name List.mem_cons_self) ?_
  refine s_for (vs := [6]) Γs (fun t => (Γs t).set 6 (some (tI (t : Nat)))) (fun _ _ g => g) (by rfl) (i_rng1 (n := kn.length - 1) (by rfl) T.fRange (PY.eq (y_sub (y_lenT (ds := (zs kn).map .int) (by rfl) T.fLen (yv 1)) y_int) (congrArg tI (by rw [List.length_map, zs_len]; omega))) (by omega)) (pg_name (i := 6) nd rfl (.inl rfl)) (fun i τ hτ => ?_) (fun t ht => ?_) ?_
  · rw [List.getElem?_map] at hτ
    cases q : (List.range (kn.length - 1))[i]? with
    | none => rw [q] at hτ; cases hτ
    | some y =>
      rw [q] at hτ
      cases hτ
      obtain ⟨hl, hy⟩ := List.getElem?_eq_some_iff.mp q
      rw [List.getElem_range] at hy
      subst hy
      exact tg_name List.mem_cons_self
  · have t7 : t + 1 ≤ 7 := by
      rw [List.length_map, List.length_range] at ht
      omega
    let R := rowsAt pairs kn t
    have rl1 := rl (t + 1) t7
    have rlt := rl t (by omega)
    let Γt : Cxt := (Γs t).set 6 (some (tI (t : Nat)))
    refine psy_ofN (Γ := Γt) (Γ' := Γs (t + 1)) fun Hb => ?_
    refine h_new (i := 7) (Γ := Γt) (n_lst (ds := []) ya_nil (by decide)) (fun σ H ⟨g, e⟩ => by rw [e]; exact g) (M := fun σ H => ∃ l, Hb l = none ∧ Env Γt σ Hb ∧ Same Hb H ∧ σ[7]? = some (some (.ref l)) ∧ H l = some (.lst [])) (fun σ H l vs H' ⟨g, e⟩ f s h1 hv => ⟨l, by rw [← e]; exact f, g.keep rfl, by rw [← e]; exact s, List.getElem?_set_self (by rw [g.len]; show 7 < 11; decide), by cases hv; exact h1⟩) (h_ex fun l => h_and fun hl => ?_) nd
    refine h_pre (P' := fun σ H => ∃ a, ∃ xs, (Hb a = some (.lst xs) ∧ DpAll K Hb xs (R.map dT)) ∧ (Env Γt σ Hb ∧ Same Hb H ∧ (σ[4]? = some (some (.ref a)) ∧ σ[7]? = some (some (.ref l))) ∧ H l = some (.lst []))) (h_ex fun a => h_ex fun xs => h_and fun ⟨hHa, hxs⟩ => ?_) fun σ H ⟨g, sm, e7, h7⟩ => by
      obtain ⟨v, hv, a, vs, e, h1, h2⟩ := g.at_ 4 _ rfl
      exact ⟨a, vs, ⟨h1, h2⟩, g, sm, ⟨by rw [hv, e], e7⟩, h7⟩
    have xl : xs.length = R.length := by rw [dpAll_len hxs, List.length_map]
    let St : List (List Nat) → SP2 := fun acc σ H => Env Γt σ Hb ∧ Same Hb H ∧ (σ[4]? = some (some (.ref a)) ∧ σ[7]? = some (some (.ref l))) ∧ ∃ vs, H l = some (.lst vs) ∧ DpAll K H vs (acc.map dT)
    have upS : ∀ {acc σ H H'}, St acc σ H → Same H H' → St acc σ H' := fun ⟨g, sm, ee, vs, h1, h2⟩ s => ⟨g, sm.trans s, ee, vs, s _ _ h1, DpAll.up s h2⟩
    have setS : ∀ {acc σ H j x}, Γt[j]? = some none → j ≠ 4 → j ≠ 7 → St acc σ H → St acc (σ.set j x) H := fun hj h4 h7 ⟨g, sm, ee, r⟩ => ⟨g.keep hj, sm, ⟨by rw [List.getElem?_set_ne h4]; exact ee.1, by rw [List.getElem?_set_ne h7]; exact ee.2⟩, r⟩
    have lenS : ∀ {acc σ H}, St acc σ H → σ.length = 11 := fun p => p.1.len
    let accI : Nat → List (List Nat) := fun i => (R.take i).flatMap (grow pairs kn)
    refine h_forL (te := tVar 4) (a := a) (xs := xs) (fun i => St (accI i)) (fun i σ H => ∃ row, R[i]? = some row ∧ St (accI i) σ H ∧ ∃ v, σ[8]? = some (some v) ∧ Dp K Hb v (dT row)) (by rfl) (t_var (i := 4)) (pg_name (i := 8) nd rfl (Or.inl rfl)) (fun σ H Q p k => ⟨_, p.2.2.1.1, k⟩) (fun σ H ⟨g, sm, ee, h5⟩ => ⟨g, sm, ee, [], h5, .nil⟩) (fun i σ H p => SqL.of (p.2.1 _ _ hHa)) (fun i σ H x hx p => ?_) (fun i lt => h_ex fun row => h_and fun hrow => ?_) ?_ (mono := mono_name)
    · obtain ⟨d, d1, d2⟩ := dpAll_at hxs hx
      rw [List.getElem?_map] at d1
      cases q : R[i]? with
      | none => rw [q] at d1; cases d1
      | some row =>
        rw [q] at d1
        cases d1
        exact ⟨row, rfl, setS rfl (by decide) (by decide) p, x, List.getElem?_set_self (by rw [lenS p]; decide), d2⟩
    · have hrm : row ∈ R := List.mem_of_getElem? hrow
      have ok := rows_ok t row hrm
      have rowne : row ≠ [] := fun e => by have := ok.len; rw [e] at this; simp at this
      have r8 : row.length ≤ 8 := by rw [ok.len]; omega
      let cond : Nat → Bool := fun c => !decide (c ∈ row) && decide (nearOf pairs row c = [row.getLastD 0])
      have tk1 : R.take (i + 1) = R.take i ++ [row] := by rw [List.take_succ, hrow]; rfl
      have acc1 : accI (i + 1) = accI i ++ grow pairs kn row := by
        show (R.take (i + 1)).flatMap _ = _
        rw [tk1, List.flatMap_append]; simp [accI]
      have accl : (accI (i + 1)).length ≤ 40320 := Nat.le_trans (flat_take (f := grow pairs kn) (l := R) (i + 1)) rl1
      let part : Nat → List (List Nat) := fun j => accI i ++ ((kn.take j).filter cond).map fun c => row ++ [c]
      have partl : ∀ j, (part j).length ≤ 40320 := fun j => by
        rw [acc1] at accl
        have h1 : ((kn.take j).filter cond).length ≤ (kn.filter cond).length := ((List.take_sublist j kn).filter cond).length_le
        have h2 : (grow pairs kn row).length = (kn.filter cond).length := by show (List.map _ (kn.filter cond)).length = _; rw [List.length_map]
        show (accI i ++ _).length ≤ _
        rw [List.length_append] at accl ⊢
        rw [List.length_map]; omega
      let Γ1 : Cxt := Γt.set 8 (some (tD K (dT row)))
      let I2 : Zs → Nat → SP2 := fun z j σ H => z.2 = (zs kn).map V.int ∧ SqT K H z.1 z.2 ∧ St (part j) σ H ∧ ∃ v, σ[8]? = some (some v) ∧ Dp K Hb v (dT row)
      let B2 : Zs → Nat → SP2 := fun z j σ H => ∃ c, kn[j]? = some c ∧ I2 z j σ H ∧ σ[5]? = some (some (.int (c : Nat)))
      have env1 : ∀ {acc σ H}, St acc σ H → (∃ v, σ[8]? = some (some v) ∧ Dp K Hb v (dT row)) → Env Γ1 σ H := fun p ⟨v, e8, hv⟩ => (p.1.up p.2.1).put e8 (Dp.up p.2.1 hv)
      refine h_for (Γ := Γ1) I2 B2 (by rfl) (g_tup (ts := (zs kn).map fun i => tD K (.int i)) (PY.to (yv 1) fun v H hv => by have := tup_of v H hv; rwa [map_ty] at this)) (pg_name (i := 5) nd rfl (Or.inr rfl)) (fun σ H p => env1 p.1 p.2) (fun z σ H H' p s ⟨z1, z2⟩ => ⟨?_, z1, ?_, p.2⟩) (fun z j σ H _ p => p.2.1) (fun z j σ H H2 v lt p s hv => ?_) (fun z j lt => ?_) (h_end fun σ H ⟨z, p⟩ => ?_) (mono := mono_name)
      · have := AllY.data (ds := (zs kn).map .int) (by rw [map_ty]; exact z2)
        exact dpAll_ints this
      · have : part 0 = accI i := by show accI i ++ [] = _; rw [List.append_nil]
        rw [this]; exact upS p.1 s
      · obtain ⟨c, hc⟩ : ∃ c, kn[j]? = some c := ⟨_, List.getElem?_eq_getElem (by simpa [zs] using lt)⟩
        have ev : v = .int (c : Nat) := by
          have hv' : z.2[j]? = some v := hv
          rw [p.1, List.getElem?_map, zs_get hc] at hv'
          exact (Option.some.inj hv').symm
        subst ev
        obtain ⟨u, e8, hu8⟩ := p.2.2.2
        exact ⟨c, hc, ⟨p.1, Same.seqT s p.2.1, setS rfl (by decide) (by decide) (upS p.2.2.1 s), u, by rw [List.getElem?_set_ne (by decide)]; exact e8, hu8⟩, List.getElem?_set_self (by rw [lenS p.2.2.1]; decide)⟩
      · refine h_ex fun c => h_and fun hc => ?_
        have hcm : c ∈ kn := List.mem_of_getElem? hc
        let nr := nearOf pairs row c
        have nrl : nr.length ≤ 8 := Nat.le_trans (List.length_filter_le _ _) r8
        let Γ2 : Cxt := Γ1.set 5 (some (tI (c : Nat)))
        have part1 : part (j + 1) = part j ++ (if cond c = true then [row ++ [c]] else []) := by
          show accI i ++ ((kn.take (j + 1)).filter cond).map (fun c => row ++ [c]) = _
          rw [filter_take hc]
          by_cases q : cond c = true
          · rw [if_pos q, if_pos q, List.append_assoc]
          · rw [if_neg q, if_neg q, List.append_nil]
        let M9 : SP2 := fun σ H => I2 z j σ H ∧ σ[5]? = some (some (.int (c : Nat))) ∧ ∃ v, σ[9]? = some (some v) ∧ Dp K H v (.list (nr.map iN))
        refine h_by (M := M9) (ps_lc1 (Γ := Γ2) 10 9 row (fun o => tD K (iN o)) (fun o => decide ((o, c) ∈ pairs) || decide ((c, o) ∈ pairs)) iN (by omega) (fun _ _ => rfl) (by rfl) nd (by rfl) (by rfl) (sw_true (by rfl) (by rfl) (by rfl) (by decide +kernel)) (i_lot (yv 8)) (blkOk_by (N := ["_law_web", "_law_knot", "_law_pairs", "_law_pair", "_law_found", "_law_cell", "_law_turn", "_law_later", "_law_row", "_law_near", "_law_one"]) (sc := defScope sLawRows) (by decide +kernel)) (by rfl) (by rfl)
          (fun o ho _ _ _ _ _ => ts_one (t_w (w_or (k := decide ((o, c) ∈ pairs)) (PYT.eq ((c_inD (d := dP (o, c)) (ds := pairs.map dP) (by exact hu65 hr) (shaped_dP _) (shaped_pairs _) (y_tup (ds := [iN o, iN c]) (ya_cons (yv 10) (ya_cons (PY.ofInt (yv 5)) ya_nil)) (by show 2 ≤ 100000; decide)) (yv 2)).tst _) (any_pairs _ _)) fun _ => w_or1 (PYT.eq ((c_inD (d := dP (c, o)) (ds := pairs.map dP) (by exact hu65 hr) (shaped_dP _) (shaped_pairs _) (y_tup (ds := [iN c, iN o]) (ya_cons (PY.ofInt (yv 5)) (ya_cons (yv 10) ya_nil)) (by show 2 ≤ 100000; decide)) (yv 2)).tst _) (any_pairs _ _))))) (fun o ho _ _ _ _ _ _ => yv 10))
          (fun Dd σ H ⟨p, e5⟩ m _ => ⟨(env1 p.2.2.1 p.2.2.2).put e5 rfl, fun q vs H' _ s hq hd => m _ _ ⟨⟨p.1, Same.seqT s p.2.1, setS rfl (by decide) (by decide) (upS p.2.2.1 s), ?_⟩, by rw [List.getElem?_set_ne (by decide)]; exact e5, _, List.getElem?_set_self (by rw [lenS p.2.2.1]; decide), .lst (SqL.of hq) hd⟩⟩) ?_
        · obtain ⟨u, e8, hu8⟩ := p.2.2.2
          exact ⟨u, by rw [List.getElem?_set_ne (by decide)]; exact e8, hu8⟩
        let Γ3 : Cxt := Γ2.set 9 (some (tD K (.list (nr.map iN))))
        have env3 : ∀ {σ H}, M9 σ H → Env Γ3 σ H := fun ⟨p, e5, v, e9, hv⟩ => ((env1 p.2.2.1 p.2.2.2).put e5 rfl).put e9 hv
        have hlast : ((zs row).map PyData.int)[((zs row).map PyData.int).length - 1]? = some (iN (row.getLastD 0)) := by
          rw [← iN_zs, List.length_map, List.getElem?_map, getD_last rowne, List.getD_eq_getElem?_getD]
          have : row.length - 1 < row.length := by have := ok.len; omega
          rw [List.getElem?_eq_getElem this]; rfl
        have rne : (zs row).map PyData.int ≠ [] := fun e => by
          have := congrArg List.length e
          rw [List.length_map, zs_len, ok.len] at this
          simp at this
        refine h_if (b := cond c) (Γ := Γ3) (t_w (w_and (k := !decide (c ∈ row)) (PYT.eq ((c_ninT (is := zs row) (yv 5) (yv 8)).tst _) (by rw [decide_eq_decide.mpr mem_zs])) fun _ => w_and1 (PYT.eq ((c_eqD (d := dLi (zs nr)) (e := dLi [((row.getLastD 0 : Nat) : Int)]) (by exact hr.units) (shaped_dLi _) (shaped_dLi _) (PY.eq (yv 9) (by rw [iN_zs]; rfl)) (n_lst (ds := [iN (row.getLastD 0)]) (ya_cons (y_lastT rne hlast (yv 8) (y_neg y_int)) ya_nil) (by show 1 ≤ 100000; decide)).y).tst _) ?_)))
          (fun σ H p => env3 p) (fun σ H H' ⟨p, e5, v, e9, hv⟩ s => ⟨⟨p.1, Same.seqT s p.2.1, upS p.2.2.1 s, p.2.2.2⟩, e5, v, e9, Dp.up s hv⟩) (M := I2 z (j + 1)) (fun hb => ?_) (fun hb σ H ⟨p, _⟩ => ⟨p.1, p.2.1, ?_, p.2.2.2⟩) (h_end fun σ H p => p)
        · rw [eqvL_ints]
          exact decide_eq_decide.mpr ⟨fun e => zs_inj e, fun e => by rw [show nr = [row.getLastD 0] from e]; rfl⟩
        · refine h_append (M := I2 z (j + 1)) (Γ := Γ3) (τ := tD K (dT (row ++ [c]))) (t_var (i := 7)) (PY.eq (y_catT (ds := (zs row).map .int) (es' := [iN c]) (by rw [List.length_map, zs_len]; show row.length + 1 ≤ _; omega) (yv 8) (y_tup (ds := [iN c]) (ya_cons (PY.ofInt (yv 5)) ya_nil) (by show 1 ≤ 100000; decide))) (congrArg (tD K) (by rw [dT_map]; unfold zs; rw [List.map_map, List.map_append]; rfl))) (fun σ H p => env3 p) (fun σ H ⟨p, e5, v9, e9, hv9⟩ => ?_) (h_end fun σ H p => p)
          obtain ⟨g, sm, ee, vs, h1, h2⟩ := p.2.2.1
          have pj := partl j
          refine ⟨l, vs, h1, by rw [dpAll_len h2, List.length_map]; omega, fun Q k => ⟨_, ee.2, k⟩, fun v H' s hv => ?_⟩
          have tk := tupK_lst (K := K) (o' := .lst (vs ++ [v])) (s _ _ h1)
          refine ⟨p.1, tk _ _ (Same.seqT s p.2.1), ⟨g, Same.mut (sm.trans s) hl, ee, _, upd_same, ?_⟩, p.2.2.2⟩
          rw [part1, if_pos hb, List.map_append]
          refine DpAll.fz tk (fzA_all fun d hd => ?_) (dpAll_app (DpAll.up s h2) (.cons hv .nil))
          rcases List.mem_append.mp hd with q | q
          · obtain ⟨x, _, rfl⟩ := List.mem_map.mp q
            exact ordN.fr _
          · rw [List.mem_singleton.mp q]; exact ordN.fr _
        · rw [part1, if_neg (by rw [hb]; decide), List.append_nil]; exact p.2.2.1
      · have : part ((zs kn).map fun i => tD K (.int i)).length = accI (i + 1) := by
          rw [acc1, List.length_map, zs_len]
          show accI i ++ ((kn.take kn.length).filter cond).map _ = _
          rw [List.take_length]; rfl
        rw [← this]
        exact p.2.2.1
    · -- found = later
      refine h_asg (i := 4) (Γ := Γt.set 7 (some (tL2 K ((rowsAt pairs kn (t + 1)).map dT)))) (yv 7) (fun σ H ⟨g, sm, ee, vs, h1, h2⟩ => (g.up sm).put ee.2 ⟨l, vs, rfl, h1, ?_⟩) (M := fun σ H => Same Hb H ∧ Env (Γs (t + 1)) σ H) (fun σ H v H' ⟨g, sm, ee, _⟩ s hv => ⟨sm.trans s, ?_⟩) (h_end fun σ H p => p) nd
      · have : accI xs.length = rowsAt pairs kn (t + 1) := by
          show (R.take xs.length).flatMap _ = _
          rw [xl, List.take_length]; rfl
        rw [← this]; exact h2
      · have := ((g.up (sm.trans s)).set (i := 4) hv).forget 6
        exact this
  · refine s_ret (PY.eq (n_sortL (by rfl) (hu16 hr) ordN (rowsAt pairs kn (kn.length - 1)) (fun r hrr => ?_) (by have := rl (kn.length - 1) (by omega); omega) (by rfl) T.fSorted (PY.to (PY.eq (yv 4) ?_) l2_d)).y rfl) rfl
    · have := (rows_ok _ r hrr).len
      intro e; rw [e] at this; simp at this
    · rw [List.length_map, List.length_range]; rfl
end
end
end Lp
/-! LpL7 -/
namespace Lp
open PySem PySem.Spec PyProof.Rows L2
section
variable {P : Program} {w : World} {K : PySem.W.Frag} {mg : Str → Option Value} {base : Heap}
theorem c_law_is_sound (T : Tp K mg) : Callee P w K mg base "_law_is_sound" 2 ["_law_kinds", "_law_knot"] (SpY (fun z : Nat × List Kd × List Nat => [tD K (dKs z.2.1), tD K (dT z.2.2)]) (fun z => TabR z.1 z.2.1 ∧ z.2.2.Nodup ∧ z.2.2.length ≤ 8 ∧ z.2.2 ≠ []) fun z => tBo (lawS z.2.1 z.2.2)) := by
  obtain ⟨fd, F, b⟩ := T.defLawIsSound
  refine ⟨_, fd, fnY F scLawIsSound (fun _ => rfl) (fun _ => none) (fun _ _ h => by cases h) fun ⟨n, ks, kn⟩ ⟨TR, ndk, l8, ne⟩ cdv A outer s H E hr => ?_, T.gLawIsSound, F.kp, b⟩
  have TR : TabR n ks := TR
  have ndk : kn.Nodup := ndk
  have l8 : kn.length ≤ 8 := l8
  have ne : kn ≠ [] := ne
  have k40 := TR.k40
  have nd := scLawIsSound.nd
  let rows := rowsAt (pairsIn (tie ks) kn) kn (kn.length - 1)
  have rl : (rows.mergeSort leN).length = rows.length := (List.mergeSort_perm _ _).length_eq
  refine s_ifR (k := decide (rows = [])) (PYT.eq ((c_eqI (y_lenL (ds := (rows.mergeSort leN).map dT) (by rfl) T.fLen (y_call (c_law_rows T) hr (by rfl) (ks, kn) ⟨TR.c8, ndk, l8, ne⟩ (ya_cons (y_call (c_law_ties T) hr (by rfl) (n, ks) TR (ya_cons (yv 0) ya_nil)) (ya_cons (yv 1) ya_nil)))) y_int).tst _) ?_) (fun h => s_ret (τ := tBo false) y_bl ?_) fun h => ?_
  · rw [List.length_map, rl]
    exact decide_eq_decide.mpr ⟨fun e => List.eq_nil_of_length_eq_zero (by omega), fun e => by rw [e]; rfl⟩
  · have e : lawS ks kn = false := by
      unfold lawS
      rw [show decide (rowsAt (pairsIn (tie ks) kn) kn (kn.length - 1) = []) = true from h]; rfl
    show some (tBo (lawS ks kn)) = _
    rw [e]
  · refine s_ret (y_not (y_any (bs := readsTwo ks kn) (by rfl) (by rfl) T.fAny (PY.eq (y_lc2 3 4 ks (fun k => tD K (iN k.1)) (fun k => tD K (dT k.2)) (fun _ => true) (fun k => .bool (decide (k.1 ∈ kn) && decide (1 < (k.2.filter fun r => decide (r ∈ kn)).length))) (by omega) (fun _ _ => rfl) (by rfl) nd (i_pairs (i_tupM (yv 0))) (blkOk_by (N := ["_law_kinds", "_law_knot", "_law_one", "_law_cell", "_law_reads"]) (sc := defScope sLawIsSound) (by decide +kernel)) (by rfl) (by rfl) (by rfl) (by rfl) (fun _ _ _ _ _ _ _ => ts_no) (fun k hk _ _ _ _ _ _ => PY.ofBool (y_and (k := decide (k.1 ∈ kn)) (PY.eq ((c_inT (is := zs kn) (PY.int (yv 3)) (yv 1)).val _) (congrArg tBo (decide_eq_decide.mpr mem_zs))) fun _ => y_one (PY.eq ((c_gt (y_lenL (ds := (k.2.filter fun r => decide (r ∈ kn)).map iN) (by rfl) T.fLen
      (y_lc1 2 k.2 (fun c => tD K (iN c)) (fun c => decide (c ∈ kn)) iN (by have := TR.few k hk; omega) (fun _ _ => rfl) (by rfl) nd (i_lot (yv 4)) (blkOk_by (by rfl)) (by rfl) (by rfl) (fun c hc _ _ _ _ _ => ts_one (PYT.eq ((c_inT (is := zs kn) (PY.int (yv 2)) (yv 1)).tst _) (decide_eq_decide.mpr mem_zs))) (fun c hc _ _ _ _ _ _ => yv 2))) y_int).val _) (congrArg tBo (by rw [List.length_map]; exact decide_eq_decide.mpr (by omega))))))) ?_))) ?_
    · rw [filter_all]
      unfold readsTwo
      rw [List.map_map]; rfl
    · show some (tBo (lawS ks kn)) = _
      unfold lawS
      rw [show decide (rowsAt (pairsIn (tie ks) kn) kn (kn.length - 1) = []) = false from h]; rfl
end
end Lp
/-! LpT -/
namespace Lp
open PySem PySem.Spec PyProof.Rows L2
section
variable {X : Cx} {Γ : Cxt} {a b : Expr}
theorem t_chain {c : Expr} {pos : Pos} {i j k : Int} (ha : PY X a Γ (tI i)) (hb : PY X b Γ (tI j)) (hc : PY X c Γ (tI k)) (hm : lastMarks [CmpOp.LtE, CmpOp.LtE] [b, c] = false := by rfl) : PYT X (.Compare a [.LtE, .LtE] [b, c] pos) Γ (decide (i ≤ j) && decide (j ≤ k)) :=
  PT.imp (pt_chain op_le op_le ha hb hc hm) fun σ H Q ⟨g, q⟩ => ⟨g, fun x H1 s1 hx => ⟨g.up s1, fun y H2 s2 hy => ⟨i, j, hx, hy, _, rfl, by
    by_cases l : i ≤ j
    · rw [if_pos (decide_eq_true l)]
      exact ⟨g.up (s1.trans s2), fun z H3 s3 hz => ⟨j, k, hy, hz, _, rfl, by
        have := q H3 ((s1.trans s2).trans s3)
        rwa [decide_eq_true l, Bool.true_and] at this⟩⟩
    · rw [if_neg (by simp [l])]
      refine ⟨_, rfl, ?_⟩
      have := q H2 (s1.trans s2)
      rwa [decide_eq_false l, Bool.false_and] at this⟩⟩⟩
def rLeK (K : PySem.W.Frag) : R2 := fun x y H Q => ∃ k k' : Kd, Dp K H x (dKd k) ∧ Dp K H y (dKd k') ∧ Q (.bl (leK k k')) H
theorem op_leK (hu : X.A.units + 64 < cLine) : OpR X (compareOp .LtE) (rLeK X.K) := by
  intro pins s σ H x y v u Q I rx ry h
  obtain ⟨k, k', h1, h2, q⟩ := h
  obtain ⟨as, ra⟩ := Dp.reads I _ _ _ h1 rx
  obtain ⟨bs, rb⟩ := Dp.reads I _ _ _ h2 ry
  refine PySem.W.le_data ra rb (ordK.alk k k') (fun e => by cases e) ?_ ⟨.bl _, H, I, rfl, ?_⟩
  · have := ordK.deep k
    have h3 : min (dKd k).depth (dKd k').depth ≤ (dKd k).depth := Nat.min_le_left _ _
    omega
  · have e : (!PySem.W.dataLt (dKd k') (dKd k)) = leK k k' := ordK.dle k k'
    rw [e]; exact q
theorem c_leK {k k' : Kd} (hu : X.A.units + 64 < cLine) (ha : PY X a Γ (tD X.K (dKd k))) (hb : PY X b Γ (tD X.K (dKd k'))) : CmpY X .LtE a b Γ (leK k k') :=
  c_by (op_leK hu) (nomark _) ha hb fun x y H Q hx hy q => ⟨k, k', hx, hy, q _ H (Same.refl H) rfl⟩
end
/-- strictly ascending kinds -/
def SrtK (ks : List Kd) : Prop := ks.Pairwise fun x y => leK y x = false
section
variable {P : Program} {w : World} {K : PySem.W.Frag} {mg : Str → Option Value} {base : Heap}
theorem c_table (T : Tp K mg) : CalleeI P w K mg base (He.ga K "Table") 5 ["self", "cells", "kinds"] (SpI (He.ga K "Table") (fun z : Nat × List Kd => [tI (z.1 : Int), tD K (dKs z.2)]) (fun z => TabR z.1 z.2 ∧ SrtK z.2) fun z => [("cells", tI (z.1 : Int)), ("kinds", tD K (dKs z.2))]) := by
  obtain ⟨fd, F, b⟩ := T.defTableInit
  obtain ⟨tkC, mC⟩ := T.iMOSTCELLS
  obtain ⟨tkK, mK⟩ := T.iMOSTKINDS
  refine ⟨_, fd, fnH F scTableInit (fun vs H Q E ⟨x, dx, z, rest, H0, e, _, _, _, _, _, h, _⟩ => by rw [e, List.length_cons, h.len]; rfl) fun vs H Q E hsp cdv A outer s hr => ?_, T.kTable, b⟩
  obtain ⟨x, dx, ⟨n, ks⟩, rest, H0, rfl, nx, ndx, nex, rfl, ⟨TR, srt⟩, hvs, q⟩ := hsp
  have TR : TabR n ks := TR
  have srt : SrtK ks := srt
  obtain ⟨vc, vk, rfl, hc, hk⟩ := all2 hvs
  have nd := scTableInit.nd
  let Γ0 : Cxt := [none, some (tI (n : Int)), some (tD K (dKs ks)), none, none]
  have sameB : Same H0 (upd (upd H0 dx (.own x)) x (.ins (He.ga K "Table") dx [])) := Same.mut (Same.new ndx) nx
  have env0 : Env Γ0 (L2.start ["self", "cells", "kinds", "at", "kind"] [.ref x, vc, vk]) H0 := by
    have e := env_start (N := ["self", "cells", "kinds", "at", "kind"]) (AllY.cons (τ := tV (.ref x)) rfl (AllY.cons hc (AllY.cons hk .nil)))
    exact e.forget 0
  let S : List (Str × V) → SP2 := fun fs σ H => Env Γ0 σ H0 ∧ Same H0 H ∧ (σ[0]? = some (some (.ref x)) ∧ σ[1]? = some (some vc) ∧ σ[2]? = some (some vk)) ∧ H x = some (.ins (He.ga K "Table") dx fs)
  have upS : ∀ fs σ H H', S fs σ H → Same H H' → S fs σ H' := fun fs σ H H' ⟨g, sm, e, hx⟩ s => ⟨g, sm.trans s, e, s _ _ hx⟩
  have envS : ∀ {fs σ H}, S fs σ H → Env Γ0 σ H := fun p => p.1.up p.2.1
  have n1 := TR.n1
  have n8 := TR.n8
  have k1 := TR.k1
  have k40 := TR.k40
  refine ⟨S [], ⟨env0, sameB, ⟨rfl, rfl, rfl⟩, upd_same⟩, ?_⟩
  refine h_ifR (b := false) (Γ := Γ0) (t_not (k := true) (y_t (y_within T (hr.mono (by decide)) (by rfl) (yv 1) y_int (y_glob (by rfl) mC ⟨_, rfl⟩) (by rw [decide_eq_true (by omega : (1 : Int) ≤ (n : Int)), decide_eq_true (by omega : (n : Int) ≤ 8)]; rfl)))) (fun σ H p => envS p) (upS []) (fun h => by cases h) fun _ => ?_
  refine h_ifR (b := false) (Γ := Γ0) (t_w (w_or (k := false) (l := false) (t_not (k := true) (y_t (y_isi (by rfl) T.fIsinstance (by rfl) T.fTuple (by decide +kernel) (r := true) (by decide +kernel) ty_tup (yv 2)))) fun _ => w_or1 (t_not (k := true) (PYT.eq (t_chain y_int (y_lenT (ds := ks.map dKd) (by rfl) T.fLen (yv 2)) (y_glob (by rfl) mK ⟨_, rfl⟩)) (by rw [List.length_map, decide_eq_true (by omega : (1 : Int) ≤ (ks.length : Int)), decide_eq_true (by omega : (ks.length : Int) ≤ 40)]; rfl))))) (fun σ H p => envS p) (upS []) (fun h => by cases h) fun _ => ?_
  let I : Zs → Nat → SP2 := fun z i σ H => SqT K H z.1 z.2 ∧ DpAll K H z.2 (ks.map dKd) ∧ S [] σ H
  let B : Zs → Nat → SP2 := fun z i σ H => ∃ k, ks[i]? = some k ∧ I z i σ H ∧ σ[3]? = some (some (.int (i : Nat))) ∧ ∃ v, σ[4]? = some (some v) ∧ Dp K H v (dKd k)
  refine h_for (Γ := Γ0) I B (by rfl) (g_enumT (ts := ks.map fun k => tD K (dKd k)) (by rfl) T.fEnumerate (PY.to (yv 2) tup_ofM)) (pg_tup (by rfl) (pgs_cons (pg_name (i := 3) nd rfl (Or.inl rfl)) (pgs_cons (pg_name (i := 4) nd rfl (Or.inl rfl)) pgs_nil)))
    (fun σ H p => envS p) (fun z σ H H' p s ⟨z1, z2⟩ => ⟨z1, AllY.data (by rw [map_ty]; exact z2), upS _ _ _ _ p s⟩) (fun z i σ H _ p => p.1) (fun z i σ H H2 v lt p s ⟨T', y, e, hT, hy⟩ => ?_) (fun z i lt => ?_) ?_ (mono := mono_pair)
  · subst e
    have lt' : i < ks.length := by simpa using lt
    obtain ⟨d, d1, d2⟩ := dpAll_at p.2.1 hy
    rw [List.getElem?_map, List.getElem?_eq_getElem lt'] at d1
    cases d1
    obtain ⟨g, sm, ⟨e0, e1, e2⟩, hx⟩ := upS _ _ _ _ p.2.2 s
    have l5 := g.len
    exact gp_pair hT ⟨_, List.getElem?_eq_getElem lt', ⟨Same.seqT s p.1, DpAll.up s p.2.1, (g.keep (i := 3) rfl).keep (i := 4) rfl, sm, ⟨by rw [List.getElem?_set_ne (by decide), List.getElem?_set_ne (by decide)]; exact e0, by rw [List.getElem?_set_ne (by decide), List.getElem?_set_ne (by decide)]; exact e1, by rw [List.getElem?_set_ne (by decide), List.getElem?_set_ne (by decide)]; exact e2⟩, hx⟩, by rw [List.getElem?_set_ne (by decide)]; exact List.getElem?_set_self (by rw [l5]; show 3 < 5; decide), _, List.getElem?_set_self (by rw [List.length_set, l5]; show 4 < 5; decide), Dp.up s d2⟩
  · refine h_ex fun k => h_and fun hki => ?_
    have km : k ∈ ks := List.mem_of_getElem? hki
    have lt' : i < ks.length := (List.getElem?_eq_some_iff.mp hki).1
    let Γ1 : Cxt := (Γ0.set 3 (some (tI (i : Nat)))).set 4 (some (tD K (dKd k)))
    let k' : Kd := ks.getD (i - 1) (0, [])
    refine h_ifR (b := false) (Γ := Γ1) (t_w (w_or (k := false) (l := false) (t_not (k := true) (y_t (y_call (c_is_kind T) hr (by rfl) (n, k) ⟨TR.cell k km, TR.read k km, TR.asc k km, TR.few k km⟩ (ya_cons (yv 1) (ya_cons (yv 4) ya_nil))))) fun _ => w_or1 (PYT.eq (t_w (w_and (k := decide (0 < i)) (l := leK k k') (PYT.eq ((c_gt (yv 3) y_int).tst _) (decide_eq_decide.mpr (by omega))) fun h0 => w_and1 ((c_leK (by exact hr.units) (yv 4) (y_ixT (ds := ks.map dKd) (j := i - 1) ?_ (yv 2) (PY.eq (y_sub (yv 3) y_int) (congrArg tI ?_)))).tst _))) ?_))) (fun σ H ⟨p, e3, v, e4, hv⟩ => ((envS p.2.2).put e3 rfl).put e4 hv) (fun σ H H' ⟨p, e3, v, e4, hv⟩ s => ⟨⟨Same.seqT s p.1, DpAll.up s p.2.1, upS _ _ _ _ p.2.2 s⟩, e3, v, e4, Dp.up s hv⟩) (fun h => by cases h) fun _ => h_end fun σ H p => p.1
    · have h1 : i - 1 < ks.length := by omega
      show (ks.map dKd)[i - 1]? = some (dKd (ks.getD (i - 1) (0, [])))
      rw [List.getElem?_map, List.getElem?_eq_getElem h1, List.getD_eq_getElem?_getD, List.getElem?_eq_getElem h1]; rfl
    · have := of_decide_eq_true h0
      omega
    · by_cases h0 : 0 < i
      · have h1 : i - 1 < ks.length := by omega
        have ek : k = ks[i] := by rw [List.getElem?_eq_getElem lt'] at hki; exact (Option.some.inj hki).symm
        have ek' : k' = ks[i - 1] := by show ks.getD (i - 1) (0, []) = _; rw [List.getD_eq_getElem?_getD, List.getElem?_eq_getElem h1]; rfl
        have := List.pairwise_iff_getElem.mp srt (i - 1) i h1 lt' (by omega)
        rw [ek, ek', this]; simp
      · rw [decide_eq_false h0]; rfl
  · refine h_ex fun z => ?_
    refine h_by (M := S [("cells", vc)]) (ps_fld (t_var (i := 0)) (t_var (i := 1)) (by rfl)) (fun D σ H ⟨_, _, g, sm, ⟨e0, e1, e2⟩, hx⟩ m _ => ⟨vc, e1, _, e0, x, _, dx, [], rfl, hx, T.cTable, T.nTableCells, by decide, m _ _ ⟨g, Same.mut sm nx, ⟨e0, e1, e2⟩, upd_same⟩⟩) ?_
    refine h_one (ps_fld (t_var (i := 0)) (t_var (i := 2)) (by rfl)) fun D σ H ⟨g, sm, ⟨e0, e1, e2⟩, hx⟩ m _ => ⟨vk, e2, _, e0, x, _, dx, [("cells", vc)], rfl, hx, T.cTable, T.nTableKinds, by show 1 < 1000; decide, m _ _ (q _ _ (Same.mut sm nx) upd_same ?_)⟩
    have s2 : Same H0 (upd H x (.ins (He.ga K "Table") dx (putF "kinds" vk [("cells", vc)]))) := Same.mut sm nx
    exact .cons ((tI (n : Int)).up s2 hc) (.cons ((tD K (dKs ks)).up s2 hk) .nil)
end
end Lp
/-! LpU -/
namespace Lp
open PySem PySem.Spec PyProof.Rows L2
def mergeT (kvs more : List (List L2.Key × V)) : List (List L2.Key × V) := more.foldl (fun acc kv => putK acc kv.1 kv.2) kvs
def rUpdT : V → List V → Hp → VK → Prop := fun x vs H Q => ∃ d o kvs more, x = .ref d ∧ vs = [.ref o] ∧ d ≠ o ∧ H d = some (.dT kvs) ∧ H o = some (.dT more) ∧ kvs ≠ [] ∧ kvs.length + more.length ≤ 100000 ∧ Q .non (upd H d (.dT (mergeT kvs more)))
theorem kt_merge {H : Hp} : ∀ {more : List (List L2.Key × V)} {ys : List (List L2.Key × Addr × Value)} {kvs : List (List L2.Key × V)} {xs : List (List L2.Key × Addr × Value)}, KT H more ys → KT H kvs xs → KT H (mergeT kvs more) (storedAllH xs ys)
  | _, _, _, _, .nil, r => r
  | p :: more, y :: ys, kvs, xs, .cons h t, r => by
    have h1 := KT.put r p.1 h.2.1 h.2.2
    have h2 := kt_merge t h1
    rw [h.1] at h2
    show KT H (mergeT (putK kvs p.1 p.2) more) (storedAllH (storedH xs y.1 y.2.1 y.2.2) ys)
    rw [h.1]
    exact h2
theorem len_merge : ∀ (more kvs : List (List L2.Key × V)), (mergeT kvs more).length ≤ kvs.length + more.length
  | [], kvs => Nat.le_refl _
  | p :: more, kvs => by
    have h1 := len_merge more (putK kvs p.1 p.2)
    have h2 := length_putK kvs p.1 p.2
    show (mergeT (putK kvs p.1 p.2) more).length ≤ _
    rw [List.length_cons]; omega
section
variable {X : Cx}
theorem mt_updT (hu : X.A.units + 2 < cLine) : MtM X "dict.update" rUpdT := by
  intro pins s σ H x vs v us Q I rx rv h
  obtain ⟨d, o, kvs, more, rfl, rfl, hdo, hd, ho, hne, hz, q⟩ := h
  cases rx
  obtain ⟨u, rfl, ru⟩ := rv.one
  cases ru
  obtain ⟨z1, lo1, xs, r1, dd1⟩ := dt_of I.hok hd
  obtain ⟨z2, lo2, ys, r2, dd2⟩ := dt_of I.hok ho
  have l1 : kvs.length = xs.length := Paired.length r1
  have l2 : more.length = ys.length := Paired.length r2
  have xne : xs ≠ [] := fun e => by
    rw [e] at l1
    exact hne (List.eq_nil_of_length_eq_zero l1)
  refine call_update_dictH (knd := tupleKind (mixKind X.prog X.w)) (show X.A.in1.units < cLine from Nat.lt_of_succ_lt hu) hdo lo2 dd1 dd2 (.inl xne) (by rw [← l1, ← l2]; exact sz_ok hz) fun h' d1 d2 sb => ?_
  obtain ⟨ob, es, ep, hq, h2, h3, h4, _, h5⟩ := d1
  refine ⟨.non, _, d_write (t' := s.toks) I (by rw [hd]; exact True.intro) sb ⟨ob, hq⟩ (ob := .dT (mergeT kvs more)) ⟨Nat.le_trans (len_merge more kvs) (sz_ok hz), lo1, storedAllH xs ys, (kt_merge r2 r1).keeps fun c zs ec => ?_, ob, es, ep, hq, h2, h3, h4, h5⟩, rfl, q⟩
  rw [upd_ne (ne_of ec hd (fun z => nomatch z))]
  exact ec
end
theorem merge_dkg : ∀ (ls ks : List (List Int)) (ρ ρ' : List Int → V), ∃ ρ'', mergeT (dkg kkT.f ks ρ) (dkg kkT.f ls ρ') = dkg kkT.f (adds ks ls) ρ'' ∧ ∀ k, ρ'' k = ρ k ∨ (k ∈ ls ∧ ρ'' k = ρ' k)
  | [], ks, ρ, ρ' => ⟨ρ, rfl, fun k => .inl rfl⟩
  | l :: ls, ks, ρ, ρ' => by
    obtain ⟨ρ'', e1, e2⟩ := merge_dkg ls (addk ks l) (fun j => if j = l then ρ' l else ρ j) ρ'
    refine ⟨ρ'', ?_, fun k => ?_⟩
    · show mergeT (putK (dkg kkT.f ks ρ) (kkT.f l) (ρ' l)) (dkg kkT.f ls ρ') = dkg kkT.f (adds (addk ks l) ls) ρ''
      rw [putK_dkg kkT.inj]
      exact e1
    · rcases e2 k with h | ⟨h1, h2⟩
      · by_cases e : k = l
        · subst e
          rw [if_pos rfl] at h
          exact .inr ⟨List.mem_cons_self, h⟩
        · rw [if_neg e] at h
          exact .inl h
      · exact .inr ⟨List.mem_cons_of_mem _ h1, h2⟩
end Lp
/-! LpSortK -/
/-! sorted of a dict with tuple keys: the keys' own tuples stay tracked. -/
namespace Lq
open PySem PySem.Spec PyProof.Rows L2
open PySem.W (dataLe dataLt AllAlike Sortable EachIs)
def TrK (H : Hp) (z : Z) : Prop := ∃ (b : Addr) (k : List Key), z = (V.ref b, PyData.tuple (k.map keyD)) ∧ H b = some (.tup (k.map kV))
theorem kt_zsK {K : PySem.W.Frag} {H : Hp} : ∀ {kvs : List (List Key × V)} {xs : List (List Key × Addr × Value)}, KT H kvs xs → ∃ L : List Z, L.map (·.1) = xs.map (fun x => V.ref x.2.1) ∧ L.map (·.2) = kvs.map (fun p => PyData.tuple (p.1.map keyD)) ∧ (∀ z ∈ L, Dp K H z.1 z.2) ∧ ∀ z ∈ L, TrK H z
  | _, _, .nil => ⟨[], rfl, rfl, (fun _ h => nomatch h), fun _ h => nomatch h⟩
  | p :: kvs, x :: xs, .cons h t => by
    obtain ⟨L, e1, e2, e3, e4⟩ := kt_zsK (K := K) t
    refine ⟨(V.ref x.2.1, .tuple (p.1.map keyD)) :: L, by rw [List.map_cons, e1, List.map_cons], by rw [List.map_cons, e2, List.map_cons], fun z hz => ?_, fun z hz => ?_⟩
    · rcases List.mem_cons.mp hz with rfl | hz
      · exact .tup (SqT.of h.2.1) (key_dp p.1)
      · exact e3 z hz
    · rcases List.mem_cons.mp hz with rfl | hz
      · exact ⟨x.2.1, p.1, rfl, h.2.1⟩
      · exact e4 z hz
section
variable {X : Cx}
theorem coll_dictK {pins : List (Addr × Obj)} {σ : L2.St} {H : Hp} {s : Shared} {a : Addr} {kvs : List (List Key × V)} {Q : List Value → Shared → Prop} {E : Value → Shared → Prop} (A : Around) (hh : A.handled = none) (I : Inv X pins σ H s) (hd : Rd H a (.dT kvs))
    (q : ∀ (s' : Shared) (us : List Value) (L : List Z), (∀ b o, s.heap.get? b = some o → s'.heap.get? b = some o) → s'.gens = s.gens → s'.os = s.os → Vals (L.map (·.1)) us → (L.map (·.2)).Perm (kvs.map fun p => .tuple (p.1.map keyD)) → (∀ z ∈ L, Dp X.K H z.1 z.2) → (∀ z ∈ L, TrK H z) → Q us s') :
    wpAny (model X.prog X.w) A (collect (.ref a)) Q E s := by
  obtain ⟨z, hs, ks, pr, o, es, ep, ho, hx, hdt, he, hnd⟩ := (show ObjOk X.prog X.w H s.heap a (.dT kvs) from hd.ok I.hok)
  have l1 : es.size = ks.length := size_of_entries he
  have l2 : kvs.length = ks.length := Paired.length pr
  refine PySem.W.kdu_collect (kdl_raw hs hx hdt) hh ho (by omega) fun h' tk acc kp it => ?_
  have ea : acc.toList = ks.map fun x => Value.ref x.2.1 := by
    have hl : acc.toList.length = ks.length := by rw [Array.length_toList, it.1]; exact l1
    apply List.ext_getElem?
    intro j
    rw [List.getElem?_map]
    cases hj : acc.toList[j]? with
    | none =>
      have h1 := List.getElem?_eq_none_iff.mp hj
      rw [List.getElem?_eq_none (by omega)]
      all_goals rfl
    | some v =>
      obtain ⟨en, hen, hv⟩ := it.2 j v (by rw [← Array.getElem?_toList]; exact hj)
      have qe := entry_at he j
      rw [hen] at qe
      cases hb : ks[j]? with
      | none =>
        rw [hb] at qe
        exact nomatch (show some en = none from qe)
      | some b =>
        rw [hb] at qe
        have e2 : en = entryOfKey (tupleKind (mixKind X.prog X.w)) b := Option.some.inj qe
        rw [hv, e2]
        all_goals rfl
  obtain ⟨L, e1, e2, e3, e4⟩ := kt_zsK (K := X.K) pr
  refine q _ _ L kp rfl rfl ?_ (by rw [e2]) e3 e4
  rw [e1, ea]
  have := vals_refs (ks.map fun x => x.2.1)
  rwa [List.map_map, List.map_map] at this
def rSortedDK (K : PySem.W.Frag) : List V → Hp → VK → Prop := fun vs H Q => ∃ (a : Addr) (kvs : List (List Key × V)) (ds : List PyData), vs = [V.ref a] ∧ Rd H a (.dT kvs) ∧ ds = (kvs.map fun p => .tuple (p.1.map keyD)) ∧ (∀ d ∈ ds, Lp.fz d = true ∧ d.depth ≤ 8) ∧ AllAlike ds ∧ Sortable ds ∧ ds.length ≤ 100000 ∧
  ∀ (L : List Z) (p : Addr), (L.map (·.2)).Perm ds → L.Pairwise (fun x y => zle x y = true) → (∀ z ∈ L, Dp K H z.1 z.2) → (∀ z ∈ L, TrK H z) → H p = none → Q (.ref p) (upd H p (.lst (L.map (·.1))))
theorem cr_sortedDK (hc : X.calm = true) (hu : X.A.units + 16 < cLine) : CallR X (.builtin "sorted") (rSortedDK X.K) := by
  intro pins s σ H vs us Q I r h
  obtain ⟨a, kvs, ds, rfl, ha, eds, each, alk, srt, len, q⟩ := h
  rw [Vals.ref1 r]
  refine Calls.call_function_entry kind_sorted plain_sorted entry_sorted (args_sorted1 _) ?_
  unfold Builtin.«sorted»
  refine wpAny_bind (m := checkCount "sorted" 1 1 _) (wpAny_pure ?_)
  refine wpAny_bind (coll_dictK X.A.in1 (I.ok.hd hc) I ha fun s1 us L k1 g1 o1 rv pm dp tr => ?_)
  rw [← eds] at pm
  have sl : (16777216 : Nat) = sizeLine := by decide
  have lL : L.length = ds.length := by rw [← pm.length_eq, List.length_map]
  have hlen : us.length = ds.length := by rw [← rv.length, List.length_map, lL]
  have lz : us.length ≤ sizeLine := by rw [hlen, ← sl]; omega
  refine wpAny_bind (wpAny_newList ?_ lz)
  have hoL : (s1.heap.push (seqObj "list" us.toArray 0)).get? s1.heap.objs.size = some (seqObj "list" us.toArray 0) := Heap.get?_push_size _ rfl
  have eR : EachIs (fun u z => RelV z.1 u) us L := vals_map (fun _ _ h => h) rv
  have memL : ∀ z, z ∈ L → z.2 ∈ ds := fun z hz => pm.mem_iff.mp (List.mem_map.mpr ⟨z, hz, rfl⟩)
  have rd : EachIs (fun u (z : Z) => ∃ as, Reads (s1.heap.push (seqObj "list" us.toArray 0)) u z.2 as ∧ s1.heap.objs.size ∉ as) us L := each_in eR fun u z hz ru => by
    obtain ⟨fz, _⟩ := each z.2 (memL z hz)
    obtain ⟨as, ra⟩ := Dp.reads I _ _ _ (dp z hz) ru
    have e := fz_reads fz ra
    subst e
    exact ⟨[], PyProof.Rows.Reads.keeps (fun b o e => Heap.get?_push_of_some _ (k1 b o e)) ra, List.not_mem_nil⟩
  have alk' : AllAlike (L.map (·.2)) := fun d hd d' hd' => alk d (pm.mem_iff.mp hd) d' (pm.mem_iff.mp hd')
  have srt' : Sortable (L.map (·.2)) := srt.imp (fun k d hd => k d (pm.mem_iff.mp hd)) fun k d hd => k d (pm.mem_iff.mp hd)
  have bnd : ∀ z, z ∈ L → X.A.in1.units + 1 + z.2.depth < cLine := fun z hz => by
    have := (each z.2 (memL z hz)).2
    show X.A.units + 1 + 1 + z.2.depth < cLine
    omega
  refine wpAny_bind (wpAny_holding (PySem.W.list_sort_data (A := X.A.in1) (s := { s1 with heap := s1.heap.push (seqObj "list" us.toArray 0) }) (n := 0) (enc := fun z : Z => z.2) (R := fun u z => RelV z.1 u) hoL eR rd alk' srt' (by rw [← eR.length]; exact lz) bnd fun out l2 e2 => ?_))
  obtain ⟨c, hcat⟩ := sortedHeap_at (vs := us) (out := out.toArray) hoL
  have kp : ∀ b o, s.heap.get? b = some o → (sortedHeap (s1.heap.push (seqObj "list" us.toArray 0)) s1.heap.objs.size us out.toArray).get? b = some o := fun b o e => by
    have e1 := k1 b o e
    have hlt := Heap.lt_size e1
    rw [sortedHeap_old (Nat.ne_of_lt hlt) (by rw [size_push']; exact Nat.lt_succ_of_lt hlt)]
    exact Heap.get?_push_of_some _ e1
  have pL : (L.mergeSort zle).Perm L := List.mergeSort_perm _ _
  have rv' : Vals ((L.mergeSort zle).map (·.1)) out := vals_each e2
  have ll : ((L.mergeSort zle).map (·.1)).length ≤ sizeLine := by rw [List.length_map, pL.length_eq, lL, ← sl]; omega
  have hp0 : s.heap.get? s1.heap.objs.size = none := by
    cases hq : s.heap.get? s1.heap.objs.size with
    | none => rfl
    | some o => exact absurd (Heap.lt_size (k1 _ _ hq)) (Nat.lt_irrefl _)
  have hn : H s1.heap.objs.size = none := I.hok.gone hp0
  have J : Inv X pins σ (upd H s1.heap.objs.size (.lst ((L.mergeSort zle).map (·.1)))) { s with heap := sortedHeap (s1.heap.push (seqObj "list" us.toArray 0)) s1.heap.objs.size us out.toArray, gens := s1.gens, drawn := s1.drawn, toks := s1.toks } :=
    I.call (ch := []) (Un.laidN kp hp0 hn) (I.hok.laidN kp hn ⟨ll, out, c, rv', hcat⟩) (by rw [g1]; exact I.bare) (fun _ z => nomatch z)
  have e : ({ s1 with heap := sortedHeap (s1.heap.push (seqObj "list" us.toArray 0)) s1.heap.objs.size us out.toArray } : Shared) = { s with heap := sortedHeap (s1.heap.push (seqObj "list" us.toArray 0)) s1.heap.objs.size us out.toArray, gens := s1.gens, drawn := s1.drawn, toks := s1.toks } := by
    cases s1
    cases s
    cases o1
    rfl
  refine wpAny_pure ⟨_, rfl, ?_⟩
  rw [e]
  exact ⟨.ref _, _, J, rfl, q _ _ ((pL.map _).trans pm) (PySem.W.sort_pairwise (le := zle) (PySem.W.sortLe_total (PyProof.Rows.listOrd PyProof.Rows.itemOrd) false fun z : Z => PySem.W.keyToks z.2) _) (fun z hz => dp z (pL.mem_iff.mp hz)) (fun z hz => tr z (pL.mem_iff.mp hz)) hn⟩

end
end Lq
/-! LpL8 -/
namespace Lp
open PySem PySem.Spec PyProof.Rows L2
theorem shapedL_ints (l : List Int) : SeqAt.shaped (.list (l.map .int)) = true := by
  simp [SeqAt.shaped, PyData.canLay0, PyData.depth, canL_ints, PySem.W.depth_ints]
theorem wanted_lt {h : Hs} {pl : List Int} {c : Nat} (hc : c ∈ wanted h pl) : c < pl.length := by
  unfold wanted at hc
  exact List.mem_range.mp (List.mem_filter.mp hc).1
section
variable {P : Program} {w : World} {K : PySem.W.Frag} {mg : Str → Option Value} {base : Heap}
theorem c_law_is_laying (T : Tp K mg) : Callee P w K mg base "_law_is_laying" 3 ["_law_history_here", "_law_plates", "_law_thing"] (SpY (fun z : Hs × List Int × List Nat => [tD K (dHis z.1), tD K (dI z.2.1), tD K (dT z.2.2)]) (fun z => LayOk z.1 z.2.1 ∧ Order z.1 z.2.1 z.2.2) fun z => tBo true) := by
  obtain ⟨fd, F, b⟩ := T.defLawIsLaying
  refine ⟨_, fd, fnY F scLawIsLaying (fun _ => rfl) (fun _ => none) (fun _ _ h => by cases h) fun ⟨h, pl, od⟩ ⟨ok, O⟩ cdv A outer s H E hr => ?_, T.gLawIsLaying, F.kp, b⟩
  have ok : LayOk h pl := ok
  have O : Order h pl od := O
  have nd := scLawIsLaying.nd
  have hu := hu_of hr
  have w8 := ok.few
  have p8 := ok.p8
  have ol : od.length ≤ 8 := by rw [O.perm.length_eq]; exact w8
  have o8 : ∀ c, c ∈ od → c < 8 := fun c hc => Nat.lt_of_lt_of_le (wanted_lt (O.perm.mem_iff.mp hc)) p8
  have eS : od.mergeSort leC = wanted h pl := by
    have e1 := sortC_congr O.perm
    have e2 : sortC (wanted h pl) = wanted h pl := by
      have hp : (wanted h pl).Pairwise (fun x y => leC x y = true) := (wanted_asc h pl).imp fun {a b} hab => decide_eq_true (by have : a < b := hab; omega)
      exact one_sorted ordC.anti (sortC_perm _) (sortC_le _) hp
    exact e1.trans e2
  have lS : ∀ i, i < od.length → lostD h (withL h pl (od.take (i + 1))) = [] := fun i hi => (lost_eq h _).mpr (O.safe i hi)
  have lW : ∀ cs, (withL h pl cs).length = pl.length := fun cs => by unfold withL; rw [List.length_map, List.length_range]
  let Γ0 : Cxt := [some (tD K (dHis h)), some (tD K (dI pl)), some (tD K (dT od)), some (tD K (dT (wanted h pl))), none, none]
  refine s_asg (i := 3) (y_call (c_law_wanted T) (hr.mono (by decide)) (by rfl) (h, pl) ⟨by show pl.length ≤ 400; omega, ok.la⟩ (ya_cons (yv 0) (ya_cons (yv 1) ya_nil))) ?_ nd
  refine s_ifR (k := false) (t_w (w_or (k := false) (l := false) (t_not (k := true) (y_t (y_isi (by rfl) T.fIsinstance (by rfl) T.fTuple (by decide +kernel) (r := true) (by decide +kernel) ty_tup (yv 2 (Γ := Γ0))))) fun _ => w_or1 (t_not (k := true) (y_t (PY.eq (y_all (bs := od.map fun (c : Nat) => decide ((0 : Int) ≤ (c : Int)) && decide ((c : Int) ≤ 7)) (by rfl) (by rfl) T.fAll (PY.eq (y_lc1 4 od (fun c => tD K (iN c)) (fun _ => true) (fun c => .bool (decide ((0 : Int) ≤ (c : Int)) && decide ((c : Int) ≤ 7))) (by omega) (fun _ _ => rfl) (by rfl) nd (i_tupM (PY.eq (yv 2) ?_)) (blkOk_by (N := ["_law_history_here", "_law_plates", "_law_thing", "_law_wanted_here", "_law_cell", "_law_at"]) (sc := defScope sLawIsLaying) (by decide +kernel)) rfl (by rfl) (fun _ _ _ _ _ _ _ => ts_no) (fun c hc _ _ _ _ _ _ => PY.ofBool (y_call (c_law_is_int T) (hr.mono (by decide)) (by rfl) ((c : Int), 0, 7) trivial (ya_cons (PY.int (yv 4)) (ya_cons y_int (ya_cons y_int ya_nil)))))) ?_)) ?_))))) (fun e => by cases e) fun _ => ?_
  · show tD K (.tuple _) = tD K (.tuple _); unfold zs; rw [List.map_map]; rfl
  · rw [filter_all, List.map_map]; rfl
  · have : (od.map fun (c : Nat) => decide ((0 : Int) ≤ (c : Int)) && decide ((c : Int) ≤ 7)).all id = true := by
      rw [List.all_map, List.all_eq_true]
      intro c hc
      have := o8 c hc
      simp; omega
    rw [this]
  refine s_ifR (k := false) (PYT.eq ((c_neD (d := .list ((zs (wanted h pl)).map .int)) (e := .list ((zs (wanted h pl)).map .int)) (by exact hr.units) (shapedL_ints _) (shapedL_ints _) (PY.eq (PYN.y (n_sortT (by rfl) (hu16 hr) ordC od (fun _ _ => trivial) (by omega) (by rfl) T.fSorted (PY.eq (yv 2 (Γ := Γ0)) ?_))) ?_) (PYN.y (n_listT (by rfl) T.fList (yv 3)))).tst _) (by rw [eqvL_ints]; simp)) (fun e => by cases e) fun _ => ?_
  · show tD K (.tuple _) = tD K (.tuple _); unfold zs; rw [List.map_map]; rfl
  · rw [eS]; unfold zs; rw [List.map_map]; rfl
  refine s_for (vs := [5]) (fun _ => Γ0) (fun i => Γ0.set 5 (some (tI (i : Nat)))) (fun _ _ g => g) (by rfl) (i_rng1 (n := od.length) (by rfl) T.fRange (PY.eq (y_lenT (ds := (zs od).map .int) (by rfl) T.fLen (yv 2)) (congrArg tI (by rw [List.length_map, zs_len]))) (by omega)) (pg_name (i := 5) nd rfl (.inl rfl)) (fun i τ hτ => ?_) (fun i hi => ?_) (s_ret y_bl rfl)
  · rw [List.getElem?_map] at hτ
    cases q : (List.range od.length)[i]? with
    | none => rw [q] at hτ; cases hτ
    | some y =>
      rw [q] at hτ
      cases hτ
      obtain ⟨hl, hy⟩ := List.getElem?_eq_some_iff.mp q
      rw [List.getElem_range] at hy
      subst hy
      exact tg_name List.mem_cons_self
  · have hil : i < od.length := by simpa using hi
    refine s_ifR (k := false) (PYT.eq ((c_neD (d := .tuple []) (e := .tuple []) (by exact hr.units) (by rfl) (by rfl) (PY.eq (y_call (c_law_lost T) (hr.mono (by decide)) (by rfl) (h, withL h pl (od.take (i + 1))) ⟨ok.sm, by show (withL h pl (od.take (i + 1))).length ≤ 400; rw [lW]; omega⟩ (ya_cons (yv 0) (ya_cons (y_call (c_law_with T) (hr.mono (by decide)) (by rfl) (h, pl, od.take (i + 1)) ⟨by show pl.length ≤ 400; omega, ok.la⟩ (ya_cons (yv 0) (ya_cons (yv 1) (ya_cons (PY.eq (y_slT0 (j := i + 1) (yv 2) (PY.eq (y_add (yv 5) y_int) rfl)) ?_) ya_nil)))) ya_nil))) (congrArg (fun l => tD K (.tuple l)) (lS i hil))) (y_tup (ds := []) ya_nil (by decide))).tst _) (by rfl)) (fun e => by cases e) fun _ => s_endW (fun _ _ g => g.forget 5) rfl
    show tD K (.tuple _) = tD K (.tuple _)
    unfold zs
    rw [List.map_take, List.map_take]
end
end Lp
/-! LpU2 -/
namespace Lp
open PySem PySem.Spec PyProof.Rows L2
section
variable {X : Cx} {Γ : Cxt} {a b e f k v o : Expr} {pos p apos cpos : Pos} {tk tv td ty tx : TE}
/-- {k: v}, the key a tuple -/
def tDisp1 (tk tv : TE) : TE := fun σ H Q => ∀ p, H p = none → tPairs [(tk, tv)] σ (upd H p (.dT [])) fun ps H2 => ∃ x y H', ps = [(x, y)] ∧ DPut H2 p x y H' ∧ Q (.ref p) H'
theorem pe_disp1 (hu : X.A.units + 1 < cLine) (hk : PE X k tk) (hv : PE X v tv) : PE X (.Dict [some k] [v] pos) (tDisp1 tk tv) := by
  refine ⟨fun pins s σ H Q I q => ?_⟩
  have hn := I.hok.fresh (Nat.le_refl s.heap.objs.size)
  have I1 := I.laid (a := s.heap.objs.size) (o := .dT []) (h' := s.heap.push { cls := .type "dict", data := .dict #[] }) (t' := s.toks) (fun _ _ q => Heap.get?_push_of_some _ q) (Nat.le_refl _) (dt_empty s.heap I.big)
  refine wpAny_Dict_any (by rfl) (by rfl) (by intro h; cases h) (by show 1 ≤ 15; decide) ?_
  refine thn ((pps_cons hk hv pps_nil (pos := pos)).run pins _ σ _ (fun ps H2 => ∃ x y H', ps = [(x, y)] ∧ DPut H2 s.heap.objs.size x y H' ∧ Q (.ref s.heap.objs.size) H') I1 ?_) fun ws s2 ⟨ps, H2, I2, rel, x, y, H', ep, g, q2⟩ => ?_
  · exact q _ hn
  · subst ep
    cases rel with
    | @cons _ w1 _ ws' hh tt =>
      cases tt
      obtain ⟨u, r⟩ := w1
      unfold storeAll
      rw [List.forIn_cons]
      refine wpAny_bind (wpAny_bind (Lq.dictSet_P (A := X.A) hu I2 g hh.1 hh.2 fun s3 I3 => wpAny_pure (wpAny_pure ⟨.ref s.heap.objs.size, _, I3, rfl, q2⟩)))
end
end Lp
/-! LpU3 -/
namespace Lp
open PySem PySem.Spec PyProof.Rows L2
theorem key_ints : ∀ {k : List L2.Key} {m : List Int}, k.map Lq.keyD = m.map PyData.int → k.map kV = m.map V.int
  | [], [], _ => rfl
  | [], _ :: _, h => by cases h
  | _ :: _, [], h => by cases h
  | a :: k, b :: m, h => by
    rw [List.map_cons, List.map_cons] at h
    have h1 := (List.cons.inj h).1
    rw [List.map_cons, List.map_cons, key_ints (List.cons.inj h).2]
    cases a with
    | inl i => cases h1; rfl
    | inr x => cases h1
theorem key_lot {k : List L2.Key} {l : List Nat} (h : PyData.tuple (k.map Lq.keyD) = dT l) : k.map kV = (zs l).map V.int := key_ints (PyData.tuple.inj h)
section
variable {X : Cx} {Γ : Cxt} {e : Expr} {pos p : Pos} {D : Addr} {K : PySem.W.Frag}
/-- a list of lots, each a tuple that is seen -/
theorem tracks_of {H : Hp} : ∀ {L : List Lq.Z} {ls : List (List Nat)}, L.map (·.2) = ls.map dT → (∀ z ∈ L, Lq.TrK H z) → AllY (ls.map fun l => tTk (zs l)) (L.map (·.1)) H
  | [], [], _, _ => .nil
  | [], _ :: _, h, _ => by cases h
  | _ :: _, [], h, _ => by cases h
  | z :: L, l :: ls, h, t => by
    rw [List.map_cons, List.map_cons] at h
    obtain ⟨b, k, e1, e2⟩ := t z List.mem_cons_self
    have h1 := (List.cons.inj h).1
    rw [e1] at h1
    refine .cons ?_ (tracks_of (List.cons.inj h).2 fun z hz => t z (List.mem_cons_of_mem _ hz))
    rw [e1]
    exact ⟨b, rfl, by rw [e2, key_lot h1]⟩
def tSortW (Γ : Cxt) (D : Addr) : TE := fun σ H Q => Env Γ σ H ∧ ∃ (ls : List (List Nat)) (ρ : List Int → V), H D = some (.dT (dkg kkT.f (ls.map zs) ρ)) ∧ (∀ l, l ∈ ls → l ≠ []) ∧ ls.length ≤ 100000 ∧
  ∀ (p : Addr) (vs : List V) (L : List (List Nat)) (H' : Hp), H p = none → Same H H' → H' p = some (.lst vs) → L.Perm ls → AllY (L.map fun l => tTk (zs l)) vs H' → Q (.ref p) H'
theorem pe_sortW (hc : X.calm = true) (hu : X.A.units + 16 < cLine) (hg : Gl X "sorted") (hm : X.mg "sorted" = none) (h : PY X e Γ (tV (.ref D))) (hs : starEach [e] X.env = (false, eval e X.env) :: starEach [] X.env := by rfl) : PE X (.Call (.Name "sorted" p) [e] [] pos) (tSortW Γ D) :=
  PE.imp (pe_callB (x := "sorted") (Lq.cr_sortedDK hc hu) hg hm (by decide +kernel) (ya_cons h ya_nil hs) (he := hs)) fun σ H Q ⟨g, ls, ρ, hD, ne, len, k⟩ => ⟨g, fun vs H1 s1 hvs => by
    obtain ⟨v, rfl, hv⟩ := all1 hvs
    have hv' : v = V.ref D := hv
    subst hv'
    have eds : (dkg kkT.f (ls.map zs) ρ).map (fun p => PyData.tuple (p.1.map Lq.keyD)) = ls.map dT := by
      unfold dkg
      rw [List.map_map, List.map_map]
      refine List.map_congr_left fun l _ => ?_
      show PyData.tuple (((zs l).map Sum.inl).map Lq.keyD) = dT l
      rw [List.map_map]; rfl
    refine ⟨D, _, ls.map dT, rfl, .inl (s1 _ _ hD), eds.symm, fun d hd => ?_, fun d hd d' hd' => ?_, ?_, by rw [List.length_map]; exact len, fun L p pL pw dp tr hp => ?_⟩
    · obtain ⟨x, _, rfl⟩ := List.mem_map.mp hd
      exact ⟨ordN.fr x, ordN.deep x⟩
    · obtain ⟨x, _, rfl⟩ := List.mem_map.mp hd
      obtain ⟨y, _, rfl⟩ := List.mem_map.mp hd'
      exact ordN.alk x y
    · rcases ordN.srt with k | k
      · refine .inl fun d hd => ?_
        obtain ⟨x, hx, rfl⟩ := List.mem_map.mp hd
        exact k x (ne x hx)
      · refine .inr fun d hd => ?_
        obtain ⟨x, hx, rfl⟩ := List.mem_map.mp hd
        exact k x
    · obtain ⟨L', pL', eL⟩ := Lq.perm_fetch (β := Unit) (g := fun _ => PyData.none) pL
      exact k p _ L' _ (s1.free hp) (s1.trans (Same.new hp)) upd_same pL' (AllY.up (Same.new hp) (tracks_of eL tr))⟩
end
end Lp
/-! LpW1 -/
namespace Lp
open PySem PySem.Spec PyProof.Rows L2
/-! ### a dict of ways, each lot with a number that is not 0 -/
structure WOk (h : Hs) (pl : List Int) (ls : List (List Nat)) (ρ : List Int → V) : Prop where
  nd : ls.Nodup
  lot : ∀ l, l ∈ ls → Lot h pl l
  num : ∀ l, l ∈ ls → ∃ n : Int, 1 ≤ n ∧ ρ (zs l) = .int n
abbrev WD (D : Addr) (H : Hp) (ls : List (List Nat)) (ρ : List Int → V) : Prop := H D = some (.dT (dkg kkT.f (ls.map zs) ρ))
section
variable {h : Hs} {pl : List Int} {ls ms : List (List Nat)} {ρ ρ' : List Int → V} {H : Hp} {D : Addr}
theorem few_lots (ok : LayOk h pl) (nd : ls.Nodup) (hk : ∀ l, l ∈ ls → Lot h pl l) : ls.length ≤ 256 := by
  have h1 := Lq.few_of (D := subs (wanted h pl)) nd fun k hkk => subs_mem (wanted_asc h pl) (hk k hkk).asc (hk k hkk).sub
  rw [subs_len] at h1
  have h2 : 2 ^ (wanted h pl).length ≤ 2 ^ 8 := Nat.pow_le_pow_right (by decide) ok.few
  have : (2 : Nat) ^ 8 = 256 := by decide
  omega
theorem WOk.few (ok : LayOk h pl) (W : WOk h pl ls ρ) : ls.length ≤ 256 := few_lots ok W.nd W.lot
theorem zs_mem {l : List Nat} : zs l ∈ ls.map zs ↔ l ∈ ls := ⟨fun m => by
  obtain ⟨x, hx, e⟩ := List.mem_map.mp m
  rw [← zs_inj e]; exact hx, fun m => List.mem_map.mpr ⟨l, m, rfl⟩⟩
theorem addk_zs (l : List Nat) : addk (ls.map zs) (zs l) = (addk ls l).map zs := adds_map (f := zs) (fun _ _ e => zs_inj e) [l] ls
theorem WOk.put (W : WOk h pl ls ρ) {l : List Nat} (L : Lot h pl l) {n : Int} (hn : 1 ≤ n) : WOk h pl (addk ls l) (fun j => if j = zs l then .int n else ρ j) where
  nd := addk_nodup W.nd
  lot := fun m hm => (addk_mem.mp hm).elim (fun q => W.lot m q) fun e => e ▸ L
  num := fun m hm => by
    by_cases e : zs m = zs l
    · exact ⟨n, hn, if_pos e⟩
    · obtain ⟨k, k1, k2⟩ := W.num m ((addk_mem.mp hm).resolve_right fun q => e (by rw [q]))
      exact ⟨k, k1, by show (if zs m = zs l then _ else ρ (zs m)) = _; rw [if_neg e]; exact k2⟩
/-- the put itself -/
theorem WD.put (ok : LayOk h pl) (W : WOk h pl ls ρ) (hD : WD D H ls ρ) {l : List Nat} {y : V} (hy : (tTk (zs l)).is y H) {v : V} : ∃ H', DPut H D y v H' ∧ H' = upd H D (.dT (dkg kkT.f ((addk ls l).map zs) (fun j => if j = zs l then v else ρ j))) := by
  have few := W.few ok
  refine ⟨_, kkT.put (k := zs l) hy hD (by rw [dkg_len, List.length_map]; exact sz_lt (by omega)), ?_⟩
  rw [putK_dkg kkT.inj, addk_zs]; rfl
theorem WD.get (hD : WD D H ls ρ) {l : List Nat} : valV (dkg kkT.f (ls.map zs) ρ) (kkT.f (zs l)) = if l ∈ ls then some (ρ (zs l)) else none := by
  rw [valV_dkg kkT.inj]
  by_cases c : l ∈ ls
  · rw [if_pos c, if_pos (zs_mem.mpr c)]
  · rw [if_neg c, if_neg fun z => c (zs_mem.mp z)]
theorem merge_dkg2 : ∀ (ls ks : List (List Int)) (ρ ρ' : List Int → V), ∃ ρ'', mergeT (dkg kkT.f ks ρ) (dkg kkT.f ls ρ') = dkg kkT.f (adds ks ls) ρ'' ∧ (∀ k, k ∈ ls → ρ'' k = ρ' k) ∧ ∀ k, k ∉ ls → ρ'' k = ρ k
  | [], ks, ρ, ρ' => ⟨ρ, rfl, fun k hk => (by cases hk), fun _ _ => rfl⟩
  | l :: ls, ks, ρ, ρ' => by
    obtain ⟨ρ'', e1, e2, e3⟩ := merge_dkg2 ls (addk ks l) (fun j => if j = l then ρ' l else ρ j) ρ'
    refine ⟨ρ'', ?_, fun k hk => ?_, fun k hk => ?_⟩
    · show mergeT (putK (dkg kkT.f ks ρ) (kkT.f l) (ρ' l)) (dkg kkT.f ls ρ') = dkg kkT.f (adds (addk ks l) ls) ρ''
      rw [putK_dkg kkT.inj]
      exact e1
    · by_cases m : k ∈ ls
      · exact e2 k m
      · have e : k = l := (List.mem_cons.mp hk).resolve_right m
        rw [e3 k m, if_pos e, e]
    · rw [List.mem_cons, not_or] at hk
      rw [e3 k hk.2, if_neg hk.1]
theorem WOk.merge (W : WOk h pl ls ρ) (W' : WOk h pl ms ρ') : ∃ ρ'', mergeT (dkg kkT.f (ls.map zs) ρ) (dkg kkT.f (ms.map zs) ρ') = dkg kkT.f ((adds ls ms).map zs) ρ'' ∧ WOk h pl (adds ls ms) ρ'' := by
  obtain ⟨ρ'', e1, e2, e3⟩ := merge_dkg2 (ms.map zs) (ls.map zs) ρ ρ'
  refine ⟨ρ'', ?_, adds_nodup W.nd, fun m hm => (adds_mem.mp hm).elim (fun q => W.lot m q) fun q => W'.lot m q, fun m hm => ?_⟩
  · rw [e1, adds_map (f := zs) fun _ _ e => zs_inj e]
  · by_cases q : m ∈ ms
    · rw [e2 _ (zs_mem.mpr q)]; exact W'.num m q
    · rw [e3 _ fun z => q (zs_mem.mp z)]
      exact W.num m ((adds_mem.mp hm).resolve_right q)
end
end Lp
/-! LpW2 -/
namespace Lp
open PySem PySem.Spec PyProof.Rows L2
def nu (ρ : List Int → V) (j : List Int) : Int := match ρ j with | .int n => n | _ => 0
/-- a dict of ways, its lots and numbers told -/
def tWD (ls : List (List Nat)) (ρ : List Int → V) : Ty := ⟨fun v H => ∃ D, v = .ref D ∧ WD D H ls ρ, fun e ⟨D, h1, h2⟩ => ⟨D, h1, e _ _ h2⟩⟩
section
variable {h : Hs} {pl : List Int} {ls ms : List (List Nat)} {ρ ρ' : List Int → V} {H : Hp} {D : Addr}
theorem WOk.nu (W : WOk h pl ls ρ) {l : List Nat} (hl : l ∈ ls) : ρ (zs l) = .int (nu ρ (zs l)) ∧ 1 ≤ nu ρ (zs l) := by
  obtain ⟨n, h1, h2⟩ := W.num l hl
  have e : Lp.nu ρ (zs l) = n := by unfold Lp.nu; rw [h2]
  rw [e]
  exact ⟨h2, h1⟩
theorem WOk.dict (W : WOk h pl ls ρ) {K : PySem.W.Frag} : ∀ v H, (tWD ls ρ).is v H → (tDict kkT K (ls.map zs) fun j => .int (Lp.nu ρ j)).is v H := fun v H ⟨D, e, hD⟩ => ⟨D, ρ, e, hD, fun j hj => by
  obtain ⟨l, hl, rfl⟩ := List.mem_map.mp hj
  rw [(W.nu hl).1]
  exact .int _⟩
end
section
variable {X : Cx} {Γ : Cxt} {a b o e f : Expr} {pos apos cpos : Pos} {h : Hs} {pl : List Int} {ls : List (List Nat)} {ρ : List Int → V}
theorem y_wget2 (W : WOk h pl ls ρ) (hu : X.A.units + 1 < cLine) {l : List Nat} (ho : PY X o Γ (tWD ls ρ)) (he : PY X e Γ (tTk (zs l))) (hf : PY X f Γ (tI 0)) (m : M2 X o "get" apos e f cpos) : PY X (.Call (.Attribute o "get" apos) [e, f] [] cpos) Γ (tI (if l ∈ ls then nu ρ (zs l) else 0)) :=
  PE.imp (pe_dget2 hu ho he hf m) fun σ H Q ⟨g, q⟩ => ⟨g, fun x H1 s1 ⟨D, ex, hD⟩ => ⟨D, ex, .inr ⟨_, .inl hD⟩, g.up s1, fun y H2 s2 hy => ⟨g.up (s1.trans s2), fun z H3 s3 hz => by
    refine ⟨_, kkT.get (k := zs l) ((tTk _).up s3 hy) (s3 _ _ (s2 _ _ hD)), q _ H3 (s1.trans (s2.trans s3)) ?_⟩
    rw [valV_dkg kkT.inj]
    by_cases c : l ∈ ls
    · rw [if_pos c, if_pos (zs_mem.mpr c)]
      exact (W.nu c).1
    · rw [if_neg c, if_neg fun q => c (zs_mem.mp q)]
      exact hz⟩⟩⟩
theorem y_wget (W : WOk h pl ls ρ) (hu : X.A.units + 1 < cLine) {l : List Nat} (hl : l ∈ ls) (hb : PY X b Γ (tWD ls ρ)) (ha : PY X a Γ (tTk (zs l))) (hs : NoSl a := by exact fun _ _ => rfl) : PY X (.Subscript b a pos) Γ (tI (nu ρ (zs l))) :=
  PY.int (y_getD kkT (j := zs l) (zs_mem.mpr hl) hu (PY.to hb W.dict) ha hs)
theorem y_win (W : WOk h pl ls ρ) (hu : X.A.units + 1 < cLine) {l : List Nat} (ha : PY X a Γ (tTk (zs l))) (hb : PY X b Γ (tWD ls ρ)) (hm : behindInMarks .In b = false := by rfl) : PYT X (.Compare a [.In] [b] pos) Γ (decide (l ∈ ls)) :=
  PYT.eq ((y_inD kkT (j := zs l) hu ha (PY.to hb W.dict) hm).tst _) (decide_eq_decide.mpr zs_mem)
end
end Lp
/-! LpW3 -/
namespace Lp
open PySem PySem.Spec PyProof.Rows L2
def tWays (h : Hs) (pl : List Int) : Ty := ⟨fun v H => ∃ ls ρ, (tWD ls ρ).is v H ∧ WOk h pl ls ρ ∧ wanted h pl ∈ ls, fun e ⟨ls, ρ, a, b⟩ => ⟨ls, ρ, (tWD ls ρ).up e a, b⟩⟩
theorem all_em {D : Addr} {H H' : Hp} (hD : ∃ kvs, H D = some (.dT kvs)) (e : EM [D] H H') : ∀ {L : List (List Nat)} {ys : List V}, AllY (L.map fun l => tTk (zs l)) ys H → AllY (L.map fun l => tTk (zs l)) ys H'
  | [], _, .nil => .nil
  | _ :: _, _, .cons a t => .cons (xs_tk _ _ _ hD e a) (all_em hD e t)
theorem lost_zs (h : Hs) (pl : List Int) : lostD h pl = (zs (((h.la.zipIdx).filter fun x => !decide (x.1 ∈ clo pl h.rd)).map (·.2))).map .int := by
  unfold lostD zs
  rw [List.map_map, List.map_map]; rfl
theorem shaped_lost (h : Hs) (pl : List Int) : SeqAt.shaped (.tuple (lostD h pl)) = true := by
  rw [lost_zs]; exact shaped_dI _
theorem eqv_lost (h : Hs) (pl : List Int) : PyData.eqv (.tuple (lostD h pl)) (.tuple []) = safeB h pl := by
  have e1 := lost_eq h pl
  have e2 : PyData.eqv (.tuple (lostD h pl)) (.tuple []) = decide (lostD h pl = []) := by
    rw [lost_zs]
    have := eqv_ints (zs (((h.la.zipIdx).filter fun x => !decide (x.1 ∈ clo pl h.rd)).map (·.2))) []
    rw [List.map_nil] at this
    rw [this]
    exact decide_eq_decide.mpr (by rw [List.map_eq_nil_iff])
  rw [e2]
  cases hs : safeB h pl with
  | true => exact decide_eq_true (e1.mpr hs)
  | false => exact decide_eq_false fun q => by rw [e1.mp q] at hs; cases hs
theorem sort_ord {h : Hs} {pl : List Int} {od : List Nat} (O : Order h pl od) : sortC od = wanted h pl := by
  have e2 : sortC (wanted h pl) = wanted h pl := by
    have hp : (wanted h pl).Pairwise (fun x y => leC x y = true) := (wanted_asc h pl).imp fun {a b} hab => decide_eq_true (by have : a < b := hab; omega)
    exact one_sorted ordC.anti (sortC_perm _) (sortC_le _) hp
  exact (sortC_congr O.perm).trans e2
section
variable {P : Program} {w : World} {K : PySem.W.Frag} {mg : Str → Option Value} {base : Heap}
theorem c_law_ways (T : Tp K mg) : Callee P w K mg base "_law_ways" 3 ["_law_history_here", "_law_plates"] (SpY (fun z : Hs × List Int × List Nat => [tD K (dHis z.1), tD K (dI z.2.1)]) (fun z => LayOk z.1 z.2.1 ∧ Order z.1 z.2.1 z.2.2) fun z => tWays z.1 z.2.1) := by
  obtain ⟨fd, F, b⟩ := T.defLawWays
  refine ⟨_, fd, fnH F scLawWays (fun vs H Q E ⟨z, _, h, _⟩ => by rw [h.len]; rfl) fun vs H0 Q E hsp cdv A outer s hr => ?_, T.gLawWays, F.kp, b⟩
  obtain ⟨⟨h, pl, od⟩, ⟨ok, O⟩, hvs, q⟩ := hsp
  have ok : LayOk h pl := ok
  have O : Order h pl od := O
  have nd := scLawWays.nd
  have hu := hu_of hr
  have w8 := ok.few
  have p8 := ok.p8
  have ol : od.length = (wanted h pl).length := O.perm.length_eq
  let W := wanted h pl
  let Γi : Cxt := [some (tD K (dHis h)), some (tD K (dI pl)), none, none, none, none, none, none, none, none]
  let Γ0 : Cxt := Γi.set 2 (some (tD K (dT W)))
  refine ⟨fun σ H => Env Γi σ H0 ∧ H = H0, ⟨env_start (N := ["_law_history_here", "_law_plates", "_law_wanted_here", "_law_found", "_law_here", "_law_turn", "_law_later", "_law_lot", "_law_cell", "_law_more"]) hvs, rfl⟩, ?_⟩
  refine h_asg (i := 2) (Γ := Γi) (M := fun σ H => ∃ Hw, Same H0 Hw ∧ (Env Γ0 σ Hw ∧ H = Hw)) (y_call (c_law_wanted T) (hr.mono (by decide)) (by rfl) (h, pl) ⟨by show pl.length ≤ 400; omega, ok.la⟩ (ya_cons (yv 0) (ya_cons (yv 1) ya_nil))) (fun σ H ⟨g, e⟩ => by rw [e]; exact g) (fun σ H v H' ⟨g, e⟩ s hv => ⟨H', by rw [← e]; exact s, by rw [e] at s; exact (g.up s).set hv, rfl⟩) (h_ex fun Hw => h_and fun hw => ?_) nd
  -- found = {(): 1}
  have W0 : WOk h pl [] (fun _ => V.int 1) := ⟨List.nodup_nil, fun l hl => (by cases hl), fun l hl => (by cases hl)⟩
  have W1 : WOk h pl [[]] (fun _ => V.int 1) := ⟨by simp, fun l hl => by rw [List.mem_singleton.mp hl]; exact Lot.nil, fun l _ => ⟨1, by decide, rfl⟩⟩
  refine h_asgE (i := 3) (pe_disp1 (by exact hu) (y_tupK (Γ := Γ0) (is := []) ya_nil (by decide)) (y_int (Γ := Γ0))) (M := fun σ H => ∃ F, Hw F = none ∧ Env Γ0 σ Hw ∧ Same Hw H ∧ σ[3]? = some (some (.ref F)) ∧ WD F H [[]] (fun _ => V.int 1)) (fun σ H Q ⟨g, e⟩ k => fun p hp => ?_) (h_ex fun F => h_and fun hF => ?_) nd
  · have s0 : Same H (upd H p (.dT [])) := Same.new hp
    have g0 : Env Γ0 σ (upd H p (.dT [])) := by rw [← e] at g; exact g.up s0
    refine ⟨g0, fun x H1 s1 hx => ⟨g0.up s1, fun y H2 s2 hy => ⟨x, y, ?_⟩⟩⟩
    have hD : WD p H2 [] (fun _ => V.int 1) := s2 _ _ (s1 _ _ upd_same)
    obtain ⟨H', d1, d2⟩ := WD.put ok W0 hD (l := []) ((tTk []).up s2 hx) (v := y)
    have ey : y = V.int 1 := hy
    subst ey
    refine ⟨H', rfl, d1, k _ _ ⟨p, by rw [← e]; exact hp, g.keep rfl, ?_, List.getElem?_set_self (by rw [g.len]; show 3 < 10; decide), ?_⟩⟩
    · rw [d2, ← e]; exact Same.mut (s0.trans (s1.trans s2)) hp
    · rw [d2]
      show upd H2 p _ p = _
      rw [upd_same]
      rfl
  -- a turn's state
  let St : Nat → SP2 := fun t σ H => ∃ (B : Addr) (L : List (List Nat)) (xs : List V) (ls : List (List Nat)) (ρ : List Int → V), Env Γ0 σ Hw ∧ Same Hw H ∧ (σ[3]? = some (some (.ref F)) ∧ σ[4]? = some (some (.ref B))) ∧ H B = some (.lst xs) ∧ AllY (L.map fun l => tTk (zs l)) xs H ∧ WD F H ls ρ ∧ WOk h pl ls ρ ∧ (∀ l, l ∈ L → l ∈ ls ∧ l.length = t) ∧ sortC (od.take t) ∈ L
  refine h_asgE (i := 4) (pe_lst (ya_cons (y_tupK (Γ := Γ0) (is := []) ya_nil (by decide)) ya_nil)) (M := St 0) (fun σ H Q ⟨g, sm, e3, hD⟩ k => ⟨g.up sm, fun xs H1 s1 hv => ⟨?_, fun p hp => k _ _ ?_⟩⟩) ?_ nd
  · rw [hv.len]; show 1 ≤ sizeLine; rw [sizeLine_eq]; decide
  · have sm1 : Same Hw (upd H1 p (.lst xs)) := (sm.trans s1).trans (Same.new hp)
    have s2 : Same H1 (upd H1 p (.lst xs)) := Same.new hp
    refine ⟨p, [[]], xs, [[]], (fun _ => V.int 1), g.keep rfl, sm1, ⟨by rw [List.getElem?_set_ne (by decide)]; exact e3, List.getElem?_set_self (by rw [g.len]; show 4 < 10; decide)⟩, upd_same, AllY.up s2 hv, s2 _ _ (s1 _ _ hD), W1, fun l hl => ⟨hl, by rw [List.mem_singleton.mp hl]; rfl⟩, ?_⟩
    have e : sortC (od.take 0) = [] := List.eq_nil_of_length_eq_zero (by rw [(sortC_perm _).length_eq]; rfl)
    rw [e]; exact List.mem_singleton.mpr rfl
  refine h_for (Γ := Γ0) (fun (_ : Unit) t => St t) (fun (_ : Unit) t => St t) (by rfl) (g_rng (n := W.length) (by rfl) T.fRange (PY.eq (y_lenT (ds := (zs W).map .int) (by rfl) T.fLen (yv 2)) (congrArg tI (by rw [List.length_map, zs_len]))) (by show (wanted h pl).length ≤ 100000; omega)) (pg_name (i := 5) nd rfl (Or.inl rfl)) (fun σ H ⟨B, L, xs, ls, ρ, g, sm, _⟩ => g.up sm) (fun _ σ H H' p s _ => ?_) (fun _ _ _ _ _ _ => trivial) (fun _ t σ H H2 v lt p s hv => ?_) (fun _ t lt => ?_) ?_ (mono := mono_name)
  · obtain ⟨B, L, xs, ls, ρ, g, sm, ee, hB, hx, hD, Wk, hl, tg⟩ := p
    exact ⟨B, L, xs, ls, ρ, g, sm.trans s, ee, s _ _ hB, AllY.up s hx, s _ _ hD, Wk, hl, tg⟩
  · obtain ⟨B, L, xs, ls, ρ, g, sm, ee, hB, hx, hD, Wk, hl, tg⟩ := p
    exact ⟨B, L, xs, ls, ρ, g.keep rfl, sm.trans s, ⟨by rw [List.getElem?_set_ne (by decide)]; exact ee.1, by rw [List.getElem?_set_ne (by decide)]; exact ee.2⟩, s _ _ hB, AllY.up s hx, s _ _ hD, Wk, hl, tg⟩
  · have tl : t < od.length := by rw [ol]; exact lt
    refine h_pre (P' := fun σ H => ∃ (Hb : Hp) (B : Addr) (L : List (List Nat)) (xs : List V) (ls : List (List Nat)) (ρ : List Int → V), (Same Hw Hb ∧ Hb B = some (.lst xs) ∧ AllY (L.map fun l => tTk (zs l)) xs Hb ∧ WD F Hb ls ρ ∧ WOk h pl ls ρ ∧ (∀ l, l ∈ L → l ∈ ls ∧ l.length = t) ∧ sortC (od.take t) ∈ L) ∧ (Env Γ0 σ Hw ∧ (σ[3]? = some (some (.ref F)) ∧ σ[4]? = some (some (.ref B))) ∧ H = Hb)) (h_ex fun Hb => h_ex fun B => h_ex fun L => h_ex fun xs => h_ex fun ls => h_ex fun ρ => h_and fun ⟨hb, hB, hx, hDF, Wk, hl, tg⟩ => ?_) fun σ H ⟨B, L, xs, ls, ρ, g, sm, ee, hB, hx, hD, Wk, hl, tg⟩ => ⟨H, B, L, xs, ls, ρ, ⟨sm, hB, hx, hD, Wk, hl, tg⟩, g, ee, rfl⟩
    let G : Nat → Nat → List (List Nat) → Prop := fun i j ms => ∀ i' j', (i' < i ∨ (i' = i ∧ j' < j)) → L[i']? = some (sortC (od.take t)) → W[j']? = od[t]? → sortC (od.take (t + 1)) ∈ ms
    let I : Addr → Nat → Nat → SP2 := fun D i j σ H => Env Γ0 σ Hw ∧ Same Hb H ∧ (σ[3]? = some (some (.ref F)) ∧ σ[4]? = some (some (.ref B)) ∧ σ[6]? = some (some (.ref D))) ∧ ∃ (ms : List (List Nat)) (ρ' : List Int → V), WD D H ms ρ' ∧ WOk h pl ms ρ' ∧ (∀ m, m ∈ ms → m.length = t + 1) ∧ G i j ms
    have upI : ∀ {D i j σ H H'}, I D i j σ H → Same H H' → I D i j σ H' := fun ⟨g, sm, ee, ms, ρ', h1, h2, h3, h4⟩ s => ⟨g, sm.trans s, ee, ms, ρ', s _ _ h1, h2, h3, h4⟩
    have setI : ∀ {D i j σ H k x}, Γ0[k]? = some none → k ≠ 3 → k ≠ 4 → k ≠ 6 → I D i j σ H → I D i j (σ.set k x) H := fun hk n3 n4 n6 ⟨g, sm, ee, r⟩ => ⟨g.keep hk, sm, ⟨by rw [List.getElem?_set_ne n3]; exact ee.1, by rw [List.getElem?_set_ne n4]; exact ee.2.1, by rw [List.getElem?_set_ne n6]; exact ee.2.2⟩, r⟩
    refine h_asgE (i := 6) pe_dnewT (M := fun σ H => ∃ D, Hb D = none ∧ I D 0 0 σ H) (fun σ H Q ⟨g, ee, e⟩ k => fun p hp => k _ _ ⟨p, by rw [← e]; exact hp, g.keep rfl, by rw [← e]; exact Same.new hp, ⟨by rw [List.getElem?_set_ne (by decide)]; exact ee.1, by rw [List.getElem?_set_ne (by decide)]; exact ee.2, List.getElem?_set_self (by rw [g.len]; show 6 < 10; decide)⟩, [], (fun _ => V.int 1), upd_same, W0, (fun m hm => (by cases hm)), fun i' j' hij => (by omega)⟩) (h_ex fun D => h_and fun hDn => ?_) nd
    have xl : xs.length = L.length := by rw [hx.len, List.length_map]
    refine h_forL (te := tVar 4) (a := B) (xs := xs) (fun i => I D i 0) (fun i σ H => ∃ lot, L[i]? = some lot ∧ I D i 0 σ H ∧ ∃ v, σ[7]? = some (some v) ∧ (tTk (zs lot)).is v Hb) (by rfl) (t_var (i := 4)) (pg_name (i := 7) nd rfl (Or.inl rfl)) (fun σ H Q p k => ⟨_, p.2.2.1.2.1, k⟩) (fun σ H p => p) (fun i σ H p => SqL.of (p.2.1 _ _ hB)) (fun i σ H x hxi p => ?_) (fun i lti => h_ex fun lot => h_and fun hlot => ?_) ?_ (mono := mono_name)
    · obtain ⟨τ, t1, t2⟩ := hx.at hxi
      rw [List.getElem?_map] at t1
      cases q : L[i]? with
      | none => rw [q] at t1; cases t1
      | some lot =>
        rw [q] at t1
        cases t1
        exact ⟨lot, rfl, setI rfl (by decide) (by decide) (by decide) p, x, List.getElem?_set_self (by rw [p.1.len]; show 7 < 10; decide), t2⟩
    · have lm : lot ∈ L := List.mem_of_getElem? hlot
      obtain ⟨lls, llt⟩ := hl lot lm
      have Ll := Wk.lot lot lls
      have l8 : lot.length ≤ 8 := Nat.le_trans Ll.le w8
      let S : Nat → SP2 := fun j σ H => I D i j σ H ∧ ∃ v, σ[7]? = some (some v) ∧ (tTk (zs lot)).is v Hb
      let I2 : Zs → Nat → SP2 := fun z j σ H => z.2 = (zs W).map V.int ∧ SqT K H z.1 z.2 ∧ S j σ H
      let B2 : Zs → Nat → SP2 := fun z j σ H => ∃ c, W[j]? = some c ∧ I2 z j σ H ∧ σ[8]? = some (some (.int (c : Nat)))
      let Γ1 : Cxt := ((Γ0.set 3 (some (tWD ls ρ))).set 6 (some (tV (.ref D)))).set 7 (some (tTk (zs lot)))
      have env1 : ∀ {j σ H}, S j σ H → Env Γ1 σ H := fun ⟨p, v, e7, hv⟩ => (((p.1.up (hb.trans p.2.1)).put p.2.2.1.1 (τ := tWD ls ρ) ⟨F, rfl, p.2.1 _ _ hDF⟩).put p.2.2.1.2.2 (τ := tV (.ref D)) rfl).put e7 ((tTk _).up p.2.1 hv)
      refine h_for (Γ := Γ1) I2 B2 (by rfl) (g_tup (ts := (zs W).map fun i => tD K (.int i)) (PY.to (yv 2) fun v H hv => by have := tup_of v H hv; rwa [map_ty] at this)) (pg_name (i := 8) nd rfl (Or.inl rfl)) (fun σ H p => env1 ⟨p.1, p.2⟩) (fun z σ H H' p s ⟨z1, z2⟩ => ⟨?_, z1, upI p.1 s, p.2⟩) (fun z j σ H _ p => p.2.1) (fun z j σ H H2 v ltj p s hv => ?_) (fun z j ltj => ?_) (h_end fun σ H ⟨z, p⟩ => ?_) (mono := mono_name)
      · have := AllY.data (ds := (zs W).map .int) (by rw [map_ty]; exact z2)
        exact dpAll_ints this
      · obtain ⟨c, hc⟩ : ∃ c, W[j]? = some c := ⟨_, List.getElem?_eq_getElem (by simpa [zs] using ltj)⟩
        have ev : v = .int (c : Nat) := by
          have hv' : z.2[j]? = some v := hv
          rw [p.1, List.getElem?_map, zs_get hc] at hv'
          exact (Option.some.inj hv').symm
        subst ev
        obtain ⟨pI, u, e7, hu7⟩ := p.2.2
        exact ⟨c, hc, ⟨p.1, Same.seqT s p.2.1, setI rfl (by decide) (by decide) (by decide) (upI pI s), u, by rw [List.getElem?_set_ne (by decide)]; exact e7, hu7⟩, List.getElem?_set_self (by rw [pI.1.len]; show 8 < 10; decide)⟩
      · refine h_ex fun c => h_and fun hc => ?_
        have hcm : c ∈ W := List.mem_of_getElem? hc
        let more := sortC (lot ++ [c])
        let Γ2 : Cxt := Γ1.set 8 (some (tI (c : Nat)))
        let S9 : SP2 := fun σ H => I2 z j σ H ∧ σ[8]? = some (some (.int (c : Nat))) ∧ ∃ v, σ[9]? = some (some v) ∧ (tTk (zs more)).is v H
        refine h_asg (i := 9) (Γ := Γ2) (τ := tTk (zs more)) (M := S9) (y_tupleK (by rfl) T.fTuple (PY.eq (n_sortT (by rfl) (hu16 hr) ordC (lot ++ [c]) (fun _ _ => trivial) (by simp; omega) (by rfl) T.fSorted (PY.eq (y_catT (ds := (zs lot).map .int) (es' := [iN c]) (by simp [zs]; omega) (PY.ofTk (yv 7)) (y_tup (ds := [iN c]) (ya_cons (PY.ofInt (yv 8)) ya_nil) (by show 1 ≤ 100000; decide))) ?_)).y ?_)) (fun σ H ⟨p, e8⟩ => (env1 p.2.2).put e8 rfl) (fun σ H v H' ⟨p, e8⟩ s hv => ?_) ?_ nd
        · show tD K (.tuple _) = _
          unfold zs
          rw [List.map_map, List.map_append]; rfl
        · show tD K (.list _) = _
          show tD K (.list ((sortC (lot ++ [c])).map iN)) = tD K (.list ((zs (sortC (lot ++ [c]))).map .int))
          unfold zs
          rw [List.map_map]; rfl
        · obtain ⟨pI, u, e7, hu7⟩ := p.2.2
          exact ⟨⟨p.1, Same.seqT s p.2.1, setI rfl (by decide) (by decide) (by decide) (upI pI s), u, by rw [List.getElem?_set_ne (by decide)]; exact e7, hu7⟩, by rw [List.getElem?_set_ne (by decide)]; exact e8, v, List.getElem?_set_self (by rw [pI.1.len]; show 9 < 10; decide), hv⟩
        refine h_pre (P' := fun σ H => ∃ (ms : List (List Nat)) (ρ' : List Int → V), (WOk h pl ms ρ' ∧ (∀ m, m ∈ ms → m.length = t + 1) ∧ G i j ms) ∧ (S9 σ H ∧ WD D H ms ρ')) (h_ex fun ms => h_ex fun ρ' => h_and fun ⟨Wm, hlen, hG⟩ => ?_) fun σ H ⟨p, r⟩ => by
          obtain ⟨g, sm, ee, ms, ρ', h1, h2, h3, h4⟩ := p.2.2.1
          exact ⟨ms, ρ', ⟨h2, h3, h4⟩, ⟨p, r⟩, h1⟩
        let Γ4 : Cxt := Γ2.set 9 (some (tTk (zs more)))
        let Γ3 : Cxt := Γ4.set 6 (some (tWD ms ρ'))
        have env4 : ∀ {σ H}, S9 σ H → Env Γ4 σ H := fun ⟨p, e8, v, e9, hv⟩ => ((env1 p.2.2).put e8 (τ := tI (c : Nat)) rfl).put e9 hv
        have env3 : ∀ {σ H}, S9 σ H → WD D H ms ρ' → Env Γ3 σ H := fun p hD => (env4 p).put p.1.2.2.1.2.2.1.2.2 (τ := tWD ms ρ') ⟨D, rfl, hD⟩
        have lW : ∀ cs, (withL h pl cs).length = pl.length := fun cs => by unfold withL; rw [List.length_map, List.length_range]
        have key : L[i]? = some (sortC (od.take t)) → W[j]? = od[t]? → (c ∉ lot ∧ safeB h (withL h pl more) = true) ∧ more = sortC (od.take (t + 1)) := fun hi hj => by
          have e1 : lot = sortC (od.take t) := Option.some.inj (hlot.symm.trans hi)
          have e2 : c = od[t] := Option.some.inj (hc.symm.trans (hj.trans (List.getElem?_eq_getElem tl)))
          obtain ⟨k1, k2⟩ := take_next O.perm tl (O.safe t tl)
          obtain ⟨m1, m2, m3⟩ := mem_steps.mp k1
          show (c ∉ lot ∧ safeB h (withL h pl (sortC (lot ++ [c]))) = true) ∧ sortC (lot ++ [c]) = _
          rw [e1, e2]
          exact ⟨⟨m2, m3⟩, k2⟩
        refine h_if (b := !decide (c ∈ lot) && (decide (more ∈ ms) || safeB h (withL h pl more))) (Γ := Γ3) (t_w (w_and (k := !decide (c ∈ lot)) (PYT.eq ((c_ninT (is := zs lot) (yv 8) (PY.ofTk (yv 7))).tst _) (by rw [decide_eq_decide.mpr mem_zs])) fun _ => w_and1 (t_w (w_or (k := decide (more ∈ ms)) (y_win Wm (by exact hu) (yv 9) (yv 6)) fun _ => w_or1 (PYT.eq ((c_eqD (d := .tuple (lostD h (withL h pl more))) (e := .tuple []) (by exact hr.units) (shaped_lost _ _) (by rfl) (y_call (c_law_lost T) (hr.mono (by decide)) (by rfl) (h, withL h pl more) ⟨ok.sm, by show (withL h pl more).length ≤ 400; rw [lW]; omega⟩ (ya_cons (yv 0) (ya_cons (y_call (c_law_with T) (hr.mono (by decide)) (by rfl) (h, pl, more) ⟨by show pl.length ≤ 400; omega, ok.la⟩ (ya_cons (yv 0) (ya_cons (yv 1) (ya_cons (PY.ofTk (yv 9)) ya_nil)))) ya_nil))) (y_tup (ds := []) ya_nil (by decide))).tst _) (eqv_lost _ _))))))
          (fun σ H p => env3 p.1 p.2) (fun σ H H' ⟨⟨p, e8, v, e9, hv⟩, hD⟩ s => ⟨⟨⟨p.1, Same.seqT s p.2.1, upI p.2.2.1 s, p.2.2.2⟩, e8, v, e9, (tTk _).up s hv⟩, s _ _ hD⟩) (M := I2 z (j + 1)) (fun hb => ?_) (fun hb σ H ⟨⟨p, _⟩, hD⟩ => ⟨p.1, p.2.1, ⟨p.2.2.1.1, p.2.2.1.2.1, p.2.2.1.2.2.1, ms, ρ', hD, Wm, hlen, ?_⟩, p.2.2.2⟩) (h_end fun σ H p => p)
        · have hb1 : c ∉ lot := by
            intro q; rw [decide_eq_true q] at hb; cases hb
          have Lm : Lot h pl more := Ll.add hcm hb1
          have ml : more.length = t + 1 := by
            show (sortC (lot ++ [c])).length = _
            rw [(sortC_perm _).length_eq, List.length_append, llt]; rfl
          refine h_one (L2.ps_dput (by exact hu) (yv 6 (Γ := Γ4)) (yv 9 (Γ := Γ4)) (y_add (y_wget2 Wm (by exact hu) (yv 6 (Γ := Γ3)) (yv 9) y_int ⟨by rfl, by rfl, by rfl, by rfl⟩) (y_wget Wk (by exact hu) lls (yv 3) (yv 7))) (by rfl)) fun Dd σ H ⟨p, hD⟩ m _ => ⟨env3 p hD, fun v H1 s1 hv => ⟨(env4 p).up s1, fun d H2 s2 hd => ⟨(env4 p).up (s1.trans s2), fun y H3 s3 hy => ?_⟩⟩⟩
          have sS := s1.trans (s2.trans s3)
          obtain ⟨H4, d1, d2⟩ := WD.put ok Wm (sS _ _ hD) hy (v := v)
          have n1 : 1 ≤ (if more ∈ ms then nu ρ' (zs more) else 0) + nu ρ (zs lot) := by
            have a1 := (Wk.nu lls).2
            by_cases q : more ∈ ms
            · rw [if_pos q]; have := (Wm.nu q).2; omega
            · rw [if_neg q]; omega
          have ev : v = V.int ((if more ∈ ms then nu ρ' (zs more) else 0) + nu ρ (zs lot)) := hv
          subst ev
          have ed : d = V.ref D := hd
          refine ⟨D, H4, ed, d1, m _ _ ?_⟩
          obtain ⟨⟨p1, p2, pI, p7⟩, _⟩ := p
          refine ⟨p1, ?_, ⟨pI.1, ?_, pI.2.2.1, addk ms more, _, ?_, Wm.put Lm n1, fun l hlm => (addk_mem.mp hlm).elim (hlen l) fun e => by rw [e]; exact ml, fun i' j' hij hi' hj' => ?_⟩, p7⟩
          · rw [d2]
            exact x_seqT (D := D) ⟨_, sS _ _ hD⟩ ((EM.refl H3).own List.mem_cons_self) (Same.seqT sS p2)
          · rw [d2]; exact Same.mut (pI.2.1.trans sS) hDn
          · rw [d2]
            show upd H3 D _ D = _
            rw [upd_same]
          · by_cases q : i' = i ∧ j' = j
            · obtain ⟨rfl, rfl⟩ := q
              rw [← (key hi' hj').2]
              exact addk_mem.mpr (.inr rfl)
            · exact addk_mem.mpr (.inl (hG i' j' (by omega) hi' hj'))
        · intro i' j' hij hi' hj'
          by_cases q : i' = i ∧ j' = j
          · obtain ⟨rfl, rfl⟩ := q
            obtain ⟨⟨k1, k2⟩, _⟩ := key hi' hj'
            rw [decide_eq_false k1, k2, Bool.or_true] at hb
            cases hb
          · exact hG i' j' (by omega) hi' hj'
      · obtain ⟨z1, z2, pI, _⟩ := p
        obtain ⟨g, sm, ee, ms, ρ', h1, h2, h3, h4⟩ := pI
        refine ⟨g, sm, ee, ms, ρ', h1, h2, h3, fun i' j' hij hi' hj' => ?_⟩
        have j'l : j' < W.length := by
          rw [List.getElem?_eq_getElem tl] at hj'
          exact (List.getElem?_eq_some_iff.mp hj').1
        refine h4 i' j' ?_ hi' hj'
        have ez : ((zs W).map fun i => tD K (.int i)).length = W.length := by rw [List.length_map, zs_len]
        rcases hij with q | ⟨q, r⟩
        · by_cases e : i' = i
          · exact .inr ⟨e, by rw [ez]; exact j'l⟩
          · exact .inl (by omega)
        · omega
    · -- here = sorted(later); found.update(later)
      refine h_asgE (i := 4) (pe_sortW (Γ := Γ0.set 6 (some (tV (.ref D)))) (by rfl) (hu16 hr) (by rfl) T.fSorted (yv 6)) (M := fun σ H => ∃ (B' : Addr) (L' : List (List Nat)) (ys : List V) (ms : List (List Nat)) (ρ' : List Int → V), Env Γ0 σ Hw ∧ Same Hb H ∧ (σ[3]? = some (some (.ref F)) ∧ σ[4]? = some (some (.ref B')) ∧ σ[6]? = some (some (.ref D))) ∧ H B' = some (.lst ys) ∧ AllY (L'.map fun l => tTk (zs l)) ys H ∧ L'.Perm ms ∧ WD D H ms ρ' ∧ WOk h pl ms ρ' ∧ (∀ m, m ∈ ms → m.length = t + 1) ∧ sortC (od.take (t + 1)) ∈ ms) (fun σ H Q p k => ?_) ?_ nd
      · obtain ⟨g, sm, ee, ms, ρ', h1, h2, h3, h4⟩ := p
        refine ⟨(g.up (hb.trans sm)).put ee.2.2 rfl, ms, ρ', h1, fun l hl e => ?_, Nat.le_trans (h2.few ok) (by decide), fun p ys L' H' f s hp pm hy => k _ _ ⟨p, L', ys, ms, ρ', g.keep rfl, sm.trans s, ⟨by rw [List.getElem?_set_ne (by decide)]; exact ee.1, List.getElem?_set_self (by rw [g.len]; show 4 < 10; decide), by rw [List.getElem?_set_ne (by decide)]; exact ee.2.2⟩, hp, hy, pm, s _ _ h1, h2, h3, ?_⟩⟩
        · have := h3 l hl; rw [e] at this; cases this
        · obtain ⟨i', hi', e'⟩ := List.getElem_of_mem tg
          have hm : od[t] ∈ W := O.perm.mem_iff.mp (List.getElem_mem tl)
          obtain ⟨j', hj', e2⟩ := List.getElem_of_mem hm
          exact h4 i' j' (.inl (by rw [xl]; exact hi')) (by rw [List.getElem?_eq_getElem hi', e']) (by rw [List.getElem?_eq_getElem hj', e2, List.getElem?_eq_getElem tl])
      · refine h_exprE (pe_bm PySem.F.plainAttrs_dict PySem.F.slot_dict_update PySem.F.type_dict_update (mt_updT (by exact Nat.lt_of_le_of_lt (Nat.add_le_add_left (by decide : 2 ≤ 64) _) hr.units)) (yv 3 (Γ := (Γ0.set 3 (some (tV (.ref F)))).set 6 (some (tV (.ref D))))) (ya_cons (yv 6 (Γ := (Γ0.set 3 (some (tV (.ref F)))).set 6 (some (tV (.ref D))))) ya_nil)) (M := St (t + 1)) (fun σ H Q p k => ?_) (h_end fun σ H p => p)
        obtain ⟨B', L', ys, ms, ρ', g, sm, ee, hB', hy, pm, hD, Wm, hlen, htg⟩ := p
        have ge := ((g.up (hb.trans sm)).put ee.1 (τ := tV (.ref F)) rfl).put ee.2.2 (τ := tV (.ref D)) rfl
        refine ⟨ge, fun x H1 s1 hx' => ⟨?_, ge.up s1, fun vs H2 s2 hvs => ?_⟩⟩
        · have ex : x = V.ref F := hx'
          subst ex
          exact .inr (.inr (.inl ⟨rfl, .inr ⟨_, s1 _ _ (sm _ _ hDF)⟩⟩))
        · have ex : x = V.ref F := hx'
          obtain ⟨b2, rfl, eb⟩ := all1 hvs
          have eb2 : b2 = V.ref D := eb
          subst eb2
          have sS := sm.trans (s1.trans s2)
          have hF2 : WD F H2 ls ρ := sS _ _ hDF
          have hD2 : WD D H2 ms ρ' := s2 _ _ (s1 _ _ hD)
          obtain ⟨ρ2, em, W2⟩ := Wk.merge Wm
          have few1 := Wk.few ok
          have few2 := Wm.few ok
          have lne : ls ≠ [] := fun e => by have := (hl _ tg).1; rw [e] at this; cases this
          have e4 : EM [F] H2 (upd H2 F (.dT (mergeT (dkg kkT.f (ls.map zs) ρ) (dkg kkT.f (ms.map zs) ρ')))) := (EM.refl H2).own List.mem_cons_self
          refine ⟨F, D, _, _, ex, rfl, fun e => ?_, hF2, hD2, fun e => lne ?_, ?_, k _ _ ⟨B', L', ys, adds ls ms, ρ2, g, Same.mut (hb.trans sS) hF, ⟨ee.1, ee.2.1⟩, ?_, ?_, ?_, W2, fun l hlm => ⟨adds_mem.mpr (.inr (pm.mem_iff.mp hlm)), hlen l (pm.mem_iff.mp hlm)⟩, pm.mem_iff.mpr htg⟩⟩
          · rw [← e] at hDn
            have z := hDn.symm.trans hDF
            cases z
          · have := congrArg List.length e
            rw [dkg_len, List.length_map] at this
            exact List.eq_nil_of_length_eq_zero this
          · rw [dkg_len, dkg_len, List.length_map, List.length_map]; omega
          · rw [upd_ne fun e => by have := s2 _ _ (s1 _ _ hB'); rw [e, hF2] at this; cases this]
            exact s2 _ _ (s1 _ _ hB')
          · exact all_em ⟨_, hF2⟩ e4 (AllY.up (s1.trans s2) hy)
          · show upd H2 F _ F = _
            rw [upd_same, em]
  · refine h_ex fun _ => h_retY (Γ := Γ0.set 3 (some (tWays h pl))) (yv 3) (fun σ H ⟨B, L, xs, ls, ρ, g, sm, ee, hB, hx, hD, Wk, hl, tg⟩ => (g.up sm).put ee.1 ⟨ls, ρ, ⟨F, rfl, hD⟩, Wk, ?_⟩) fun σ H v H' ⟨B, L, xs, ls, ρ, g, sm, _⟩ s hv => q v H' (hw.trans (sm.trans s)) hv
    have e1 := (hl _ tg).1
    rw [List.take_of_length_le (by rw [ol]; exact Nat.le_refl _), sort_ord O] at e1
    exact e1
end
end Lp
/-! LpW4 -/
namespace Lp
open PySem PySem.Spec PyProof.Rows L2
/-- a number that is at least 1 -/
def tPos : Ty := ⟨fun v _ => ∃ n : Int, 1 ≤ n ∧ v = .int n, fun _ h => h⟩
section
variable {P : Program} {w : World} {K : PySem.W.Frag} {mg : Str → Option Value} {base : Heap}
theorem c_law_wantedK (T : Tp K mg) : Callee P w K mg base "_law_wanted" 1 ["_law_history_here", "_law_plates"] (SpY (fun z : Hs × List Int => [tD K (dHis z.1), tD K (dI z.2)]) (fun z => z.2.length ≤ 400 ∧ z.2.length ≤ z.1.la.length) fun z => tTk (zs (wanted z.1 z.2))) := by
  obtain ⟨fd, F, b⟩ := T.defLawWanted
  refine ⟨_, fd, fnY F scLawWanted (fun _ => rfl) (fun _ => none) (fun _ _ h => by cases h) fun ⟨h, pl⟩ ⟨few, hl⟩ cdv A outer s H E hr => ?_, T.gLawWanted, F.kp, b⟩
  have nd := scLawWanted.nd
  have few : pl.length ≤ 400 := few
  have hl : pl.length ≤ h.la.length := hl
  refine s_ret (y_tupleK (by rfl) T.fTuple (PY.eq (y_lc2 2 3 pl.zipIdx (fun x => tI ((x.2 : Nat) : Int)) (fun x => tD K (.int x.1)) (fun x => !decide (x.1 = h.la.getD x.2 0)) (fun x => iN x.2) (by rw [List.length_zipIdx]; omega) (fun _ _ => rfl) (by rfl) nd (i_enumTM (by rfl) T.fEnumerate (yv 1))
    (blkOk_by (N := ["_law_history_here", "_law_plates", "_law_cell", "_law_version"]) (sc := defScope sLawWanted) (by decide +kernel)) rfl rfl (by rfl) (by rfl) (fun x hx _ _ _ _ _ => ts_one ((c_neI (PY.int (yv 3)) (PY.int (y_ixL (hla_at (Nat.lt_of_lt_of_le (List.getElem?_eq_some_iff.mp (zip_at hx)).1 hl)) (y_ixT (ds := [dLi (zs h.wr), dRd h.rd, dLi h.la]) (j := 2) rfl (yv 0) y_int) (yv 2)))).tst _)) (fun x hx _ _ _ _ _ _ => PY.ofInt (yv 2))) ?_)) rfl
  show tD K (.list _) = tD K (.list ((zs (wanted h pl)).map .int))
  rw [← wanted_eq]
  unfold zs
  rw [List.map_map, List.map_map]; rfl
theorem c_law_many_ways (T : Tp K mg) : Callee P w K mg base "_law_many_ways" 4 ["_law_history_here", "_law_plates"] (SpY (fun z : Hs × List Int × List Nat => [tD K (dHis z.1), tD K (dI z.2.1)]) (fun z => LayOk z.1 z.2.1 ∧ Order z.1 z.2.1 z.2.2) fun _ => tPos) := by
  obtain ⟨fd, F, b⟩ := T.defLawManyWays
  refine ⟨_, fd, fnY F scLawManyWays (fun _ => rfl) (fun _ => none) (fun _ _ h => by cases h) fun ⟨h, pl, od⟩ ⟨ok, O⟩ cdv A outer s H E hr => ?_, T.gLawManyWays, F.kp, b⟩
  have ok : LayOk h pl := ok
  have O : Order h pl od := O
  have hu := hu_of hr
  have p8 := ok.p8
  exact s_ret (τ := tPos) (PE.imp (pe_dget2 (by exact hu) (y_call (c_law_ways T) hr (by rfl) (h, pl, od) ⟨ok, O⟩ (ya_cons (yv 0) (ya_cons (yv 1) ya_nil))) (y_call (c_law_wantedK T) (hr.mono (by decide)) (by rfl) (h, pl) ⟨by show pl.length ≤ 400; omega, ok.la⟩ (ya_cons (yv 0) (ya_cons (yv 1) ya_nil))) y_int ⟨by rfl, by rfl, by rfl, by rfl⟩) fun σ H Q ⟨g, q⟩ => ⟨g, fun x H1 s1 ⟨ls, ρ, ⟨D, ex, hD⟩, W, hw⟩ => ⟨D, ex, .inr ⟨_, .inl hD⟩, g.up s1, fun y H2 s2 hy => ⟨g.up (s1.trans s2), fun z H3 s3 hz => by
    have hy' : (tTk (zs (wanted h pl))).is y H2 := hy
    refine ⟨_, kkT.get (k := zs (wanted h pl)) ((tTk _).up s3 hy') (s3 _ _ (s2 _ _ hD)), q _ H3 (s1.trans (s2.trans s3)) ?_⟩
    rw [WD.get (D := D) (H := H3) (s3 _ _ (s2 _ _ hD)), if_pos hw]
    exact ⟨_, (W.nu hw).2, (W.nu hw).1⟩⟩⟩⟩) rfl
end
end Lp
/-! LpH1 -/
/-! The hand: a list that changes at each draw. -/
namespace Lp
open PySem PySem.Spec PyProof.Rows L2
abbrev HZ := Nat × Int × Int × Int
structure Hand (A C : Addr) (cs : List Int) (z : HZ) (H : Hp) : Prop where
  a : H A = some (.lst [.ref C, .int (z.1 : Nat), .int z.2.1, .int z.2.2.1, .int z.2.2.2])
  c : H C = some (.lst (cs.map V.int))
  le : z.1 ≤ cs.length
def HandOk (A C : Addr) (cs : List Int) (H : Hp) : Prop := ∃ z, Hand A C cs z H
section
variable {A C L : Addr} {cs ns : List Int} {z : HZ} {H H' : Hp} {M : List Addr}
theorem ref_no {l : List Int} {C : Addr} {vs : List V} (h : l.map V.int = V.ref C :: vs) : False := by
  cases l with
  | nil => simp at h
  | cons x l => simp at h
theorem Hand.up (h : Hand A C cs z H) (s : Same H H') : Hand A C cs z H' := ⟨s _ _ h.a, s _ _ h.c, h.le⟩
theorem Hand.em (h : Hand A C cs z H) (s : EM M H H') (nA : A ∉ M) (nC : C ∉ M) : Hand A C cs z H' := ⟨s _ _ nA h.a, s _ _ nC h.c, h.le⟩
theorem Hand.apart (h : Hand A C cs z H) (hL : H L = some (.lst (ns.map V.int))) : L ≠ A := fun e => by
  rw [e, h.a] at hL
  exact ref_no (HO.lst.inj (Option.some.inj hL)).symm
theorem Hand.ne (h : Hand A C cs z H) : C ≠ A := h.apart h.c
theorem Hand.upd {z' : HZ} {vs : List V} (h : Hand A C cs z H) (e : vs = [.ref C, .int (z'.1 : Nat), .int z'.2.1, .int z'.2.2.1, .int z'.2.2.2]) (le : z'.1 ≤ cs.length) : Hand A C cs z' (upd H A (.lst vs)) :=
  ⟨by rw [upd_same, e], by rw [upd_ne h.ne]; exact h.c, le⟩
theorem HandOk.up (h : HandOk A C cs H) (s : Same H H') : HandOk A C cs H' := let ⟨z, k⟩ := h; ⟨z, k.up s⟩
theorem HandOk.em (h : HandOk A C cs H) (s : EM M H H') (nA : A ∉ M) (nC : C ∉ M) : HandOk A C cs H' := let ⟨z, k⟩ := h; ⟨z, k.em s nA nC⟩
theorem HandOk.no (h : HandOk A C cs H) : NoTup H A := let ⟨_, k⟩ := h; ⟨_, k.a, fun xs z => (by cases z), fun ob xs z => (by cases z)⟩
theorem HandOk.no1 (h : HandOk A C cs H) : ∀ m, m ∈ [A] → NoTup H m := fun m hm => by rw [List.mem_singleton.mp hm]; exact h.no
theorem HandOk.apart (h : HandOk A C cs H) (hL : H L = some (.lst (ns.map V.int))) : L ≠ A := let ⟨_, k⟩ := h; k.apart hL
theorem HandOk.ne (h : HandOk A C cs H) : C ≠ A := let ⟨_, k⟩ := h; k.ne
theorem HandOk.isA (h : HandOk A C cs H) : H A ≠ none := fun e => let ⟨_, k⟩ := h; by rw [k.a] at e; cases e
theorem HandOk.isC (h : HandOk A C cs H) : H C ≠ none := fun e => let ⟨_, k⟩ := h; by rw [k.c] at e; cases e
end
/-- what stays when the objects of M change, no tuple among them -/
def Rm (M : List Addr) (H H' : Hp) : Prop := EM M H H' ∧ ∀ m, m ∈ M → NoTup H m
inductive StE (R : Hp → Hp → Prop) : Cxt → Prop
  | nil : StE R []
  | no {Γ : Cxt} : StE R Γ → StE R (none :: Γ)
  | so {τ : Ty} {Γ : Cxt} : (∀ v H H', R H H' → τ.is v H → τ.is v H') → StE R Γ → StE R (some τ :: Γ)
theorem StE.at_ {R : Hp → Hp → Prop} : ∀ {Γ : Cxt}, StE R Γ → ∀ (i : Nat) (τ : Ty), Γ[i]? = some (some τ) → ∀ v H H', R H H' → τ.is v H → τ.is v H'
  | _, .nil, i, τ, h => by simp at h
  | _, .no s, 0, τ, h => by simp at h
  | _, .no s, i + 1, τ, h => s.at_ i τ (by simpa using h)
  | _, .so q s, 0, τ, h => by simp at h; subst h; exact q
  | _, .so q s, i + 1, τ, h => s.at_ i τ (by simpa using h)
theorem Env.st {R : Hp → Hp → Prop} {Γ : Cxt} {σ : L2.St} {H H' : Hp} (g : Env Γ σ H) (s : StE R Γ) (r : R H H') : Env Γ σ H' := ⟨g.len, fun i τ hi => by
  obtain ⟨v, h1, h2⟩ := g.at_ i τ hi
  exact ⟨v, h1, s.at_ i τ hi v H H' r h2⟩⟩
/-- a list of whole numbers that is none of M -/
def tLT (M : List Addr) (ns : List Int) : Ty := ⟨fun v H => ∃ a, v = .ref a ∧ H a = some (.lst (ns.map V.int)) ∧ a ∉ M, fun e ⟨a, h1, h2, h3⟩ => ⟨a, h1, e _ _ h2, h3⟩⟩
theorem st_v {R : Hp → Hp → Prop} {u : V} : ∀ v H H', R H H' → (tV u).is v H → (tV u).is v H' := fun _ _ _ _ q => q
theorem st_l {M : List Addr} {ns : List Int} : ∀ v H H', Rm M H H' → (tLT M ns).is v H → (tLT M ns).is v H' := fun _ _ _ r ⟨a, h1, h2, h3⟩ => ⟨a, h1, r.1 _ _ h3 h2, h3⟩
theorem st_d {K : PySem.W.Frag} {M : List Addr} {d : PyData} (h : fz d = true) : ∀ v H H', Rm M H H' → (tD K d).is v H → (tD K d).is v H' := fun _ _ _ r q => Dp.fz (r.1.tupK r.2) h q
theorem lt_data {K : PySem.W.Frag} {M : List Addr} {ns : List Int} : ∀ v H, (tLT M ns).is v H → (tD K (dLi ns)).is v H := fun v H ⟨a, h1, h2, h3⟩ => by rw [h1]; exact .lst (SqL.of h2) (ints_dpAll ns)
theorem lt_grow {M : List Addr} {ns : List Int} {r : Addr} {v : V} {H : Hp} (h : (tLT M ns).is v H) (n : H r = none) : (tLT (r :: M) ns).is v H := by
  obtain ⟨a, h1, h2, h3⟩ := h
  exact ⟨a, h1, h2, fun m => by
    rcases List.mem_cons.mp m with e | m
    · rw [e, n] at h2; cases h2
    · exact h3 m⟩
theorem lt_less {M M' : List Addr} {ns : List Int} {v : V} {H : Hp} (h : (tLT M ns).is v H) (q : ∀ a, a ∈ M' → a ∈ M) : (tLT M' ns).is v H := by
  obtain ⟨a, h1, h2, h3⟩ := h
  exact ⟨a, h1, h2, fun m => h3 (q a m)⟩
section
variable {X : Cx} {Γ Γ' : Cxt} {τ τ' : Ty} {e a b c it : Expr} {pos p p1 p2 px : Pos} {es : List Expr} {τs : List Ty} {ss rest body : List Stmt} {st : Stmt} {P M N : SP2} {R : V → Hp → Prop}
theorem y_intc {i : Int} (hg : Gl X "int") (hm : X.mg "int" = none) (h : PY X e Γ (tI i)) (hs : starEach [e] X.env = (false, eval e X.env) :: starEach [] X.env := by rfl) : PY X (.Call (.Name "int" p) [e] [] pos) Γ (tI i) :=
  y_ty (x := "int") call_int1 hg hm (by decide +kernel) (ya_cons h ya_nil hs) (he := hs) fun vs H Q hvs k => by
    obtain ⟨v, rfl, hv⟩ := all1 hvs
    exact .inl ⟨i, by rw [show v = V.int i from hv], k _ H (Same.refl H) rfl⟩
theorem y_mul {i j : Int} (hm : CMul i j) (ha : PY X a Γ (tI i)) (hb : PY X b Γ (tI j)) : PY X (.BinOp a .Mult b pos) Γ (tI (i * j)) := y_op op_mul ha hb fun x y H Q hx hy k => ⟨i, j, hx, hy, hm, k _ H (Same.refl H) rfl⟩
theorem y_mod {i j : Int} (hm : 0 < j) (ha : PY X a Γ (tI i)) (hb : PY X b Γ (tI j)) : PY X (.BinOp a .Mod b pos) Γ (tI (i % j)) := y_op op_mod ha hb fun x y H Q hx hy k => ⟨i, j, hx, hy, hm, k _ H (Same.refl H) rfl⟩
theorem y_fdiv {i j : Int} (hm : CDiv i j) (ha : PY X a Γ (tI i)) (hb : PY X b Γ (tI j)) : PY X (.BinOp a .FloorDiv b pos) Γ (tI (i / j)) := y_op op_fdiv ha hb fun x y H Q hx hy k => ⟨i, j, hx, hy, hm, k _ H (Same.refl H) rfl⟩
theorem y_pow {i j : Int} (hm : CPow i j) (ha : PY X a Γ (tI i)) (hb : PY X b Γ (tI j)) : PY X (.BinOp a .Pow b pos) Γ (tI (i ^ j.toNat)) := y_op op_pow ha hb fun x y H Q hx hy k => ⟨i, j, hx, hy, hm, k _ H (Same.refl H) rfl⟩
/-- l[j] = e -/
theorem h_store {x : Str} {i0 k j : Nat} {l : Addr} (h : PY X e Γ τ) (ge : ∀ σ H, P σ H → Env Γ σ H) (q : ∀ σ H, P σ H → σ[i0]? = some (some (.ref l)) ∧ ∃ xs, H l = some (.lst xs) ∧ j < xs.length ∧ ∀ v H', Same H H' → τ.is v H' → M σ (upd H' l (.lst (xs.set j v)))) (hr : HT X rest M N R)
    (ho : PE X (.Name x px) (tVar i0) := by exact t_var) (hs : swapsWithSole [.Subscript (.Name x px) (.Constant (.int (j : Int)) k p1) p2] e pos.line X.env = pure false := by rfl) (hw : swappedStores [.Subscript (.Name x px) (.Constant (.int (j : Int)) k p1) p2] e X.env = pure none := by rfl) (h1 : (assignEach [.Subscript (.Name x px) (.Constant (.int (j : Int)) k p1) p2] X.env).map (fun x => x.snd) = [assign (.Subscript (.Name x px) (.Constant (.int (j : Int)) k p1) p2) X.env] := by rfl) : HT X (.Assign [.Subscript (.Name x px) (.Constant (.int (j : Int)) k p1) p2] e pos :: rest) P N R :=
  h_by (ps_asg h (pg_sub ho pe_int set_list) hs hw h1) (fun D σ H p m _ => ⟨ge _ _ p, fun v H1 s hv => by
    obtain ⟨e0, xs, hl, lt, k⟩ := q _ _ p
    exact ⟨_, e0, l, xs, (j : Int), j, rfl, rfl, s _ _ hl, by unfold ixN; rw [if_pos (by omega), if_pos (by omega)]; rfl, m _ _ (k v H1 s hv)⟩⟩) hr
end
def SpDraw : Sp := fun vs H Q _ => ∃ (A C : Addr) (cs : List Int) (m : Nat), vs = [.ref A, .int (m : Nat)] ∧ HandOk A C cs H ∧ 0 < m ∧ m ≤ 1000 ∧ ∀ (r : Nat) H', r < m → EM [A] H H' → HandOk A C cs H' → Q (.int (r : Nat)) H'
section
variable {P : Program} {w : World} {K : PySem.W.Frag} {mg : Str → Option Value} {base : Heap}
theorem md_nat (i : Int) {m : Nat} (h : 0 < m) : ∃ r : Nat, r < m ∧ i % (m : Int) = (r : Int) := by
  have h1 : 0 ≤ i % (m : Int) := Int.emod_nonneg _ (by omega)
  have h2 : i % (m : Int) < (m : Int) := Int.emod_lt_of_pos _ (by omega)
  exact ⟨(i % (m : Int)).toNat, by omega, by omega⟩
theorem c_law_draw (T : Tp K mg) : Callee P w K mg base "_law_draw" 1 ["_law_hand_here", "_law_many"] SpDraw := by
  obtain ⟨fd, F, b⟩ := T.defLawDraw
  refine ⟨_, fd, fnH F scLawDraw (fun vs H Q E ⟨A, C, cs, m, e, _⟩ => by rw [e]; rfl) fun vs H0 Q E hsp cdv Ar outer s hr => ?_, T.gLawDraw, F.kp, b⟩
  obtain ⟨A, C, cs, m, rfl, ⟨z0, h0⟩, m0, m1, q⟩ := hsp
  have nd := scLawDraw.nd
  let hd : HZ → List PyData := fun z => [dLi cs, .int (z.1 : Nat), .int z.2.1, .int z.2.2.1, .int z.2.2.2]
  let Γ0 : Cxt := [some (tV (.ref A)), some (tI (m : Int)), none, none, none]
  let Γh : HZ → Cxt := fun z => [some (tD K (.list (hd z))), some (tI (m : Int)), none, none, none]
  let S : HZ → SP2 := fun z σ H => Env Γ0 σ H ∧ EM [A] H0 H ∧ Hand A C cs z H
  have flat : ∀ {σ H H'}, Env Γ0 σ H → Env Γ0 σ H' := fun g => g.st (R := fun _ _ => True) (.so st_v (.so st_v (.no (.no (.no .nil))))) trivial
  have slot0 : ∀ {σ H}, Env Γ0 σ H → σ[0]? = some (some (.ref A)) := fun g => by
    obtain ⟨v, h1, h2⟩ := g.at_ 0 _ rfl
    rw [h1, show v = V.ref A from h2]
  have envS : ∀ {z σ H}, S z σ H → Env (Γh z) σ H := fun ⟨g, _, h⟩ => g.put (i := 0) (slot0 g) (.lst (SqL.of h.a) (.cons (.lst (SqL.of h.c) (ints_dpAll cs)) (.cons (.int _) (.cons (.int _) (.cons (.int _) (.cons (.int _) .nil))))))
  have upS : ∀ {z σ H H'}, S z σ H → Same H H' → S z σ H' := fun ⟨g, e, h⟩ s => ⟨g.up s, e.trans (EM.same s), h.up s⟩
  have slotS : ∀ {z σ H} {i : Nat} {a : Option V}, S z σ H → Γ0[i]? = some none → S z (σ.set i a) H := fun ⟨g, e, h⟩ hi => ⟨g.keep hi, e, h⟩
  have putS : ∀ {z z' : HZ} {σ H H' vs}, S z σ H → Same H H' → vs = [.ref C, .int (z'.1 : Nat), .int z'.2.1, .int z'.2.2.1, .int z'.2.2.2] → z'.1 ≤ cs.length → S z' σ (upd H' A (.lst vs)) := fun ⟨g, e, h⟩ s ev le => ⟨flat g, (e.trans (EM.same s)).own List.mem_cons_self, (h.up s).upd ev le⟩
  refine ⟨fun σ H => ∃ z, S z σ H, ⟨z0, env_start (N := ["_law_hand_here", "_law_many", "_law_cell", "_law_digit", "_law_number"]) (AllY.cons (τ := tV (.ref A)) rfl (AllY.cons (τ := tI (m : Int)) rfl .nil)), EM.refl _, h0⟩, ?_⟩
  refine h_ex fun z => ?_
  obtain ⟨p, big, mix, n⟩ := z
  refine h_if (b := decide (big = 0) && decide ((p : Int) < ((cs.map PyData.int).length : Int))) (Γ := Γh (p, big, mix, n)) (M := fun σ H => ∃ z, S z σ H) (t_w (w_and ((c_eqI (PY.int (y_ixL (ds := hd (p, big, mix, n)) (j := 2) rfl (yv 0) y_int)) y_int).tst _) fun _ => w_and1 ((c_lt (PY.int (y_ixL (ds := hd (p, big, mix, n)) (j := 1) rfl (yv 0) y_int)) (y_lenL (ds := cs.map .int) (by rfl) T.fLen (y_ixL (ds := hd (p, big, mix, n)) (j := 0) rfl (yv 0) y_int))).tst _))) (fun σ H p => envS p) (fun σ H H' p s => upS p s) (fun hb => ?_) (fun _ σ H p => ⟨_, p⟩) ?_
  · have hp : p < cs.length := by
      rw [Bool.and_eq_true, decide_eq_true_eq, decide_eq_true_eq, List.length_map] at hb
      omega
    let c := cs.getD p 0
    let S2 : HZ → SP2 := fun z σ H => S z σ H ∧ σ[2]? = some (some (.int c))
    have env2 : ∀ {z σ H}, S2 z σ H → Env ((Γh z).set 2 (some (tI c))) σ H := fun ⟨p, e⟩ => (envS p).put e rfl
    refine h_asg (i := 2) (Γ := Γh (p, big, mix, n)) (τ := tI c) (PY.int (y_ixL (ds := cs.map .int) (j := p) (hla_at (h := ⟨[], [], cs⟩) hp) (y_ixL (ds := hd (p, big, mix, n)) (j := 0) rfl (yv 0) y_int) (PY.int (y_ixL (ds := hd (p, big, mix, n)) (j := 1) rfl (yv 0) y_int)))) (fun σ H p => envS p) (M := S2 (p, big, mix, n)) (fun σ H v H' p s hv => ⟨slotS (upS p s) rfl, ?_⟩) ?_ nd
    · rw [show v = V.int c from hv]
      exact List.getElem?_set_self (by rw [p.1.len]; show 2 < 5; decide)
    refine h_store (j := 1) (i0 := 0) (l := A) (Γ := Γh (p, big, mix, n)) (τ := tI ((p : Int) + 1)) (y_add (PY.int (y_ixL (ds := hd (p, big, mix, n)) (j := 1) rfl (yv 0) y_int)) y_int) (fun σ H p => envS p.1) (M := S2 (p + 1, big, mix, n)) (fun σ H ⟨p, e⟩ => ⟨slot0 p.1, _, p.2.2.a, by show 1 < 5; decide, fun v H' s hv => ⟨putS p s ?_ hp, e⟩⟩) ?_
    · rw [show v = V.int _ from hv]; rfl
    refine h_store (j := 3) (i0 := 0) (l := A) (Γ := (Γh (p + 1, big, mix, n)).set 2 (some (tI c))) (τ := tI ((mix * 69621 + c + 11) % 2147483629)) (y_mod (by decide) (y_intc (by rfl) T.fInt (y_add (y_add (y_mul (.inr ⟨by decide, by decide⟩) (PY.int (y_ixL (ds := hd (p + 1, big, mix, n)) (j := 3) rfl (yv 0) y_int)) y_int) (yv 2)) y_int)) y_int) (fun σ H p => env2 p) (M := S2 (p + 1, big, (mix * 69621 + c + 11) % 2147483629, n)) (fun σ H ⟨p, e⟩ => ⟨slot0 p.1, _, p.2.2.a, by show 3 < 5; decide, fun v H' s hv => ⟨putS p s ?_ hp, e⟩⟩) ?_
    · rw [show v = V.int _ from hv]; rfl
    refine h_if (b := decide ((10 : Int) ^ (18 : Int).toNat ≤ c)) (Γ := (Γh (p + 1, big, (mix * 69621 + c + 11) % 2147483629, n)).set 2 (some (tI c))) (M := fun σ H => ∃ z, S z σ H) ((c_ge (yv 2) (y_pow ⟨by decide, by decide, by decide⟩ y_int y_int)).tst _) (fun σ H p => env2 p) (fun σ H H' p s => ⟨upS p.1 s, p.2⟩) (fun _ => ?_) (fun _ σ H p => ⟨_, p.1⟩) (h_end fun σ H p => p)
    refine h_store (j := 2) (i0 := 0) (l := A) (Γ := (Γh (p + 1, big, (mix * 69621 + c + 11) % 2147483629, n)).set 2 (some (tI c))) (τ := tI c) (yv 2) (fun σ H p => env2 p) (M := fun σ H => ∃ z, S z σ H) (fun σ H ⟨pp, e⟩ => ⟨slot0 pp.1, _, pp.2.2.a, by show 2 < 5; decide, fun v H' s hv => ⟨(p + 1, c, (mix * 69621 + c + 11) % 2147483629, n), putS pp s ?_ hp⟩⟩) (h_end fun σ H p => p)
    rw [show v = V.int _ from hv]; rfl
  refine h_ex fun z => ?_
  obtain ⟨p, big, mix, n⟩ := z
  refine h_ifR (b := decide (0 < big)) (Γ := Γh (p, big, mix, n)) ((c_gt (PY.int (y_ixL (ds := hd (p, big, mix, n)) (j := 2) rfl (yv 0) y_int)) y_int).tst _) (fun σ H p => envS p) (fun σ H H' p s => upS p s) (fun _ => ?_) fun _ => ?_
  · obtain ⟨r, r1, r2⟩ := md_nat big m0
    refine h_asg (i := 3) (Γ := Γh (p, big, mix, n)) (τ := tI (r : Nat)) (PY.eq (y_mod (by omega) (y_intc (by rfl) T.fInt (PY.int (y_ixL (ds := hd (p, big, mix, n)) (j := 2) rfl (yv 0) y_int))) (yv 1)) (congrArg tI r2)) (fun σ H p => envS p) (M := fun σ H => S (p, big, mix, n) σ H ∧ σ[3]? = some (some (.int (r : Nat)))) (fun σ H v H' p s hv => ⟨slotS (upS p s) rfl, ?_⟩) ?_ nd
    · rw [show v = V.int _ from hv]
      exact List.getElem?_set_self (by rw [p.1.len]; show 3 < 5; decide)
    refine h_store (j := 2) (i0 := 0) (l := A) (Γ := Γh (p, big, mix, n)) (τ := tI (big / (m : Int))) (y_fdiv ⟨by omega, by omega⟩ (PY.int (y_ixL (ds := hd (p, big, mix, n)) (j := 2) rfl (yv 0) y_int)) (yv 1)) (fun σ H p => envS p.1) (M := fun σ H => S (p, big / (m : Int), mix, n) σ H ∧ σ[3]? = some (some (.int (r : Nat)))) (fun σ H ⟨p, e⟩ => ⟨slot0 p.1, _, p.2.2.a, by show 2 < 5; decide, fun v H' s hv => ⟨putS p s ?_ p.2.2.le, e⟩⟩) ?_
    · rw [show v = V.int _ from hv]; rfl
    refine h_retY (Γ := Γ0.set 3 (some (tI (r : Nat)))) (yv 3) (fun σ H p => p.1.1.put p.2 rfl) fun σ H v H' p s hv => ?_
    rw [show v = V.int _ from hv]
    have := upS p.1 s
    exact q r H' r1 this.2.1 ⟨_, this.2.2⟩
  refine h_store (j := 4) (i0 := 0) (l := A) (Γ := Γh (p, big, mix, n)) (τ := tI (n + 1)) (y_add (PY.int (y_ixL (ds := hd (p, big, mix, n)) (j := 4) rfl (yv 0) y_int)) y_int) (fun σ H p => envS p) (M := S (p, big, mix, n + 1)) (fun σ H p => ⟨slot0 p.1, _, p.2.2.a, by show 4 < 5; decide, fun v H' s hv => putS p s ?_ p.2.2.le⟩) ?_
  · rw [show v = V.int _ from hv]; rfl
  let S4 : SP2 := fun σ H => ∃ k : { k : Int // 0 ≤ k ∧ k < 2147483648 }, S (p, big, mix, n + 1) σ H ∧ σ[4]? = some (some (.int k.1))
  have mk4 : ∀ {σ H H' v} {i j : Int}, S (p, big, mix, n + 1) σ H → Same H H' → v = V.int (i % j) → 0 < j → j < 2147483648 → S4 (σ.set 4 (some v)) H' := fun {σ H H' v i j} p s e j0 j1 => by
    refine ⟨⟨i % j, Int.emod_nonneg _ (by omega), ?_⟩, slotS (upS p s) rfl, ?_⟩
    · have := Int.emod_lt_of_pos i j0
      omega
    · rw [e]
      exact List.getElem?_set_self (by rw [p.1.len]; show 4 < 5; decide)
  refine h_asg (i := 4) (Γ := Γh (p, big, mix, n + 1)) (τ := tI (((mix + 7919 * (n + 1)) * 48271) % 2147483647)) (y_mod (by decide) (y_intc (by rfl) T.fInt (y_mul (.inr ⟨by decide, by decide⟩) (y_intc (by rfl) T.fInt (y_add (PY.int (y_ixL (ds := hd (p, big, mix, n + 1)) (j := 3) rfl (yv 0) y_int)) (y_mul (.inl ⟨by decide, by decide⟩) y_int (PY.int (y_ixL (ds := hd (p, big, mix, n + 1)) (j := 4) rfl (yv 0) y_int))))) y_int)) y_int) (fun σ H p => envS p) (M := S4) (fun σ H v H' p s hv => mk4 p s hv (by decide) (by decide)) ?_ nd
  refine h_ex fun k => ?_
  refine h_asg (i := 4) (Γ := Γ0.set 4 (some (tI k.1))) (τ := tI ((k.1 * (k.1 / 1009 + 69621)) % 2147483647)) (y_mod (by decide) (y_intc (by rfl) T.fInt (y_mul (.inl ⟨by have := k.2; omega, by have := k.2; omega⟩) (yv 4) (y_add (y_fdiv ⟨by decide, by decide⟩ (yv 4) y_int) y_int))) y_int) (fun σ H p => p.1.1.put p.2 rfl) (M := S4) (fun σ H v H' p s hv => mk4 p.1 s hv (by decide) (by decide)) ?_ nd
  refine h_ex fun k => ?_
  refine h_asg (i := 4) (Γ := Γ0.set 4 (some (tI k.1))) (τ := tI ((k.1 * (k.1 / 2003 + 40692)) % 2147483399)) (y_mod (by decide) (y_intc (by rfl) T.fInt (y_mul (.inl ⟨by have := k.2; omega, by have := k.2; omega⟩) (yv 4) (y_add (y_fdiv ⟨by decide, by decide⟩ (yv 4) y_int) y_int))) y_int) (fun σ H p => p.1.1.put p.2 rfl) (M := S4) (fun σ H v H' p s hv => mk4 p.1 s hv (by decide) (by decide)) ?_ nd
  refine h_ex fun k => ?_
  obtain ⟨r, r1, r2⟩ := md_nat (k.1 / 16) m0
  refine h_retY (Γ := Γ0.set 4 (some (tI k.1))) (τ := tI (r : Nat)) (PY.eq (y_mod (by omega) (y_intc (by rfl) T.fInt (y_fdiv ⟨by decide, by decide⟩ (yv 4) y_int)) (yv 1)) (congrArg tI r2)) (fun σ H p => p.1.1.put p.2 rfl) fun σ H v H' p s hv => ?_
  rw [show v = V.int _ from hv]
  have := upS p.1 s
  exact q r H' r1 this.2.1 ⟨_, this.2.2⟩
end
end Lp
/-! LpH2 -/
namespace Lp
open PySem PySem.Spec PyProof.Rows L2
section
variable {K : PySem.W.Frag} {Γ : Cxt} {σ : L2.St} {H1 : Hp} {Q : VK}
theorem lcV2 {M : List Addr} {β : Type} (G : Nat → Hp → Prop) (Gdep : ∀ i H H' D, H1 D = none → G i H → (∀ a, a ≠ D → H a ≠ none → H' a = H a) → G i H') (Gno : ∀ i H, G i H → ∀ m, m ∈ M → NoTup H m) (l : List β) (hz : l.length ≤ 100000) (tyx : β → Ty) (f : β → Bool) (pd : β → PyData → Prop) (hpd : ∀ x d, x ∈ l → pd x d → fz d = true)
    {J : It} {j : Nat} {tt : TT} {te : TE} {ok : Hp → Prop} {val : Nat → V → Prop} (g0 : G 0 H1) (env : ∀ H', EM M H1 H' → Env Γ σ H') (wk : W2 J ok l.length fun i v _ => val i v) (zok : ∀ H', EM M H1 H' → ok H') (zval : ∀ H' i v x, EM M H1 H' → val i v → l[i]? = some x → (tyx x).is v H')
    (htt : ∀ i x σ' H', l[i]? = some x → EM M H1 H' → G i H' → Env (Γ.set j (some (tyx x))) σ' H' → ∀ Q, (∀ H'', EM M H' H'' → G i H'' → Q (f x) H'') → tt σ' H' Q)
    (hte : ∀ i x σ' H', l[i]? = some x → f x = true → EM M H1 H' → G i H' → Env (Γ.set j (some (tyx x))) σ' H' → ∀ Q, (∀ v d H'', EM M H' H'' → G (i + 1) H'' → pd x d → Dp K H'' v d → Q v H'') → te σ' H' Q)
    (skip : ∀ i x H', l[i]? = some x → f x = false → G i H' → G (i + 1) H')
    (fin : ∀ D vs ds H', H1 D = none → EM M H1 H' → G l.length H' → H' D = some (.lst vs) → DpAll K H' vs ds → All2 pd (l.filter f) ds → Q (.ref D) H') :
    ∀ D, H1 D = none → ∃ W : Nat → Nat → Hp → Prop, (∃ m, W 0 m (upd H1 D (.lst []))) ∧ ∀ i m H, W i m H →
      (J.stop i H ∧ Q (.ref D) H) ∨ (J.go i H ∧ ∃ Nx : Hp → Prop, (∀ H', Nx H' → ∃ m', m' < m ∧ W (i + 1) m' H') ∧ ∀ x H', J.yld i H x H' → gName j x (wipe σ [j]) H' fun σ2 H2 => wipe σ2 [j] = wipe σ [j] ∧ tt σ2 H2 fun b H3 =>
        if b = true then te σ2 H3 fun y H4 => ∃ acc, H4 D = some (.lst acc) ∧ acc.length < sizeLine ∧ Nx (upd H4 D (.lst (acc ++ [y]))) else Nx H3) := by
  intro D hD
  have DM : D ∉ M := fun z => by
    obtain ⟨o, h, _⟩ := Gno 0 H1 g0 D z
    rw [hD] at h; cases h
  have apart : ∀ m, m ∈ M → m ≠ D := fun m hm e => DM (e ▸ hm)
  let W : Nat → Nat → Hp → Prop := fun i m H' => m = l.length - i ∧ i ≤ l.length ∧ EM M H1 H' ∧ G i H' ∧ ∃ vs ds, H' D = some (.lst vs) ∧ DpAll K H' vs ds ∧ All2 pd ((l.take i).filter f) ds
  refine ⟨W, ⟨l.length, by simp, Nat.zero_le _, (EM.refl H1).new hD, Gdep 0 H1 _ D hD g0 fun a na _ => upd_ne na, [], [], upd_same, .nil, .nil⟩, ?_⟩
  rintro i m H' ⟨rfl, hi', e1, gi, vs, ds, hvs, hd, h2⟩
  by_cases lt : i < l.length
  · refine .inr ⟨wk.goes i H' (zok H' e1) lt, W (i + 1) (l.length - (i + 1)), fun H'' w => ⟨_, by omega, w⟩, fun x H2 y => ?_⟩
    obtain ⟨s3, hv⟩ := wk.yields i H' x H2 (zok H' e1) y lt
    obtain ⟨z, hz1⟩ : ∃ z, l[i]? = some z := ⟨_, List.getElem?_eq_getElem lt⟩
    have hzl : z ∈ l := List.mem_of_getElem? hz1
    have e2 : EM M H1 H2 := e1.trans (EM.same s3)
    have gi2 : G i H2 := Gdep i H' H2 D hD gi fun a _ ha => by
      cases h : H' a with
      | none => exact absurd h ha
      | some o => exact s3 _ _ h
    have envx : ∀ H'', EM M H1 H'' → Env (Γ.set j (some (tyx z))) ((wipe σ [j]).set j (some x)) H'' := fun H'' e => by
      show Env _ ((σ.set j none).set j (some x)) H''
      rw [List.set_set]
      exact (env H'' e).set (zval H'' i x z e hv hz1)
    refine ⟨?_, htt i z _ H2 hz1 e2 gi2 (envx H2 e2) _ fun H3 e3 gi3 => ?_⟩
    · show ((σ.set j none).set j (some x)).set j none = σ.set j none
      rw [List.set_set, List.set_set]
    have tk : (l.take (i + 1)).filter f = (l.take i).filter f ++ (if f z = true then [z] else []) := by
      rw [List.take_succ, hz1]
      show (l.take i ++ [z]).filter f = _
      rw [List.filter_append]
      cases hf : f z <;> simp [hf]
    have hD2 : H2 D = some (.lst vs) := s3 _ _ hvs
    have dpEM : ∀ {Ha Hb : Hp} {i : Nat}, G i Ha → EM M Ha Hb → DpAll K Ha vs ds → DpAll K Hb vs ds := fun g e q => by
      have fzd : fzA ds = true := fzA_all fun d hdd => by
        obtain ⟨a, ha, hp⟩ := h2.left d hdd
        exact hpd a d (List.mem_of_mem_take (List.mem_filter.mp ha).1) hp
      exact DpAll.fz (e.tupK (Gno _ _ g)) fzd q
    cases hf : f z with
    | true =>
      rw [hf, if_pos rfl] at tk
      rw [if_pos rfl]
      refine hte i z _ H3 hz1 hf (e2.trans e3) gi3 (envx H3 (e2.trans e3)) _ fun v d H4 e4 gi4 pv dv => ?_
      have hD4 : H4 D = some (.lst vs) := e4 _ _ DM (e3 _ _ DM hD2)
      have hd4 := dpEM gi3 e4 (dpEM gi2 e3 (DpAll.up s3 hd))
      have tkD := TupK.upd (K := K) (o' := .lst (vs ++ [v])) hD4 (by intro xs h; cases h) (by intro ob xs h; cases h)
      have all := All2.snoc h2 pv
      have fzd : fzA (ds ++ [d]) = true := fzA_all fun d' hdd => by
        obtain ⟨a, ha, hp⟩ := all.left d' hdd
        rcases List.mem_append.mp ha with ha | ha
        · exact hpd a d' (List.mem_of_mem_take (List.mem_filter.mp ha).1) hp
        · rw [List.mem_singleton.mp ha] at hp; exact hpd z d' hzl hp
      refine ⟨vs, hD4, ?_, rfl, lt, ((e2.trans e3).trans e4).new hD, Gdep _ H4 _ D hD gi4 fun a na _ => upd_ne na, vs ++ [v], ds ++ [d], upd_same, DpAll.fz tkD fzd (dpAll_app hd4 (.cons dv .nil)), ?_⟩
      · have h5 := dpAll_len hd
        have h6 := h2.len
        have h7 := List.length_filter_le f (l.take i)
        rw [List.length_take] at h7
        exact sz_lt (by omega)
      · rw [tk]; exact all
    | false =>
      rw [hf] at tk
      rw [if_neg (by decide)]
      refine ⟨rfl, lt, e2.trans e3, skip i z H3 hz1 hf gi3, vs, ds, e3 _ _ DM hD2, dpEM gi2 e3 (DpAll.up s3 hd), ?_⟩
      rw [tk]; simpa using h2
  · obtain rfl : i = l.length := by omega
    rw [List.take_length] at h2
    exact .inl ⟨wk.stops H' (zok H' e1), fin D vs ds H' hD e1 gi hvs hd h2⟩
end
/-- an expression that may draw -/
def tVo (A C : Addr) (cs : List Int) (Γ : Cxt) (R : V → Hp → Prop) : TE := fun σ H Q => Env Γ σ H ∧ HandOk A C cs H ∧ ∀ v H', EM [A] H H' → HandOk A C cs H' → R v H' → Q v H'
abbrev PV (X : Cx) (e : Expr) (A C : Addr) (cs : List Int) (Γ : Cxt) (R : V → Hp → Prop) : Prop := PE X e (tVo A C cs Γ R)
abbrev vI (P : Int → Prop) : V → Hp → Prop := fun v _ => ∃ x, v = .int x ∧ P x
abbrev vP (P : Nat → Prop) : V → Hp → Prop := fun v _ => ∃ r : Nat, v = .int (r : Nat) ∧ P r
abbrev vN (m : Nat) : V → Hp → Prop := vP fun r => r < m
section
variable {X : Cx} {Γ Γ' : Cxt} {τ τ' : Ty} {e e1 e2 a b c it tg : Expr} {pos p p1 p2 px : Pos} {es : List Expr} {τs : List Ty} {ss rest body : List Stmt} {st : Stmt} {P M N : SP2} {R R' : V → Hp → Prop} {A C : Addr} {cs ns : List Int}
theorem v_of (h : PY X e Γ τ) : PV X e A C cs Γ τ.is := PE.imp h fun σ H Q ⟨g, hh, k⟩ => ⟨g, fun v H' s hv => k v H' (EM.same s) (hh.up s) hv⟩
theorem v_to (h : PV X e A C cs Γ R) (q : ∀ v H, R v H → R' v H) : PV X e A C cs Γ R' := PE.imp h fun σ H Q ⟨g, hh, k⟩ => ⟨g, hh, fun v H' s hh' hv => k v H' s hh' (q _ _ hv)⟩
theorem v_addN {i : Nat} {P : Nat → Prop} (ha : PY X a Γ (tI (i : Nat))) (hb : PV X b A C cs Γ (vP P)) : PV X (.BinOp a .Add b pos) A C cs Γ (vP fun y => ∃ x, P x ∧ y = i + x) :=
  PE.imp (pe_op op_add ha hb) fun σ H Q ⟨g, hh, k⟩ => ⟨g, fun x H1 s1 hx => ⟨g.up s1, hh.up s1, fun y H2 e2 hh2 ⟨j, ey, pj⟩ => ⟨i, j, hx, ey, k _ H2 ((EM.same s1).trans e2) hh2 ⟨i + j, by rw [Int.natCast_add], j, pj, rfl⟩⟩⟩⟩
theorem v_if {kk : Bool} (hc : PYT X c Γ kk) (ha : kk = true → PV X a A C cs Γ R) (hb : kk = false → PV X b A C cs Γ R) : PV X (.IfExp c a b pos) A C cs Γ R := by
  refine ⟨fun pins s σ H Q I ⟨g, hh, q⟩ => ?_⟩
  cases kk with
  | true => exact (pe_ifExp (tb := fun _ _ _ => False) hc (ha rfl) ⟨fun _ _ _ _ _ _ h => h.elim⟩).run pins s σ H Q I ⟨g, fun H1 s1 => by show tVo A C cs Γ R σ H1 Q; exact ⟨g.up s1, hh.up s1, fun v2 H2 s2 h2 h3 => q v2 H2 ((EM.same s1).trans s2) h2 h3⟩⟩
  | false => exact (pe_ifExp (ta := fun _ _ _ => False) hc ⟨fun _ _ _ _ _ _ h => h.elim⟩ (hb rfl)).run pins s σ H Q I ⟨g, fun H1 s1 => by show tVo A C cs Γ R σ H1 Q; exact ⟨g.up s1, hh.up s1, fun v2 H2 s2 h2 h3 => q v2 H2 ((EM.same s1).trans s2) h2 h3⟩⟩
theorem v_draw {m : Nat} (cd : Callee X.prog X.w X.K X.mg X.base "_law_draw" 1 ["_law_hand_here", "_law_many"] SpDraw) (hr : Room 1 X.A) (hg : Gl X "_law_draw") (h1 : PY X e1 Γ (tV (.ref A))) (h2 : PY X e2 Γ (tI (m : Nat))) (hm : 0 < m ∧ m ≤ 1000)
    (hs : starEach [e1, e2] X.env = (false, eval e1 X.env) :: starEach [e2] X.env := by rfl) (hs2 : starEach [e2] X.env = (false, eval e2 X.env) :: starEach [] X.env := by rfl) (hpl : (backTo pos (starEach [e2] X.env)).any (·.1) = false := by rfl) : PV X (.Call (.Name "_law_draw" p) [e1, e2] [] pos) A C cs Γ (vN m) := by
  obtain ⟨f, fd, F, mm, kp, b⟩ := cd.ex
  refine PE.imp (pe_call F hr hg mm kp b .nil pass0 (ya_cons h1 (ya_cons h2 ya_nil hs2) hs) (by decide) hs hpl) fun σ H Q ⟨g, hh, k⟩ => ⟨g, fun vs H1 s1 hvs => ?_⟩
  obtain ⟨v, w, rfl, hv, hw⟩ := all2 hvs
  rw [show v = V.ref A from hv, show w = V.int (m : Nat) from hw]
  exact ⟨A, C, cs, m, rfl, hh.up s1, hm.1, hm.2, fun r H' hr e hh' => k _ H' ((EM.same s1).trans e) hh' ⟨r, rfl, hr⟩⟩
/-- range(e), e a number drawn -/
theorem g_rngV {Pn : Nat → Prop} {p pos : Pos} (hg : Gl X "range") (hm : X.mg "range" = none) (h : PV X e A C cs Γ (vP Pn)) (hn : ∀ n, Pn n → n ≤ 100000) (hs1 : starEach [e] X.env = (false, eval e X.env) :: starEach [] X.env := by rfl) (hs : starEach [e] X.env = [(false, eval e X.env)] := by rfl) :
    PI X tg (.Call (.Name "range" p) [e] [] pos) (fun σ H R => Env Γ σ H ∧ HandOk A C cs H ∧ ∀ (n : Nat) J H', Pn n → EM [A] H H' → HandOk A C cs H' → W2 J (fun _ => True) n (fun i x _ => x = .int (i : Nat)) → R J H') :=
  PI.imp (pi_range1 hg hm (pa_cons h pa_nil hs1) hs) fun σ H R ⟨g, hh, q⟩ => ⟨g, hh, fun v H1 e1 hh1 ⟨n, ev, hn'⟩ => by
    have := hn n hn'
    refine ⟨n, by rw [ev], by omega, by omega, ?_⟩
    have e1' : ((n : Int)).toNat = n := by simp
    rw [e1']
    exact q n _ H1 hn' e1 hh1 ⟨fun i H' s hi => hi, fun H' s => Nat.le_refl _, fun i H' x H'' s ⟨e2, y⟩ hi => by subst e2; exact ⟨Same.refl _, by rw [y, Int.zero_add]⟩⟩⟩
def SpAny : Sp := fun vs H Q _ => ∃ (A C : Addr) (cs : List Int) (L : Addr) (ns : List Int), vs = [.ref A, .ref L] ∧ HandOk A C cs H ∧ H L = some (.lst (ns.map V.int)) ∧ 0 < ns.length ∧ ns.length ≤ 1000 ∧ ∀ x H', x ∈ ns → EM [A] H H' → HandOk A C cs H' → Q (.int x) H'
theorem v_any {M : List Addr} (cd : Callee X.prog X.w X.K X.mg X.base "_law_any" 2 ["_law_hand_here", "_law_some"] SpAny) (hr : Room 2 X.A) (hg : Gl X "_law_any") (h1 : PY X e1 Γ (tV (.ref A))) (h2 : PY X e2 Γ (tLT M ns)) (hm : 0 < ns.length ∧ ns.length ≤ 1000)
    (hs : starEach [e1, e2] X.env = (false, eval e1 X.env) :: starEach [e2] X.env := by rfl) (hs2 : starEach [e2] X.env = (false, eval e2 X.env) :: starEach [] X.env := by rfl) (hpl : (backTo pos (starEach [e2] X.env)).any (·.1) = false := by rfl) : PV X (.Call (.Name "_law_any" p) [e1, e2] [] pos) A C cs Γ (vI fun x => x ∈ ns) := by
  obtain ⟨f, fd, F, mm, kp, b⟩ := cd.ex
  refine PE.imp (pe_call F hr hg mm kp b .nil pass0 (ya_cons h1 (ya_cons h2 ya_nil hs2) hs) (by decide) hs hpl) fun σ H Q ⟨g, hh, k⟩ => ⟨g, fun vs H1 s1 hvs => ?_⟩
  obtain ⟨v, w, rfl, hv, L, rfl, hL, _⟩ := all2 hvs
  rw [show v = V.ref A from hv]
  exact ⟨A, C, cs, L, ns, rfl, hh.up s1, hL, hm.1, hm.2, fun x H' hx e hh' => k _ H' ((EM.same s1).trans e) hh' ⟨x, rfl, hx⟩⟩
end
def SpJour (K : PySem.W.Frag) : Sp := fun vs H Q _ => ∃ (A C : Addr) (cs : List Int) (vk : V) (ks : List Kd) (mo : Nat), vs = [.ref A, vk, .int (mo : Nat)] ∧ HandOk A C cs H ∧ Dp K H vk (dKs ks) ∧ 0 < ks.length ∧ ks.length ≤ 40 ∧ mo ≤ 400 ∧ ∀ v (js : List Nat) H', (∀ j, j ∈ js → j < ks.length) → js.length ≤ mo → EM [A] H H' → HandOk A C cs H' → Dp K H' v (dT js) → Q v H'
theorem all2_nat {m : Nat} : ∀ {l : List Nat} {ds : List PyData}, All2 (fun (_ : Nat) d => ∃ r : Nat, d = iN r ∧ r < m) l ds → ∃ js : List Nat, ds = js.map iN ∧ js.length = l.length ∧ ∀ j, j ∈ js → j < m
  | _, _, .nil => ⟨[], rfl, rfl, fun _ h => by cases h⟩
  | _, _, .cons ⟨r, e, hr⟩ t => by
    obtain ⟨js, e1, e2, e3⟩ := all2_nat t
    exact ⟨r :: js, by rw [e, e1]; rfl, by simp [e2], fun j hj => by
      rcases List.mem_cons.mp hj with e | hj
      · rw [e]; exact hr
      · exact e3 j hj⟩
/-- what a comprehension keeps of the hand -/
theorem hand_dep {A C : Addr} {cs : List Int} {H1 H H' : Hp} {D : Addr} (h1 : HandOk A C cs H1) (hD : H1 D = none) (h : HandOk A C cs H) (e : ∀ a, a ≠ D → H a ≠ none → H' a = H a) : HandOk A C cs H' := by
  obtain ⟨z, k⟩ := h
  refine ⟨z, ?_, ?_, k.le⟩
  · rw [e A (fun z => h1.isA (z ▸ hD)) (by rw [k.a]; intro z; cases z)]; exact k.a
  · rw [e C (fun z => h1.isC (z ▸ hD)) (by rw [k.c]; intro z; cases z)]; exact k.c
section
variable {P : Program} {w : World} {K : PySem.W.Frag} {mg : Str → Option Value} {base : Heap}
theorem c_law_any (T : Tp K mg) : Callee P w K mg base "_law_any" 2 ["_law_hand_here", "_law_some"] SpAny := by
  obtain ⟨fd, F, b⟩ := T.defLawAny
  refine ⟨_, fd, fnH F scLawAny (fun vs H Q E ⟨A, C, cs, L, ns, e, _⟩ => by rw [e]; rfl) fun vs H0 Q E hsp cdv Ar outer s hr => ?_, T.gLawAny, F.kp, b⟩
  obtain ⟨A, C, cs, L, ns, rfl, hh, hL, n0, n1, q⟩ := hsp
  have nd := scLawAny.nd
  let Γ0 : Cxt := [some (tV (.ref A)), some (tLT [A] ns)]
  refine ⟨fun σ H => Env Γ0 σ H ∧ H = H0, ⟨env_start (N := ["_law_hand_here", "_law_some"]) (AllY.cons (τ := tV (.ref A)) rfl (AllY.cons (τ := tLT [A] ns) ⟨L, rfl, hL, fun z => hh.apart hL (List.mem_singleton.mp z)⟩ .nil)), rfl⟩, ?_⟩
  refine h_one (ps_ret (pe_ix ix_list (yv 1 (Γ := Γ0)) (v_draw (Γ := Γ0) (m := ns.length) (A := A) (C := C) (cs := cs) (c_law_draw T) (hr.mono (by decide)) (by rfl) (yv 0) (PY.eq (y_lenL (ds := ns.map .int) (by rfl) T.fLen (PY.to (yv 1) lt_data)) (congrArg tI (by rw [List.length_map]))) ⟨n0, n1⟩) (fun _ _ => rfl))) fun D σ H ⟨g, e⟩ n r => ?_
  subst e
  refine ⟨g, fun x H1 s1 ⟨a, ex, ha, na⟩ => ⟨g.up s1, hh.up s1, fun y H2 e2 hh2 ⟨k, ey, hk⟩ => ?_⟩⟩
  exact ⟨a, ns.map V.int, (k : Int), .int ns[k], ex, ey, SqL.of (e2 _ _ na ha), at_nat (by rw [List.getElem?_map, List.getElem?_eq_getElem hk]; rfl), r _ _ (q _ _ (List.getElem_mem hk) ((EM.same s1).trans e2) hh2)⟩
theorem c_law_journal (T : Tp K mg) : Callee P w K mg base "_law_journal" 2 ["_law_hand_here", "_law_kinds", "_law_most"] (SpJour K) := by
  obtain ⟨fd, F, b⟩ := T.defLawJournal
  refine ⟨_, fd, fnH F scLawJournal (fun vs H Q E ⟨A, C, cs, vk, ks, mo, e, _⟩ => by rw [e]; rfl) fun vs H0 Q E hsp cdv Ar outer s hr => ?_, T.gLawJournal, F.kp, b⟩
  obtain ⟨A, C, cs, vk, ks, mo, rfl, hh, hk, k0, k40, mo4, q⟩ := hsp
  have nd := scLawJournal.nd
  let Γ0 : Cxt := [some (tV (.ref A)), some (tD K (dKs ks)), some (tI (mo : Nat)), none]
  have fk : fz (dKs ks) = true := by
    show fzA _ = true
    exact fzA_all fun d hd => by
      obtain ⟨k, _, rfl⟩ := List.mem_map.mp hd
      show (true && (fz (dT k.2) && true)) = true
      rw [fz_ints]; rfl
  have ste : StE (Rm [A]) Γ0 := .so st_v (.so (st_d fk) (.so st_v (.no .nil)))
  refine ⟨fun σ H => Env Γ0 σ H ∧ H = H0, ⟨env_start (N := ["_law_hand_here", "_law_kinds", "_law_most", "_law_turn"]) (AllY.cons (τ := tV (.ref A)) rfl (AllY.cons (τ := tD K (dKs ks)) hk (AllY.cons (τ := tI (mo : Nat)) rfl .nil))), rfl⟩, ?_⟩
  refine h_one (ps_ret (pe_callTy (x := "tuple") call_tuple_of (by rfl) T.fTuple (by decide +kernel) (pa_cons (pe_lc (own := [("_law_turn", 3)]) (g := gName 3) (tt := tYes) (te := tVo A C cs Γ0 (vN ks.length)) (by rfl) nd
    (g_rngV (Pn := fun r => r < mo + 1) (Γ := Γ0) (by rfl) T.fRange (v_draw (Γ := Γ0) (m := mo + 1) (A := A) (C := C) (cs := cs) (c_law_draw T) (hr.mono (by decide)) (by rfl) (yv 0) (PY.eq (y_add (yv 2) y_int) rfl) ⟨by omega, by omega⟩) (fun n hn => by omega))
    (blkOk_by (N := ["_law_hand_here", "_law_kinds", "_law_most", "_law_turn"]) (sc := defScope sLawJournal) (by decide +kernel)) (fun _ _ _ _ _ => pg_name (i := 3) nd rfl (Or.inl rfl)) (fun _ _ _ _ _ => pts_nil)
    (fun _ _ _ _ _ => v_draw (Γ := Γ0) (m := ks.length) (A := A) (C := C) (cs := cs) (c_law_draw T) (hr.mono (by decide)) (by rfl) (yv 0) (PY.eq (y_lenT (ds := ks.map dKd) (by rfl) T.fLen (yv 1)) (congrArg tI (by rw [List.length_map]))) ⟨k0, by omega⟩)) pa_nil))) fun D σ H ⟨g, e⟩ n r => ?_
  subst e
  refine ⟨g, hh, fun n J H1 hn e1 hh1 wk => ?_⟩
  have g1 : Env Γ0 σ H1 := g.st ste ⟨e1, hh.no1⟩
  have lr : (List.range n).length = n := List.length_range
  refine lcV2 (K := K) (M := [A]) (tt := tYes) (te := tVo A C cs Γ0 (vN ks.length)) (Q := fun v H' => ∃ p ys, [v] = [V.ref p] ∧ ((SqL K H' p ys ∧ ∀ l, H' l = none → D.rt (.ref l) (upd H' l (.tup ys))) ∨ (SqT K H' p ys ∧ D.rt (.ref p) H'))) (fun _ H' => HandOk A C cs H') (fun i H H' D hD h e => hand_dep hh1 hD h e) (fun i H h => h.no1) (List.range n) (by omega) (fun i => tI (i : Nat)) (fun _ => true) (fun _ d => ∃ r : Nat, d = iN r ∧ r < ks.length) (fun x d _ ⟨r, e, _⟩ => by rw [e]; rfl) (Γ := Γ0) (j := 3) (ok := fun _ => True) (val := fun i v => v = .int (i : Nat)) hh1 (fun H' e => g1.st ste ⟨e, hh1.no1⟩) (by rw [lr]; exact wk) (fun _ _ => trivial) (fun H' i v x e hv hx => ?_) (fun i x σ' H' _ e gi env Q q => q H' (EM.refl _) gi) (fun i x σ' H' _ _ e gi env Q q => ?_) (fun i x H' _ hf => by cases hf) (fun D' vs ds H' f e gn hD' hdp hall => ?_)
  · obtain ⟨hl, hy⟩ := List.getElem?_eq_some_iff.mp hx
    rw [List.getElem_range] at hy
    rw [hv, hy]; rfl
  · exact ⟨env.forget 3, gi, fun v H'' e hh'' ⟨r, ev, hr⟩ => q v (iN r) H'' e hh'' ⟨r, rfl, hr⟩ (by rw [ev]; exact .int _)⟩
  · rw [List.filter_eq_self.mpr (fun _ _ => rfl)] at hall
    obtain ⟨js, ej, lj, hj⟩ := all2_nat hall
    refine ⟨D', vs, rfl, .inl ⟨SqL.of hD', fun l hl => r _ _ (q _ js _ hj (by rw [lj]; omega) ((e1.trans e).trans (EM.same (Same.new hl))) (gn.up (Same.new hl)) ?_)⟩⟩
    rw [dT_map, ← ej]
    exact .tup (SqT.of upd_same) (DpAll.up (Same.new hl) hdp)
end
end Lp
/-! LpH3 -/
namespace Lp
open PySem PySem.Spec PyProof.Rows L2
/-! ### lists newly made, by expressions that draw -/
theorem EM.fr {A C : Addr} {cs : List Int} {Hb H : Hp} {p : Addr} (e : EM [A] Hb H) (hh : HandOk A C cs H) (n : H p = none) : Hb p = none := by
  cases h : Hb p with
  | none => rfl
  | some o =>
    by_cases q : p = A
    · rw [q] at n; exact absurd n hh.isA
    · have := e p o (fun z => q (List.mem_singleton.mp z)) h
      rw [n] at this; cases this
theorem cut_to {α : Type} (l : List α) (j : Nat) : (l.take (min j l.length)) = l.take j := by
  by_cases h : j ≤ l.length
  · rw [Nat.min_eq_left h]
  · rw [Nat.min_eq_right (by omega), List.take_of_length_le (by omega), List.take_of_length_le (by omega)]
theorem cutV_take (xs : List V) (j : Nat) : cutV xs none (some (j : Int)) = xs.take j := by
  unfold cutV
  rw [HT.sIx_nat, HT.sIx_none, List.drop_zero, Nat.sub_zero]
  have e2 := cut_eq xs 0 j
  rw [Nat.zero_min, List.drop_zero, Nat.sub_zero, Nat.sub_zero] at e2
  exact e2
theorem cutV_mid (xs : List V) (i j : Nat) : cutV xs (some (i : Int)) (some (j : Int)) = (xs.drop i).take (j - i) := by
  unfold cutV
  rw [HT.sIx_nat, HT.sIx_nat]
  exact cut_eq xs i j
abbrev vW (A : Addr) (Pr : List V → Prop) : V → Hp → Prop := fun v H => ∃ a vs, v = .ref a ∧ H a = some (.lst vs) ∧ a ≠ A ∧ Pr vs
abbrev vL (Hb : Hp) (Pr : List V → Prop) : V → Hp → Prop := fun v H => ∃ a vs, v = .ref a ∧ H a = some (.lst vs) ∧ Hb a = none ∧ Pr vs
/-- an expression that may draw, in a heap that has grown out of Hb -/
def tVb (A C : Addr) (cs : List Int) (Hb : Hp) (Γ : Cxt) (R : V → Hp → Prop) : TE := fun σ H Q => EM [A] Hb H ∧ tVo A C cs Γ R σ H Q
section
variable {X : Cx} {Γ Γ' : Cxt} {τ τ' : Ty} {e e1 e2 a b c it tg : Expr} {pos p p1 p2 px : Pos} {es : List Expr} {τs : List Ty} {ss rest body : List Stmt} {st : Stmt} {P M N : SP2} {R R' : V → Hp → Prop} {A C : Addr} {cs ns : List Int} {Hb : Hp}
theorem v_cat {P1 P2 P3 : List V → Prop} (ha : PE X a (tVb A C cs Hb Γ (vW A P1))) (hb : PE X b (tVb A C cs Hb Γ (vW A P2))) (hz : ∀ xs ys, P1 xs → P2 ys → xs.length + ys.length ≤ 100000 ∧ P3 (xs ++ ys)) (ste : StE (Rm [A]) Γ) : PE X (.BinOp a .Add b pos) (tVb A C cs Hb Γ (vL Hb P3)) :=
  PE.imp (pe_op op_cat ha hb) fun σ H Q ⟨eb, g, hh, k⟩ => ⟨eb, g, hh, fun x H1 e1 hh1 ⟨l, xs, ex, hl, nl, p1⟩ => ⟨eb.trans e1, g.st ste ⟨e1, hh.no1⟩, hh1, fun y H2 e2 hh2 ⟨l2, ys, ey, hl2, nl2, p2⟩ => by
    obtain ⟨z1, z2⟩ := hz xs ys p1 p2
    exact ⟨l, l2, xs, ys, ex, ey, e2 _ _ (fun z => nl (List.mem_singleton.mp z)) hl, hl2, sz_ok z1, fun q hq => k _ _ ((e1.trans e2).trans (EM.same (Same.new hq))) (hh2.up (Same.new hq)) ⟨q, _, rfl, upd_same, EM.fr (eb.trans (e1.trans e2)) hh2 hq, z2⟩⟩⟩⟩
theorem v_weak {P1 : List V → Prop} (hA : Hb A ≠ none) (h : PE X e (tVb A C cs Hb Γ (vL Hb P1))) : PE X e (tVb A C cs Hb Γ (vW A P1)) := PE.imp h fun σ H Q ⟨eb, g, hh, k⟩ => ⟨eb, g, hh, fun v H' e' hh' ⟨l, vs, ev, hl, n, p⟩ => k v H' e' hh' ⟨l, vs, ev, hl, fun z => hA (z ▸ n), p⟩⟩
theorem v_list {M : List Addr} (mA : A ∈ M) (h : PY X e Γ (tLT M ns)) : PE X e (tVb A C cs Hb Γ (vW A fun vs => vs = ns.map V.int)) := PE.imp h fun σ H Q ⟨eb, g, hh, k⟩ => ⟨g, fun v H' s ⟨l, ev, hl, nl⟩ => k v H' (EM.same s) (hh.up s) ⟨l, _, ev, hl, fun z => nl (z ▸ mA), rfl⟩⟩
/-- [e] * a number drawn -/
theorem v_rep {m : Nat} {u : V} (he : PY X e Γ (tV u)) (hb : PV X b A C cs Γ (vN m)) (hm : m ≤ 1000) (hs : starEach [e] X.env = (false, eval e X.env) :: starEach [] X.env := by rfl) : PE X (.BinOp (.List [e] p) .Mult b pos) (tVb A C cs Hb Γ (vL Hb fun vs => ∃ r, r < m ∧ vs = List.replicate r u)) :=
  PE.imp (pe_op op_rep (pe_lst (ya_cons he ya_nil hs)) hb) fun σ H Q ⟨eb, g, hh, k⟩ => ⟨g, fun vs H1 s1 hvs => by
    obtain ⟨v, rfl, hv⟩ := all1 hvs
    rw [show v = u from hv]
    refine ⟨by show 1 ≤ sizeLine; decide, fun l hl => ?_⟩
    have s2 := s1.trans (Same.new (o := .lst [u]) hl)
    refine ⟨g.up s2, hh.up s2, fun y H2 e2 hh2 ⟨r, ey, hr⟩ => ?_⟩
    have nl : l ≠ A := fun z => (hh.up s1).isA (z ▸ hl)
    refine ⟨l, (r : Int), [u], rfl, ey, e2 _ _ (fun z => nl (List.mem_singleton.mp z)) upd_same, by omega, by omega, ?_, fun q hq => ?_⟩
    · exact sz_ok (by simp; omega)
    · have er : (List.replicate ((r : Int)).toNat [u]).flatten = List.replicate r u := by
        rw [Int.toNat_natCast]
        induction r with
        | zero => rfl
        | succ r ih => simp [List.replicate_succ]
      rw [er]
      exact k _ _ (((EM.same s2).trans e2).trans (EM.same (Same.new hq))) (hh2.up (Same.new hq)) ⟨q, _, rfl, upd_same, EM.fr ((eb.trans (EM.same s2)).trans e2) hh2 hq, r, hr, rfl⟩⟩
theorem n_if {kk : Bool} {ds : List PyData} (hc : PYT X c Γ kk) (ha : kk = true → PYN X a Γ ds) (hb : kk = false → PYN X b Γ ds) : PYN X (.IfExp c a b pos) Γ ds := by
  refine ⟨fun pins s σ H Q I ⟨g, q⟩ => ?_⟩
  cases kk with
  | true => exact (pe_ifExp (tb := fun _ _ _ => False) hc (ha rfl) ⟨fun _ _ _ _ _ _ h => h.elim⟩).run pins s σ H Q I ⟨g, fun H1 s1 => by show tYN' X.K Γ ds σ H1 Q; exact ⟨g.up s1, fun p vs H' f s h d => q p vs H' (s1.free f) (s1.trans s) h d⟩⟩
  | false => exact (pe_ifExp (ta := fun _ _ _ => False) hc ⟨fun _ _ _ _ _ _ h => h.elim⟩ (hb rfl)).run pins s σ H Q I ⟨g, fun H1 s1 => by show tYN' X.K Γ ds σ H1 Q; exact ⟨g.up s1, fun p vs H' f s h d => q p vs H' (s1.free f) (s1.trans s) h d⟩⟩
theorem y_min2 {i j : Nat} (hc : X.calm = true) (hg : Gl X "min") (hm : X.mg "min" = none) (h1 : PY X e1 Γ (tI (i : Nat))) (h2 : PY X e2 Γ (tI (j : Nat)))
    (hs : starEach [e1, e2] X.env = (false, eval e1 X.env) :: starEach [e2] X.env := by rfl) (hs2 : starEach [e2] X.env = (false, eval e2 X.env) :: starEach [] X.env := by rfl) (hpl : (backTo pos (starEach [e2] X.env)).any (·.1) = false := by rfl) : PY X (.Call (.Name "min" p) [e1, e2] [] pos) Γ (tI ((min i j : Nat) : Int)) :=
  y_b (x := "min") (call_min2 hc) hg hm (by decide +kernel) (ya_cons h1 (ya_cons h2 ya_nil hs2) hs) (he := hs) (hpl := hpl) fun vs H Q hvs k => by
    obtain ⟨v, w, rfl, hv, hw⟩ := all2 hvs
    refine ⟨i, j, by rw [show v = V.int _ from hv, show w = V.int _ from hw], k _ H (Same.refl H) ?_⟩
    show V.int _ = V.int _
    congr 1
    by_cases h : (j : Int) < i
    · rw [if_pos h, Nat.min_eq_right (by omega)]
    · rw [if_neg h, Nat.min_eq_left (by omega)]
theorem y_slL0 {ds : List PyData} {j : Nat} {hi : Expr} {p2 : Pos} (he : PY X e Γ (tD X.K (.list ds))) (hh : PY X hi Γ (tI (j : Int))) : PY X (.Subscript e (.Slice none (some hi) none p2) pos) Γ (tD X.K (.list (ds.take j))) :=
  PE.imp (pe_slice sl_list he po_none (po_some hh)) fun σ H Q ⟨g, q⟩ => ⟨g, fun x H1 s1 hx => ⟨g.up s1, fun z H3 s3 hz => ⟨_, hz, by
    obtain ⟨p, xs, rfl, h1, h2⟩ := dp_lst (Dp.up s3 hx)
    refine ⟨p, xs, rfl, h1, fun t ht => ?_⟩
    rw [cutV_take]
    exact q _ _ ((s1.trans s3).trans (Same.new ht)) (.lst (SqL.of upd_same) (DpAll.up (Same.new ht) (dpAll_take _ h2)))⟩⟩⟩
/-- as it stands, a heap told -/
theorem h_frame (h : ∀ σb Hb, P σb Hb → PSs X ss (tHT (fun σ H => σ = σb ∧ H = Hb) N R)) : PSs X ss (tHT P N R) := ⟨fun pins s σ H D I ⟨p, n, r⟩ => (h σ H p).run pins s σ H D I ⟨⟨rfl, rfl⟩, n, r⟩⟩
/-- for, the walk of any kind -/
theorem h_forV {Z : Type} {t : TI} {g : TG} {ok : Z → Hp → Prop} {n : Z → Nat} {val : Z → Nat → V → Hp → Prop} (I B : Z → Nat → SP2) (hc : X.calm = true) (hi : PI X tg it t) (hg : PG X tg g)
    (hini : ∀ σ H (T : It → Hp → Prop), P σ H → (∀ z J H', I z 0 σ H' → W2 J (ok z) (n z) (val z) → T J H') → t σ H T) (okk : ∀ z i σ H, i ≤ n z → I z i σ H → ok z H) (tgt : ∀ z i σ H H2 x, i < n z → I z i σ H → Same H H2 → val z i x H2 → g x σ H2 (B z i))
    (hb : ∀ z i, i < n z → HT X body (B z i) (I z (i + 1)) R) (hr : HT X rest (fun σ H => ∃ z, I z (n z) σ H) N R)
    (hp : PassesOwn (model X.prog X.w) X.A X.env X.xe := by exact PassesOwn.never) (hs : ∀ x, foldedSetIterable it X.env x = pure x := by intro _; rfl) (mono : ∀ v σ H Q Q', (∀ σ' H', Q σ' H' → Q' σ' H') → g v σ H Q → g v σ H Q') : HT X (.For tg it body [] pos :: rest) P N R := by
  refine h_by (ps_for (tb := fun D σ H => ∃ z, ∃ i, i < n z ∧ tHT (B z i) (I z (i + 1)) R D σ H) hp hc hi hg ⟨fun pins s σ H D J ⟨z, i, lt, h⟩ => (hb z i lt).run pins s σ H D J h⟩ hs) (fun D σ H p m r => hini σ H _ p fun z J H1 i0 wk => ?_) hr
  refine ⟨fun i m σ' H' => m = n z - i ∧ i ≤ n z ∧ I z i σ' H', ⟨_, rfl, Nat.zero_le _, i0⟩, ?_⟩
  rintro i m σ' H' ⟨rfl, hle, g2⟩
  have hok := okk _ _ _ _ hle g2
  by_cases lt : i < n z
  · refine .inr ⟨wk.goes i H' hok lt, I z (i + 1), fun σ2 H2 b => ⟨_, by omega, rfl, lt, b⟩, fun x H2 y => ?_⟩
    obtain ⟨s3, t1⟩ := wk.yields i H' x H2 hok y lt
    exact mono _ _ _ _ _ (fun σ3 H3 b => ⟨z, i, lt, b, fun _ _ k => k, r⟩) (tgt z i σ' H' H2 x lt g2 s3 t1)
  · obtain rfl : i = n z := by omega
    exact .inl ⟨wk.stops H' hok, m _ _ ⟨z, g2⟩⟩
end
/-- what is at a known place -/
def tAtL (L : Addr) (ns : List Int) : Ty := ⟨fun v H => v = .ref L ∧ H L = some (.lst (ns.map V.int)), fun e ⟨h1, h2⟩ => ⟨h1, e _ _ h2⟩⟩
theorem at_data {K : PySem.W.Frag} {L : Addr} {ns : List Int} : ∀ v H, (tAtL L ns).is v H → (tD K (dLi ns)).is v H := fun v H ⟨h1, h2⟩ => by rw [h1]; exact .lst (SqL.of h2) (ints_dpAll ns)
def SpHand (K : PySem.W.Frag) : Sp := fun vs H Q _ => ∃ (a : Addr) (ns : List Int), vs = [.ref a] ∧ SqL K H a (ns.map V.int) ∧ ns.length ≤ 63 ∧ ∀ (A C : Addr) (cs : List Int) H', H A = none → Same H H' → HandOk A C cs H' → Q (.ref A) H'
section
variable {P : Program} {w : World} {K : PySem.W.Frag} {mg : Str → Option Value} {base : Heap}
theorem c_law_hand (T : Tp K mg) : Callee P w K mg base "_law_hand" 1 ["_law_script"] (SpHand K) := by
  obtain ⟨fd, F, b⟩ := T.defLawHand
  refine ⟨_, fd, fnH F scLawHand (fun vs H Q E ⟨a, ns, e, _⟩ => by rw [e]; rfl) fun vs H0 Q E hsp cdv Ar outer s hr => ?_, T.gLawHand, F.kp, b⟩
  obtain ⟨a, ns, rfl, hS, l63, q⟩ := hsp
  have nd := scLawHand.nd
  let Γ0 : Cxt := [some (tD K (dLi ns)), none, none]
  let ab : Int → Int := fun i => if i < 0 then -i else i
  refine ⟨fun σ H => Env Γ0 σ H ∧ H = H0, ⟨env_start (N := ["_law_script", "_law_cells", "_law_cell"]) (AllY.cons (τ := tD K (dLi ns)) (.lst hS (ints_dpAll ns)) .nil), rfl⟩, ?_⟩
  refine h_by (M := fun σ H => ∃ C, Env [some (tD K (dLi ns)), some (tAtL C (ns.map ab)), none] σ H ∧ Same H0 H) (ps_lc1 (Γ := Γ0) 2 1 ns (fun c => tD K (.int c)) (fun _ => true) (fun c => .int (ab c)) (by omega) (fun _ _ => rfl) (by rfl) nd (by rfl) (by rfl) (sw_true (by rfl) (by rfl) (by rfl) (by decide +kernel)) (i_listM (PY.eq (y_slL0 (ds := ns.map .int) (j := 63) (yv 0) y_int) (by rw [List.take_of_length_le (by rw [List.length_map]; exact l63)]))) (blkOk_by (N := ["_law_script", "_law_cells", "_law_cell"]) (sc := defScope sLawHand) (by decide +kernel)) (by rfl) (by rfl) (fun _ _ _ _ _ _ _ => ts_no) (fun c hc _ _ _ _ _ _ => PY.ofInt (y_b (x := "abs") call_abs (by rfl) T.fAbs (by decide +kernel) (ya_cons (y_intc (by rfl) T.fInt (PY.int (yv 2))) ya_nil) fun vs H Q hvs k => by
      obtain ⟨v, rfl, hv⟩ := all1 hvs
      exact ⟨c, by rw [show v = V.int c from hv], k _ H (Same.refl H) rfl⟩))) (fun Dd σ H ⟨g, e⟩ m _ => ⟨g, fun C vs H' f s hC hd => m _ _ ?_⟩) ?_
  · subst e
    rw [filter_all] at hd
    have e1 : vs = (ns.map ab).map V.int := dpAll_ints (K := K) (H := H') (by rw [List.map_map]; exact hd)
    exact ⟨C, (g.up s).set (i := 1) (τ := tAtL C (ns.map ab)) ⟨rfl, by rw [hC, e1]⟩, s⟩
  refine h_ex fun C => ?_
  refine h_one (ps_ret (pe_lst (ya_cons (yv 1 (Γ := [some (tD K (dLi ns)), some (tAtL C (ns.map ab)), none])) (ya_cons y_int (ya_cons y_int (ya_cons (y_add y_int (y_lenL (ds := (ns.map ab).map .int) (by rfl) T.fLen (PY.to (yv 1) at_data))) (ya_cons y_int ya_nil))))))) fun D σ H ⟨g, s0⟩ n r => ⟨g, fun vs H1 s1 hvs => ?_⟩
  cases hvs with
  | cons h1 t => cases t with
    | cons h2 t => cases t with
      | cons h3 t => cases t with
        | cons h4 t => cases t with
          | cons h5 t =>
            cases t
            obtain ⟨e1, hC⟩ := h1
            rw [e1, show _ = V.int 0 from h2, show _ = V.int 0 from h3, show _ = V.int _ from h4, show _ = V.int 0 from h5]
            refine ⟨by show 5 ≤ sizeLine; decide, fun A hA => r _ _ (q A C (ns.map ab) _ ((s0.trans s1).free hA) ((s0.trans s1).trans (Same.new hA)) ⟨(0, 0, _, 0), upd_same, ?_, Nat.zero_le _⟩)⟩
            rw [upd_ne (ne_of_none hC hA)]; exact hC
end
end Lp
/-! LpH4 -/
namespace Lp
open PySem PySem.Spec PyProof.Rows L2
/-! ### the drawn table, plain -/
structure KOk (n : Nat) (k : Kd) : Prop where
  cell : k.1 < n
  asc : k.2.Pairwise (· < ·)
  rd : ∀ r, r ∈ k.2 → r < n
  few : k.2.length ≤ 3
def mkK (c : Nat) (rs : List Nat) : Kd := (c, (dd rs).mergeSort leC)
theorem kok_of {n c : Nat} {rs : List Nat} (hc : c < n) (hr : ∀ r, r ∈ rs → r < n) (l : rs.length ≤ 3) : KOk n (mkK c rs) :=
  ⟨hc, sortC_lt dd_nodup, fun r h => hr r (dd_mem.mp (mem_sortC.mp h)), by
    have h1 := (sortC_perm (dd rs)).length_eq
    have h2 := dd_len (l := rs)
    show (sortC (dd rs)).length ≤ 3
    omega⟩
def mkT (ks : List Kd) : List Kd := ((dd ks).mergeSort leK).take 40
theorem mkT_srt (ks : List Kd) : SrtK (mkT ks) := by
  have h1 : ((dd ks).mergeSort leK).Pairwise (fun x y => leK x y = true ∧ x ≠ y) := (ordK.pw (dd ks)).and ((List.mergeSort_perm (dd ks) leK).nodup_iff.mpr dd_nodup)
  have h2 : ((dd ks).mergeSort leK).Pairwise (fun x y => leK y x = false) := h1.imp fun {x y} ⟨a, b⟩ => by
    cases q : leK y x with
    | false => rfl
    | true => exact absurd (ordK.anti x y a q) b
  exact h2.sublist (List.take_sublist _ _)
theorem mkT_mem {ks : List Kd} {k : Kd} (h : k ∈ mkT ks) : k ∈ ks := dd_mem.mp ((List.mergeSort_perm (dd ks) leK).mem_iff.mp (List.mem_of_mem_take h))
theorem mkT_tab {n : Nat} {ks : List Kd} (n1 : 1 ≤ n) (n8 : n ≤ 8) (ne : 1 ≤ ks.length) (h : ∀ k, k ∈ ks → KOk n k) : TabR n (mkT ks) where
  n1 := n1
  n8 := n8
  k1 := by
    have h1 := (List.mergeSort_perm (dd ks) leK).length_eq
    have h2 : 1 ≤ (dd ks).length := by
      cases ks with
      | nil => simp at ne
      | cons k r => exact List.length_pos_of_mem (dd_mem.mpr (List.mem_cons_self (a := k) (l := r)))
    show 1 ≤ (((dd ks).mergeSort leK).take 40).length
    rw [List.length_take]; omega
  k40 := by
    show (((dd ks).mergeSort leK).take 40).length ≤ 40
    rw [List.length_take]; omega
  cell := fun k hk => (h k (mkT_mem hk)).cell
  read := fun k hk => (h k (mkT_mem hk)).rd
  asc := fun k hk => (h k (mkT_mem hk)).asc
  few := fun k hk => (h k (mkT_mem hk)).few
/-! ### what stands while it is drawn -/
theorem EM.drop {M : List Addr} {Hb H0 H' : Hp} {r : Addr} (e : EM M Hb H0) (n : H0 r = none) (e' : EM (r :: M) H0 H') : EM M Hb H' := fun a o na ha => by
  have h0 := e a o na ha
  refine e' a o (fun z => ?_) h0
  rcases List.mem_cons.mp z with q | q
  · rw [q, n] at h0; cases h0
  · exact na q
theorem fz_kd (k : Kd) : fz (dKd k) = true := by
  show (true && (fz (dT k.2) && true)) = true
  rw [fz_ints]; rfl
theorem fz_kdsA (ks : List Kd) : fzA (ks.map dKd) = true := fzA_all fun d hd => by
  obtain ⟨k, _, rfl⟩ := List.mem_map.mp hd
  exact fz_kd k
/-- a name's kind, if any, stays -/
def SO (R : Hp → Hp → Prop) (o : Option Ty) : Prop := ∀ τ, o = some τ → ∀ v H H', R H H' → τ.is v H → τ.is v H'
theorem StE.op {R : Hp → Hp → Prop} {o : Option Ty} {Γ : Cxt} (h : SO R o) (s : StE R Γ) : StE R (o :: Γ) := by
  cases o with
  | none => exact .no s
  | some τ => exact .so (h τ rfl) s
theorem so_no {R : Hp → Hp → Prop} : SO R none := fun _ e => by cases e
theorem so_v {R : Hp → Hp → Prop} {u : V} : SO R (some (tV u)) := fun _ e => by cases e; exact st_v
theorem so_l {M M' : List Addr} {ns : List Int} (h : ∀ a, a ∈ M' → a ∈ M) : SO (Rm M') (some (tLT M ns)) := fun _ e => by
  cases e
  exact fun v H H' r ⟨a, h1, h2, h3⟩ => ⟨a, h1, r.1 _ _ (fun z => h3 (h a z)) h2, h3⟩
inductive CvE (H : Hp) : Cxt → Cxt → Prop
  | nil : CvE H [] []
  | no {o : Option Ty} {Γ Γ' : Cxt} : CvE H Γ Γ' → CvE H (o :: Γ) (none :: Γ')
  | so {τ τ' : Ty} {Γ Γ' : Cxt} : (∀ v, τ.is v H → τ'.is v H) → CvE H Γ Γ' → CvE H (some τ :: Γ) (some τ' :: Γ')
theorem CvE.len {H : Hp} : ∀ {Γ Γ' : Cxt}, CvE H Γ Γ' → Γ.length = Γ'.length
  | _, _, .nil => rfl
  | _, _, .no s => by simp [s.len]
  | _, _, .so _ s => by simp [s.len]
theorem CvE.at_ {H : Hp} : ∀ {Γ Γ' : Cxt}, CvE H Γ Γ' → ∀ (i : Nat) (τ' : Ty), Γ'[i]? = some (some τ') → ∃ τ, Γ[i]? = some (some τ) ∧ ∀ v, τ.is v H → τ'.is v H
  | _, _, .nil, i, τ, h => by simp at h
  | _, _, .no s, 0, τ, h => by simp at h
  | _, _, .no s, i + 1, τ, h => by simpa using s.at_ i τ (by simpa using h)
  | _, _, .so (τ := τ0) q s, 0, τ, h => by simp at h; subst h; exact ⟨τ0, rfl, q⟩
  | _, _, .so q s, i + 1, τ, h => by simpa using s.at_ i τ (by simpa using h)
theorem Env.cv {Γ Γ' : Cxt} {σ : L2.St} {H : Hp} (g : Env Γ σ H) (c : CvE H Γ Γ') : Env Γ' σ H := ⟨by rw [g.len, c.len], fun i τ hi => by
  obtain ⟨τ0, h1, h2⟩ := c.at_ i τ hi
  obtain ⟨v, h3, h4⟩ := g.at_ i τ0 h1
  exact ⟨v, h3, h2 v h4⟩⟩
def CO (H : Hp) (o o' : Option Ty) : Prop := ∀ τ', o' = some τ' → ∃ τ, o = some τ ∧ ∀ v, τ.is v H → τ'.is v H
theorem CvE.op {H : Hp} {o o' : Option Ty} {Γ Γ' : Cxt} (h : CO H o o') (s : CvE H Γ Γ') : CvE H (o :: Γ) (o' :: Γ') := by
  cases o' with
  | none => exact .no s
  | some τ' => obtain ⟨τ, rfl, q⟩ := h τ' rfl; exact .so q s
theorem co_no {H : Hp} {o : Option Ty} : CO H o none := fun _ e => by cases e
theorem co_id {H : Hp} {o : Option Ty} : CO H o o := fun τ' e => ⟨τ', e, fun _ h => h⟩
theorem co_up {H : Hp} {M : List Addr} {r : Addr} {ns : List Int} (n : H r = none) : CO H (some (tLT M ns)) (some (tLT (r :: M) ns)) := fun _ e => by cases e; exact ⟨_, rfl, fun v h => lt_grow h n⟩
theorem co_dn {H : Hp} {M : List Addr} {r : Addr} {ns : List Int} : CO H (some (tLT (r :: M) ns)) (some (tLT M ns)) := fun _ e => by cases e; exact ⟨_, rfl, fun v h => lt_less h fun a => List.mem_cons_of_mem _⟩
/-- the names of _law_sound_table, once the list of kinds is made -/
def GT (A KL : Addr) (n : Nat) (os : List Nat) (M : List Addr) (ah : List Nat) (at_ : Nat) (c4 c9 c10 c11 c13 c14 : Option Ty) : Cxt :=
  [some (tV (.ref A)), some (tI (n : Nat)), none, some (tLT M (zs os)), c4, none, some (tLT M (zs ah)), some (tV (.ref KL)), some (tI (at_ : Nat)), c9, c10, c11, none, c13, c14, none]
theorem GT_st {A KL : Addr} {n : Nat} {os : List Nat} {M M' : List Addr} {ah : List Nat} {at_ : Nat} {c4 c9 c10 c11 c13 c14 : Option Ty} (h : ∀ a, a ∈ M' → a ∈ M) (h4 : SO (Rm M') c4) (h9 : SO (Rm M') c9) (h10 : SO (Rm M') c10) (h11 : SO (Rm M') c11) (h13 : SO (Rm M') c13) (h14 : SO (Rm M') c14) : StE (Rm M') (GT A KL n os M ah at_ c4 c9 c10 c11 c13 c14) :=
  .op so_v (.op so_v (.no (.op (so_l h) (.op h4 (.no (.op (so_l h) (.op so_v (.op so_v (.op h9 (.op h10 (.op h11 (.no (.op h13 (.op h14 (.no .nil)))))))))))))))
theorem GT_up {A KL r : Addr} {n : Nat} {os : List Nat} {M : List Addr} {ah : List Nat} {at_ : Nat} {c4 c9 c10 c11 c13 c14 d4 d9 d10 d11 d13 d14 : Option Ty} {H : Hp} (nr : H r = none) (h4 : CO H c4 d4) (h9 : CO H c9 d9) (h10 : CO H c10 d10) (h11 : CO H c11 d11) (h13 : CO H c13 d13) (h14 : CO H c14 d14) : CvE H (GT A KL n os M ah at_ c4 c9 c10 c11 c13 c14) (GT A KL n os (r :: M) ah at_ d4 d9 d10 d11 d13 d14) :=
  .op co_id (.op co_id (.no (.op (co_up nr) (.op h4 (.no (.op (co_up nr) (.op co_id (.op co_id (.op h9 (.op h10 (.op h11 (.no (.op h13 (.op h14 (.no .nil)))))))))))))))
theorem GT_dn {A KL r : Addr} {n : Nat} {os : List Nat} {M : List Addr} {ah : List Nat} {at_ : Nat} {c4 c9 c10 c11 c13 c14 d4 d9 d10 d11 d13 d14 : Option Ty} {H : Hp} (h4 : CO H c4 d4) (h9 : CO H c9 d9) (h10 : CO H c10 d10) (h11 : CO H c11 d11) (h13 : CO H c13 d13) (h14 : CO H c14 d14) : CvE H (GT A KL n os (r :: M) ah at_ c4 c9 c10 c11 c13 c14) (GT A KL n os M ah at_ d4 d9 d10 d11 d13 d14) :=
  .op co_id (.op co_id (.no (.op co_dn (.op h4 (.no (.op co_dn (.op co_id (.op co_id (.op h9 (.op h10 (.op h11 (.no (.op h13 (.op h14 (.no .nil)))))))))))))))
theorem GT_cv {A KL : Addr} {n : Nat} {os : List Nat} {M : List Addr} {ah : List Nat} {at_ : Nat} {c4 c9 c10 c11 c13 c14 d4 d9 d10 d11 d13 d14 : Option Ty} {H : Hp} (h4 : CO H c4 d4) (h9 : CO H c9 d9) (h10 : CO H c10 d10) (h11 : CO H c11 d11) (h13 : CO H c13 d13) (h14 : CO H c14 d14) : CvE H (GT A KL n os M ah at_ c4 c9 c10 c11 c13 c14) (GT A KL n os M ah at_ d4 d9 d10 d11 d13 d14) :=
  .op co_id (.op co_id (.no (.op co_id (.op h4 (.no (.op co_id (.op co_id (.op co_id (.op h9 (.op h10 (.op h11 (.no (.op h13 (.op h14 (.no .nil)))))))))))))))
structure KSt (K : PySem.W.Frag) (A C KL : Addr) (cs : List Int) (Γ : Cxt) (ks : List Kd) (σ : L2.St) (H : Hp) : Prop where
  env : Env Γ σ H
  hand : HandOk A C cs H
  kl : ∃ vs, H KL = some (.lst vs) ∧ DpAll K H vs (ks.map dKd)
section
variable {K : PySem.W.Frag} {A C KL : Addr} {cs : List Int} {Γ Γ' : Cxt} {ks : List Kd} {k : Kd} {σ : L2.St} {H H' : Hp} {M : List Addr}
theorem KSt.up (p : KSt K A C KL cs Γ ks σ H) (s : Same H H') : KSt K A C KL cs Γ ks σ H' := ⟨p.env.up s, p.hand.up s, let ⟨vs, a, b⟩ := p.kl; ⟨vs, s _ _ a, DpAll.up s b⟩⟩
theorem KSt.noK (p : KSt K A C KL cs Γ ks σ H) : NoTup H KL := let ⟨vs, a, _⟩ := p.kl; ⟨_, a, fun xs z => (by cases z), fun ob xs z => (by cases z)⟩
theorem KSt.no (p : KSt K A C KL cs Γ ks σ H) : ∀ m, m ∈ [KL, A] → NoTup H m := fun m hm => by
  rcases List.mem_cons.mp hm with e | hm
  · rw [e]; exact p.noK
  · exact p.hand.no1 m hm
theorem KSt.draw (p : KSt K A C KL cs Γ ks σ H) (st : StE (Rm [A]) Γ) (n : KL ≠ A) (e : EM [A] H H') (hh : HandOk A C cs H') : KSt K A C KL cs Γ ks σ H' :=
  ⟨p.env.st st ⟨e, p.hand.no1⟩, hh, let ⟨vs, a, b⟩ := p.kl; ⟨vs, e _ _ (fun z => n (List.mem_singleton.mp z)) a, DpAll.fz (e.tupK p.hand.no1) (fz_kdsA ks) b⟩⟩
theorem KSt.cv (p : KSt K A C KL cs Γ ks σ H) (c : CvE H Γ Γ') : KSt K A C KL cs Γ' ks σ H := ⟨p.env.cv c, p.hand, p.kl⟩
theorem KSt.set {i : Nat} {τ : Ty} {v : V} (p : KSt K A C KL cs Γ ks σ H) (h : τ.is v H) : KSt K A C KL cs (Γ.set i (some τ)) ks (σ.set i (some v)) H := ⟨p.env.set h, p.hand, p.kl⟩
theorem KSt.keep {i : Nat} {a : Option V} (p : KSt K A C KL cs Γ ks σ H) (h : Γ[i]? = some none) : KSt K A C KL cs Γ ks (σ.set i a) H := ⟨p.env.keep h, p.hand, p.kl⟩
theorem KSt.fresh {r : Addr} (p : KSt K A C KL cs Γ ks σ H) (n : H r = none) : r ∉ [KL, A] := fun z => by
  rcases List.mem_cons.mp z with e | z
  · obtain ⟨vs, h1, _⟩ := p.kl
    rw [← e, n] at h1; cases h1
  · rw [List.mem_singleton.mp z] at n
    exact p.hand.isA n
/-- a kind more -/
theorem KSt.add {vs : List V} {v : V} (p : KSt K A C KL cs Γ ks σ H) (st : StE (Rm [KL, A]) Γ) (nA : KL ≠ A) (nC : KL ≠ C) (hvs : H KL = some (.lst vs)) (hv : Dp K H v (dKd k)) : KSt K A C KL cs Γ (ks ++ [k]) σ (upd H KL (.lst (vs ++ [v]))) := by
  obtain ⟨vs', a, b⟩ := p.kl
  rw [hvs] at a
  cases a
  have e : EM [KL, A] H (upd H KL (.lst (vs ++ [v]))) := (EM.refl H).own List.mem_cons_self
  refine ⟨p.env.st st ⟨e, p.no⟩, ?_, _, upd_same, ?_⟩
  · obtain ⟨z, h⟩ := p.hand
    exact ⟨z, by rw [upd_ne nA.symm]; exact h.a, by rw [upd_ne nC.symm]; exact h.c, h.le⟩
  · rw [List.map_append]
    exact DpAll.fz (TupK.upd hvs (by intro xs h; cases h) (by intro ob xs h; cases h)) (by
      have := fz_kdsA (ks ++ [k])
      rwa [List.map_append] at this) (dpAll_app b (.cons hv .nil))
end
section
variable {X : Cx} {Γ : Cxt} {e : Expr} {M : List Addr} {ns : List Int}
theorem g_enumLT {elts : List Expr} {kk : Nat} {tpos p pos : Pos} (hg : Gl X "enumerate") (hm : X.mg "enumerate" = none) (h : PY X e Γ (tLT M ns)) (hs1 : starEach [e] X.env = (false, eval e X.env) :: starEach [] X.env := by rfl) (hs : starEach [e] X.env = [(false, eval e X.env)] := by rfl) :
    PI X (.Tuple elts kk tpos) (.Call (.Name "enumerate" p) [e] [] pos) (fun σ H R => Env Γ σ H ∧ ∀ (a : Addr) J H', Same H H' → H' a = some (.lst (ns.map V.int)) → a ∉ M → W2 J (fun H => H a = some (.lst (ns.map V.int))) ns.length (fun i x H => ∃ T y, x = .ref T ∧ SqT X.K H T [.int (i : Nat), y] ∧ (ns.map V.int)[i]? = some y) → R J H') :=
  PI.imp (pi_enum hg hm (ya_cons h ya_nil hs1) hs) fun σ H R ⟨g, q⟩ => ⟨g, fun vs H1 s1 hvs => by
    obtain ⟨v, rfl, a, rfl, h2, h3⟩ := all1 hvs
    refine ⟨a, ns.map V.int, rfl, SqL.of h2, q a _ H1 s1 h2 h3 ⟨fun i H' s hi => ?_, fun H' s => ⟨_, SqL.of s, by rw [List.length_map]; exact Nat.le_refl _⟩, fun i H' x H'' s y hi => ?_⟩⟩
    · exact ⟨_, (ns.map V.int)[i]'(by rw [List.length_map]; exact hi), SqL.of s, List.getElem?_eq_getElem _⟩
    · obtain ⟨T, x', rfl, hT, rfl, y⟩ := y
      exact ⟨Same.new hT, T, x', rfl, SqT.of upd_same, y _ (SqL.of s)⟩⟩
/-- a walk over a list newly made -/
theorem g_new {tg : Expr} {A C : Addr} {cs : List Int} {Hb : Hp} {Pr : List V → Prop} (h : PE X e (tVb A C cs Hb Γ (vL Hb Pr))) : PI X tg e (fun σ H R => EM [A] Hb H ∧ Env Γ σ H ∧ HandOk A C cs H ∧ ∀ (a : Addr) (vs : List V) J H', EM [A] H H' → HandOk A C cs H' → H' a = some (.lst vs) → Hb a = none → Pr vs → W2 J (fun H => H a = some (.lst vs)) vs.length (fun i x _ => vs[i]? = some x) → R J H') :=
  PI.imp (pi_list h) fun σ H R ⟨eb, g, hh, q⟩ => ⟨eb, g, hh, fun v H1 e1 hh1 ⟨a, vs, ev, h1, h2, h3⟩ => ⟨a, ev, ⟨vs, SqL.of h1⟩, q a vs _ H1 e1 hh1 h1 h2 h3 ⟨fun i H' s hi => ⟨vs, vs[i], SqL.of s, List.getElem?_eq_getElem hi⟩, fun H' s => ⟨vs, SqL.of s, Nat.le_refl _⟩, fun i H' x H'' s ⟨e2, y⟩ hi => by subst e2; exact ⟨Same.refl _, y _ (SqL.of s)⟩⟩⟩⟩
end
end Lp
/-! LpH5 -/
namespace Lp
open PySem PySem.Spec PyProof.Rows L2
theorem EM.drop0 {M : List Addr} {Hb H0 H' : Hp} {r : Addr} (e : EM M Hb H0) (n : Hb r = none) (e' : EM (r :: M) H0 H') : EM M Hb H' := fun a o na ha => by
  refine e' a o (fun z => ?_) (e a o na ha)
  rcases List.mem_cons.mp z with q | q
  · rw [q, n] at ha; cases ha
  · exact na q
theorem erase_map {α β : Type} (f : α → β) : ∀ (l : List α) (i : Nat), (l.map f).eraseIdx i = (l.eraseIdx i).map f
  | [], _ => rfl
  | _ :: _, 0 => rfl
  | x :: l, i + 1 => by
    show f x :: (l.map f).eraseIdx i = f x :: (l.eraseIdx i).map f
    rw [erase_map f l i]
theorem zs_int (l : List Nat) : (zs l).map PyData.int = l.map iN := by unfold zs; rw [List.map_map]; rfl
theorem lst_zs {K : PySem.W.Frag} {H : Hp} {l : List Nat} {vs : List V} (h : DpAll K H vs (l.map iN)) : vs = (zs l).map V.int := dpAll_ints (K := K) (H := H) (by rw [zs_int]; exact h)
theorem rgV_zs (n : Nat) : rgV 0 (n : Int) = (zs (List.range n)).map V.int := by
  unfold rgV zs
  rw [List.map_map, Int.sub_zero, Int.toNat_natCast]
  refine List.map_congr_left fun i _ => ?_
  show V.int _ = V.int _
  rw [Int.zero_add]
section
variable {X : Cx} {Γ : Cxt} {a b c : Expr} {pos : Pos}
theorem t_chainLt {i j k : Int} (ha : PY X a Γ (tI i)) (hb : PY X b Γ (tI j)) (hc : PY X c Γ (tI k)) (hm : lastMarks [CmpOp.LtE, CmpOp.Lt] [b, c] = false := by rfl) : PYT X (.Compare a [.LtE, .Lt] [b, c] pos) Γ (decide (i ≤ j) && decide (j < k)) :=
  PT.imp (pt_chain op_le op_lt ha hb hc hm) fun σ H Q ⟨g, q⟩ => ⟨g, fun x H1 s1 hx => ⟨g.up s1, fun y H2 s2 hy => ⟨i, j, hx, hy, _, rfl, by
    by_cases l : i ≤ j
    · rw [if_pos (decide_eq_true l)]
      exact ⟨g.up (s1.trans s2), fun z H3 s3 hz => ⟨j, k, hy, hz, _, rfl, by
        have := q H3 ((s1.trans s2).trans s3)
        rwa [decide_eq_true l, Bool.true_and] at this⟩⟩
    · rw [if_neg (by simp [l])]
      refine ⟨_, rfl, ?_⟩
      have := q H2 (s1.trans s2)
      rwa [decide_eq_false l, Bool.false_and] at this⟩⟩⟩
end
def SpTab (K : PySem.W.Frag) : Sp := fun vs H Q _ => ∃ (A C : Addr) (cs : List Int), vs = [.ref A] ∧ HandOk A C cs H ∧ ∀ v (n : Nat) (ks : List Kd) H', TabR n ks → SrtK ks → EM [A] H H' → HandOk A C cs H' → Dp K H' v (.tuple [iN n, dKs ks]) → Q v H'
def ov : Option Nat → V
  | none => .non
  | some c => .int (c : Nat)
structure Wz (n s0 : Nat) where
  at_ : Nat
  ks : List Kd
  ah : List Nat
  le : at_ ≤ n
  len : ah.length = at_
  ok : ∀ c, c ∈ ah → c < n
  kok : ∀ k, k ∈ ks → KOk n k
  lo : at_ ≤ s0 + ks.length
  hi : ks.length ≤ 6 * at_
section
variable {P : Program} {w : World} {K : PySem.W.Frag} {mg : Str → Option Value} {base : Heap}
theorem c_law_sound_table (T : Tp K mg) : Callee P w K mg base "_law_sound_table" 3 ["_law_hand_here"] (SpTab K) := by
  obtain ⟨fd, F, b⟩ := T.defLawSoundTable
  refine ⟨_, fd, fnH F scLawSoundTable (fun vs H Q E ⟨A, C, cs, e, _⟩ => by rw [e]; rfl) fun vs H0 Q E hsp cdv Ar outer s hr => ?_, T.gLawSoundTable, F.kp, b⟩
  obtain ⟨A, C, cs, rfl, hh0, q⟩ := hsp
  have nd := scLawSoundTable.nd
  let G0 : Cxt := [some (tV (.ref A)), none, none, none, none, none, none, none, none, none, none, none, none, none, none, none]
  have ste0 : StE (Rm [A]) G0 := by repeat (first | exact StE.nil | apply StE.no | refine StE.so st_v ?_)
  refine ⟨fun σ H => Env G0 σ H ∧ EM [A] H0 H ∧ HandOk A C cs H, ⟨env_start (N := ["_law_hand_here", "_law_cells", "_law_left", "_law_order", "_law_cell", "_law_still", "_law_ahead", "_law_kinds", "_law_at", "_law_row", "_law_place", "_law_near", "_law_one", "_law_own", "_law_reads", "_law_turn"]) (AllY.cons (τ := tV (.ref A)) rfl .nil), EM.refl _, hh0⟩, ?_⟩
  -- cells
  refine h_asgE (i := 1) (v_addN (i := 1) (PY.eq y_int rfl) (v_draw (Γ := G0) (m := 8) (A := A) (C := C) (cs := cs) (c_law_draw T) (hr.mono (by decide)) (by rfl) (yv 0) (PY.eq y_int rfl) ⟨by decide, by decide⟩))
    (M := fun σ H => ∃ n : { n : Nat // 1 ≤ n ∧ n ≤ 8 }, Env (G0.set 1 (some (tI (n.1 : Nat)))) σ H ∧ EM [A] H0 H ∧ HandOk A C cs H)
    (fun σ H Q p k => ⟨p.1, p.2.2, fun v H' e hh ⟨r, ev, x, hx, ex⟩ => k v H' ⟨⟨r, by omega, by omega⟩, (p.1.st ste0 ⟨e, p.2.2.no1⟩).set ev, p.2.1.trans e, hh⟩⟩) ?_ nd
  refine h_ex fun ⟨n, n1, n8⟩ => ?_
  -- left
  refine h_asgE (i := 2) (pe_listRg (by rfl) (by rfl) T.fList (prg_1 (by rfl) T.fRange (yv 1 (Γ := G0.set 1 (some (tI (n : Nat)))))))
    (M := fun σ H => ∃ L, (H0 L = none ∧ L ≠ A ∧ L ≠ C) ∧ Env ((G0.set 1 (some (tI (n : Nat)))).set 2 (some (tV (.ref L)))) σ H ∧ EM [A] H0 H ∧ HandOk A C cs H ∧ H L = some (.lst ((zs (List.range n)).map V.int)))
    (fun σ H Q p k => ⟨p.1, fun x H1 s1 hx => ⟨(n : Int), hx, RgOk.of_le (by omega) (by omega) (by omega) (by omega), fun L hL => k _ _ ?_⟩⟩) ?_ nd (hx := Or.inr rfl)
  · have hh1 := p.2.2.up s1
    refine ⟨L, ⟨EM.fr (p.2.1.trans (EM.same s1)) hh1 hL, fun z => hh1.isA (z ▸ hL), fun z => hh1.isC (z ▸ hL)⟩, (p.1.up (s1.trans (Same.new hL))).set rfl, p.2.1.trans (EM.same (s1.trans (Same.new hL))), hh1.up (Same.new hL), ?_⟩
    rw [upd_same, rgV_zs]
  refine h_ex fun L => h_and fun ⟨nL, LA, LC⟩ => ?_
  -- order
  let G2 : Cxt := (G0.set 1 (some (tI (n : Nat)))).set 2 (some (tV (.ref L)))
  have ste2 : ∀ {M}, StE (Rm M) G2 := fun {M} => by repeat (first | exact StE.nil | apply StE.no | refine StE.so st_v ?_)
  let GL : List Nat → Cxt := fun ls => (G0.set 1 (some (tI (n : Nat)))).set 2 (some (tAtL L (zs ls)))
  let teO : TE := fun σ H Q => ∃ ls : { l : List Nat // 0 < l.length ∧ l.length ≤ 8 }, tBM K "list" rPopAt (tY (GL ls.1) (tAtL L (zs ls.1))) (tCons (tVo A C cs (GL ls.1) (vN ls.1.length)) tNil) σ H Q
  let G3 : List Nat → Cxt := fun os => (G0.set 1 (some (tI (n : Nat)))).set 3 (some (tLT [A] (zs os)))
  refine h_by (M := fun σ H => ∃ os : { l : List Nat // l.length = n ∧ ∀ c, c ∈ l → c < n }, Env (G3 os.1) σ H ∧ EM [A] H0 H ∧ HandOk A C cs H) (ps_setLc (i := 3) (own := [("_law_cell", 4)]) (g := gName 4) (tt := tYes) (te := teO) (by rfl) nd (by rfl) (by rfl) (sw_true (by rfl) (by rfl) (by rfl) (by decide +kernel)) (g_rng (n := n) (Γ := G2) (by rfl) T.fRange (yv 1) (by omega)) (blkOk_by (N := ["_law_hand_here", "_law_cells", "_law_left", "_law_order", "_law_cell", "_law_still", "_law_ahead", "_law_kinds", "_law_at", "_law_row", "_law_place", "_law_near", "_law_one", "_law_own", "_law_reads", "_law_turn"]) (sc := defScope sLawSoundTable) (by decide +kernel)) (fun _ _ _ _ _ => pg_name (i := 4) nd rfl (Or.inl rfl)) (fun _ _ _ _ _ => pts_nil)
    (fun _ _ _ _ _ => pe_ex fun ls => pe_bm PySem.F.plainAttrs_list PySem.F.slot_list_pop PySem.F.type_list_pop mt_popAt (yv 2) (pa_cons (v_draw (Γ := GL ls.1) (m := ls.1.length) (A := A) (C := C) (cs := cs) (c_law_draw T) (hr.mono (by decide)) (by rfl) (yv 0) (PY.eq (y_lenL (ds := (zs ls.1).map .int) (by rfl) T.fLen (PY.to (yv 2) at_data)) (congrArg tI (by rw [List.length_map, zs_len]))) ⟨ls.2.1, by have := ls.2.2; omega⟩) pa_nil)))
    (fun Dd σ H ⟨g, e0, hh, hL⟩ m _ => ⟨g, fun z J H1 s1 _ wk => ?_⟩) ?_
  · have g1 := g.up s1
    have hh1 := hh.up s1
    have lr : (List.range n).length = n := List.length_range
    have noL : ∀ {H' : Hp} {xs : List V}, HandOk A C cs H' → H' L = some (.lst xs) → ∀ m, m ∈ [L, A] → NoTup H' m := fun h1 h2 m hm => by
      rcases List.mem_cons.mp hm with e | hm
      · rw [e]; exact ⟨_, h2, fun xs z => (by cases z), fun ob xs z => (by cases z)⟩
      · exact h1.no1 m hm
    refine lcV2 (K := K) (M := [L, A]) (tt := tYes) (te := teO) (Q := fun v H' => Dd.nx (σ.set 3 (some v)) H') (fun i H' => HandOk A C cs H' ∧ ∃ ls : List Nat, H' L = some (.lst ((zs ls).map V.int)) ∧ ls.length = n - i ∧ ∀ c, c ∈ ls → c < n) (fun i H H' D hD ⟨h, ls, a, b⟩ e => ⟨hand_dep hh1 hD h e, ls, by rw [e L (fun z => by rw [← z, s1 _ _ hL] at hD; cases hD) (by rw [a]; intro z; cases z)]; exact a, b⟩) (fun i H ⟨h, ls, a, _⟩ => noL h a) (List.range n) (by omega) (fun i => tI (i : Nat)) (fun _ => true) (fun _ d => ∃ r : Nat, d = iN r ∧ r < n) (fun x d _ ⟨r, e, _⟩ => by rw [e]; rfl) (Γ := G2) (j := 4) (ok := fun _ => True) (val := fun i v => v = .int (i : Nat)) ⟨hh1, List.range n, s1 _ _ hL, lr, fun c hc => List.mem_range.mp hc⟩ (fun H' e => g1.st ste2 ⟨e, noL hh1 (s1 _ _ hL)⟩) (by rw [lr]; exact wk) (fun _ _ => trivial) (fun H' i v x e hv hx => ?_) (fun i x σ' H' _ e gi env Q q => q H' (EM.refl _) gi) (fun i x σ' H' hx _ e gi env Q q => ?_) (fun i x H' _ hf => by cases hf) (fun D' vs ds H' f e gn hD' hdp hall => ?_)
    · obtain ⟨hl, hy⟩ := List.getElem?_eq_some_iff.mp hx
      rw [List.getElem_range] at hy
      rw [hv, hy]; rfl
    · obtain ⟨h1, ls, hls, ll, lb⟩ := gi
      have hi : i < n := by have := lt_of_get hx; omega
      have gL : Env (GL ls) σ' H' := (env.forget 4).put (i := 2) (τ := tAtL L (zs ls)) (by
        obtain ⟨v, a1, a2⟩ := env.at_ 2 (tV (.ref L)) rfl
        rw [a1, show v = V.ref L from a2]) ⟨rfl, hls⟩
      refine ⟨⟨ls, by omega, by omega⟩, gL, fun v H1 s1 ⟨ev, hv⟩ => ⟨?_, gL.up s1, h1.up s1, fun y H2 e2 hh2 ⟨r, ey, hr⟩ => ?_⟩⟩
      · rw [ev]; exact .inl ⟨rfl, _, SqL.of hv⟩
      · have hr : r < ls.length := hr
        have hv2 : H2 L = some (.lst ((zs ls).map V.int)) := e2 _ _ (fun z => LA (List.mem_singleton.mp z)) hv
        refine ⟨L, (zs ls).map V.int, (r : Int), r, .int (ls[r] : Nat), ev, by rw [ey], hv2, by omega, by omega, ?_, ?_, ?_⟩
        · unfold seqIndex?
          rw [List.length_map, zs_len]
          have : ¬ ((r : Int) < 0) := by omega
          simp [this, hr]
        · rw [List.getElem?_map, zs_get (List.getElem?_eq_getElem hr)]; rfl
        · have e3 : EM [L, A] H' (upd H2 L (.lst (((zs ls).map V.int).eraseIdx r))) := ((EM.same s1).trans (e2.mono fun a ha => List.mem_cons_of_mem _ ha)).own List.mem_cons_self
          have hh3 : HandOk A C cs (upd H2 L (.lst (((zs ls).map V.int).eraseIdx r))) := by
            obtain ⟨z, k⟩ := hh2
            exact ⟨z, by rw [upd_ne LA.symm]; exact k.a, by rw [upd_ne LC.symm]; exact k.c, k.le⟩
          refine q _ (iN ls[r]) _ e3 ⟨hh3, ls.eraseIdx r, ?_, ?_, fun c hc => lb c (List.mem_of_mem_eraseIdx hc)⟩ ⟨_, rfl, lb _ (List.getElem_mem hr)⟩ (.int _)
          · rw [upd_same, erase_map]
            unfold zs
            rw [erase_map]
          · rw [List.length_eraseIdx_of_lt hr]; omega
    · rw [List.filter_eq_self.mpr (fun _ _ => rfl)] at hall
      obtain ⟨os, eo, lo, ho⟩ := all2_nat hall
      rw [eo] at hdp
      refine m _ _ ⟨⟨os, by omega, ho⟩, ?_, (e0.trans (EM.same s1)).drop0 nL e, gn.1⟩
      have g4 : Env G2 σ H' := g1.st ste2 ⟨e, noL hh1 (s1 _ _ hL)⟩
      exact (g4.forget 2).set (i := 3) (τ := tLT [A] (zs os)) ⟨D', rfl, by rw [hD', lst_zs hdp], fun z => by
        rw [List.mem_singleton.mp z] at f
        exact hh1.isA f⟩
  refine h_ex fun ⟨os, ol, ob⟩ => ?_
  -- still
  refine h_asgE (i := 5) (pe_slice sl_list (yv 3 (Γ := G3 os) (τ := tLT [A] (zs os))) po_none (po_some (v_draw (Γ := G3 os) (m := min 3 n) (A := A) (C := C) (cs := cs) (c_law_draw T) (hr.mono (by decide)) (by rfl) (yv 0) (y_min2 (by rfl) (by rfl) T.fMin (PY.eq y_int rfl) (yv 1)) ⟨by omega, by omega⟩)))
    (M := fun σ H => ∃ st : { l : List Nat // l.length < n ∧ ∀ c, c ∈ l → c < n }, Env ((G3 os).set 5 (some (tLT [A] (zs st.1)))) σ H ∧ EM [A] H0 H ∧ HandOk A C cs H)
    (fun σ H Q p k => ⟨p.1, fun x H1 s1 ⟨a, ex, ha, na⟩ => ⟨p.1.up s1, p.2.2.up s1, fun z H3 e3 hh3 ⟨r, ez, hr⟩ => ⟨_, ez, a, _, ex, SqL.of (e3 _ _ na ha), fun t ht => k _ _ ?_⟩⟩⟩) ?_ nd
  · have ste3 : StE (Rm [A]) (G3 os) := by repeat (first | exact StE.nil | apply StE.no | refine StE.so (by first | exact st_v | exact st_l) ?_)
    have hr : r < min 3 n := hr
    have e4 : EM [A] H (upd H3 t (.lst (cutV ((zs os).map V.int) none (some (r : Int))))) := ((EM.same s1).trans e3).trans (EM.same (Same.new ht))
    refine ⟨⟨os.take r, by rw [List.length_take]; omega, fun c hc => ob c (List.mem_of_mem_take hc)⟩, (p.1.st ste3 ⟨e4, p.2.2.no1⟩).set ⟨t, rfl, ?_, fun z => hh3.isA (by rw [← List.mem_singleton.mp z]; exact ht)⟩, p.2.1.trans e4, hh3.up (Same.new ht)⟩
    rw [upd_same, cutV_take]
    unfold zs
    rw [← List.map_take, ← List.map_take]
  refine h_ex fun ⟨st, sl, sb⟩ => ?_
  -- ahead
  refine h_asgE (i := 6) (pe_callTy (x := "list") call_list_of (by rfl) T.fList (by decide +kernel) (ya_cons (yv 5 (Γ := (G3 os).set 5 (some (tLT [A] (zs st)))) (τ := tLT [A] (zs st))) ya_nil))
    (M := fun σ H => Env (((G3 os).set 5 (some (tLT [A] (zs st)))).set 6 (some (tLT [A] (zs st)))) σ H ∧ EM [A] H0 H ∧ HandOk A C cs H)
    (fun σ H Q p k => ⟨p.1, fun vs H1 s1 hvs => ?_⟩) ?_ nd
  · obtain ⟨v, rfl, a, rfl, ha, na⟩ := all1 hvs
    have hh1 := p.2.2.up s1
    exact ⟨a, _, rfl, .inl (SqL.of ha), fun l hl => k _ _ ⟨(p.1.up (s1.trans (Same.new hl))).set ⟨l, rfl, upd_same, fun z => hh1.isA (by rw [← List.mem_singleton.mp z]; exact hl)⟩, p.2.1.trans (EM.same (s1.trans (Same.new hl))), hh1.up (Same.new hl)⟩⟩
  -- kinds
  refine h_asgE (i := 7) (pe_lst (ya_nil (Γ := ((G3 os).set 5 (some (tLT [A] (zs st)))).set 6 (some (tLT [A] (zs st))))))
    (M := fun σ H => ∃ KL, (H0 KL = none ∧ KL ≠ A ∧ KL ≠ C) ∧ EM [A] H0 H ∧ KSt K A C KL cs [some (tV (.ref A)), some (tI (n : Nat)), none, some (tLT [KL, A] (zs os)), none, some (tLT [KL, A] (zs st)), some (tLT [KL, A] (zs st)), some (tV (.ref KL)), none, none, none, none, none, none, none, none] [] σ H)
    (fun σ H Q p k => ⟨p.1, fun vs H1 s1 hvs => ?_⟩) ?_ nd
  · cases hvs
    have hh1 := p.2.2.up s1
    refine ⟨by show 0 ≤ sizeLine; decide, fun KL hl => k _ _ ⟨KL, ⟨EM.fr (p.2.1.trans (EM.same s1)) hh1 hl, fun z => hh1.isA (z ▸ hl), fun z => hh1.isC (z ▸ hl)⟩, p.2.1.trans (EM.same (s1.trans (Same.new hl))), ?_, hh1.up (Same.new hl), [], upd_same, .nil⟩⟩
    have g1 := (p.1.up s1).cv (H := H1) (Γ' := [some (tV (.ref A)), some (tI (n : Nat)), none, some (tLT [KL, A] (zs os)), none, some (tLT [KL, A] (zs st)), some (tLT [KL, A] (zs st)), none, none, none, none, none, none, none, none, none]) (.op co_id (.op co_id (.no (.op (co_up hl) (.no (.op (co_up hl) (.op (co_up hl) (.no (.no (.no (.no (.no (.no (.no (.no (.no .nil))))))))))))))))
    exact (g1.up (Same.new hl)).set (i := 7) (τ := tV (.ref KL)) rfl
  refine h_ex fun KL => h_and fun ⟨nK, KA, KC⟩ => ?_
  have hCM : ∀ {σ H Γ ks}, KSt K A C KL cs Γ ks σ H → KL ≠ C := fun _ => KC
  let GW : List Nat → Nat → Cxt := fun ah at_ => GT A KL n os [KL, A] ah at_ none none none none none none
  let W : Wz n st.length → SP2 := fun z σ H => EM [A] H0 H ∧ KSt K A C KL cs (GW z.ah z.at_) z.ks σ H
  -- at
  refine h_asg (i := 8) (Γ := [some (tV (.ref A)), some (tI (n : Nat)), none, some (tLT [KL, A] (zs os)), none, some (tLT [KL, A] (zs st)), some (tLT [KL, A] (zs st)), some (tV (.ref KL)), none, none, none, none, none, none, none, none]) (τ := tI (st.length : Nat)) (PY.eq (y_lenL (ds := (zs st).map .int) (by rfl) T.fLen (PY.to (yv 5) lt_data)) (congrArg tI (by rw [List.length_map, zs_len]))) (fun σ H p => p.2.env)
    (M := W ⟨st.length, [], st, by omega, rfl, sb, fun k hk => (by cases hk), (by simp), (by simp)⟩) (fun σ H v H' p s hv => ⟨p.1.trans (EM.same s), (((p.2.up s).set (i := 8) (τ := tI (st.length : Nat)) hv).cv (.op co_id (.op co_id (.no (.op co_id (.no (.no (.op co_id (.op co_id (.op co_id (.no (.no (.no (.no (.no (.no (.no .nil)))))))))))))))))⟩) ?_ nd
  -- while
  refine h_while (ζ := Wz n st.length) W (fun z => n - z.at_) (fun z => GW z.ah z.at_) (fun z => decide (z.at_ < n)) (fun z => PYT.eq ((c_lt (yv 8) (yv 1)).tst _) (decide_eq_decide.mpr (by omega))) (fun z σ H p => p.2.env) (fun z σ H H' p s => ⟨p.1.trans (EM.same s), p.2.up s⟩) (fun σ H p => ⟨_, p⟩) (fun z hz => ?_) ?_
  · have hz : z.at_ < n := of_decide_eq_true hz
    obtain ⟨at_, ks0, ah, zle, zlen, zok, zkok, zlo, zhi⟩ := z
    have hz : at_ < n := hz
    -- row
    let GR : List Nat → Nat → Cxt := fun row a => GT A KL n os [KL, A] ah a none (some (tLT [KL, A] (zs row))) none none none none
    refine h_asgE (i := 9) (pe_slice sl_list (yv 3 (Γ := GW ah at_) (τ := tLT [KL, A] (zs os))) (po_some (yv 8 (Γ := GW ah at_) (τ := tI (at_ : Nat)))) (po_some (v_addN (i := at_ + 1) (PY.eq (y_add (yv 8 (Γ := GW ah at_)) y_int) (congrArg tI (by omega))) (v_draw (Γ := GW ah at_) (m := 5) (A := A) (C := C) (cs := cs) (c_law_draw T) (hr.mono (by decide)) (by rfl) (yv 0) (PY.eq y_int rfl) ⟨by decide, by decide⟩))))
      (M := fun σ H => ∃ row : { l : List Nat // 1 ≤ l.length ∧ at_ + l.length ≤ n ∧ ∀ c, c ∈ l → c < n }, EM [A] H0 H ∧ KSt K A C KL cs (GR row.1 at_) ks0 σ H)
      (fun σ H Q p k => ⟨p.2.env, fun x H1 s1 ⟨a, ex, ha, na⟩ => ⟨p.2.env.up s1, fun y H2 s2 hy => ⟨_, hy, p.2.env.up (s1.trans s2), p.2.hand.up (s1.trans s2), fun u H3 e3 hh3 ⟨r, eu, x', hx', er⟩ => ⟨_, eu, a, _, ex, SqL.of (e3 _ _ (fun z => na (List.mem_cons_of_mem _ z)) (s2 _ _ ha)), fun t ht => k _ _ ?_⟩⟩⟩⟩) ?_ nd (hx := Or.inr rfl)
    · have steW : StE (Rm [A]) (GW ah at_) := GT_st (fun a h => List.mem_cons_of_mem _ h) so_no so_no so_no so_no so_no so_no
      have p3 := (p.2.up (s1.trans s2)).draw steW KA e3 hh3
      have e4 : EM [A] H H3 := (EM.same (s1.trans s2)).trans e3
      refine ⟨⟨(os.drop at_).take (r - at_), ?_, ?_, fun c hc => ob c (List.mem_of_mem_drop (List.mem_of_mem_take hc))⟩, p.1.trans (e4.trans (EM.same (Same.new ht))), (p3.up (Same.new ht)).set (i := 9) (τ := tLT [KL, A] (zs ((os.drop at_).take (r - at_)))) ⟨t, rfl, ?_, fun z => ?_⟩⟩
      · rw [List.length_take, List.length_drop]; omega
      · rw [List.length_take, List.length_drop]; omega
      · rw [upd_same, cutV_mid]
        unfold zs
        rw [← List.map_drop, ← List.map_drop, ← List.map_take, ← List.map_take]
      · rcases List.mem_cons.mp z with e | z
        · obtain ⟨vs, h1, _⟩ := p3.kl
          rw [← e, ht] at h1; cases h1
        · rw [List.mem_singleton.mp z] at ht
          exact hh3.isA ht
    refine h_ex fun ⟨row, r1, rn, rb⟩ => ?_
    have r1 : 1 ≤ row.length := r1
    have rn : at_ + row.length ≤ n := rn
    let at' := at_ + row.length
    refine h_asg (i := 8) (Γ := GR row at_) (τ := tI (at' : Nat)) (PY.eq (y_add (yv 8) (y_lenL (ds := (zs row).map .int) (by rfl) T.fLen (PY.to (yv 9) lt_data))) (congrArg tI (by rw [List.length_map, zs_len]; omega))) (fun σ H p => p.2.env) (M := fun σ H => EM [A] H0 H ∧ KSt K A C KL cs (GR row at') ks0 σ H) (fun σ H v H' p s hv => ⟨p.1.trans (EM.same s), (p.2.up s).set (i := 8) (τ := tI (at' : Nat)) hv⟩) ?_ nd
    -- the cells of the row
    let I1 : Addr → Nat → SP2 := fun zr i σ H => zr ∉ [KL, A] ∧ H zr = some (.lst ((zs row).map V.int)) ∧ EM [A] H0 H ∧ ∃ ks : { l : List Kd // (∀ k, k ∈ l → KOk n k) ∧ ks0.length + i ≤ l.length ∧ l.length ≤ ks0.length + 6 * i }, KSt K A C KL cs (GR row at') ks.1 σ H
    let GI : Nat → Nat → Cxt := fun i c => GT A KL n os [KL, A] ah at' (some (tI (c : Nat))) (some (tLT [KL, A] (zs row))) (some (tI (i : Nat))) none none none
    let B1 : Addr → Nat → SP2 := fun zr i σ H => ∃ c : { c : Nat // row[i]? = some c }, zr ∉ [KL, A] ∧ H zr = some (.lst ((zs row).map V.int)) ∧ EM [A] H0 H ∧ ∃ ks : { l : List Kd // (∀ k, k ∈ l → KOk n k) ∧ ks0.length + i ≤ l.length ∧ l.length ≤ ks0.length + 6 * i }, KSt K A C KL cs (GI i c.1) ks.1 σ H
    refine h_forV (n := fun _ => (zs row).length) I1 B1 (by rfl) (g_enumLT (Γ := GR row at') (M := [KL, A]) (ns := zs row) (by rfl) T.fEnumerate (yv 9)) (pg_tup (by rfl) (pgs_cons (pg_name (i := 10) nd rfl (Or.inl rfl)) (pgs_cons (pg_name (i := 4) nd rfl (Or.inl rfl)) pgs_nil))) (fun σ H T' p k => ⟨p.2.env, fun a J H' s h1 h2 wk => k a J H' ⟨h2, h1, p.1.trans (EM.same s), ⟨ks0, zkok, by omega, by omega⟩, p.2.up s⟩ wk⟩) (fun z i σ H _ p => p.2.1) (fun z i σ H H2 x lt p s ⟨T', y, ex, hT, hy⟩ => ?_) (fun zr i lt => ?_) ?_ (mono := mono_pair)
    · subst ex
      obtain ⟨nz, hzr, e0, ks, kst⟩ := p
      have lt : i < row.length := by rw [zs_len] at lt; exact lt
      have hc : row[i]? = some row[i] := List.getElem?_eq_getElem lt
      rw [List.getElem?_map, zs_get hc] at hy
      cases hy
      exact gp_pair hT ⟨⟨_, hc⟩, nz, s _ _ hzr, e0.trans (EM.same s), ks, ((kst.up s).set (i := 10) (τ := tI (i : Nat)) rfl).set (i := 4) (τ := tI (row[i] : Nat)) rfl⟩
    · refine h_ex fun ⟨c, hc⟩ => ?_
      refine h_frame fun σb Hb ⟨nz, hzr, e0, ⟨ks, kok1, klo, khi⟩, kst⟩ => ?_
      have lt : i < row.length := by rw [zs_len] at lt; exact lt
      have cn : c < n := rb c (List.mem_of_getElem? hc)
      -- near
      let l2 : List Int := [(i : Int) - 1, (i : Int) + 1]
      let f2 : Int → Bool := fun one => decide (0 ≤ one) && decide (one < (row.length : Int))
      let nr : List Nat := (l2.filter f2).map fun one => row.getD one.toNat 0
      have in2 : ∀ one, f2 one = true → one.toNat < row.length ∧ ((one.toNat : Nat) : Int) = one := fun one h => by
        have h : (decide (0 ≤ one) && decide (one < (row.length : Int))) = true := h
        rw [Bool.and_eq_true, decide_eq_true_eq, decide_eq_true_eq] at h
        omega
      have nr2 : nr.length ≤ 2 := by
        show ((l2.filter f2).map _).length ≤ 2
        rw [List.length_map]
        exact List.length_filter_le _ _
      have nrb : ∀ x, x ∈ nr → x < n := fun x hx => by
        obtain ⟨one, h1, rfl⟩ := List.mem_map.mp hx
        obtain ⟨a, _⟩ := in2 one (List.mem_filter.mp h1).2
        rw [List.getD_eq_getElem?_getD, List.getElem?_eq_getElem a]
        exact rb _ (List.getElem_mem a)
      let GN : Cxt := GT A KL n os [KL, A] ah at' (some (tI (c : Nat))) (some (tLT [KL, A] (zs row))) (some (tI (i : Nat))) (some (tLT [KL, A] (zs nr))) none none
      refine h_by (M := fun σ H => EM [KL, A] Hb H ∧ KSt K A C KL cs GN ks σ H) (ps_lc1 (Γ := GI i c) 12 11 l2 (fun one => tD K (.int one)) f2 (fun one => iN (row.getD one.toNat 0)) (by show 2 ≤ 100000; decide) (fun _ _ => rfl) (by rfl) nd (by rfl) (by rfl) (sw_true (by rfl) (by rfl) (by rfl) (by decide +kernel)) (i_listM (d := PyData.int) (n_lst (ds := [.int ((i : Int) - 1), .int ((i : Int) + 1)]) (ya_cons (PY.ofInt (y_sub (yv 10) y_int)) (ya_cons (PY.ofInt (y_add (yv 10) y_int)) ya_nil)) (by show 2 ≤ 100000; decide)).y) (blkOk_by (N := ["_law_hand_here", "_law_cells", "_law_left", "_law_order", "_law_cell", "_law_still", "_law_ahead", "_law_kinds", "_law_at", "_law_row", "_law_place", "_law_near", "_law_one", "_law_own", "_law_reads", "_law_turn"]) (sc := defScope sLawSoundTable) (by decide +kernel)) (by rfl) (by rfl)
        (fun one _ _ _ _ _ _ => ts_one (PYT.eq (t_chainLt y_int (PY.int (yv 12)) (y_lenL (ds := (zs row).map .int) (by rfl) T.fLen (PY.to (yv 9) lt_data))) (by rw [List.length_map, zs_len])))
        (fun one _ hf _ _ _ _ _ => y_ixL (ds := (zs row).map .int) (j := one.toNat) (by
          rw [List.getElem?_map, zs_get (List.getElem?_eq_getElem (in2 one hf).1), List.getD_eq_getElem?_getD, List.getElem?_eq_getElem (in2 one hf).1]; rfl) (PY.to (yv 9) lt_data) (PY.eq (PY.int (yv 12)) (congrArg tI (in2 one hf).2.symm))))
        (fun Dd σ H ⟨e1, e2⟩ m _ => ?_) ?_
      · subst e1 e2
        refine ⟨kst.env, fun q vs H' fr s hq hd => m _ _ ⟨EM.same s, (kst.up s).set (i := 11) (τ := tLT [KL, A] (zs nr)) ⟨q, rfl, ?_, kst.fresh fr⟩⟩⟩
        have e9 : vs = (zs nr).map V.int := lst_zs (K := K) (H := H') (by
          show DpAll K H' vs (((l2.filter f2).map _).map iN)
          rw [List.map_map]; exact hd)
        rw [hq, e9]
      refine h_frame fun σc Hc ⟨e1, kst1⟩ => ?_
      -- the versions that it reads of its own
      have steN : StE (Rm [A]) GN := GT_st (fun a h => List.mem_cons_of_mem _ h) so_v (so_l fun a h => List.mem_cons_of_mem _ h) so_v (so_l fun a h => List.mem_cons_of_mem _ h) so_no so_no
      let PrW : List V → Prop := fun vs => nr.length ≤ vs.length ∧ vs.length ≤ nr.length + 3 ∧ ∀ v, v ∈ vs → ∃ o : Option Nat, v = ov o ∧ ∀ x, o = some x → x < n
      have hz1 : ∀ xs ys : List V, xs = (zs nr).map V.int → (∃ r, r < 2 ∧ ys = List.replicate r (.int (c : Nat))) → xs.length + ys.length ≤ 100000 ∧ ∃ r, r < 2 ∧ xs ++ ys = (zs nr).map V.int ++ List.replicate r (.int (c : Nat)) := fun xs ys h1 ⟨r, h2, h3⟩ => by
        refine ⟨?_, r, h2, by rw [h1, h3]⟩
        rw [h1, h3, List.length_map, zs_len, List.length_replicate]; omega
      have hz2 : ∀ xs ys : List V, (∃ r, r < 2 ∧ xs = (zs nr).map V.int ++ List.replicate r (.int (c : Nat))) → (∃ r, r < 3 ∧ ys = List.replicate r .non) → xs.length + ys.length ≤ 100000 ∧ PrW (xs ++ ys) := fun xs ys ⟨r, h1, h2⟩ ⟨r', h3, h4⟩ => by
        have hl : (xs ++ ys).length = nr.length + r + r' := by
          rw [h2, h4, List.length_append, List.length_append, List.length_map, zs_len, List.length_replicate, List.length_replicate]
        have hl2 := List.length_append (as := xs) (bs := ys)
        refine ⟨by omega, by show nr.length ≤ (xs ++ ys).length; omega, by show (xs ++ ys).length ≤ nr.length + 3; omega, fun v hv => ?_⟩
        rw [h2, h4] at hv
        rcases List.mem_append.mp hv with hv | hv
        · rcases List.mem_append.mp hv with hv | hv
          · unfold zs at hv
            rw [List.map_map] at hv
            obtain ⟨x, hx, rfl⟩ := List.mem_map.mp hv
            exact ⟨some x, rfl, fun y hy => by cases hy; exact nrb x hx⟩
          · exact ⟨some c, (List.mem_replicate.mp hv).2, fun y hy => by cases hy; exact cn⟩
        · exact ⟨none, (List.mem_replicate.mp hv).2, fun y hy => by cases hy⟩
      let I2 : Zs → Nat → SP2 := fun zw j σ H => ∃ ks2 : { l : List Kd // (∀ k, k ∈ l → KOk n k) ∧ l.length = ks.length + j }, zw.1 ∉ [KL, A] ∧ PrW zw.2 ∧ H zw.1 = some (.lst zw.2) ∧ EM [KL, A] Hc H ∧ KSt K A C KL cs GN ks2.1 σ H
      let GO : Option Nat → Cxt := fun o => GT A KL n os [KL, A] ah at' (some (tI (c : Nat))) (some (tLT [KL, A] (zs row))) (some (tI (i : Nat))) (some (tLT [KL, A] (zs nr))) (some (tV (ov o))) none
      let B2 : Zs → Nat → SP2 := fun zw j σ H => ∃ o : { o : Option Nat // ∀ x, o = some x → x < n }, ∃ ks2 : { l : List Kd // (∀ k, k ∈ l → KOk n k) ∧ l.length = ks.length + j }, zw.1 ∉ [KL, A] ∧ PrW zw.2 ∧ H zw.1 = some (.lst zw.2) ∧ EM [KL, A] Hc H ∧ KSt K A C KL cs (GO o.1) ks2.1 σ H
      have hA : Hc A ≠ none := kst1.hand.isA
      refine h_forV (n := fun zw : Zs => zw.2.length) (ok := fun zw H => H zw.1 = some (.lst zw.2)) (val := fun zw i x _ => zw.2[i]? = some x) I2 B2 (by rfl) (g_new (Γ := GN) (A := A) (C := C) (cs := cs) (Hb := Hc) (Pr := PrW) (v_cat (P1 := fun vs => ∃ r, r < 2 ∧ vs = (zs nr).map V.int ++ List.replicate r (.int (c : Nat))) (P2 := fun vs => ∃ r, r < 3 ∧ vs = List.replicate r .non) (v_weak hA (v_cat (P1 := fun vs => vs = (zs nr).map V.int) (P2 := fun vs => ∃ r, r < 2 ∧ vs = List.replicate r (.int (c : Nat))) (v_list (M := [KL, A]) (List.mem_cons_of_mem _ List.mem_cons_self) (yv 11)) (v_weak hA (v_rep (yv 4) (v_draw (Γ := GN) (m := 2) (A := A) (C := C) (cs := cs) (c_law_draw T) (hr.mono (by decide)) (by rfl) (yv 0) (PY.eq y_int rfl) ⟨by decide, by decide⟩) (by decide))) hz1 steN)) (v_weak hA (v_rep y_non (v_draw (Γ := GN) (m := 3) (A := A) (C := C) (cs := cs) (c_law_draw T) (hr.mono (by decide)) (by rfl) (yv 0) (PY.eq y_int rfl) ⟨by decide, by decide⟩) (by decide))) hz2 steN)) (pg_name (i := 13) nd rfl (Or.inl rfl)) (fun σ H T' p k => ?_) (fun zw j σ H _ ⟨_, p⟩ => p.2.2.1) (fun zw j σ H H2 x lt ⟨ks2, p1, p2, p3, p4, p5⟩ s hx => ?_) (fun zw j lt => ?_) ?_ (mono := mono_name)
      · obtain ⟨rfl, rfl⟩ := p
        exact ⟨EM.refl _, kst1.env, kst1.hand, fun a vs J H' e hh ha na hp wk => k (a, vs) J H' ⟨⟨ks, kok1, by omega⟩, kst1.fresh na, hp, ha, e.mono fun a h => List.mem_cons_of_mem _ h, kst1.draw steN KA e hh⟩ wk⟩
      · obtain ⟨o, eo, ho⟩ := p2.2.2 x (List.mem_of_getElem? hx)
        exact ⟨⟨o, ho⟩, ks2, p1, p2, s _ _ p3, p4.trans (EM.same s), (p5.up s).set (i := 13) (τ := tV (ov o)) eo⟩
      · refine h_ex fun ⟨o, ho⟩ => h_ex fun ⟨ks2, kok2, kl2⟩ => ?_
        refine h_frame fun σd Hd ⟨nzw, pw, hzw, e2, kst2⟩ => ?_
        have o1 : o.toList.length ≤ 1 := by cases o <;> simp
        have ob : ∀ x, x ∈ o.toList → x < n := fun x hx => ho x (Option.mem_toList.mp hx)
        -- reads
        let GQ : Addr → Cxt := fun RL => GT A KL n os (RL :: [KL, A]) ah at' (some (tI (c : Nat))) (some (tLT (RL :: [KL, A]) (zs row))) (some (tI (i : Nat))) (some (tLT (RL :: [KL, A]) (zs nr))) none (some (tV (.ref RL)))
        refine h_new (i := 14) (Γ := GO o) (ds := o.toList.map iN) (n_if ((c_isN (yv 13) y_non).tst _) (fun hk => ?_) (fun hk => ?_)) (fun σ H p => by rw [p.1, p.2]; exact kst2.env) (M := fun σ H => ∃ RL, Hd RL = none ∧ Same Hd H ∧ H RL = some (.lst ((zs o.toList).map V.int)) ∧ KSt K A C KL cs (GQ RL) ks2 σ H) (fun σ H RL vs H' p fr s hp hd => ?_) ?_ nd
        · cases o with
          | none => exact n_lst (ds := []) ya_nil (by decide)
          | some x => exact absurd (of_decide_eq_true hk) (by intro z; cases z)
        · cases o with
          | none => exact absurd rfl (of_decide_eq_false hk)
          | some x => exact n_lst (ds := [iN x]) (ya_cons (PY.ofInt (yv 13)) ya_nil) (by show 1 ≤ 100000; decide)
        · rw [p.1]
          rw [p.2] at fr s
          refine ⟨RL, fr, s, by rw [hp, lst_zs hd], (((kst2.cv (GT_up fr co_id (co_up fr) co_id (co_up fr) co_no co_no)).up s).set (i := 14) (τ := tV (.ref RL)) rfl)⟩
        refine h_ex fun RL => ?_
        refine h_frame fun σe He ⟨nRL, sde, hRL, kst3⟩ => ?_
        have RK : RL ≠ KL := fun z => kst2.fresh nRL (by rw [z]; exact List.mem_cons_self)
        have RA : RL ≠ A := fun z => kst2.fresh nRL (by rw [z]; exact List.mem_cons_of_mem _ List.mem_cons_self)
        have RC : RL ≠ C := fun z => kst2.hand.isC (z ▸ nRL)
        have rzw : RL ≠ zw.1 := fun z => by rw [z, hzw] at nRL; cases nRL
        -- what it reads ahead
        let I3 : { m : Nat // m < 3 ∧ (ah = [] → m = 0) } → Nat → SP2 := fun z j σ H => ∃ rs : { l : List Nat // l.length ≤ o.toList.length + j ∧ ∀ r, r ∈ l → r < n }, EM [RL, A] He H ∧ H RL = some (.lst ((zs rs.1).map V.int)) ∧ HandOk A C cs H ∧ Env (GQ RL) σ H
        have noR : ∀ {H : Hp} {xs : List V}, HandOk A C cs H → H RL = some (.lst xs) → ∀ m, m ∈ [RL, A] → NoTup H m := fun h1 h2 m hm => by
          rcases List.mem_cons.mp hm with e | hm
          · rw [e]; exact ⟨_, h2, fun xs z => (by cases z), fun ob xs z => (by cases z)⟩
          · exact h1.no1 m hm
        have subR : ∀ a, a ∈ [RL, A] → a ∈ RL :: [KL, A] := fun a h => by
          rcases List.mem_cons.mp h with e | h
          · rw [e]; exact List.mem_cons_self
          · exact List.mem_cons_of_mem _ (List.mem_cons_of_mem _ h)
        have sub1 : ∀ a, a ∈ [A] → a ∈ RL :: [KL, A] := fun a h => List.mem_cons_of_mem _ (List.mem_cons_of_mem _ h)
        have steR : StE (Rm [RL, A]) (GQ RL) := GT_st subR so_v (so_l subR) so_v (so_l subR) so_no so_v
        have steQ : StE (Rm [A]) (GQ RL) := GT_st sub1 so_v (so_l sub1) so_v (so_l sub1) so_no so_v
        have sub2 : ∀ a, a ∈ [KL, A] → a ∈ RL :: [KL, A] := fun a h => List.mem_cons_of_mem _ h
        have steS : StE (Rm [KL, A]) (GQ RL) := GT_st sub2 so_v (so_l sub2) so_v (so_l sub2) so_no so_v
        refine h_forV (n := fun z => z.1) (ok := fun _ _ => True) (val := fun _ i x _ => x = .int (i : Nat)) I3 I3 (by rfl) (g_rngV (Pn := fun m => m < 3 ∧ (ah = [] → m = 0)) (Γ := GQ RL) (A := A) (C := C) (cs := cs) (by rfl) T.fRange (v_if (kk := decide (0 < ah.length)) (PYT.eq ((c_gt (y_lenL (ds := (zs ah).map .int) (by rfl) T.fLen (PY.to (yv 6) lt_data)) y_int).tst _) (decide_eq_decide.mpr (by rw [List.length_map, zs_len]; omega)))
          (fun hk => v_to (v_draw (Γ := GQ RL) (m := 3) (A := A) (C := C) (cs := cs) (c_law_draw T) (hr.mono (by decide)) (by rfl) (yv 0) (PY.eq y_int rfl) ⟨by decide, by decide⟩) fun v H ⟨r, er, hr⟩ => ⟨r, er, hr, fun h => by rw [h] at hk; exact absurd (of_decide_eq_true hk) (by decide)⟩)
          (fun hk => v_to (v_of (PY.eq y_int rfl : PY _ _ (GQ RL) (tI ((0 : Nat) : Int)))) fun v H hv => ⟨0, hv, by decide, fun _ => rfl⟩)) (fun m h => by omega)) (pg_name (i := 15) nd rfl (Or.inl rfl)) (fun σ H T' p k => ?_) (fun _ _ _ _ _ _ => trivial) (fun z j σ H H2 x lt p s hx => ?_) (fun z j lt => ?_) ?_ (mono := mono_name)
        · obtain ⟨rfl, rfl⟩ := p
          exact ⟨kst3.env, kst3.hand, fun m J H' hm e hh wk => k ⟨m, hm⟩ J H' ⟨⟨o.toList, by omega, ob⟩, e.mono fun a h => List.mem_cons_of_mem _ h, e _ _ (fun z => RA (List.mem_singleton.mp z)) hRL, hh, kst3.env.st steQ ⟨e, kst3.hand.no1⟩⟩ wk⟩
        · obtain ⟨rs, p1, p2, p3, p4⟩ := p
          exact ⟨rs, p1.trans (EM.same s), s _ _ p2, p3.up s, (p4.up s).keep rfl⟩
        · refine h_ex fun ⟨rs, rl, rb'⟩ => ?_
          have ahne : 0 < ah.length := by
            cases ah with
            | nil => have := z.2.2 rfl; omega
            | cons x l => simp
          refine h_exprE (pe_bm PySem.F.plainAttrs_list PySem.F.slot_list_append PySem.F.type_list_append mt_append (t_var (i := 14)) (pa_cons (v_any (M := RL :: [KL, A]) (Γ := GQ RL) (A := A) (C := C) (cs := cs) (ns := zs ah) (c_law_any T) hr (by rfl) (yv 0) (yv 6) ⟨by rw [zs_len]; exact ahne, by rw [zs_len]; omega⟩) pa_nil)) (M := I3 z (j + 1)) (fun σ H Q ⟨p1, p2, p3, p4⟩ k => ?_) (h_end fun σ H p => p)
          obtain ⟨v14, a1, a2⟩ := p4.at_ 14 (tV (.ref RL)) rfl
          refine ⟨_, a1, ?_⟩
          rw [show v14 = V.ref RL from a2]
          refine ⟨.inl ⟨rfl, _, SqL.of p2⟩, p4, p3, fun v H' e hh ⟨x, ev, hx⟩ => ⟨RL, (zs rs).map V.int, v, rfl, rfl, e _ _ (fun z => RA (List.mem_singleton.mp z)) p2, sz_lt (by rw [List.length_map, zs_len]; omega), k _ _ ?_⟩⟩
          unfold zs at hx
          obtain ⟨y, hy, rfl⟩ := List.mem_map.mp hx
          have e5 : EM [RL, A] H (upd H' RL (.lst ((zs rs).map V.int ++ [v]))) := (e.mono fun a h => List.mem_cons_of_mem _ h).own List.mem_cons_self
          refine ⟨⟨rs ++ [y], by rw [List.length_append]; show rs.length + 1 ≤ _; omega, fun r hr => ?_⟩, p1.trans e5, ?_, ?_, p4.st steR ⟨e5, noR p3 p2⟩⟩
          · rcases List.mem_append.mp hr with h | h
            · exact rb' r h
            · rw [List.mem_singleton.mp h]; exact zok y hy
          · rw [upd_same, ev]
            unfold zs
            rw [List.map_append, List.map_append]; rfl
          · obtain ⟨zz, kk⟩ := hh
            exact ⟨zz, by rw [upd_ne RA.symm]; exact kk.a, by rw [upd_ne RC.symm]; exact kk.c, kk.le⟩
        -- the kind
        refine h_ex fun z => h_ex fun ⟨rs, rl, rb'⟩ => ?_
        have z3 := z.2.1
        refine h_append (Γ := (GQ RL).set 14 (some (tD K (.list (rs.map iN))))) (τ := tD K (dKd (mkK c rs))) (t_var (i := 7)) (y_tup (ds := [iN c, dT (mkK c rs).2]) (ya_cons (PY.ofInt (yv 4)) (ya_cons (PY.eq (y_tupleL (by rfl) T.fTuple (n_sortSC (by rfl) (by exact hr.units) rs (by omega) (by rfl) T.fSorted (by rfl) T.fSet (yv 14)).y) (by rw [dT_map]; rfl)) ya_nil)) (by show 2 ≤ 100000; decide)) (fun σ H ⟨p1, p2, p3, p4⟩ => ?_) (M := I2 zw (j + 1)) (fun σ H ⟨p1, p2, p3, p4⟩ => ?_) (h_end fun σ H p => p)
        · obtain ⟨v14, a1, a2⟩ := p4.at_ 14 (tV (.ref RL)) rfl
          exact p4.put (i := 14) (v := .ref RL) (by rw [a1, show v14 = V.ref RL from a2]) (by
            rw [← zs_int]
            exact .lst (SqL.of p2) (ints_dpAll _))
        · have nRe : ∀ m, m ∈ [RL, A] → NoTup He m := noR kst3.hand hRL
          obtain ⟨vs, h1, h2⟩ := kst3.kl
          have hK : H KL = some (.lst vs) := p1 _ _ (fun z => by
            rcases List.mem_cons.mp z with e | z
            · exact RK e.symm
            · exact KA (List.mem_singleton.mp z)) h1
          have kst4 : KSt K A C KL cs (GQ RL) ks2 σ H := ⟨p4, p3, vs, hK, DpAll.fz (p1.tupK nRe) (fz_kdsA ks2) h2⟩
          have lvs := dpAll_len h2
          rw [List.length_map] at lvs
          obtain ⟨v7, a1, a2⟩ := p4.at_ 7 (tV (.ref KL)) rfl
          have pw1 := pw.2.1
          refine ⟨KL, vs, hK, by omega, fun Q k => ⟨_, a1, by rw [show v7 = V.ref KL from a2]; exact k⟩, fun v H' s hv => ?_⟩
          have p6 := (kst4.up s).add (k := mkK c rs) steS KA KC (s _ _ hK) hv
          have e7 : EM (RL :: [KL, A]) Hd (upd H' KL (.lst (vs ++ [v]))) := (((EM.same sde).trans (p1.mono subR)).trans (EM.same s)).own (List.mem_cons_of_mem _ List.mem_cons_self)
          refine ⟨⟨ks2 ++ [mkK c rs], fun k hk => ?_, by rw [List.length_append, kl2]; show ks.length + j + 1 = _; omega⟩, nzw, pw, ?_, e2.drop nRL e7, p6.cv (GT_dn co_id co_dn co_id co_dn co_no co_no)⟩
          · rcases List.mem_append.mp hk with h | h
            · exact kok2 k h
            · rw [List.mem_singleton.mp h]
              exact kok_of cn rb' (by omega)
          · refine e7 _ _ (fun z => ?_) hzw
            rcases List.mem_cons.mp z with e | z
            · exact rzw e.symm
            · exact nzw z
      · refine h_ex fun zw => h_ex fun ⟨ks2, kok2, kl2⟩ => ?_
        let I1' : SP2 := I1 zr (i + 1)
        have fin : ∀ {σ H ks3}, zw.1 ∉ [KL, A] ∧ PrW zw.2 ∧ H zw.1 = some (.lst zw.2) ∧ EM [KL, A] Hc H ∧ KSt K A C KL cs GN ks3 σ H → (∀ k, k ∈ ks3 → KOk n k) → ks3.length = ks.length + zw.2.length + (if nr.length = 0 then 1 else 0) → I1 zr (i + 1) σ H := fun ⟨p1, ⟨p2, p3, _⟩, _, p4, p5⟩ kk ll => by
          refine ⟨nz, (e1.trans p4) _ _ nz hzr, e0.drop0 nK (e1.trans p4), ⟨_, kk, ?_, ?_⟩, p5.cv (GT_cv co_no co_id co_no co_no co_no co_no)⟩
          · rw [ll]
            by_cases h : nr.length = 0
            · rw [if_pos h]; omega
            · rw [if_neg h]; omega
          · rw [ll]
            by_cases h : nr.length = 0
            · rw [if_pos h]; omega
            · rw [if_neg h]; omega
        have steK : StE (Rm [KL, A]) GN := GT_st (fun a h => h) so_v (so_l fun a h => h) so_v (so_l fun a h => h) so_no so_no
        refine h_if (b := decide (nr.length = 0)) (Γ := GN) (PYT.eq ((c_eqI (y_lenL (ds := (zs nr).map .int) (by rfl) T.fLen (PY.to (yv 11) lt_data)) y_int).tst _) (decide_eq_decide.mpr (by rw [List.length_map, zs_len]; omega))) (fun σ H p => p.2.2.2.2.env) (fun σ H H' p s => ⟨p.1, p.2.1, s _ _ p.2.2.1, p.2.2.2.1.trans (EM.same s), p.2.2.2.2.up s⟩) (M := I1') (fun hb => ?_) (fun hb σ H p => fin p kok2 (by rw [if_neg (of_decide_eq_false hb)]; omega)) (h_end fun σ H p => p)
        have hb : nr.length = 0 := of_decide_eq_true hb
        refine h_append (Γ := GN) (τ := tD K (dKd (c, []))) (t_var (i := 7)) (y_tup (ds := [iN c, dT []]) (ya_cons (PY.ofInt (yv 4)) (ya_cons (y_tup (ds := []) ya_nil (by decide)) ya_nil)) (by show 2 ≤ 100000; decide)) (fun σ H p => p.2.2.2.2.env) (fun σ H p => ?_) (h_end fun σ H p => p)
        obtain ⟨p1, p2, p3, p4, p5⟩ := p
        obtain ⟨vs, h1, h2⟩ := p5.kl
        have lvs := dpAll_len h2
        rw [List.length_map] at lvs
        obtain ⟨v7, a1, a2⟩ := p5.env.at_ 7 (tV (.ref KL)) rfl
        have pw1 : zw.2.length ≤ nr.length + 3 := p2.2.1
        have kl2 : ks2.length = ks.length + zw.2.length := kl2
        have hvl : vs.length < 100000 := by
          have q1 : ks0.length ≤ 6 * at_ := zhi
          have q2 : ks.length ≤ ks0.length + 6 * i := khi
          have q3 : vs.length = ks2.length := lvs
          omega
        refine ⟨KL, vs, h1, hvl, fun Q k => ⟨_, a1, by rw [show v7 = V.ref KL from a2]; exact k⟩, fun v H' s hv => ?_⟩
        have p6 := (p5.up s).add (k := (c, [])) steK KA KC (s _ _ h1) hv
        refine fin ⟨p1, p2, ?_, ((p4.trans (EM.same s)).own List.mem_cons_self), p6⟩ (fun k hk => ?_) (by rw [if_pos hb, List.length_append, kl2]; rfl)
        · rw [upd_ne (fun z => p1 (by rw [z]; exact List.mem_cons_self))]
          exact s _ _ p3
        · rcases List.mem_append.mp hk with h | h
          · exact kok2 k h
          · rw [List.mem_singleton.mp h]
            exact ⟨cn, List.Pairwise.nil, fun r h => (by cases h), by show 0 ≤ 3; decide⟩
    · -- ahead
      refine h_ex fun zr => ?_
      refine h_asgE (i := 6) (pe_op op_cat (yv 6 (Γ := GR row at') (τ := tLT [KL, A] (zs ah))) (yv 9 (Γ := GR row at') (τ := tLT [KL, A] (zs row)))) (M := fun σ H => ∃ z', n - z'.at_ < n - at_ ∧ W z' σ H) (fun σ H Q ⟨_, _, e0, ⟨ks, k1, k2, k3⟩, kst⟩ k => ⟨kst.env, fun x H1 s1 ⟨a, ex, ha, na⟩ => ⟨kst.env.up s1, fun y H2 s2 ⟨b, ey, hb, nb⟩ => ⟨a, b, _, _, ex, ey, s2 _ _ ha, hb, sz_ok (by rw [List.length_map, List.length_map, zs_len, zs_len]; omega), fun t ht => k _ _ ?_⟩⟩⟩) (h_end fun σ H p => p) nd
      rw [zs_len] at k2 k3
      refine ⟨⟨at', ks, ah ++ row, rn, by rw [List.length_append, zlen], fun c hc => ?_, k1, by omega, by omega⟩, by show n - at' < n - at_; omega, e0.trans (EM.same ((s1.trans s2).trans (Same.new ht))), ?_⟩
      · rcases List.mem_append.mp hc with h | h
        · exact zok c h
        · exact rb c h
      · have p3 := (kst.up (s1.trans s2))
        refine ((p3.up (Same.new ht)).set (i := 6) (τ := tLT [KL, A] (zs (ah ++ row))) ⟨t, rfl, ?_, fun z => ?_⟩).cv (GT_cv co_no co_no co_no co_no co_no co_no)
        · rw [upd_same]
          unfold zs
          rw [List.map_append, List.map_append]
        · rcases List.mem_cons.mp z with e | z
          · obtain ⟨vs, h1, _⟩ := p3.kl
            rw [← e, ht] at h1; cases h1
          · rw [List.mem_singleton.mp z] at ht
            exact p3.hand.isA ht
  · refine h_ex fun z => h_and fun hz => ?_
    have hz : ¬ z.at_ < n := of_decide_eq_false hz
    have zlo := z.lo
    have zhi := z.hi
    have zle := z.le
    have k48 : (dd z.ks).length < 64 := by have := dd_len (l := z.ks); omega
    have ez : ((dd z.ks).mergeSort leK).map dKd = (((dd z.ks).mergeSort leK)).map dKd := rfl
    refine h_retY (Γ := (GW z.ah z.at_).set 7 (some (tD K (.list (z.ks.map dKd))))) (τ := tD K (.tuple [iN n, dKs (mkT z.ks)])) (y_tup (ds := [iN n, dKs (mkT z.ks)]) (ya_cons (PY.ofInt (yv 1)) (ya_cons (PY.eq (y_slT0 (j := 40) (y_tupleL (by rfl) T.fTuple (n_sortSN (by rfl) (by exact hr.units) ordK nkeK z.ks (fun _ _ => trivial) k48 (by rfl) T.fSorted (by rfl) T.fSet (yv 7)).y) (PY.eq y_int rfl)) ?_) ya_nil)) (by show 2 ≤ 100000; decide)) (fun σ H p => ?_) (fun σ H v H' p s hv => ?_)
    · show tD K (.tuple _) = tD K (.tuple _)
      unfold mkT
      rw [List.map_take]
    · obtain ⟨vs, h1, h2⟩ := p.2.kl
      obtain ⟨v, a1, a2⟩ := p.2.env.at_ 7 (tV (.ref KL)) rfl
      exact p.2.env.put (i := 7) (v := .ref KL) (by rw [a1, show v = V.ref KL from a2]) (.lst (SqL.of h1) h2)
    · exact q v n (mkT z.ks) H' (mkT_tab n1 n8 (by omega) z.kok) (mkT_srt _) (p.1.trans (EM.same s)) (p.2.hand.up s) hv
end
end Lp
/-! LpH6 -/
namespace Lp
open PySem PySem.Spec PyProof.Rows L2
theorem canL_lots : ∀ ls : List (List Nat), PyData.canLayAll0 (ls.map dT) = true
  | [] => rfl
  | l :: r => by
    have := canL_ints (zs l)
    simp [PyData.canLayAll0, PyData.canLay0, canL_lots r, this]
theorem depth_lots : ∀ ls : List (List Nat), PyData.depthAll (ls.map dT) ≤ 1
  | [] => by simp [PyData.depthAll]
  | l :: r => by
    have := depth_lots r
    simp [PyData.depthAll, PyData.depth, PySem.W.depth_ints]
    omega
theorem shaped_lots (ls : List (List Nat)) : SeqAt.shaped (.list (ls.map dT)) = true := by
  have := depth_lots ls
  simp [SeqAt.shaped, PyData.canLay0, PyData.depth, canL_lots]
  omega
theorem eqv_lots (ls : List (List Nat)) : PyData.eqv (.list (ls.map dT)) (.list (ls.map dT)) = true := PySem.SeqAt.eqv_refl _ (by rw [PyData.canLay0]; exact canL_lots ls)
theorem withL_nil (h : Hs) (pl : List Int) : withL h pl [] = pl := by
  unfold withL
  apply List.ext_getElem?
  intro i
  rw [List.getElem?_map]
  by_cases hi : i < pl.length
  · rw [List.getElem?_range hi, List.getElem?_eq_getElem hi]
    show some (if i ∈ ([] : List Nat) then _ else pl.getD i 0) = _
    rw [if_neg (by simp), List.getD_eq_getElem?_getD, List.getElem?_eq_getElem hi]; rfl
  · rw [List.getElem?_eq_none (by rw [List.length_range]; omega), List.getElem?_eq_none (by omega)]; rfl
theorem sound_of {n : Nat} {ks : List Kd} (TR : TabR n ks) (h : ∀ k, k ∈ knots ks → lawS ks k = true) : SndT n ks ∧ SoundT ks := by
  have kn : ∀ k, k ∈ knots ks → KnOk ks k := fun k hk => by
    obtain ⟨c, hc, e⟩ := mem_knots.mp hk
    have ne : k ≠ [] := fun z => by
      have := self_knot TR.c8 hc
      rw [e, z] at this
      cases this
    have nd : k.Nodup := by rw [← e]; exact knotL_nodup c
    exact ⟨nd, by rw [← e]; exact knotL_len TR.c8, ne, lawS_ok nd ne (h k hk)⟩
  exact ⟨⟨TR, kn⟩, sound_all TR.c8 (fun k hk => asc_nodup (TR.asc k hk)) fun c hc => (kn (knotL ks c) (mem_knots.mpr ⟨c, hc, rfl⟩)).sound⟩
theorem way_of {n : Nat} {ks : List Kd} {js : List Nat} (TR : TabR n ks) (S : SoundT ks) (hj : ∀ j, j ∈ js → j < ks.length) (few : js.length ≤ 400) : Way n ks js ∧ ∃ ord, Order (hist n ks js) (la0 n) ord := by
  obtain ⟨ord, p, safe⟩ := order_exists TR.ok S hj
  refine ⟨⟨TR, hj, few, ?_, cnt_pos p safe⟩, ord, p, fun i _ => safe (i + 1)⟩
  have := safe 0
  rwa [List.take_zero, withL_nil] at this
/-! ### what stays at a draw -/
def Rh (A C : Addr) (cs : List Int) (H H' : Hp) : Prop := EM [A] H H' ∧ HandOk A C cs H
section
variable {K : PySem.W.Frag} {A C : Addr} {cs : List Int}
theorem sh_d {d : PyData} (h : fz d = true) : ∀ v H H', Rh A C cs H H' → (tD K d).is v H → (tD K d).is v H' := fun _ _ _ r q => Dp.fz (r.1.tupK r.2.no1) h q
theorem fz_dKs (ks : List Kd) : fz (dKs ks) = true := fz_kdsA ks
theorem sh_tab {n : Nat} {ks : List Kd} : ∀ v H H', Rh A C cs H H' → (tTab K n ks).is v H → (tTab K n ks).is v H' := fun v H H' r ⟨a, dx, fs, e, h1, h2⟩ => by
  refine ⟨a, dx, fs, e, r.1 _ _ (fun z => ?_) h1, ?_⟩
  · obtain ⟨zz, k⟩ := r.2
    rw [List.mem_singleton.mp z, k.a] at h1
    cases h1
  · cases h2 with
    | cons h2 t => cases t with
      | cons h3 t =>
        cases t
        exact .cons h2 (.cons (sh_d (fz_dKs ks) _ _ _ r h3) .nil)
end
section
variable {X : Cx} {Γ : Cxt} {a b : Expr}
theorem c_posNe (ha : PY X a Γ tPos) (hb : PY X b Γ (tI 0)) : CmpY X .Eq a b Γ false :=
  c_by op_eq (nomark _) ha hb fun x' y' H Q ⟨n, n1, ex⟩ hy k => by
    rw [ex, show y' = V.int 0 from hy]
    exact ⟨rfl, by
      rw [decide_eq_false (by intro z; have := V.int.inj z; omega)]
      exact k _ H (Same.refl H) rfl⟩
end
def SpLaw (K : PySem.W.Frag) : Sp := fun vs H Q _ => ∃ (a : Addr) (ns : List Int), vs = [.ref a] ∧ SqL K H a (ns.map V.int) ∧ ns.length ≤ 63 ∧ ∀ H', Q (.bl true) H'
theorem rep_js (js : List Nat) : ∀ (k : Nat) (xs : List V) {K : PySem.W.Frag} {H : Hp}, DpAll K H xs (js.map iN) → DpAll K H (List.replicate k xs).flatten ((List.replicate k js).flatten.map iN)
  | 0, _, _, _, _ => .nil
  | k + 1, xs, _, _, h => by
    rw [List.replicate_succ, List.replicate_succ, List.flatten_cons, List.flatten_cons, List.map_append]
    exact dpAll_app h (rep_js js k xs h)
section
variable {P : Program} {w : World} {K : PySem.W.Frag} {mg : Str → Option Value} {base : Heap}
theorem c_law (T : Tp K mg) {fd : FuncData} (F : FnP K "law" "law" sLaw (He.fAd K ("law", none)) fd) : FnOk P w K mg base CX0 18 (He.fAd K ("law", none)) fd ["_law_script"] (SpLaw K) := by
  refine fnH F scLaw (fun vs H Q E ⟨a, ns, e, _⟩ => by rw [e]; rfl) fun vs H0 Q E hsp cdv Ar outer s hr => ?_
  obtain ⟨a, ns, rfl, hS, l63, q⟩ := hsp
  have nd := scLaw.nd
  let Γi : Cxt := [some (tD K (dLi ns)), none, none, none, none, none, none, none, none, none, none]
  let Γ0 : Addr → Cxt := fun A => [none, some (tV (.ref A)), none, none, none, none, none, none, none, none, none]
  refine ⟨fun σ H => Env Γi σ H, env_start (N := ["_law_script", "_law_hand_here", "_law_turn", "_law_cells", "_law_kinds", "_law_table", "_law_knot", "_law_again", "_law_line", "_law_deed", "_law_history_here"]) (AllY.cons (τ := tD K (dLi ns)) (.lst hS (ints_dpAll ns)) .nil), ?_⟩
  -- the hand
  obtain ⟨fh, fdh, Fh, mh, kph, bh⟩ := (c_law_hand (P := P) (w := w) (base := base) T).ex
  refine h_asgE (i := 1) (pe_call Fh (hr.mono (by decide)) (by rfl) mh kph bh .nil pass0 (ya_cons (yv 0 (Γ := Γi) (τ := tD K (dLi ns))) ya_nil)) (M := fun σ H => ∃ A C cs, Env (Γ0 A) σ H ∧ HandOk A C cs H) (fun σ H Q' g k => ⟨g, fun vs H1 s1 hvs => ?_⟩) ?_ nd (hx := Or.inr rfl)
  · obtain ⟨v, rfl, hv⟩ := all1 hvs
    obtain ⟨a', xs, rfl, h1, h2⟩ := dp_lst hv
    rw [dpAll_ints h2] at h1
    exact ⟨a', ns, rfl, h1, l63, fun A C cs H' _ s2 hh => k _ _ ⟨A, C, cs, ((g.up (s1.trans s2)).forget 0).set (i := 1) (τ := tV (.ref A)) rfl, hh⟩⟩
  refine h_ex fun A => h_ex fun C => h_ex fun cs => ?_
  let I0 : Unit → Nat → SP2 := fun _ _ σ H => Env (Γ0 A) σ H ∧ HandOk A C cs H
  refine h_for (Γ := Γ0 A) I0 I0 (by rfl) (g_rng (n := 2) (by rfl) T.fRange (PY.eq y_int rfl) (by decide)) (pg_name (i := 2) nd rfl (Or.inl rfl)) (fun σ H p => p.1) (fun _ σ H H' p s _ => ⟨p.1.up s, p.2.up s⟩) (fun _ _ _ _ _ _ => trivial) (fun _ i σ H H2 x lt p s hx => ⟨(p.1.up s).keep rfl, p.2.up s⟩) (fun _ i lt => ?_) (h_ex fun _ => h_retY (Γ := Γ0 A) (τ := tBo true) y_bl (fun σ H p => p.1) fun σ H v H' p s hv => by rw [show v = V.bl true from hv]; exact q H') (mono := mono_name)
  -- a table
  obtain ⟨ft, fdt, Ft, mt, kpt, bt⟩ := (c_law_sound_table (P := P) (w := w) (base := base) T).ex
  have ste0 : StE (Rh A C cs) (Γ0 A) := by repeat (first | exact StE.nil | apply StE.no | refine StE.so st_v ?_)
  let Γ1 : Nat → List Kd → Cxt := fun n ks => [none, some (tV (.ref A)), none, some (tI (n : Nat)), some (tD K (dKs ks)), none, none, none, none, none, none]
  refine h_by (M := fun σ H => ∃ n ks, (TabR n ks ∧ SrtK ks) ∧ (Env (Γ1 n ks) σ H ∧ HandOk A C cs H)) (ps_asg (pe_call Ft (hr.mono (by decide)) (by rfl) mt kpt bt .nil pass0 (ya_cons (yv 1 (Γ := Γ0 A) (τ := tV (.ref A))) ya_nil)) (pg_tup (by rfl) (pgs_cons (pg_name (i := 3) nd rfl (Or.inl rfl)) (pgs_cons (pg_name (i := 4) nd rfl (Or.inr rfl)) pgs_nil)))) (fun Dd σ H p m _ => ⟨p.1, fun vs H1 s1 hvs => ?_⟩) ?_
  · obtain ⟨v, rfl, hv⟩ := all1 hvs
    rw [show v = V.ref A from hv]
    refine ⟨A, C, cs, rfl, p.2.up s1, fun v n ks H' TR srt e hh dv => ?_⟩
    obtain ⟨t, xs, rfl, h1, h2⟩ := dp_tup dv
    cases h2 with
    | cons d1 t2 => cases t2 with
      | cons d2 t3 =>
        cases t3
        refine gp_pair h1 (m _ _ ⟨n, ks, ⟨TR, srt⟩, (((p.1.up s1).st ste0 ⟨e, p.2.up s1⟩).set (i := 3) (τ := tI (n : Nat)) (dp_int d1)).set (i := 4) (τ := tD K (dKs ks)) d2, hh⟩)
  refine h_ex fun n => h_ex fun ks => h_and fun ⟨TR, srt⟩ => ?_
  have n8 := TR.n8
  have k1 := TR.k1
  have k40 := TR.k40
  have kl := knots_len TR.c8
  let Γ5 : Cxt := [none, some (tV (.ref A)), none, some (tI (n : Nat)), some (tD K (dKs ks)), some (tTab K n ks), none, none, none, none, none]
  have ste5 : StE (Rh A C cs) Γ5 := .no (.so st_v (.no (.so st_v (.so (sh_d (fz_dKs ks)) (.so sh_tab (.no (.no (.no (.no (.no .nil))))))))))
  let I5 : Unit → Nat → SP2 := fun _ _ σ H => Env Γ5 σ H ∧ HandOk A C cs H
  refine h_asg (i := 5) (Γ := Γ1 n ks) (τ := tTab K n ks) (y_make (c_table T) (hr.mono (by decide)) (by rfl) T.gTable (n, ks) ⟨TR, srt⟩ (ya_cons (yv 3) (ya_cons (yv 4) ya_nil))) (fun σ H p => p.1) (M := I5 () 0) (fun σ H v H' p s hv => ⟨(p.1.up s).set (i := 5) hv, p.2.up s⟩) ?_ nd
  -- is it sound
  refine h_ifR (b := !((knots ks).map (lawS ks)).all id) (Γ := Γ5) (t_not (y_t (y_all (bs := (knots ks).map (lawS ks)) (by rfl) (by rfl) T.fAll (PY.eq (y_lc1 6 (knots ks) (fun k => tD K (dT k)) (fun _ => true) (fun k => .bool (lawS ks k)) (by omega) (fun _ _ => rfl) (by rfl) nd (i_listM (y_call (c_law_knots T) (hr.mono (by decide)) (by rfl) (n, ks) TR (ya_cons (yv 4) ya_nil))) (blkOk_by (N := ["_law_script", "_law_hand_here", "_law_turn", "_law_cells", "_law_kinds", "_law_table", "_law_knot", "_law_again", "_law_line", "_law_deed", "_law_history_here"]) (sc := defScope sLaw) (by decide +kernel)) (by rfl) (by rfl) (fun _ _ _ _ _ _ _ => ts_no) (fun k hk _ _ _ _ _ _ => PY.ofBool (y_call (c_law_is_sound T) (hr.mono (by decide)) (by rfl) (n, ks, k) ?_ (ya_cons (yv 4) (ya_cons (yv 6) ya_nil))))) ?_)))) (fun σ H p => p.1) (fun σ H H' p s => ⟨p.1.up s, p.2.up s⟩) (fun _ => h_retY (Γ := Γ5) (τ := tBo true) y_bl (fun σ H p => p.1) fun σ H v H' p s hv => by rw [show v = V.bl true from hv]; exact q H') fun hb => ?_
  · obtain ⟨c, hc, e⟩ := mem_knots.mp hk
    refine ⟨TR, by show k.Nodup; rw [← e]; exact knotL_nodup c, by show k.length ≤ 8; rw [← e]; exact knotL_len TR.c8, fun z => ?_⟩
    have := self_knot TR.c8 hc
    rw [e, show k = [] from z] at this
    cases this
  · rw [filter_all, List.map_map]; rfl
  have hsd : ∀ k, k ∈ knots ks → lawS ks k = true := fun k hk => by
    have hb : ((knots ks).map (lawS ks)).all id = true := by simpa using hb
    rw [List.all_eq_true] at hb
    exact hb _ (List.mem_map.mpr ⟨k, hk, rfl⟩)
  obtain ⟨SD, ST⟩ := sound_of TR hsd
  refine h_ifR (b := false) (Γ := Γ5) (t_w (w_or (k := false) (l := false) (PYT.eq ((c_isnotB (x := true) (y := true) (y_call (c_never_sticks T) (hr.mono (by decide)) (by rfl) (n, ks) SD (ya_cons (yv 5) ya_nil)) y_bl).tst _) rfl) fun _ => w_or (k := false) (l := false) (PYT.eq ((c_notN (x := .non) (y_call (c_sticking T) (hr.mono (by decide)) (by rfl) (n, ks) SD (ya_cons (yv 5) ya_nil)) y_non).tst _) rfl) fun _ => w_or1 (PYT.eq ((c_neD (d := .list ((knots ks).map dT)) (e := .list ((knots ks).map dT)) (by exact hr.units) (shaped_lots _) (shaped_lots _) (y_call (c_sound T) (hr.mono (by decide)) (by rfl) (n, ks) SD (ya_cons (yv 5) ya_nil)) (y_call (c_knots T) (hr.mono (by decide)) (by rfl) (n, ks) TR (ya_cons (yv 5) ya_nil))).tst _) (by rw [eqv_lots]; rfl)))) (fun σ H p => p.1) (fun σ H H' p s => ⟨p.1.up s, p.2.up s⟩) (fun h => by cases h) fun _ => ?_
  -- journals
  refine h_for (Γ := Γ5) I5 I5 (by rfl) (g_rng (n := 2) (by rfl) T.fRange (PY.eq y_int rfl) (by decide)) (pg_name (i := 7) nd rfl (Or.inl rfl)) (fun σ H p => p.1) (fun _ σ H H' p s _ => ⟨p.1.up s, p.2.up s⟩) (fun _ _ _ _ _ _ => trivial) (fun _ i σ H H2 x lt p s hx => ⟨(p.1.up s).keep rfl, p.2.up s⟩) (fun _ i' lt => ?_) (h_end fun σ H ⟨_, p⟩ => ⟨((p.1.forget 3).forget 4).forget 5, p.2⟩) (mono := mono_name)
  obtain ⟨fj, fdj, Fj, mj, kpj, bj⟩ := (c_law_journal (P := P) (w := w) (base := base) T).ex
  have k1' : 0 < ks.length := by omega
  let Γ8 : List Nat → Cxt := fun js => Γ5.set 8 (some (tD K (dT js)))
  refine h_asgE (i := 8) (pe_call Fj (hr.mono (by decide)) (by rfl) mj kpj bj .nil pass0 (ya_cons (yv 1 (Γ := Γ5) (τ := tV (.ref A))) (ya_cons (yv 4 (Γ := Γ5) (τ := tD K (dKs ks))) (ya_cons (y_int (i := 60)) ya_nil)))) (M := fun σ H => ∃ js : { js : List Nat // (∀ j, j ∈ js → j < ks.length) ∧ js.length ≤ 400 }, Env (Γ8 js.1) σ H ∧ HandOk A C cs H) (fun σ H Q' p k => ⟨p.1, fun vs H1 s1 hvs => ?_⟩) ?_ nd
  · cases hvs with
    | cons a1 t => cases t with
      | cons a2 t => cases t with
        | cons a3 t =>
          cases t
          rw [show _ = V.ref A from a1, show _ = V.int 60 from a3]
          exact ⟨A, C, cs, _, ks, 60, rfl, p.2.up s1, a2, k1', k40, by decide, fun v js H' hj lj e hh dv => k v H' ⟨⟨js, hj, by omega⟩, ((p.1.up s1).st ste5 ⟨e, p.2.up s1⟩).set (i := 8) dv, hh⟩⟩
  refine h_ex fun ⟨js0, hj0, l0⟩ => ?_
  let MJ : SP2 := fun σ H => ∃ js : { js : List Nat // (∀ j, j ∈ js → j < ks.length) ∧ js.length ≤ 400 }, Env (Γ8 js.1) σ H ∧ HandOk A C cs H
  have ste8 : StE (Rh A C cs) (Γ8 js0) := .no (.so st_v (.no (.so st_v (.so (sh_d (fz_dKs ks)) (.so sh_tab (.no (.no (.so (sh_d (fz_ints _)) (.no (.no .nil))))))))))
  refine h_ifU (P1 := fun _ σ H => Env (Γ8 js0) σ H ∧ HandOk A C cs H) (M := MJ) (pt_cmpR op_eq (v_draw (Γ := Γ8 js0) (m := 30) (A := A) (C := C) (cs := cs) (c_law_draw T) (hr.mono (by decide)) (by rfl) (yv 1) (PY.eq y_int rfl) ⟨by decide, by decide⟩) (y_int (i := 0) (Γ := Γ8 js0)) (nomark _)) (fun σ H Q' p k => ⟨p.1, p.2, fun x H1 e1 hh1 ⟨r, ex, _⟩ => ⟨p.1.st ste8 ⟨e1, p.2⟩, fun y H2 s2 hy => ?_⟩⟩) ?_ (fun σ H p => ⟨⟨js0, hj0, l0⟩, p⟩) ?_
  · rw [ex, show y = V.int 0 from hy]
    exact ⟨rfl, _, rfl, k _ H2 ⟨(p.1.st ste8 ⟨e1, p.2⟩).up s2, hh1.up s2⟩⟩
  · -- the long journal
    let teD : TE := tVo A C cs (Γ8 js0) (vN ks.length)
    refine h_asgE (i := 8) (pe_op op_repT (pe_callTy (x := "tuple") call_tuple_of (by rfl) T.fTuple (by decide +kernel) (pa_cons (pe_lc (own := [("_law_deed", 9)]) (g := gName 9) (tt := tYes) (te := teD) (by rfl) nd
      (g_rng (n := 40) (Γ := Γ8 js0) (by rfl) T.fRange (PY.eq y_int rfl) (by decide))
      (blkOk_by (N := ["_law_script", "_law_hand_here", "_law_turn", "_law_cells", "_law_kinds", "_law_table", "_law_knot", "_law_again", "_law_line", "_law_deed", "_law_history_here"]) (sc := defScope sLaw) (by decide +kernel)) (fun _ _ _ _ _ => pg_name (i := 9) nd rfl (Or.inl rfl)) (fun _ _ _ _ _ => pts_nil)
      (fun _ _ _ _ _ => v_draw (Γ := Γ8 js0) (m := ks.length) (A := A) (C := C) (cs := cs) (c_law_draw T) (hr.mono (by decide)) (by rfl) (yv 1) (PY.eq (y_lenT (ds := ks.map dKd) (by rfl) T.fLen (yv 4)) (congrArg tI (by rw [List.length_map]))) ⟨k1', by omega⟩)) pa_nil)) (y_int (i := 10) (Γ := Γ8 js0))) (M := MJ) (fun σ H Q' p k => ⟨p.1, fun _ J H1 s1 _ wk => ?_⟩) (h_end fun σ H p => p) nd
    have g1 := p.1.up s1
    have hh1 := p.2.up s1
    have lr : (List.range 40).length = 40 := List.length_range
    -- what comes behind the tuple
    let QT : VK := fun x H' => tY (Γ8 js0) (tI 10) σ H' fun y H2 => rRepT K x y H2 fun v H3 => Q' v H3
    refine lcV2 (K := K) (M := [A]) (tt := tYes) (te := teD) (Q := fun v H' => ∃ p ys, [v] = [V.ref p] ∧ ((SqL K H' p ys ∧ ∀ l, H' l = none → QT (.ref l) (upd H' l (.tup ys))) ∨ (SqT K H' p ys ∧ QT (.ref p) H'))) (fun _ H' => HandOk A C cs H') (fun i H H' D hD h e => hand_dep hh1 hD h e) (fun i H h => h.no1) (List.range 40) (by decide) (fun i => tI (i : Nat)) (fun _ => true) (fun _ d => ∃ r : Nat, d = iN r ∧ r < ks.length) (fun x d _ ⟨r, e, _⟩ => by rw [e]; rfl) (Γ := Γ8 js0) (j := 9) (ok := fun _ => True) (val := fun i v => v = .int (i : Nat)) hh1 (fun H' e => g1.st ste8 ⟨e, hh1⟩) (by rw [lr]; exact wk) (fun _ _ => trivial) (fun H' i v x e hv hx => ?_) (fun i x σ' H' _ e gi env Q q => q H' (EM.refl _) gi) (fun i x σ' H' _ _ e gi env Q q => ?_) (fun i x H' _ hf => by cases hf) (fun D' vs ds H' f e gn hD' hdp hall => ?_)
    · obtain ⟨hl, hy⟩ := List.getElem?_eq_some_iff.mp hx
      rw [List.getElem_range] at hy
      rw [hv, hy]; rfl
    · exact ⟨env.forget 9, gi, fun v H'' e hh'' ⟨r, ev, hr⟩ => q v (iN r) H'' e hh'' ⟨r, rfl, hr⟩ (by rw [ev]; exact .int _)⟩
    · rw [List.filter_eq_self.mpr (fun _ _ => rfl)] at hall
      obtain ⟨js, ej, lj, hj⟩ := all2_nat hall
      rw [ej] at hdp
      have lv := dpAll_len hdp
      rw [List.length_map, lj, lr] at lv
      refine ⟨D', vs, rfl, .inl ⟨SqL.of hD', fun l hl => ⟨(g1.st ste8 ⟨e, hh1⟩).up (Same.new hl), fun y H2 s2 hy => ?_⟩⟩⟩
      rw [show y = V.int 10 from hy]
      refine ⟨l, 10, vs, rfl, rfl, SqT.of (s2 _ _ upd_same), fun z => (by rw [z] at lv; cases lv), by decide, by decide, by omega, fun t ht => k _ _ ⟨⟨(List.replicate 10 js).flatten, fun j hj' => ?_, ?_⟩, ?_, ?_⟩⟩
      · obtain ⟨l1, h1, h2⟩ := List.mem_flatten.mp hj'
        rw [(List.mem_replicate.mp h1).2] at h2
        exact hj j h2
      · simp [lj]
      · have s4 : Same H' (upd H2 t (.tup (List.replicate (10 : Int).toNat vs).flatten)) := ((Same.new hl).trans s2).trans (Same.new ht)
        have g4 := (((g1.st ste8 ⟨e, hh1⟩).up s4).set (i := 8) (v := .ref t) (τ := tD K (dT (List.replicate 10 js).flatten)) (by
          show Dp K _ _ (dT _)
          rw [dT_map]
          exact .tup (SqT.of upd_same) (rep_js js 10 vs (DpAll.up s4 hdp))))
        exact g4
      · exact gn.up (((Same.new hl).trans s2).trans (Same.new ht))
  refine h_ex fun ⟨js, hj, lj⟩ => ?_
  obtain ⟨WY, ord0, O0⟩ := way_of TR ST hj lj
  have LO := lay_ok TR hj lj
  let h := hist n ks js
  let Γa : Cxt := (Γ8 js).set 10 (some (tD K (dHis h)))
  refine h_asg (i := 10) (Γ := Γ8 js) (τ := tD K (dHis h)) (y_call (c_law_history T) (hr.mono (by decide)) (by rfl) (n, ks, js) ⟨TR, hj, lj⟩ (ya_cons (yv 3) (ya_cons (yv 4) (ya_cons (yv 8) ya_nil)))) (fun σ H p => p.1) (M := fun σ H => Env Γa σ H ∧ HandOk A C cs H) (fun σ H v H' p s hv => ⟨(p.1.up s).set (i := 10) hv, p.2.up s⟩) ?_ nd
  refine h_ifR (b := false) (Γ := Γa) (t_w (w_or (k := false) (l := false) ((c_posNe (y_call (c_law_many_ways T) (hr.mono (by decide)) (by rfl) (h, la0 n, ord0) ⟨LO, O0⟩ (ya_cons (yv 10) (ya_cons (y_call (c_law_fresh T) (hr.mono (by decide)) (by rfl) n n8 (ya_cons (yv 3) ya_nil)) ya_nil))) y_int).tst _) fun _ => w_or1 (PYT.eq ((c_isnotB (x := false) (y := false) (y_call (c_is_sticking T) (hr.mono (by decide)) (by rfl) (n, ks, js) WY (ya_cons (yv 5) (ya_cons (yv 8) ya_nil))) y_bl).tst _) rfl))) (fun σ H p => p.1) (fun σ H H' p s => ⟨p.1.up s, p.2.up s⟩) (fun h => by cases h) fun _ => ?_
  refine h_ifR (b := false) (Γ := Γa) (t_not (k := true) (y_t (y_callS (τ := tBo true) (c_law_is_laying T) (hr.mono (by decide)) (by rfl) (ya_cons (yv 10) (ya_cons (y_call (c_law_fresh T) (hr.mono (by decide)) (by rfl) n n8 (ya_cons (yv 3) ya_nil)) (ya_cons (y_call (c_lay_out T) (hr.mono (by decide)) (by rfl) (n, ks, js) WY (ya_cons (yv 5) (ya_cons (yv 8) (ya_cons (y_call (c_law_fresh T) (hr.mono (by decide)) (by rfl) n n8 (ya_cons (yv 3) ya_nil)) ya_nil)))) ya_nil))) (fun vs H Q hvs k E => ?_)))) (fun σ H p => p.1) (fun σ H H' p s => ⟨p.1.up s, p.2.up s⟩) (fun h => by cases h) fun _ => h_end fun σ H p => ⟨(p.1.forget 8).forget 10, p.2⟩
  cases hvs with
  | cons a1 t => cases t with
    | cons a2 t => cases t with
      | cons a3 t =>
        cases t
        obtain ⟨ord, O, d⟩ := a3
        exact ⟨(h, la0 n, ord), ⟨LO, O⟩, .cons a1 (.cons a2 (.cons d .nil)), k⟩
end
end Lp
/-! LpEnd -/
namespace Lp
open PySem PySem.Spec PyProof.Rows L2
theorem facts {P : Program} {w : World} {K : PySem.W.Frag} {h : Heap} {mg : Str → Option Value} {f : Addr} (X : K.In h) (G : h.Ns mainGlobals mg) (hfa : mg ("law" : Str) = some (.ref f)) (c : He.SaysD fa fn K) :
    ∃ fd : FuncData, (∀ (s : Shared) (v : Value), BindsTo s fd ⟨[v], []⟩ [("_law_script", v)]) ∧ ∀ base : Heap, K.In base → base.Ns mainGlobals mg → FnOk P w K mg base CX0 18 f fd ["_law_script"] (SpLaw K) := by
  have T : Tp K mg := ⟨h, X, G, c⟩
  have e := hfa.symm.trans T.gLaw
  cases e
  obtain ⟨fd, F, _⟩ := T.defLaw
  have b := FunD.bindsA (ps := ["_law_script"]) F fun _ _ _ _ _ _ us hl => match us, hl with | [_], _ => rfl
  exact ⟨fd, fun s v => b s [v] rfl, fun base _ _ => c_law T F⟩
end Lp
open PySem PySem.W PySem.Calls PyProof.Rows
theorem PySem.Challenge.cw_laidplates_k10_whole_sound_tables_never_holds : PySem.Challenge.rw_laidplates_k10_whole_sound_tables_never.Holds := by
  w_on; o_law
  refine HandSHeadRun.head_any (r := OpenLaw.row PySem.Challenge.rw_laidplates_k10_whole_sound_tables_never) (q := view (OpenLaw.row PySem.Challenge.rw_laidplates_k10_whole_sound_tables_never).prog [87]) (H := Lp.hk) (ob := Lp.ob) (M := 20000) (loose := Lp.loose) (d := HandSHeadRun.topDef (OpenLaw.row PySem.Challenge.rw_laidplates_k10_whole_sound_tables_never).prog 87) (kwd := []) Lp.ob_eq
    (by kernel_rfl) (fun s => by kernel_rfl) Lp.run (by kernel_rfl) (by kernel_rfl) (by kernel_rfl) (by rfl) (by first | assumption | decide +kernel) (by decide +kernel) ⟨rfl, rfl, rfl, rfl, rfl, by decide +kernel⟩ ?hw ?hc
  case hw => w_witness2
  case hc =>
    refine L2.walk_ofE (l := PySem.Challenge.rw_laidplates_k10_whole_sound_tables_never) (n := 63) (k := 18) (x := "_law_script") (CX := L2.CX0) rfl (by decide) (by kernel_rfl) ⟨rfl, by decide, by decide⟩ ?F (fun _ _ _ _ z => z)
    intro w mg fa h Y G hmg0
    obtain ⟨K, KX, c⟩ := Y
    have hmg : mg ("law" : PySem.Str) = some (.ref fa) := by
      have e : (HandSHeadRun.topDef (OpenLaw.row PySem.Challenge.rw_laidplates_k10_whole_sound_tables_never).prog 87).name = ("law" : PySem.Str) := by kernel_rfl
      rw [← e]
      exact hmg0
    obtain ⟨fd, hb, hF⟩ := Lp.facts (P := (PySem.Challenge.rw_laidplates_k10_whole_sound_tables_never).prog) (w := w) KX G hmg c
    exact ⟨K, fd, Lp.SpLaw K, KX, hb, fun H a ns hl _ hS => ⟨a, ns, rfl, hS, hl, fun _ => rfl⟩, hF⟩

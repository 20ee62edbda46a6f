import PyProof.Rows.All
import Wide.All
import OpenK.AllK
import Wide.FinOn
import KE.KStateDown
import Lean
import HandS.Base
import HandS.Call
import HandS.List
import HandS.Comp
import HandS.Dict
import HandS.Iter
import HandS.Text
import HandS.More
import HandS.Zip
import HandS.Walk
import HandS.Conv
import HandS.Strs
import HandS.TupSets
import HandS.SetKeys
import HandS.WideBits
import HandS.TupAny
import HandS.CallLocal
import HandS.Flow
import HandS.Style
import HandS.IsInst
import HandS.Words
import HandS.WordsList
import HandS.WordsDict
import HandS.Ends
import HandS.Defaults
import HandS.Head0
import HandS.Head1
import HandS.Head2
import HandS.HeadEnd
import HandS.HeadHook1
import HandS.HeadHook2
import HandS.SetFor
import KE.GoesEnum
import HandS.TupLe
import HandS.TryOnly
import PySem.Challenge.RW_rightage_k26_whole_more_takes_nothing_aw
section
set_option Elab.async false
set_option linter.all false
set_option maxRecDepth 100000
set_option maxHeartbeats 4000000
/-! where each def of the text stands, its slots, the facts of the head -/
namespace Ra
open PySem PySem.Spec PyProof.Rows L2
abbrev pgm : Program := PySem.Challenge.pw_rightage_k26_whole_more_takes_nothing_aw
def topS (i : Nat) : Stmt := pgm.main.body.getD i (.Pass ⟨0, 0, 0, 0⟩)
abbrev sIsNumber : Stmt := topS 7
abbrev sIsRow : Stmt := topS 8
abbrev sFirstAt : Stmt := topS 9
abbrev sFirstOf : Stmt := topS 10
abbrev sHandedOn : Stmt := topS 11
abbrev sBears : Stmt := topS 12
abbrev sNearest : Stmt := topS 17
abbrev sChosen : Stmt := topS 18
abbrev sInit : Stmt := inClass (topS 19) 0
abbrev sExpect : Stmt := inClass (topS 19) 1
abbrev sSettle : Stmt := inClass (topS 19) 2
abbrev sAgesAt : Stmt := inClass (topS 19) 3
abbrev sTryWay : Stmt := inClass (topS 19) 4
abbrev sMakeAll : Stmt := inClass (topS 19) 5
abbrev sNumberOf : Stmt := inClass (topS 19) 6
abbrev sTable : Stmt := topS 20
abbrev sIsStair : Stmt := topS 22
abbrev sIsTable : Stmt := topS 23
abbrev sStands : Stmt := topS 24
abbrev sHas : Stmt := topS 25
abbrev sLesser : Stmt := topS 26
abbrev sPutTogether : Stmt := topS 27
abbrev sWithin : Stmt := topS 28
abbrev sIsLacked : Stmt := topS 30
abbrev sThereAt : Stmt := topS 31
abbrev sLeastMoment : Stmt := topS 32
abbrev sIsUnmade : Stmt := topS 33
abbrev sSoonest : Stmt := topS 34
abbrev sPartners : Stmt := topS 35
abbrev sWayLeak : Stmt := topS 36
abbrev sLeak : Stmt := topS 37
abbrev sIsShut : Stmt := topS 38
abbrev sLDraws : Stmt := topS 40
abbrev sLNext : Stmt := topS 41
abbrev sLOne : Stmt := topS 42
abbrev sLNames : Stmt := topS 43
abbrev sLHours : Stmt := topS 44
abbrev sLPart : Stmt := topS 45
abbrev sLSource : Stmt := topS 46
abbrev sLWay : Stmt := topS 47
abbrev sLWorld : Stmt := topS 48
abbrev sLWith : Stmt := topS 49
abbrev sLWider : Stmt := topS 50
abbrev sLMore : Stmt := topS 51
abbrev sLTurned : Stmt := topS 52
abbrev sLOtherwise : Stmt := topS 53
abbrev sLaw : Stmt := topS 54
theorem scIsNumber : FnScope ["thing", "low", "high"] ["thing", "low", "high"] (defScope sIsNumber) := ⟨rfl, rfl, rfl, by decide +kernel, rfl, by decide +kernel, by decide +kernel⟩
theorem scIsRow : FnScope ["thing", "least", "most"] ["thing", "least", "most"] (defScope sIsRow) := ⟨rfl, rfl, rfl, by decide +kernel, rfl, by decide +kernel, by decide +kernel⟩
theorem scFirstAt : FnScope ["size", "place", "since"] ["size", "place", "since"] (defScope sFirstAt) := ⟨rfl, rfl, rfl, by decide +kernel, rfl, by decide +kernel, by decide +kernel⟩
theorem scFirstOf : FnScope ["world", "source", "kind", "age", "place", "since", "many"] ["world", "source"] (defScope sFirstOf) := ⟨rfl, rfl, rfl, by decide +kernel, rfl, by decide +kernel, by decide +kernel⟩
theorem scHandedOn : FnScope ["keeps", "origins"] ["keeps", "origins"] (defScope sHandedOn) := ⟨rfl, rfl, rfl, by decide +kernel, rfl, by decide +kernel, by decide +kernel⟩
theorem scBears : FnScope ["world", "way", "moment", "origins", "kind", "parts", "keeps", "hours", "wait"] ["world", "way", "moment", "origins"] (defScope sBears) := ⟨rfl, rfl, rfl, by decide +kernel, rfl, by decide +kernel, by decide +kernel⟩
theorem scNearest : FnScope ["bits", "age", "keeps", "some"] ["bits", "age", "keeps"] (defScope sNearest) := ⟨rfl, rfl, rfl, by decide +kernel, rfl, by decide +kernel, by decide +kernel⟩
theorem scChosen : FnScope ["parts", "age", "keeps", "found", "bits", "one"] ["parts", "age", "keeps"] (defScope sChosen) := ⟨rfl, rfl, rfl, by decide +kernel, rfl, by decide +kernel, by decide +kernel⟩
theorem scInit : FnScope ["self", "world", "number", "source", "moment", "key", "reason"] ["self", "world"] (defScope sInit) := ⟨rfl, rfl, rfl, by decide +kernel, rfl, by decide +kernel, by decide +kernel⟩
theorem scExpect : FnScope ["self", "kind", "age", "moment", "reason", "key"] ["self", "kind", "age", "moment", "reason"] (defScope sExpect) := ⟨rfl, rfl, rfl, by decide +kernel, rfl, by decide +kernel, by decide +kernel⟩
theorem scSettle : FnScope ["self", "key", "moment", "reason", "kind", "place", "age", "hour", "number", "way"] ["self", "key", "moment", "reason"] (defScope sSettle) := ⟨rfl, rfl, rfl, by decide +kernel, rfl, by decide +kernel, by decide +kernel⟩
theorem scAgesAt : FnScope ["self", "part", "hour", "kind", "least", "greatest"] ["self", "part", "hour"] (defScope sAgesAt) := ⟨rfl, rfl, rfl, by decide +kernel, rfl, by decide +kernel, by decide +kernel⟩
theorem scTryWay : FnScope ["self", "number", "kind", "age", "moment", "parts", "part", "lists", "at"] ["self", "number", "kind", "age", "moment"] (defScope sTryWay) := ⟨rfl, rfl, rfl, by decide +kernel, rfl, by decide +kernel, by decide +kernel⟩
theorem scMakeAll : FnScope ["self", "number", "lists", "moment", "kind", "parts", "keeps", "hours", "wait", "age", "ages"] ["self", "number", "lists", "moment"] (defScope sMakeAll) := ⟨rfl, rfl, rfl, by decide +kernel, rfl, by decide +kernel, by decide +kernel⟩
theorem scNumberOf : FnScope ["self", "kind", "place", "age", "moment"] ["self", "kind", "place", "age"] (defScope sNumberOf) := ⟨rfl, rfl, rfl, by decide +kernel, rfl, by decide +kernel, by decide +kernel⟩
theorem scTable : FnScope ["world", "grown", "found", "kind", "places", "place", "age"] ["world"] (defScope sTable) := ⟨rfl, rfl, rfl, by decide +kernel, rfl, by decide +kernel, by decide +kernel⟩
theorem scIsStair : FnScope ["size", "place", "thing", "ahead", "number"] ["size", "place", "thing"] (defScope sIsStair) := ⟨rfl, rfl, rfl, by decide +kernel, rfl, by decide +kernel, by decide +kernel⟩
theorem scIsTable : FnScope ["world", "thing", "size", "many", "row", "place", "stair"] ["world", "thing"] (defScope sIsTable) := ⟨rfl, rfl, rfl, by decide +kernel, rfl, by decide +kernel, by decide +kernel⟩
theorem scStands : FnScope ["world", "table", "kind", "place", "age"] ["world", "table", "kind", "place", "age"] (defScope sStands) := ⟨rfl, rfl, rfl, by decide +kernel, rfl, by decide +kernel, by decide +kernel⟩
theorem scHas : FnScope ["world", "table", "kind", "origin", "age", "least"] ["world", "table", "kind", "origin", "age"] (defScope sHas) := ⟨rfl, rfl, rfl, by decide +kernel, rfl, by decide +kernel, by decide +kernel⟩
theorem scLesser : FnScope ["one", "other"] ["one", "other"] (defScope sLesser) := ⟨rfl, rfl, rfl, by decide +kernel, rfl, by decide +kernel, by decide +kernel⟩
theorem scPutTogether : FnScope ["one", "other", "choose", "found", "row", "more", "left", "right", "a", "b"] ["one", "other", "choose"] (defScope sPutTogether) := ⟨rfl, rfl, rfl, by decide +kernel, rfl, by decide +kernel, by decide +kernel⟩
theorem scWithin : FnScope ["one", "other"] ["one", "other"] (defScope sWithin) := ⟨rfl, rfl, rfl, by decide +kernel, rfl, by decide +kernel, by decide +kernel⟩
theorem scIsLacked : FnScope ["world", "table", "source", "kind", "age", "place", "since", "many"] ["world", "table", "source"] (defScope sIsLacked) := ⟨rfl, rfl, rfl, by decide +kernel, rfl, by decide +kernel, by decide +kernel⟩
theorem scThereAt : FnScope ["world", "table", "part", "place", "age", "least"] ["world", "table", "part", "place", "age"] (defScope sThereAt) := ⟨rfl, rfl, rfl, by decide +kernel, rfl, by decide +kernel, by decide +kernel⟩
theorem scLeastMoment : FnScope ["world", "table", "way", "place", "ages", "found", "part", "age"] ["world", "table", "way", "place", "ages"] (defScope sLeastMoment) := ⟨rfl, rfl, rfl, by decide +kernel, rfl, by decide +kernel, by decide +kernel⟩
theorem scIsUnmade : FnScope ["world", "table", "way", "place", "ages", "moment", "origin", "born", "age"] ["world", "table", "way", "place", "ages"] (defScope sIsUnmade) := ⟨rfl, rfl, rfl, by decide +kernel, rfl, by decide +kernel, by decide +kernel⟩
theorem scSoonest : FnScope ["world", "table", "part", "place", "low", "high", "found", "least", "age", "moment"] ["world", "table", "part", "place", "low", "high"] (defScope sSoonest) := ⟨rfl, rfl, rfl, by decide +kernel, rfl, by decide +kernel, by decide +kernel⟩
theorem scPartners : FnScope ["world", "table", "way", "place", "at", "age", "kind", "parts", "keeps", "hours", "wait", "found", "number", "part", "least", "greatest"] ["world", "table", "way", "place", "at", "age"] (defScope sPartners) := ⟨rfl, rfl, rfl, by decide +kernel, rfl, by decide +kernel, by decide +kernel⟩
theorem scWayLeak : FnScope ["world", "table", "way", "place", "at", "part", "age", "ages"] ["world", "table", "way", "place"] (defScope sWayLeak) := ⟨rfl, rfl, rfl, by decide +kernel, rfl, by decide +kernel, by decide +kernel⟩
theorem scLeak : FnScope ["world", "table", "source", "way", "row", "place", "found"] ["world", "table"] (defScope sLeak) := ⟨rfl, rfl, rfl, by decide +kernel, rfl, by decide +kernel, by decide +kernel⟩
theorem scIsShut : FnScope ["world", "thing"] ["world", "thing"] (defScope sIsShut) := ⟨rfl, rfl, rfl, by decide +kernel, rfl, by decide +kernel, by decide +kernel⟩
theorem scLDraws : FnScope ["_law_script", "_law_cells", "_law_cell"] ["_law_script"] (defScope sLDraws) := ⟨rfl, rfl, rfl, by decide +kernel, rfl, by decide +kernel, by decide +kernel⟩
theorem scLNext : FnScope ["_law_drawn", "_law_below", "_law_cells", "_law_turns", "_law_rests", "_law_at", "_law_digit", "_law_mixed", "_law_more_here"] ["_law_drawn", "_law_below"] (defScope sLNext) := ⟨rfl, rfl, rfl, by decide +kernel, rfl, by decide +kernel, by decide +kernel⟩
theorem scLOne : FnScope ["_law_drawn", "_law_some"] ["_law_drawn", "_law_some"] (defScope sLOne) := ⟨rfl, rfl, rfl, by decide +kernel, rfl, by decide +kernel, by decide +kernel⟩
theorem scLNames : FnScope ["_law_drawn", "_law_left", "_law_found", "_law_k"] ["_law_drawn"] (defScope sLNames) := ⟨rfl, rfl, rfl, by decide +kernel, rfl, by decide +kernel, by decide +kernel⟩
theorem scLHours : FnScope ["_law_drawn", "_law_size", "_law_place"] ["_law_drawn", "_law_size"] (defScope sLHours) := ⟨rfl, rfl, rfl, by decide +kernel, rfl, by decide +kernel, by decide +kernel⟩
theorem scLPart : FnScope ["_law_drawn", "_law_kinds", "_law_scale", "_law_least", "_law_greatest"] ["_law_drawn", "_law_kinds", "_law_scale"] (defScope sLPart) := ⟨rfl, rfl, rfl, by decide +kernel, rfl, by decide +kernel, by decide +kernel⟩
theorem scLSource : FnScope ["_law_drawn", "_law_kinds", "_law_size", "_law_scale", "_law_late", "_law_since", "_law_age"] ["_law_drawn", "_law_kinds", "_law_size", "_law_scale"] (defScope sLSource) := ⟨rfl, rfl, rfl, by decide +kernel, rfl, by decide +kernel, by decide +kernel⟩
theorem scLWay : FnScope ["_law_drawn", "_law_kinds", "_law_size", "_law_scale", "_law_parts", "_law_hours_here", "_law_keeps", "_law_wait", "_law_k"] ["_law_drawn", "_law_kinds", "_law_size", "_law_scale"] (defScope sLWay) := ⟨rfl, rfl, rfl, by decide +kernel, rfl, by decide +kernel, by decide +kernel⟩
theorem scLWorld : FnScope ["_law_drawn", "_law_size", "_law_many", "_law_scale", "_law_kinds", "_law_sources", "_law_ways", "_law_k"] ["_law_drawn"] (defScope sLWorld) := ⟨rfl, rfl, rfl, by decide +kernel, rfl, by decide +kernel, by decide +kernel⟩
theorem scLWith : FnScope ["_law_row", "_law_at", "_law_thing"] ["_law_row", "_law_at", "_law_thing"] (defScope sLWith) := ⟨rfl, rfl, rfl, by decide +kernel, rfl, by decide +kernel, by decide +kernel⟩
theorem scLWider : FnScope ["_law_drawn", "_law_way_here", "_law_size", "_law_kind", "_law_parts", "_law_keeps", "_law_hours_here", "_law_wait", "_law_at", "_law_pick", "_law_name", "_law_least", "_law_greatest", "_law_part_here"] ["_law_drawn", "_law_way_here", "_law_size"] (defScope sLWider) := ⟨rfl, rfl, rfl, by decide +kernel, rfl, by decide +kernel, by decide +kernel⟩
theorem scLMore : FnScope ["_law_drawn", "_law_world_here", "_law_size", "_law_kinds", "_law_sources", "_law_ways", "_law_pick", "_law_at", "_law_kind", "_law_age", "_law_place", "_law_since", "_law_many", "_law_sooner"] ["_law_drawn", "_law_world_here"] (defScope sLMore) := ⟨rfl, rfl, rfl, by decide +kernel, rfl, by decide +kernel, by decide +kernel⟩
theorem scLTurned : FnScope ["_law_drawn", "_law_row", "_law_left", "_law_found"] ["_law_drawn", "_law_row"] (defScope sLTurned) := ⟨rfl, rfl, rfl, by decide +kernel, rfl, by decide +kernel, by decide +kernel⟩
theorem scLOtherwise : FnScope ["_law_drawn", "_law_world_here", "_law_size", "_law_kinds", "_law_sources", "_law_ways", "_law_some", "_law_late", "_law_more_here", "_law_idle", "_law_one_here"] ["_law_drawn", "_law_world_here"] (defScope sLOtherwise) := ⟨rfl, rfl, rfl, by decide +kernel, rfl, by decide +kernel, by decide +kernel⟩
theorem scLaw : FnScope ["_law_script", "_law_drawn", "_law_world_here", "_law_told", "_law_turn", "_law_more_here", "_law_found"] ["_law_script"] (defScope sLaw) := ⟨rfl, rfl, rfl, by decide +kernel, rfl, by decide +kernel, by decide +kernel⟩
end Ra
end

section
set_option Elab.async false
set_option linter.all false
set_option maxRecDepth 100000
set_option maxHeartbeats 0
/-! the head: facts by names, the run -/
namespace Ra
open PySem PySem.Spec PyProof.Rows L2
def dIsNumber : He.DefD := ⟨("is_number", none), "is_number", "is_number", defArgs sIsNumber, defBody sIsNumber, defScope sIsNumber, [], []⟩
def dIsRow : He.DefD := ⟨("is_row", none), "is_row", "is_row", defArgs sIsRow, defBody sIsRow, defScope sIsRow, [], []⟩
def dFirstAt : He.DefD := ⟨("first_at", none), "first_at", "first_at", defArgs sFirstAt, defBody sFirstAt, defScope sFirstAt, [], []⟩
def dFirstOf : He.DefD := ⟨("first_of", none), "first_of", "first_of", defArgs sFirstOf, defBody sFirstOf, defScope sFirstOf, [], []⟩
def dHandedOn : He.DefD := ⟨("handed_on", none), "handed_on", "handed_on", defArgs sHandedOn, defBody sHandedOn, defScope sHandedOn, [], []⟩
def dBears : He.DefD := ⟨("bears", none), "bears", "bears", defArgs sBears, defBody sBears, defScope sBears, [], []⟩
def dNearest : He.DefD := ⟨("nearest", none), "nearest", "nearest", defArgs sNearest, defBody sNearest, defScope sNearest, [], []⟩
def dChosen : He.DefD := ⟨("chosen", none), "chosen", "chosen", defArgs sChosen, defBody sChosen, defScope sChosen, [], []⟩
def dInit : He.DefD := ⟨("Growth", some "__init__"), "__init__", "Growth.__init__", defArgs sInit, defBody sInit, defScope sInit, [], []⟩
def dExpect : He.DefD := ⟨("Growth", some "expect"), "expect", "Growth.expect", defArgs sExpect, defBody sExpect, defScope sExpect, [], []⟩
def dSettle : He.DefD := ⟨("Growth", some "settle"), "settle", "Growth.settle", defArgs sSettle, defBody sSettle, defScope sSettle, [], []⟩
def dAgesAt : He.DefD := ⟨("Growth", some "ages_at"), "ages_at", "Growth.ages_at", defArgs sAgesAt, defBody sAgesAt, defScope sAgesAt, [], []⟩
def dTryWay : He.DefD := ⟨("Growth", some "try_way"), "try_way", "Growth.try_way", defArgs sTryWay, defBody sTryWay, defScope sTryWay, [], []⟩
def dMakeAll : He.DefD := ⟨("Growth", some "make_all"), "make_all", "Growth.make_all", defArgs sMakeAll, defBody sMakeAll, defScope sMakeAll, [], []⟩
def dNumberOf : He.DefD := ⟨("Growth", some "number_of"), "number_of", "Growth.number_of", defArgs sNumberOf, defBody sNumberOf, defScope sNumberOf, [], []⟩
def dTable : He.DefD := ⟨("table", none), "table", "table", defArgs sTable, defBody sTable, defScope sTable, [], []⟩
def dIsStair : He.DefD := ⟨("is_stair", none), "is_stair", "is_stair", defArgs sIsStair, defBody sIsStair, defScope sIsStair, [], []⟩
def dIsTable : He.DefD := ⟨("is_table", none), "is_table", "is_table", defArgs sIsTable, defBody sIsTable, defScope sIsTable, [], []⟩
def dStands : He.DefD := ⟨("stands", none), "stands", "stands", defArgs sStands, defBody sStands, defScope sStands, [], []⟩
def dHas : He.DefD := ⟨("has", none), "has", "has", defArgs sHas, defBody sHas, defScope sHas, [], []⟩
def dLesser : He.DefD := ⟨("lesser", none), "lesser", "lesser", defArgs sLesser, defBody sLesser, defScope sLesser, [], []⟩
def dPutTogether : He.DefD := ⟨("put_together", none), "put_together", "put_together", defArgs sPutTogether, defBody sPutTogether, defScope sPutTogether, [], []⟩
def dWithin : He.DefD := ⟨("within", none), "within", "within", defArgs sWithin, defBody sWithin, defScope sWithin, [], []⟩
def dIsLacked : He.DefD := ⟨("is_lacked", none), "is_lacked", "is_lacked", defArgs sIsLacked, defBody sIsLacked, defScope sIsLacked, [], []⟩
def dThereAt : He.DefD := ⟨("there_at", none), "there_at", "there_at", defArgs sThereAt, defBody sThereAt, defScope sThereAt, [], []⟩
def dLeastMoment : He.DefD := ⟨("least_moment", none), "least_moment", "least_moment", defArgs sLeastMoment, defBody sLeastMoment, defScope sLeastMoment, [], []⟩
def dIsUnmade : He.DefD := ⟨("is_unmade", none), "is_unmade", "is_unmade", defArgs sIsUnmade, defBody sIsUnmade, defScope sIsUnmade, [], []⟩
def dSoonest : He.DefD := ⟨("soonest", none), "soonest", "soonest", defArgs sSoonest, defBody sSoonest, defScope sSoonest, [], []⟩
def dPartners : He.DefD := ⟨("partners", none), "partners", "partners", defArgs sPartners, defBody sPartners, defScope sPartners, [], []⟩
def dWayLeak : He.DefD := ⟨("way_leak", none), "way_leak", "way_leak", defArgs sWayLeak, defBody sWayLeak, defScope sWayLeak, [], []⟩
def dLeak : He.DefD := ⟨("leak", none), "leak", "leak", defArgs sLeak, defBody sLeak, defScope sLeak, [], []⟩
def dIsShut : He.DefD := ⟨("is_shut", none), "is_shut", "is_shut", defArgs sIsShut, defBody sIsShut, defScope sIsShut, [], []⟩
def dLDraws : He.DefD := ⟨("_law_draws", none), "_law_draws", "_law_draws", defArgs sLDraws, defBody sLDraws, defScope sLDraws, [], []⟩
def dLNext : He.DefD := ⟨("_law_next", none), "_law_next", "_law_next", defArgs sLNext, defBody sLNext, defScope sLNext, [], []⟩
def dLOne : He.DefD := ⟨("_law_one", none), "_law_one", "_law_one", defArgs sLOne, defBody sLOne, defScope sLOne, [], []⟩
def dLNames : He.DefD := ⟨("_law_names", none), "_law_names", "_law_names", defArgs sLNames, defBody sLNames, defScope sLNames, [], []⟩
def dLHours : He.DefD := ⟨("_law_hours", none), "_law_hours", "_law_hours", defArgs sLHours, defBody sLHours, defScope sLHours, [], []⟩
def dLPart : He.DefD := ⟨("_law_part", none), "_law_part", "_law_part", defArgs sLPart, defBody sLPart, defScope sLPart, [], []⟩
def dLSource : He.DefD := ⟨("_law_source", none), "_law_source", "_law_source", defArgs sLSource, defBody sLSource, defScope sLSource, [], []⟩
def dLWay : He.DefD := ⟨("_law_way", none), "_law_way", "_law_way", defArgs sLWay, defBody sLWay, defScope sLWay, [], []⟩
def dLWorld : He.DefD := ⟨("_law_world", none), "_law_world", "_law_world", defArgs sLWorld, defBody sLWorld, defScope sLWorld, [], []⟩
def dLWith : He.DefD := ⟨("_law_with", none), "_law_with", "_law_with", defArgs sLWith, defBody sLWith, defScope sLWith, [], []⟩
def dLWider : He.DefD := ⟨("_law_wider", none), "_law_wider", "_law_wider", defArgs sLWider, defBody sLWider, defScope sLWider, [], []⟩
def dLMore : He.DefD := ⟨("_law_more", none), "_law_more", "_law_more", defArgs sLMore, defBody sLMore, defScope sLMore, [], []⟩
def dLTurned : He.DefD := ⟨("_law_turned", none), "_law_turned", "_law_turned", defArgs sLTurned, defBody sLTurned, defScope sLTurned, [], []⟩
def dLOtherwise : He.DefD := ⟨("_law_otherwise", none), "_law_otherwise", "_law_otherwise", defArgs sLOtherwise, defBody sLOtherwise, defScope sLOtherwise, [], []⟩
def dLaw : He.DefD := ⟨("law", none), "law", "law", defArgs sLaw, defBody sLaw, defScope sLaw, [], []⟩
def fnL : List He.DefD := [dIsNumber, dIsRow, dFirstAt, dFirstOf, dHandedOn, dBears, dNearest, dChosen, dInit, dExpect, dSettle, dAgesAt, dTryWay, dMakeAll, dNumberOf, dTable, dIsStair, dIsTable, dStands, dHas, dLesser, dPutTogether, dWithin, dIsLacked, dThereAt, dLeastMoment, dIsUnmade, dSoonest, dPartners, dWayLeak, dLeak, dIsShut, dLDraws, dLNext, dLOne, dLNames, dLHours, dLPart, dLSource, dLWay, dLWorld, dLWith, dLWider, dLMore, dLTurned, dLOtherwise, dLaw]
def faL : List He.Fa := [.glo "is_number", .glo "is_row", .glo "first_at", .glo "first_of", .glo "handed_on", .glo "bears", .glo "nearest", .glo "chosen", .glo "table", .glo "is_stair", .glo "is_table", .glo "stands", .glo "has", .glo "lesser", .glo "put_together", .glo "within", .glo "is_lacked", .glo "there_at", .glo "least_moment", .glo "is_unmade", .glo "soonest", .glo "partners", .glo "way_leak", .glo "leak", .glo "is_shut", .glo "_law_draws", .glo "_law_next", .glo "_law_one", .glo "_law_names", .glo "_law_hours", .glo "_law_part", .glo "_law_source", .glo "_law_way", .glo "_law_world", .glo "_law_with", .glo "_law_wider", .glo "_law_more", .glo "_law_turned", .glo "_law_otherwise", .glo "law", .glo "Growth", .int "OLD" 20, .int "READY" 26, .int "LAST" 3000000000000000, .str "OLDEST" "oldest", .str "BROUGHT" "brought", .str "MADE" "made", .str "WAITED" "waited", .free "isinstance", .free "int", .free "bool", .free "tuple", .free "len", .free "min", .free "max", .free "enumerate", .free "range", .free "all", .free "zip", .free "list", .free "set", .free "sorted", .cls "Growth", .mkr "Growth", .noat "Growth" "here", .noat "Growth" "size", .noat "Growth" "moments", .noat "Growth" "reasons", .noat "Growth" "pending", .noat "Growth" "ages", .meth "Growth" "expect", .meth "Growth" "settle", .meth "Growth" "ages_at", .meth "Growth" "try_way", .meth "Growth" "make_all", .meth "Growth" "number_of"]
abbrev rowR : PySem.W.OpenRow := PySem.W.OpenLaw.row PySem.Challenge.rw_rightage_k26_whole_more_takes_nothing_aw
abbrev hkR : PySem.W.Hook := He.hookD 4 faL fnL
def obR (s : PySem.W.SharedT) : He.AlD := He.obsDG 4 faL fnL (HandSHeadRun.getT s)
theorem obR_eq (s : PySem.W.SharedT) : obR s = hkR.obs s.abs := He.obsDG_eq (HandSHeadRun.getT_eq s)
def lo0 : List Str := ["_wall", "OLD", "WAIT", "READY", "LAST", "OLDEST", "is_number", "is_row", "first_at", "first_of", "handed_on", "bears", "BROUGHT", "MADE", "WAITED", "nearest", "chosen", "Growth", "table", "is_stair", "is_table", "stands", "has", "lesser", "put_together", "within", "is_lacked", "there_at", "least_moment", "is_unmade"]
def lo1 : List Str := ["soonest", "partners", "way_leak", "leak", "is_shut", "_law_draws", "_law_next", "_law_one", "_law_names", "_law_hours", "_law_part", "_law_source", "_law_way", "_law_world", "_law_with", "_law_wider", "_law_more", "_law_turned", "_law_otherwise"]
def loR : List Str := lo0 ++ lo1
theorem runR (w : World) : HandSHeadRun.RunEq rowR (PySem.W.view rowR.prog [54]) hkR obR 4000 loR w := by
  intro os
  kernel_rfl
end Ra
end

section
set_option Elab.async false
set_option linter.all false
set_option maxRecDepth 100000
set_option maxHeartbeats 4000000
/-! rules that the layer lacks: enumerate of a tuple, set of a tuple of ints; calls by name -/
namespace Ra
open PySem PySem.Spec PyProof.Rows L2 RZ

/-! ### enumerate of a tuple -/
def IteT (K : PySem.W.Frag) (t : Addr) : It :=
  ⟨fun i H => ∃ (zs : List V) (z : V), SqT K H t zs ∧ zs[i]? = some z,
   fun i H v H' => ∃ (N : Addr) (z : V), v = .ref N ∧ H N = none ∧ H' = upd H N (.tup [.int (i : Nat), z]) ∧ ∀ zs, SqT K H t zs → zs[i]? = some z,
   fun i H => ∃ zs : List V, SqT K H t zs ∧ zs.length ≤ i⟩

set_option maxHeartbeats 8000000 in
theorem meets_enum1 {v : Value} {o : Obj} {G : Heap → Prop} (B : Begins v o G) :
    Meets (Builtin.«enumerate.__new__» ⟨[.type "enumerate", v], []⟩) (fun _ R s => G s.heap ∧
      R (.ok (.ret (.ref (s.heap.push o).objs.size)))
        { s with heap := (s.heap.push o).push { cls := .type "enumerate", data := .fields #[.none, .bool false, .ref s.heap.objs.size, rawInt 0, .none, .none] } }) :=
  .of_wp fun prog w A R s h => by
    obtain ⟨hp, g, dr, tk, os⟩ := s
    obtain ⟨hG, hR⟩ := h
    have hsub := sub_enumerate
    have iter1 : ∀ {A' : Around} {E' : Value → Shared → Prop} {Q' : Value → Shared → Prop}, Q' (.ref hp.objs.size) ⟨hp.push o, g, dr, tk, os⟩ →
        wpAny (model prog w) A' (pyIter v) Q' E' ⟨hp, g, dr, tk, os⟩ := fun q => B.iter prog w _ _ ⟨hp, g, dr, tk, os⟩ _ hG q
    wp_walk using iter1
    refine wpAny_stack_any fun stk => wpAny_pure ?_
    split
    · rename_i c _ _ _ _ _
      by_cases hc : (c == Value.type "enumerate") = true
      · rw [hc]
        wp_walk using iter1
        exact ⟨_, rfl, hR⟩
      · rw [Bool.not_eq_true _ |>.mp hc]
        wp_walk using iter1
        exact ⟨_, rfl, hR⟩
    · wp_walk using iter1
      exact ⟨_, rfl, hR⟩

theorem enum1_begins {prog : Program} {w : World} {A : Around} {E : Value → Shared → Prop} {s : Shared} {v : Value} {o : Obj} {G : Heap → Prop} {Q : Value → Shared → Prop}
    (B : Begins v o G) (hG : G s.heap)
    (h : ∀ h', IsEnum h' (s.heap.objs.size + 1) s.heap.objs.size 0 .none → h'.get? s.heap.objs.size = some o →
      (∀ b u, s.heap.get? b = some u → h'.get? b = some u) → Q (.ref (s.heap.objs.size + 1)) { s with heap := h' }) :
    wpAny (model prog w) A (call (.type "enumerate") [v]) Q E s := by
  refine callType_new F.called_enumerate (by decide) (F.typeCall_enumerate_1 _) (F.newCall_enumerate_1 _)
    (fun obj => F.args_object_init_2 obj _) F.entry_enumerate_new (meets_enum1 B) ⟨hG, ?_⟩
  have hsz : (s.heap.push o).objs.size = s.heap.objs.size + 1 := Heap.size_push ..
  refine ⟨⟨_, Heap.get?_push_size _ rfl, rfl⟩, ?_⟩
  have q := h ((s.heap.push o).push { cls := .type "enumerate", data := .fields #[.none, .bool false, .ref s.heap.objs.size, rawInt 0, .none, .none] })
    (by
      have e := Heap.get?_push_size (s.heap.push o) (o := { cls := .type "enumerate", data := .fields #[.none, .bool false, .ref s.heap.objs.size, rawInt 0, .none, .none] }) rfl
      rw [hsz] at e
      exact e)
    (Heap.get?_push_of_some _ (Heap.get?_push_size _ B.free)) (fun b u x => Heap.get?_push_of_some _ (Heap.get?_push_of_some _ x))
  rw [← hsz] at q
  exact q

theorem turn_enumT {P : Program} {w : World} {K : PySem.W.Frag} {elts : List Expr} {kk : Nat} {tpos : Pos} (t en it : Addr) (hh : ∀ A : Around, A.handled = none → A.in1.handled = none) :
    Turn P w K (.Tuple elts kk tpos) (IteT K t) [en, it] en (fun i h => (∃ was, IsEnum h en it ((i : Nat) : Int) was) ∧ h.IsTupleIter it t i ∧ en ≠ it) where
  mem := List.mem_cons_self ..
  obj := fun i h st b hb => by
    obtain ⟨⟨was, hen⟩, ⟨ob, ho, hcl, hda⟩, _⟩ := st
    rcases List.mem_cons.mp hb with z | hb
    · rw [z]
      exact ⟨_, hen, fun v q => nomatch q⟩
    · rw [List.mem_singleton.mp hb]
      exact ⟨ob, ho, fun v q => by rw [hda] at q; cases q⟩
  keep := fun i h h' st k => by
    obtain ⟨⟨was, hen⟩, hti, hne⟩ := st
    exact ⟨⟨was, k en (List.mem_cons_self ..) _ hen⟩, hti.at fun ob q => k it (List.mem_cons_of_mem _ (List.mem_cons_self ..)) ob q, hne⟩
  item := by
    intro X hP hw hK hc i pins s σ H E I hf st hg
    subst hP hw hK
    obtain ⟨⟨was, hen⟩, hti, hne⟩ := st
    obtain ⟨zs, z, hq, hz⟩ := hg
    obtain ⟨us, rv, pt, hsz⟩ := I.tuple hq
    obtain ⟨u, hu, ru⟩ := rv.get hz
    have pt' : s.heap.IsTuple t us.toArray := pt
    have henl : en < s.heap.objs.size := Heap.lt_size hen
    have hitl : it < s.heap.objs.size := by
      obtain ⟨_, q, _⟩ := hti
      exact Heap.lt_size q
    have hent : en ≠ t := fun e => by
      obtain ⟨ob, h1, h2, _⟩ := pt'
      rw [← e] at h1
      have h3 := hen
      unfold IsEnum at h3
      rw [h1] at h3
      cases h3
      exact absurd (Value.type.inj h2) (by decide)
    have hitt : t ≠ it := fun e => by
      obtain ⟨ob, h1, h2, _⟩ := pt'
      obtain ⟨ob2, k1, k2, _⟩ := hti
      rw [e] at h1
      rw [h1] at k1
      cases k1
      rw [h2] at k2
      exact absurd (Value.type.inj k2) (by decide)
    have hi : i < us.toArray.size := by
      have := (Array.getElem?_eq_some_iff.mp (show us.toArray[i]? = some u by simpa using hu)).1
      exact this
    refine wpAny_pyNext_enum_itemC (Draws.tuple (hh _ (I.ok.hd hc)) it t hitt us.toArray) hen ⟨hti, pt'⟩ hi hne (by simp [hne, hent]) fun x h1 tk hPx ho hst' hT hsz' hk => ?_
    have hxu : x = u := by
      have e1 : us.toArray[i]? = some x := hPx
      have e2 : us.toArray[i]? = some u := by simpa using hu
      exact Option.some.inj (e1.symm.trans e2)
    subst hxu
    refine ⟨_, rfl, wpAny_letOwnedTupleGo_enum (s := { s with heap := h1, toks := tk + 1 }) ho fun h2 hen2 sb => ?_⟩
    have hT2 : h2.get? s.heap.objs.size = some { cls := .type "tuple", data := .seq #[.int i tk, x] } := (sb.2 _ (Nat.ne_of_gt henl)).trans hT
    have fresh : ObjOk X.prog X.w (upd H s.heap.objs.size (.tup [.int (i : Nat), z])) h2 s.heap.objs.size (.tup [.int (i : Nat), z]) :=
      ⟨(by decide : 2 ≤ sizeLine), [.int i tk, x], .cons ⟨_, rfl⟩ (.cons ru .nil), ⟨_, hT2, rfl, _, rfl⟩⟩
    have I1 : Inv X pins σ (upd H s.heap.objs.size (.tup [.int (i : Nat), z])) { s with heap := h2, toks := tk + 1 } :=
      I.turnedNew (ch := [en, it]) (fun b ob hb q => (sb.2 b (fun z => hb (by rw [z]; exact List.mem_cons_self ..))).trans
        (hk b ob (fun z => hb (by rw [z]; exact List.mem_cons_self ..)) (fun z => hb (by rw [z]; exact List.mem_cons_of_mem _ (List.mem_cons_self ..))) q)) hf (Nat.le_refl _) fresh
    refine ⟨.ref s.heap.objs.size, _, I1, rfl, ⟨_, z, rfl, I.hok.fresh (Nat.le_refl _), rfl, fun ys hy => ?_⟩, ⟨⟨x, ?_⟩, hst'.1.at fun ob q => (sb.2 it (Ne.symm hne)).trans q, hne⟩, fun b hb => ?_⟩
    · rw [I.tuple_inj hy hq]
      exact hz
    · rw [show ((i + 1 : Nat) : Int) = (i : Int) + 1 by omega]
      exact hen2
    · have hbl : b < s.heap.objs.size := by
        rcases List.mem_cons.mp hb with z | hb
        · rw [z]; exact henl
        · rw [List.mem_singleton.mp hb]; exact hitl
      rw [upd_ne (Nat.ne_of_lt hbl)]
      exact (hf b hb).1
  done := by
    intro X hP hw hK hc i pins s σ H E I hf st hg
    subst hP hw hK
    obtain ⟨⟨was, hen⟩, hti, hne⟩ := st
    obtain ⟨zs, hq, hz⟩ := hg
    obtain ⟨us, rv, pt, hsz⟩ := I.tuple hq
    have pt' : s.heap.IsTuple t us.toArray := pt
    have hl := rv.length
    obtain ⟨f0, f1, f2, f3, f4, f5⟩ := hf it (List.mem_cons_of_mem _ (List.mem_cons_self ..))
    have hT : s.TypeIs (.ref en) "enumerate" := ⟨_, hen, rfl⟩
    have D : Draws X.prog X.w X.A.in1 it [it, t] i (fun _ _ => False) (fun j h => h.IsTupleIter it t i ∧ h.IsTuple t us.toArray ∧ j = i) :=
      { live := fun _ _ q => by
          obtain ⟨⟨ob, ho, _⟩, _⟩ := q
          exact ⟨ob, ho⟩
        frame := fun _ _ _ q hk => ⟨q.1.at fun ob e => hk it (by simp) ob e, q.2.1.at fun ob e => hk t (by simp) ob e, q.2.2⟩
        item := fun j s Q E hj q hQ => absurd q.2.2 (Nat.ne_of_lt hj)
        done := fun s Q E q hE => wpAny_nextOf_tuple_end (hh _ (I.ok.hd hc)) q.1 q.2.1 (by simp; omega) hE }
    exact wpAny_pyNext_enum_endD D hen ⟨hti, pt', rfl⟩ fun h' eb => ⟨rfl, I.turned (t' := s.toks) (fun b o hb q => eb b o hb q) f0 f1 f3 f4 f5⟩
  self := fun A i s Q E st h => by
    obtain ⟨⟨was, hen⟩, _⟩ := st
    exact wpAny_pyIter_enum hen h

def iEnumT (K : PySem.W.Frag) (ta : TA) : TI := fun σ H R => ta σ H fun vs H1 => ∃ (t : Addr) (zs : List V), vs = [.ref t] ∧ SqT K H1 t zs ∧ R (IteT K t) H1
theorem pi_enumT {X : Cx} {e : Expr} {ta : TA} {p pos tpos : Pos} {elts : List Expr} {kk : Nat} (hg : Gl X "enumerate") (hm : X.mg "enumerate" = none)
    (ha : PA X [e] ta) (hs : starEach [e] X.env = [(false, eval e X.env)] := by rfl) :
    PI X (.Tuple elts kk tpos) (.Call (.Name "enumerate" p) [e] [] pos) (iEnumT X.K ta) := by
  refine ⟨fun pins s σ H R I h => Call_ (ld_blt I hg hm boot_enumerate (PyProof.Rows.callWith_type1 (thn (ha.run pos pins s σ H _ I h) fun us s1 hq => ?_) hs rfl))⟩
  obtain ⟨vs, H1, I1, r1, t, zs, ex, hq, q⟩ := hq
  subst ex
  cases r1 with
  | cons r rr =>
    cases rr
    cases r
    obtain ⟨its, rv, pt, hz⟩ := I1.tuple hq
    have pt' : s1.heap.IsTuple t its.toArray := pt
    refine enum1_begins (begins_tuple t its.toArray) pt' fun h' hen hti hk => wpAny_pyIter_enum hen ?_
    have I2 : Inv X pins σ H1 { s1 with heap := h' } := I1.kept (t' := s1.toks) hk
    refine ⟨s1.heap.objs.size + 1, [s1.heap.objs.size + 1, s1.heap.objs.size], _, IteT X.K t, H1, rfl, I2, turn_enumT t (s1.heap.objs.size + 1) s1.heap.objs.size (fun A h => h),
      ⟨⟨.none, hen⟩, ⟨_, hti, rfl, rfl⟩, Nat.succ_ne_self _⟩, fun b hb => ?_, q⟩
    have hle : s1.heap.objs.size ≤ b := by
      rcases List.mem_cons.mp hb with z | hb
      · rw [z]; exact Nat.le_succ _
      · rw [List.mem_singleton.mp hb]; exact Nat.le_refl _
    exact I1.fpOk hle (I1.hok.fresh hle)
theorem walk_enumT {K : PySem.W.Frag} {t : Addr} {zs : List V} : Walk (IteT K t) zs.length (fun H => SqT K H t zs) (YPair (fun i => some (.int (i : Nat))) (fun i => zs[i]?)) := by
  refine ⟨fun i _ hi q => ⟨zs, zs[i], q, by simp [hi]⟩, fun _ q => ⟨zs, q, Nat.le_refl _⟩, fun i H v H' _ q y => ?_⟩
  obtain ⟨N, z, e1, e2, e3, e4⟩ := y
  exact ⟨N, .int (i : Nat), z, e1, e2, e3, rfl, e4 zs q⟩
/-- zip of two tuples -/
theorem walk_zipT {K : PySem.W.Frag} {a b : Addr} {xs ys : List V} {n : Nat} (hn : n = min xs.length ys.length) : Walk (ItzT K a b) n (fun H => SqT K H a xs ∧ SqT K H b ys) (YPair (fun i => xs[i]?) (fun i => ys[i]?)) := by
  subst hn
  refine ⟨fun i _ hi q => ?_, fun _ q => ⟨xs, ys, q.1, q.2, by omega⟩, fun i H v H' _ q y => ?_⟩
  · have l1 : i < xs.length := by omega
    have l2 : i < ys.length := by omega
    exact ⟨xs, ys, xs[i], ys[i], q.1, q.2, by simp [l1], by simp [l2]⟩
  · obtain ⟨N, x, z, e1, e2, e3, e4, e5⟩ := y
    exact ⟨N, x, z, e1, e2, e3, e4 xs q.1, e5 ys q.2⟩

/-! ### set(a tuple of ints) -/
def rSetTI (K : PySem.W.Frag) (w : World) : List V → Hp → VK → Prop := fun xs H Q => ∃ (p : Addr) (ns : List Int), xs = [.ref p] ∧ SqT K H p (ns.map V.int) ∧ ns.length < 64 ∧
  ∀ (a : Addr) (n : Nat), H a = none → n ≤ ns.length → Q (.ref a) (upd H a (SetO w a (fun k => decide (k ∈ ns)) n))
theorem cr_setTI {X : Cx} (hc : X.calm = true) : CallR X (.type "set") (rSetTI X.K X.w) := by
  intro pins s σ H xs us Q I r h
  obtain ⟨p, ns, rfl, hq, hl, q⟩ := h
  cases r with
  | cons ry rt =>
    cases rt
    cases ry
    obtain ⟨its, rv, pt, hz⟩ := I.tuple hq
    refine call_set_tupI ns (I.ok.hd hc) (show s.heap.IsTuple p its.toArray from pt) (ints_of_vals rv) (by unfold scanBound; omega) fun h' tk c R1 hcn k => ?_
    have hn := I.hok.fresh (Nat.le_refl s.heap.objs.size)
    exact ⟨.ref _, upd H s.heap.objs.size (SetO X.w s.heap.objs.size (fun j => decide (j ∈ ns)) c),
      I.laid (t' := tk) k (Nat.le_refl _) (setO_new R1), rfl, q _ c hn hcn⟩

/-! ### tuple(a list), its object told: it has no dict of its own -/
theorem cr_tupleZ {X : Cx} : CallR X (.type "tuple") (fun xs H Q => ∃ (p : Addr) (zs : List V), xs = [.ref p] ∧ SqL X.K H p zs ∧
    ∀ (l : Addr) (o : Obj), H l = none → o.dict = none → Q (.ref l) (upd H l (.frz o (.tup zs)))) := by
  intro pins s σ H xs us Q I r h
  obtain ⟨p, zs, rfl, hq, q⟩ := h
  cases r with
  | cons ry rt =>
    cases rt
    cases ry
    obtain ⟨its, rv, pl, hz⟩ := I.list hq
    have hlen := rv.length
    refine call_tuple_list pl.isList (fun h' kp => ?_) (by simp only [List.size_toArray]; omega)
    have I1 : Inv X pins σ H { s with heap := h' } := I.kept (t' := s.toks) kp
    have new : ObjOk X.prog X.w (upd H h'.objs.size (.frz { cls := .type "tuple", data := .seq its.toArray } (.tup zs))) (h'.push { cls := .type "tuple", data := .seq its.toArray }) h'.objs.size
        (.frz { cls := .type "tuple", data := .seq its.toArray } (.tup zs)) := ⟨Heap.get?_push_size _ rfl, hz, its, rv, IsTup.new _ _⟩
    exact ⟨.ref h'.objs.size, _, I1.laid (t' := s.toks) (fun b o e => Heap.get?_push_of_some _ e) (Nat.le_refl _) new, rfl, q _ _ (I1.hok.fresh (Nat.le_refl _)) rfl⟩
/-- a method of a tuple that has no dict of its own -/
def tBMZ (r : V → List V → Hp → VK → Prop) (to : TE) (t : TA) : TE := fun σ H Q => to σ H fun x H1 => (∃ (a : Addr) (o : Obj) (zs : List V), x = .ref a ∧ H1 a = some (.frz o (.tup zs)) ∧ o.dict = none) ∧ t σ H1 fun xs H2 => r x xs H2 Q
theorem pe_bmZ {X : Cx} {o e : Expr} {es : List Expr} {name : Str} {apos cpos : Pos} {id : String} {r : V → List V → Hp → VK → Prop} {to : TE} {t : TA}
    (slot : Slot "tuple" name id) (hty : typeOf (.builtin id) = pure (.type "method_descriptor")) (hm : MtR X id r) (ho : PE X o to) (ha : PA X (e :: es) t)
    (hb : attributeBase o name X.env (eval o X.env) = eval o X.env := by rfl)
    (hfew : ((backTo cpos (starEach (e :: es) X.env)).all (fun x => !x.1) && (backToKw cpos (keywordEach [] X.env)).all (fun x => x.1.isSome)
      && decide ((e :: es).length + ([] : List Keyword).length + (if ([] : List Keyword).isEmpty then 0 else 1) < 30)) = true := by rfl)
    (hline : (apos.endLine == cpos.line) = true := by rfl) (hs : starEach (e :: es) X.env = (false, eval e X.env) :: starEach es X.env := by rfl) (hplain : (backTo cpos (starEach es X.env)).any (·.1) = false := by rfl) :
    PE X (.Call (.Attribute o name apos) (e :: es) [] cpos) (tBMZ r to t) := by
  refine ⟨fun pins s σ H Q I h => wpAny_Call_method_late hb hfew hline rfl (thn (ho.run pins s σ H _ I h) fun v s1 hv => ?_)⟩
  obtain ⟨x, H1, I1, r1, ⟨a, ob, zs, rfl, hob, hnd⟩, q1⟩ := hv
  cases r1
  obtain ⟨hget, hz, its, rv, ob2, e2, hcl, hda⟩ := I1.hok a _ hob
  have eo : ob2 = ob := by
    rw [hget] at e2
    exact (Option.some.inj e2).symm
  subst eo
  refine ⟨"tuple", id, PySem.F.plainAttrs_tuple, slot, hty, ⟨ob2, hget, hcl⟩, fun b hb => ?_, ?_⟩
  · cases hb
    exact ⟨ob2, hget, hnd⟩
  have hA := ha.run cpos pins s1 σ H1 _ I1 q1
  rw [hs] at hA ⊢
  refine Calls.callWith_builtin (by show (false || (backTo cpos (starEach es X.env)).any (·.1)) = false; rw [hplain]; rfl) (Calls.evalArgs_plain ?_)
  exact thn hA fun us s2 hq => by
    obtain ⟨vs, H2, I2, r2, q2⟩ := hq
    exact hm pins s2 σ H2 (.ref a) vs (.ref a) us Q I2 rfl r2 q2

/-! ### rules within a comprehension: the written part by its own name -/
section
variable {X : Cx} {K : PySem.W.Frag}
theorem call_tuple_ofK (hK : X.K = K) : CallR X (.type "tuple") (fun xs H Q => ∃ p ys, xs = [.ref p] ∧ ((SqL K H p ys ∧ ∀ l, H l = none → Q (.ref l) (upd H l (.tup ys))) ∨ (SqT K H p ys ∧ Q (.ref p) H))) := by
  subst hK
  exact call_tuple_of
theorem op_catAK (hK : X.K = K) : OpR X (binaryOp .Add) (rCatA K) := by
  subst hK
  exact op_catA
theorem sl_tupAK (hK : X.K = K) : SlR X (rSlA K) := by
  subst hK
  exact sl_tupA
theorem pe_fldK {e : Expr} {ta : TE} {f : Str} {pos : Pos} (hK : X.K = K) (he : PE X e ta) (hb : attributeBase e f X.env (eval e X.env) = eval e X.env) : PE X (.Attribute e f pos) (tFld K ta f) := by
  subst hK
  exact pe_fld he hb
theorem pi_zipAK {e e2 : Expr} {ta : TA} {p pos tpos : Pos} {elts : List Expr} {kk : Nat} (hK : X.K = K) (hg : Gl X "zip") (hm : X.mg "zip" = none) (ha : PA X [e, e2] ta)
    (h1 : starEach [e, e2] X.env = (false, eval e X.env) :: starEach [e2] X.env := by rfl) (h2 : (backTo pos (starEach [e2] X.env)).any (·.1) = false := by rfl) :
    PI X (.Tuple elts kk tpos) (.Call (.Name "zip" p) [e, e2] [] pos) (iZipA K ta) := by
  subst hK
  exact pi_zipA hg hm ha h1 h2
end
end Ra
end

section
/-! the plain law: worlds, what can be had, tables; no program in sight -/
set_option autoImplicit false
set_option linter.all false
namespace Ra
universe u

structure Src (κ : Type) where
  kind : κ
  age : Int
  place : Int
  since : Int
  many : Int
structure Prt (κ : Type) where
  kind : κ
  lo : Int
  hi : Int
structure Wy (κ : Type) where
  kind : κ
  parts : List (Prt κ)
  old : Bool
  hours : List Int
  wait : Int
structure Wd (κ : Type) where
  size : Int
  kinds : List κ
  sources : List (Src κ)
  ways : List (Wy κ)

def All2 {α β : Type} (R : α → β → Prop) (xs : List α) (ys : List β) : Prop :=
  xs.length = ys.length ∧ ∀ (i : Nat) (x : α) (y : β), xs[i]? = some x → ys[i]? = some y → R x y
theorem All2.mono {α β : Type} {R R' : α → β → Prop} {xs : List α} {ys : List β} (h : All2 R xs ys) (f : ∀ x y, x ∈ xs → y ∈ ys → R x y → R' x y) : All2 R' xs ys :=
  ⟨h.1, fun i x y hx hy => f x y (List.mem_of_getElem? hx) (List.mem_of_getElem? hy) (h.2 i x y hx hy)⟩
theorem All2.left {α β : Type} {R : α → β → Prop} {xs : List α} {ys : List β} (h : All2 R xs ys) {y : β} (hy : y ∈ ys) : ∃ (i : Nat) (x : α), xs[i]? = some x ∧ ys[i]? = some y ∧ R x y := by
  obtain ⟨i, hi⟩ := List.mem_iff_getElem?.mp hy
  have hlt : i < ys.length := (List.getElem?_eq_some_iff.mp hi).1
  have hlt2 : i < xs.length := by rw [h.1]; exact hlt
  exact ⟨i, xs[i], List.getElem?_eq_getElem hlt2, hi, h.2 i _ _ (List.getElem?_eq_getElem hlt2) hi⟩

/-- the age that is handed on -/
def Hand (old : Bool) (as : List Int) (g : Int) : Prop := g ∈ as ∧ ∀ a ∈ as, if old = true then a ≤ g else g ≤ a
theorem Hand.uniq {old : Bool} {as : List Int} {g g' : Int} (h : Hand old as g) (h' : Hand old as g') : g = g' := by
  have h1 := h.2 g' h'.1
  have h2 := h'.2 g h.1
  cases old with
  | true =>
    simp only [if_true] at h1 h2
    omega
  | false =>
    simp only [Bool.false_eq_true, if_false] at h1 h2
    omega

section
variable {κ : Type}

structure SrcOk (n : Int) (ks : List κ) (s : Src κ) : Prop where
  kin : s.kind ∈ ks
  a0 : 0 ≤ s.age
  a1 : s.age ≤ 20
  p0 : 0 ≤ s.place
  p1 : s.place < n
  s0 : 0 ≤ s.since
  s1 : s.since ≤ 1000000
structure PrtOk (ks : List κ) (p : Prt κ) : Prop where
  kin : p.kind ∈ ks
  l0 : 0 ≤ p.lo
  lh : p.lo ≤ p.hi
  h1 : p.hi ≤ 20
structure WyOk (n : Int) (ks : List κ) (y : Wy κ) : Prop where
  kin : y.kind ∈ ks
  p0 : 1 ≤ y.parts.length
  p1 : y.parts.length ≤ 3
  parts : ∀ p ∈ y.parts, PrtOk ks p
  hours : ∀ h ∈ y.hours, 0 ≤ h ∧ h < n
  hlen : y.hours.length ≤ 6
  w0 : 1 ≤ y.wait
  w1 : y.wait ≤ 6
structure WdOk (w : Wd κ) : Prop where
  n0 : 1 ≤ w.size
  n1 : w.size ≤ 6
  k0 : 1 ≤ w.kinds.length
  k1 : w.kinds.length ≤ 4
  kn : w.kinds.Nodup
  s0 : 1 ≤ w.sources.length
  s1 : w.sources.length ≤ 8
  y1 : w.ways.length ≤ 10
  srcs : ∀ s ∈ w.sources, SrcOk w.size w.kinds s
  ways : ∀ y ∈ w.ways, WyOk w.size w.kinds y

/-- what nothing leads out of -/
def Closed (w : Wd κ) (S : κ → Int → Int → Prop) : Prop :=
  (∀ s ∈ w.sources, ∀ m, s.since ≤ m → m % w.size = s.place → S s.kind (m - s.age) m) ∧
  (∀ k o m, S k o m → S k o (m + 1)) ∧
  (∀ y ∈ w.ways, ∀ m, 0 ≤ m → m % w.size ∈ y.hours → ∀ as g,
    All2 (fun (p : Prt κ) a => p.lo ≤ a ∧ a ≤ p.hi ∧ S p.kind (m - a) m) y.parts as → Hand y.old as g → S y.kind (m - g) (m + y.wait))
/-- what can be had: kind, origin, moment -/
def Can (w : Wd κ) (k : κ) (o m : Int) : Prop := ∀ S, Closed w S → S k o m

theorem can_closed (w : Wd κ) : Closed w (Can w) :=
  ⟨fun s hs m h1 h2 S hS => hS.1 s hs m h1 h2, fun k o m h S hS => hS.2.1 k o m (h S hS),
   fun y hy m h0 hm as g ha hg S hS => hS.2.2 y hy m h0 hm as g (ha.mono fun p a _ _ q => ⟨q.1, q.2.1, q.2.2 S hS⟩) hg⟩
theorem can_mono {w w' : Wd κ} (h : ∀ S, Closed w' S → Closed w S) {k : κ} {o m : Int} (c : Can w k o m) : Can w' k o m := fun S hS => c S (h S hS)
theorem can_wait {w : Wd κ} {k : κ} {o m : Int} (c : Can w k o m) (j : Nat) : Can w k o (m + j) := by
  induction j with
  | zero => simpa using c
  | succ j ih =>
    have := (can_closed w).2.1 _ _ _ ih
    rw [show m + ((j + 1 : Nat) : Int) = m + (j : Int) + 1 by omega]
    exact this
theorem can_until {w : Wd κ} {k : κ} {o m m' : Int} (c : Can w k o m) (h : m ≤ m') : Can w k o m' := by
  have := can_wait c (m' - m).toNat
  rw [show m + ((m' - m).toNat : Int) = m' by omega] at this
  exact this
theorem can_shift {w : Wd κ} (hn : 0 ≤ w.size) {k : κ} {o m : Int} (c : Can w k o m) : Can w k (o + w.size) (m + w.size) := by
  intro S hS
  refine c (fun k o m => S k (o + w.size) (m + w.size)) ⟨fun s hs m h1 h2 => ?_, fun k o m h => ?_, fun y hy m h0 hm as g ha hg => ?_⟩
  · have := hS.1 s hs (m + w.size) (by omega) (by rw [Int.add_emod_right]; exact h2)
    show S s.kind (m - s.age + w.size) (m + w.size)
    rw [show m - s.age + w.size = m + w.size - s.age by omega]
    exact this
  · have := hS.2.1 _ _ _ h
    show S k (o + w.size) (m + 1 + w.size)
    rw [show m + 1 + w.size = m + w.size + 1 by omega]
    exact this
  · have := hS.2.2 y hy (m + w.size) (by omega) (by rw [Int.add_emod_right]; exact hm) as g (ha.mono fun p a _ _ q => ⟨q.1, q.2.1, by
      rw [show m + w.size - a = m - a + w.size by omega]
      exact q.2.2⟩) hg
    show S y.kind (m - g + w.size) (m + y.wait + w.size)
    rw [show m - g + w.size = m + w.size - g by omega, show m + y.wait + w.size = m + w.size + y.wait by omega]
    exact this
theorem can_shiftN {w : Wd κ} (hn : 0 ≤ w.size) {k : κ} {o m : Int} (c : Can w k o m) (j : Nat) : Can w k (o + w.size * j) (m + w.size * j) := by
  induction j with
  | zero => simpa using c
  | succ j ih =>
    have := can_shift hn ih
    rw [show w.size * ((j + 1 : Nat) : Int) = w.size * (j : Int) + w.size by rw [Int.natCast_add, Int.mul_add]; simp]
    rw [← Int.add_assoc, ← Int.add_assoc]
    exact this
/-- a later one of the same place -/
theorem can_at {w : Wd κ} (hn : 1 ≤ w.size) {k : κ} {o m o' : Int} (c : Can w k o m) (h : o ≤ o') (e : o' % w.size = o % w.size) : Can w k o' (m + (o' - o)) := by
  have e1 : (o' - o) % w.size = 0 := Int.emod_eq_emod_iff_emod_sub_eq_zero.mp e
  have e2 : w.size * ((o' - o) / w.size) = o' - o := Int.mul_ediv_cancel' (Int.dvd_of_emod_eq_zero e1)
  have e3 : 0 ≤ (o' - o) / w.size := Int.ediv_nonneg (by omega) (by omega)
  have := can_shiftN (by omega) c ((o' - o) / w.size).toNat
  rw [Int.toNat_of_nonneg e3, e2] at this
  rw [show o' = o + (o' - o) by omega]
  rw [show m + (o + (o' - o) - o) = m + (o' - o) by omega]
  exact this
theorem can_bnd {w : Wd κ} (hw : WdOk w) {k : κ} {o m : Int} (c : Can w k o m) : k ∈ w.kinds ∧ o ≤ m ∧ 0 ≤ m ∧ -20 ≤ o := by
  refine c (fun k o m => k ∈ w.kinds ∧ o ≤ m ∧ 0 ≤ m ∧ -20 ≤ o) ⟨fun s hs m h1 h2 => ?_, fun k o m h => ?_, fun y hy m h0 hm as g ha hg => ?_⟩
  · have := hw.srcs s hs
    exact ⟨this.kin, by have := this.a0; omega, by have := this.s0; omega, by have h1 := this.a1; have h2 := this.s0; omega⟩
  · exact ⟨h.1, by omega, by omega, h.2.2.2⟩
  · have Y := hw.ways y hy
    obtain ⟨i, p, hp, hgi, h1, h2, h3⟩ := ha.left hg.1
    have P := Y.parts p (List.mem_of_getElem? hp)
    have := P.l0
    have := Y.w0
    exact ⟨Y.kin, by omega, by omega, by omega⟩

/-! ### tables -/
abbrev Tv (κ : Type) := κ → Int → Int → Option Int
def HasT (n : Int) (t : Tv κ) (k : κ) (o a : Int) : Prop := ∃ x, t k (o % n) (min a 26) = some x ∧ x ≤ o
/-- there by the table: kind, origin, moment -/
def ST (n : Int) (t : Tv κ) (k : κ) (o m : Int) : Prop := o ≤ m ∧ HasT n t k o (m - o)
structure TabOk (w : Wd κ) (t : Tv κ) : Prop where
  md : ∀ k p a x, k ∈ w.kinds → 0 ≤ p → p < w.size → 0 ≤ a → a ≤ 26 → t k p a = some x → x % w.size = p ∧ -20 ≤ x ∧ x ≤ 3000000000000000
  mono : ∀ k p a x, k ∈ w.kinds → 0 ≤ p → p < w.size → 0 ≤ a → a < 26 → t k p a = some x → ∃ y, t k p (a + 1) = some y ∧ y ≤ x
def firstAt (n place since : Int) : Int := since + (place - since) % n
def Laid (w : Wd κ) (t : Tv κ) (s : Src κ) : Prop := HasT w.size t s.kind (firstAt w.size s.place s.since - s.age) s.age
def Tight (w : Wd κ) (t : Tv κ) (y : Wy κ) (h : Int) : Prop := ∀ m, 0 ≤ m → m % w.size = h → ∀ as g,
  All2 (fun (p : Prt κ) a => p.lo ≤ a ∧ a ≤ p.hi ∧ ST w.size t p.kind (m - a) m) y.parts as → Hand y.old as g → ST w.size t y.kind (m - g) (m + y.wait)
def Shut (w : Wd κ) (t : Tv κ) : Prop := (∀ s ∈ w.sources, Laid w t s) ∧ ∀ y ∈ w.ways, ∀ h ∈ y.hours, Tight w t y h

theorem mod_rng {n : Int} (h : 1 ≤ n) (x : Int) : 0 ≤ x % n ∧ x % n < n := ⟨Int.emod_nonneg _ (by omega), Int.emod_lt_of_pos _ (by omega)⟩
theorem mod_id {n x : Int} (h0 : 0 ≤ x) (h1 : x < n) : x % n = x := Int.emod_eq_of_lt h0 h1
theorem first_mod {n p s : Int} (h : 1 ≤ n) (h0 : 0 ≤ p) (h1 : p < n) : firstAt n p s % n = p := by
  unfold firstAt
  rw [Int.add_emod_emod, show s + (p - s) = p by omega, mod_id h0 h1]
theorem first_ge {n p s : Int} (h : 1 ≤ n) : s ≤ firstAt n p s ∧ firstAt n p s < s + n := by
  unfold firstAt
  have := mod_rng h (p - s)
  omega
theorem first_le {n p s m : Int} (h : 1 ≤ n) (hs : s ≤ m) (e : m % n = p) : firstAt n p s ≤ m := by
  unfold firstAt
  rw [← e]
  have e2 : (m % n - s) % n = (m - s) % n := by rw [Int.emod_sub_emod]
  rw [e2]
  have h1 : 0 ≤ m - s := by omega
  have h2 := Int.mul_ediv_add_emod (m - s) n
  have h3 : 0 ≤ n * ((m - s) / n) := Int.mul_nonneg (by omega) (Int.ediv_nonneg h1 (by omega))
  omega
theorem sub_mod_eq {n x y b : Int} (e : x % n = y % n) : (x - b) % n = (y - b) % n := by
  rw [← Int.emod_sub_emod, e, Int.emod_sub_emod]

theorem st_wait {w : Wd κ} {t : Tv κ} (hn : 1 ≤ w.size) (T : TabOk w t) {k : κ} {o m : Int} (hk : k ∈ w.kinds) (h : ST w.size t k o m) : ST w.size t k o (m + 1) := by
  obtain ⟨h1, x, hx, hle⟩ := h
  have hr := mod_rng hn o
  refine ⟨by omega, ?_⟩
  by_cases h26 : m - o < 26
  · obtain ⟨y, hy, hyx⟩ := T.mono k (o % w.size) (m - o) x hk hr.1 hr.2 (by omega) h26 (by rw [show min (m - o) 26 = m - o by omega] at hx; exact hx)
    exact ⟨y, by rw [show min (m + 1 - o) 26 = m - o + 1 by omega]; exact hy, by omega⟩
  · exact ⟨x, by rw [show min (m + 1 - o) 26 = min (m - o) 26 by omega]; exact hx, hle⟩
theorem shut_closed {w : Wd κ} {t : Tv κ} (hw : WdOk w) (T : TabOk w t) (h : Shut w t) : Closed w (fun k o m => k ∈ w.kinds ∧ ST w.size t k o m) := by
  refine ⟨fun s hs m h1 h2 => ?_, fun k o m q => ⟨q.1, st_wait hw.n0 T q.1 q.2⟩, fun y hy m h0 hm as g ha hg => ?_⟩
  · have S := hw.srcs s hs
    obtain ⟨x, hx, hle⟩ := h.1 s hs
    have f1 := first_le hw.n0 h1 h2
    have f2 := first_mod hw.n0 S.p0 S.p1 (s := s.since)
    have a0 := S.a0
    refine ⟨S.kin, by omega, x, ?_, by omega⟩
    rw [show m - (m - s.age) = s.age by omega, sub_mod_eq (show m % w.size = firstAt w.size s.place s.since % w.size by rw [f2]; exact h2)]
    exact hx
  · exact ⟨(hw.ways y hy).kin, h.2 y hy _ hm m h0 rfl as g (ha.mono fun p a _ _ q => ⟨q.1, q.2.1, q.2.2.2⟩) hg⟩
theorem closed_shut {w : Wd κ} {t : Tv κ} (hw : WdOk w) (h : Closed w (fun k o m => k ∈ w.kinds ∧ ST w.size t k o m)) : Shut w t := by
  refine ⟨fun s hs => ?_, fun y hy hh hm m h0 e as g ha hg => ?_⟩
  · have S := hw.srcs s hs
    have f1 := first_ge hw.n0 (p := s.place) (s := s.since)
    have f2 := first_mod hw.n0 S.p0 S.p1 (s := s.since)
    have := (h.1 s hs (firstAt w.size s.place s.since) f1.1 f2).2.2
    rw [show firstAt w.size s.place s.since - (firstAt w.size s.place s.since - s.age) = s.age by omega] at this
    exact this
  · exact (h.2.2 y hy m h0 (by rw [e]; exact hm) as g (ha.mono fun p a hp _ q => ⟨q.1, q.2.1, ((hw.ways y hy).parts p hp).kin, q.2.2⟩) hg).2

/-- the least table -/
structure Least (w : Wd κ) (t : Tv κ) : Prop where
  snd : ∀ k p a x, k ∈ w.kinds → 0 ≤ p → p < w.size → 0 ≤ a → a ≤ 26 → t k p a = some x → x % w.size = p ∧ Can w k x (x + a) ∧ x ≤ 3000000000000000
  cmp : ∀ k o m, Can w k o m → ∃ x, t k (o % w.size) (min (m - o) 26) = some x ∧ x ≤ o
section
variable {w w' : Wd κ} {t t' : Tv κ}
theorem Least.st (hw : WdOk w) (L : Least w t) {k : κ} {o m : Int} : (k ∈ w.kinds ∧ ST w.size t k o m) ↔ Can w k o m := by
  constructor
  · rintro ⟨hk, hom, x, hx, hle⟩
    have hr := mod_rng hw.n0 o
    obtain ⟨e, c, _⟩ := L.snd k _ _ x hk hr.1 hr.2 (by omega) (by omega) hx
    have c2 := can_at hw.n0 c hle e.symm
    exact can_until c2 (by omega)
  · intro c
    obtain ⟨x, hx, hle⟩ := L.cmp k o m c
    obtain ⟨b1, b2, _⟩ := can_bnd hw c
    exact ⟨b1, b2, x, hx, hle⟩
theorem Least.tabOk (hw : WdOk w) (L : Least w t) : TabOk w t := by
  refine ⟨fun k p a x hk h0 h1 h2 h3 e => ?_, fun k p a x hk h0 h1 h2 h3 e => ?_⟩
  · obtain ⟨e1, c, b⟩ := L.snd k p a x hk h0 h1 h2 h3 e
    exact ⟨e1, (can_bnd hw c).2.2.2, b⟩
  · obtain ⟨e1, c, b⟩ := L.snd k p a x hk h0 h1 h2 (by omega) e
    obtain ⟨y, hy, hle⟩ := L.cmp k x (x + (a + 1)) (can_until c (by omega))
    rw [e1, show min (x + (a + 1) - x) 26 = a + 1 by omega] at hy
    exact ⟨y, hy, hle⟩
theorem Least.le (hw : WdOk w) (L : Least w t) (L' : Least w' t') (hs : w'.size = w.size) (h : ∀ k o m, Can w k o m → Can w' k o m) {k : κ} {p a x : Int}
    (hk : k ∈ w.kinds) (h0 : 0 ≤ p) (h1 : p < w.size) (h2 : 0 ≤ a) (h3 : a ≤ 26) (e : t k p a = some x) : ∃ y, t' k p a = some y ∧ y ≤ x := by
  obtain ⟨e1, c, _⟩ := L.snd k p a x hk h0 h1 h2 h3 e
  obtain ⟨y, hy, hle⟩ := L'.cmp k x (x + a) (h _ _ _ c)
  rw [hs, e1, show min (x + a - x) 26 = a by omega] at hy
  exact ⟨y, hy, hle⟩
theorem Least.same (hw : WdOk w) (hw' : WdOk w') (L : Least w t) (L' : Least w' t') (hs : w'.size = w.size) (hks : w'.kinds = w.kinds)
    (h : ∀ k o m, Can w k o m ↔ Can w' k o m) {k : κ} {p a : Int} (hk : k ∈ w.kinds) (h0 : 0 ≤ p) (h1 : p < w.size) (h2 : 0 ≤ a) (h3 : a ≤ 26) : t k p a = t' k p a := by
  cases e : t k p a with
  | none =>
    cases e' : t' k p a with
    | none => rfl
    | some y =>
      obtain ⟨x, hx, _⟩ := L'.le hw' L hs.symm (fun k o m c => (h k o m).mpr c) (by rw [hks]; exact hk) h0 (by rw [hs]; exact h1) h2 h3 e'
      rw [e] at hx
      cases hx
  | some x =>
    obtain ⟨y, hy, hyx⟩ := L.le hw L' hs (fun k o m c => (h k o m).mp c) hk h0 h1 h2 h3 e
    obtain ⟨z, hz, hzy⟩ := L'.le hw' L hs.symm (fun k o m c => (h k o m).mpr c) (by rw [hks]; exact hk) h0 (by rw [hs]; exact h1) h2 h3 hy
    rw [e] at hz
    cases hz
    rw [hy, show x = y by omega]

/-- a world with more -/
structure More (w w' : Wd κ) : Prop where
  size : w'.size = w.size
  kinds : w'.kinds = w.kinds
  cl : ∀ S, Closed w' S → Closed w S
theorem More.can (m : More w w') {k : κ} {o n : Int} (c : Can w k o n) : Can w' k o n := can_mono m.cl c
theorem closed_of_iff {S S' : κ → Int → Int → Prop} (h : ∀ k o m, S k o m ↔ S' k o m) (c : Closed w S) : Closed w S' := by
  have e : S = S' := funext fun k => funext fun o => funext fun m => propext (h k o m)
  rw [← e]
  exact c
/-- the greater world's table is shut in the lesser world -/
theorem Least.shut_more (hw : WdOk w) (hw' : WdOk w') (L' : Least w' t') (m : More w w') : Shut w t' := by
  refine closed_shut hw (m.cl _ ?_)
  refine closed_of_iff (fun k o n => ?_) (can_closed w')
  rw [← L'.st hw', m.size, m.kinds]
/-- the lesser world's table is shut in the greater world just where the tables are alike -/
theorem Least.shut_back (hw : WdOk w) (hw' : WdOk w') (L : Least w t) (L' : Least w' t') (m : More w w') :
    Shut w' t ↔ ∀ k p a, k ∈ w.kinds → 0 ≤ p → p < w.size → 0 ≤ a → a ≤ 26 → t' k p a = t k p a := by
  constructor
  · intro h k p a hk h0 h1 h2 h3
    have T : TabOk w' t := by
      have := L.tabOk hw
      refine ⟨?_, ?_⟩
      · rw [m.size, m.kinds]; exact this.md
      · rw [m.size, m.kinds]; exact this.mono
    have c := shut_closed hw' T h
    refine (L.same hw hw' L' m.size m.kinds (fun k o n => ⟨m.can, fun q => ?_⟩) hk h0 h1 h2 h3).symm
    have q2 := q _ c
    rw [m.size, m.kinds] at q2
    exact (L.st hw).mp q2
  · intro h
    refine closed_shut hw' (closed_of_iff (fun k o n => ?_) (can_closed w'))
    rw [← L'.st hw']
    constructor
    · rintro ⟨hk, hle, x, hx, hxo⟩
      refine ⟨hk, hle, x, ?_, hxo⟩
      have hr := mod_rng hw'.n0 o
      rw [← h k _ _ (by rw [← m.kinds]; exact hk) hr.1 (by rw [← m.size]; exact hr.2) (by omega) (by omega)]
      exact hx
    · rintro ⟨hk, hle, x, hx, hxo⟩
      refine ⟨hk, hle, x, ?_, hxo⟩
      have hr := mod_rng hw'.n0 o
      rw [h k _ _ (by rw [← m.kinds]; exact hk) hr.1 (by rw [← m.size]; exact hr.2) (by omega) (by omega)]
      exact hx
end
end
end Ra
end

section
/-! the plain law of growth: what a walk in rising moments has come to; no program in sight -/
set_option autoImplicit false
set_option linter.all false
namespace Ra
abbrev Ky (κ : Type) := κ × Int × Int
section
variable {κ : Type} [DecidableEq κ]

def look (M : List (Ky κ × Int)) (key : Ky κ) : Option Int := (M.find? fun p => decide (p.1 = key)).map (·.2)
theorem look_nil (key : Ky κ) : look ([] : List (Ky κ × Int)) key = none := rfl
theorem look_cons (p : Ky κ × Int) (M : List (Ky κ × Int)) (key : Ky κ) : look (p :: M) key = if p.1 = key then some p.2 else look M key := by
  unfold look
  rw [List.find?_cons]
  by_cases h : p.1 = key
  · rw [if_pos h, decide_eq_true h]
    rfl
  · rw [if_neg h, decide_eq_false h]
theorem look_snoc (M : List (Ky κ × Int)) (key key' : Ky κ) (t : Int) (h : look M key = none) : look (M ++ [(key, t)]) key' = if key = key' then some t else look M key' := by
  induction M with
  | nil => rw [List.nil_append, look_cons]
  | cons p M ih =>
    rw [look_cons] at h
    rw [List.cons_append, look_cons, look_cons]
    by_cases h1 : p.1 = key
    · rw [if_pos h1] at h
      cases h
    · rw [if_neg h1] at h
      rw [ih h]
      by_cases h2 : p.1 = key'
      · rw [if_pos h2, if_neg (fun e => h1 (h2.trans e.symm))]
        rw [if_pos h2]
      · rw [if_neg h2]
        by_cases h3 : key = key'
        · rw [if_pos h3, if_pos h3]
        · rw [if_neg h3, if_neg h3, if_neg h2]
theorem look_mem {M : List (Ky κ × Int)} {key : Ky κ} {x : Int} (h : look M key = some x) : (key, x) ∈ M := by
  induction M with
  | nil => cases h
  | cons p M ih =>
    rw [look_cons] at h
    by_cases h1 : p.1 = key
    · rw [if_pos h1] at h
      cases h
      rw [← h1]
      exact List.mem_cons_self ..
    · rw [if_neg h1] at h
      exact List.mem_cons_of_mem _ (ih h)
theorem look_none {M : List (Ky κ × Int)} {key : Ky κ} (h : look M key = none) : key ∉ M.map (·.1) := by
  induction M with
  | nil => intro q; cases q
  | cons p M ih =>
    rw [look_cons] at h
    by_cases h1 : p.1 = key
    · rw [if_pos h1] at h
      cases h
    · rw [if_neg h1] at h
      rw [List.map_cons]
      intro q
      rcases List.mem_cons.mp q with e | q
      · exact h1 e.symm
      · exact ih h q

/-- a settled or an awaited thing, told rightly -/
def Good (w : Wd κ) (key : Ky κ) (m : Int) : Prop :=
  key.1 ∈ w.kinds ∧ 0 ≤ key.2.1 ∧ key.2.1 < w.size ∧ 0 ≤ key.2.2 ∧ key.2.2 ≤ 26 ∧ (m - key.2.2) % w.size = key.2.1 ∧ Can w key.1 (m - key.2.2) m
/-- it is settled by then, or awaited by then -/
def Prom (M : List (Ky κ × Int)) (Pe : Int → Ky κ → Prop) (key : Ky κ) (t : Int) : Prop :=
  (∃ x, look M key = some x ∧ x ≤ t) ∨ ∃ t', t' ≤ t ∧ Pe t' key
/-- parts that are settled -/
def Got (w : Wd κ) (M : List (Ky κ × Int)) (h X : Int) (y : Wy κ) (as : List Int) : Prop :=
  All2 (fun (q : Prt κ) a => q.lo ≤ a ∧ a ≤ q.hi ∧ ∃ x, look M (q.kind, (h - a) % w.size, a) = some x ∧ x ≤ X) y.parts as

structure GI (w : Wd κ) (M : List (Ky κ × Int)) (Pe : Int → Ky κ → Prop) : Prop where
  src : ∀ s ∈ w.sources, Prom M Pe (s.kind, (firstAt w.size s.place s.since - s.age) % w.size, s.age) (firstAt w.size s.place s.since)
  wai : ∀ k p a x, look M (k, p, a) = some x → a < 26 → Prom M Pe (k, p, a + 1) (x + 1)
  way : ∀ y ∈ w.ways, ∀ h ∈ y.hours, ∀ as g X, Got w M h X y as → Hand y.old as g → Prom M Pe (y.kind, (h - g) % w.size, g + y.wait) (X + y.wait)
  good : ∀ key x, look M key = some x → Good w key x
  goodP : ∀ key m, Pe m key → Good w key m
  ord : ∀ key key' x m, look M key = some x → Pe m key' → x ≤ m
  bnd : ∀ key m, Pe m key → m ≤ 1000010 + 6 * M.length
  bndM : ∀ key x, look M key = some x → x ≤ 1000010 + 6 * M.length
  nod : (M.map (·.1)).Nodup

/-- what comes to be awaited where a thing is settled: the same thing later, what ways make of it then -/
def NewK (w : Wd κ) (M : List (Ky κ × Int)) (key : Ky κ) (t : Int) (m' : Int) (key' : Ky κ) : Prop :=
  look M key' = none ∧
  ((key.2.2 < 26 ∧ m' = t + 1 ∧ key' = (key.1, (t + 1 - (key.2.2 + 1)) % w.size, key.2.2 + 1)) ∨
   ∃ y ∈ w.ways, t % w.size ∈ y.hours ∧ ∃ (at_ : Nat) (q : Prt κ) (as : List Int) (g : Int), y.parts[at_]? = some q ∧ q.kind = key.1 ∧ as[at_]? = some key.2.2 ∧
     All2 (fun (q : Prt κ) b => q.lo ≤ b ∧ b ≤ q.hi ∧ (look M (q.kind, (t - b) % w.size, b)).isSome = true) y.parts as ∧ Hand y.old as g ∧
     m' = t + y.wait ∧ key' = (y.kind, (t + y.wait - (g + y.wait)) % w.size, g + y.wait))

theorem prom_step {M M' : List (Ky κ × Int)} {Pe Pe' : Int → Ky κ → Prop} {key : Ky κ} {t : Int} (hM : ∀ k x, look M k = some x → look M' k = some x) (hk : ∃ x, look M' key = some x ∧ x ≤ t)
    (h1 : ∀ m k', Pe m k' → (m = t ∧ k' = key) ∨ Pe' m k') {k' : Ky κ} {T : Int} (p : Prom M Pe k' T) : Prom M' Pe' k' T := by
  rcases p with ⟨x, hx, hle⟩ | ⟨t', hle, q⟩
  · exact .inl ⟨x, hM _ _ hx, hle⟩
  · rcases h1 _ _ q with ⟨e1, e2⟩ | q
    · obtain ⟨x, hx, hxt⟩ := hk
      refine .inl ⟨x, ?_, by omega⟩
      rw [e2]
      exact hx
    · exact .inr ⟨t', hle, q⟩

theorem settle_old {w : Wd κ} {M : List (Ky κ × Int)} {Pe Pe' : Int → Ky κ → Prop} {key : Ky κ} {t x : Int} (G : GI w M Pe) (hk : Pe t key) (hx : look M key = some x)
    (h1 : ∀ m k', Pe m k' → (m = t ∧ k' = key) ∨ Pe' m k') (h2 : ∀ m k', Pe' m k' → Pe m k') : GI w M Pe' := by
  have st : ∀ {k' : Ky κ} {T : Int}, Prom M Pe k' T → Prom M Pe' k' T := fun p => prom_step (fun _ _ e => e) ⟨x, hx, G.ord _ _ _ _ hx hk⟩ h1 p
  exact ⟨fun s hs => st (G.src s hs), fun k p a x e h => st (G.wai k p a x e h), fun y hy h hh as g X q r => st (G.way y hy h hh as g X q r), G.good, fun k m q => G.goodP k m (h2 _ _ q),
    fun k k' x m e q => G.ord k k' x m e (h2 _ _ q), fun k m q => G.bnd k m (h2 _ _ q), G.bndM, G.nod⟩

theorem settle_new {w : Wd κ} (hw : WdOk w) {M : List (Ky κ × Int)} {Pe Pe' : Int → Ky κ → Prop} {key : Ky κ} {t : Int} (G : GI w M Pe) (hk : Pe t key) (hn : look M key = none)
    (hmin : ∀ m k', Pe m k' → t ≤ m) (h1 : ∀ m k', Pe m k' → (m = t ∧ k' = key) ∨ Pe' m k') (h2 : ∀ m k', Pe' m k' → Pe m k' ∨ NewK w (M ++ [(key, t)]) key t m k')
    (h3 : ∀ m k', NewK w (M ++ [(key, t)]) key t m k' → Pe' m k') : GI w (M ++ [(key, t)]) Pe' := by
  have hl : ∀ k', look (M ++ [(key, t)]) k' = if key = k' then some t else look M k' := fun k' => look_snoc M key k' t hn
  have hM : ∀ k x, look M k = some x → look (M ++ [(key, t)]) k = some x := fun k x e => by
    rw [hl, if_neg (fun q => by rw [q, e] at hn; cases hn)]
    exact e
  have hself : look (M ++ [(key, t)]) key = some t := by rw [hl, if_pos rfl]
  have st : ∀ {k' : Ky κ} {T : Int}, Prom M Pe k' T → Prom (M ++ [(key, t)]) Pe' k' T := fun p => prom_step hM ⟨t, hself, Int.le_refl _⟩ h1 p
  have hle : ∀ k' x, look (M ++ [(key, t)]) k' = some x → x ≤ t := fun k' x e => by
    rw [hl] at e
    by_cases q : key = k'
    · rw [if_pos q] at e
      cases e
      exact Int.le_refl _
    · rw [if_neg q] at e
      exact G.ord _ _ _ _ e hk
  have hg := G.goodP _ _ hk
  have hgood : ∀ k' x, look (M ++ [(key, t)]) k' = some x → Good w k' x := fun k' x e => by
    rw [hl] at e
    by_cases q : key = k'
    · rw [if_pos q] at e
      cases e
      rw [← q]
      exact hg
    · rw [if_neg q] at e
      exact G.good _ _ e
  obtain ⟨gk, gp0, gp1, ga0, ga1, gm, gc⟩ := hg
  have ht0 : 0 ≤ t := (can_bnd hw gc).2.2.1
  have hnewgood : ∀ m k', NewK w (M ++ [(key, t)]) key t m k' → Good w k' m ∧ t + 1 ≤ m ∧ m ≤ t + 6 := by
    rintro m k' ⟨hno, ⟨ha, rfl, rfl⟩ | ⟨y, hy, hh, at_, q, as, g, hq, hqk, hat, hall, hand, rfl, rfl⟩⟩
    · refine ⟨⟨gk, ?_, ?_, ?_, ?_, ?_, ?_⟩, by omega, by omega⟩
      · exact (mod_rng hw.n0 _).1
      · exact (mod_rng hw.n0 _).2
      · show 0 ≤ key.2.2 + 1
        omega
      · show key.2.2 + 1 ≤ 26
        omega
      · rfl
      · show Can w key.1 (t + 1 - (key.2.2 + 1)) (t + 1)
        rw [show t + 1 - (key.2.2 + 1) = t - key.2.2 by omega]
        exact can_until gc (by omega)
    · have Y := hw.ways y hy
      have w0 := Y.w0
      have w1 := Y.w1
      obtain ⟨i, p, hp, hgi, b1, b2, _⟩ := hall.left hand.1
      have P := Y.parts p (List.mem_of_getElem? hp)
      have l0 := P.l0
      have u1 := P.h1
      refine ⟨⟨Y.kin, (mod_rng hw.n0 _).1, (mod_rng hw.n0 _).2, ?_, ?_, rfl, ?_⟩, by omega, by omega⟩
      · show 0 ≤ g + y.wait
        omega
      · show g + y.wait ≤ 26
        omega
      · show Can w y.kind (t + y.wait - (g + y.wait)) (t + y.wait)
        rw [show t + y.wait - (g + y.wait) = t - g by omega]
        refine (can_closed w).2.2 y hy t ht0 hh as g (hall.mono fun p b hp _ z => ⟨z.1, z.2.1, ?_⟩) hand
        obtain ⟨x, hx⟩ := Option.isSome_iff_exists.mp z.2.2
        obtain ⟨_, _, _, _, _, em, c⟩ := hgood _ _ hx
        have := hle _ _ hx
        have c2 := can_at hw.n0 c (o' := t - b) (by show x - b ≤ t - b; omega) (by
          show (t - b) % w.size = (x - b) % w.size
          exact em.symm)
        rw [show x + (t - b - (x - b)) = t by omega] at c2
        exact c2
  refine ⟨fun s hs => st (G.src s hs), ?_, ?_, hgood, ?_, ?_, ?_, ?_, ?_⟩
  · intro k p a x e ha
    rw [hl] at e
    by_cases q : key = (k, p, a)
    · rw [if_pos q] at e
      cases e
      cases e2 : look (M ++ [(key, t)]) (k, p, a + 1) with
      | some x' => exact .inl ⟨x', e2, by have := hle _ _ e2; omega⟩
      | none =>
        refine .inr ⟨t + 1, Int.le_refl _, h3 _ _ ⟨e2, .inl ⟨by rw [q]; exact ha, rfl, ?_⟩⟩⟩
        have ep : (t - a) % w.size = p := by
          rw [q] at gm
          exact gm
        rw [q]
        show (k, p, a + 1) = (k, (t + 1 - (a + 1)) % w.size, a + 1)
        rw [show t + 1 - (a + 1) = t - a by omega, ep]
    · rw [if_neg q] at e
      exact st (G.wai k p a x e ha)
  · intro y hy h hh as g X hgot hand
    by_cases hold : ∃ (at_ : Nat) (q : Prt κ) (b : Int), y.parts[at_]? = some q ∧ as[at_]? = some b ∧ (q.kind, (h - b) % w.size, b) = key
    · obtain ⟨at_, q, b, hq, hb, ek⟩ := hold
      have Y := hw.ways y hy
      obtain ⟨hh0, hh1⟩ := Y.hours h hh
      have e1 : q.kind = key.1 := by rw [← ek]
      have e2 : b = key.2.2 := by rw [← ek]
      have e3 : (h - b) % w.size = key.2.1 := by rw [← ek]
      have eh : t % w.size = h := by
        have e4 : (t - b) % w.size = (h - b) % w.size := by rw [e3, e2]; exact gm
        have e5 : (t - b + b) % w.size = (h - b + b) % w.size := by rw [← Int.emod_add_emod, e4, Int.emod_add_emod]
        rw [show t - b + b = t by omega, show h - b + b = h by omega, mod_id hh0 hh1] at e5
        exact e5
      have htX : t ≤ X := by
        obtain ⟨_, _, x, hx, hxX⟩ := hgot.2 at_ q b hq hb
        rw [ek, hself] at hx
        cases hx
        exact hxX
      have hmod : ∀ c : Int, (h - c) % w.size = (t - c) % w.size := fun c => sub_mod_eq (by rw [eh, mod_id hh0 hh1])
      cases e6 : look (M ++ [(key, t)]) (y.kind, (h - g) % w.size, g + y.wait) with
      | some x' => exact .inl ⟨x', e6, by have := hle _ _ e6; have := Y.w0; omega⟩
      | none =>
        refine .inr ⟨t + y.wait, by omega, h3 _ _ ⟨e6, .inr ⟨y, hy, by rw [eh]; exact hh, at_, q, as, g, hq, e1, by rw [hb, e2], hgot.mono fun q' b' _ _ z => ⟨z.1, z.2.1, ?_⟩, hand, rfl, ?_⟩⟩⟩
        · obtain ⟨x, hx, _⟩ := z.2.2
          rw [← hmod, hx]
          rfl
        · rw [hmod, show t + y.wait - (g + y.wait) = t - g by omega]
    · refine st (G.way y hy h hh as g X ⟨hgot.1, fun i q b hq hb => ?_⟩ hand)
      obtain ⟨z1, z2, x, hx, hxX⟩ := hgot.2 i q b hq hb
      rw [hl, if_neg (fun e => hold ⟨i, q, b, hq, hb, e.symm⟩)] at hx
      exact ⟨z1, z2, x, hx, hxX⟩
  · intro k' m q
    rcases h2 _ _ q with q | q
    · exact G.goodP _ _ q
    · exact (hnewgood _ _ q).1
  · intro k' k'' x m e q
    have hx := hle _ _ e
    rcases h2 _ _ q with q | q
    · have := hmin _ _ q
      omega
    · have := (hnewgood _ _ q).2.1
      omega
  · intro k' m q
    rw [List.length_append, List.length_singleton]
    rcases h2 _ _ q with q | q
    · have := G.bnd _ _ q
      omega
    · have h4 := (hnewgood _ _ q).2.2
      have h5 := G.bnd _ _ hk
      omega
  · intro k' x e
    rw [List.length_append, List.length_singleton]
    have h4 := hle _ _ e
    have h5 := G.bnd _ _ hk
    omega
  · rw [List.map_append, List.map_singleton, List.nodup_append]
    refine ⟨G.nod, by simp, fun a ha b hb e => ?_⟩
    rw [List.mem_singleton] at hb
    have e2 : a = key := e.trans hb
    rw [e2] at ha
    exact look_none hn ha

/-! ### the start -/
theorem GI.start {w : Wd κ} (hw : WdOk w) {Pe : Int → Ky κ → Prop}
    (h : ∀ m k, Pe m k ↔ ∃ s ∈ w.sources, m = firstAt w.size s.place s.since ∧ k = (s.kind, (firstAt w.size s.place s.since - s.age) % w.size, s.age)) : GI w [] Pe := by
  refine ⟨fun s hs => .inr ⟨_, Int.le_refl _, (h _ _).mpr ⟨s, hs, rfl, rfl⟩⟩, fun k p a x e => (nomatch e), fun y hy hh _ as g X got hand => ?_, fun k x e => (nomatch e), fun k m q => ?_, fun k k' x m e => (nomatch e), fun k m q => ?_,
    fun k x e => (nomatch e), List.nodup_nil⟩
  · obtain ⟨i, p, hp, hg, _, _, x, e, _⟩ := got.left hand.1
    cases e
  · obtain ⟨s, hs, rfl, rfl⟩ := (h m k).mp q
    have S := hw.srcs s hs
    have a1 := S.a1
    refine ⟨S.kin, (mod_rng hw.n0 _).1, (mod_rng hw.n0 _).2, S.a0, by show s.age ≤ 26; omega, rfl, ?_⟩
    exact (can_closed w).1 s hs _ (first_ge hw.n0).1 (first_mod hw.n0 S.p0 S.p1)
  · obtain ⟨s, hs, rfl, rfl⟩ := (h m k).mp q
    have S := hw.srcs s hs
    have h1 := S.s1
    have h2 := (first_ge hw.n0 (p := s.place) (s := s.since)).2
    have h3 := hw.n1
    simp only [List.length_nil]
    omega
theorem GI.congr {w : Wd κ} {M : List (Ky κ × Int)} {Pe Pe' : Int → Ky κ → Prop} (G : GI w M Pe) (h : ∀ m k, Pe m k ↔ Pe' m k) : GI w M Pe' := by
  have e : Pe = Pe' := funext fun m => funext fun k => propext (h m k)
  rw [← e]
  exact G

/-! ### how many -/
theorem nodup_le {α : Type} [DecidableEq α] : ∀ (l u : List α), l.Nodup → (∀ x ∈ l, x ∈ u) → l.length ≤ u.length
  | [], _, _, _ => Nat.zero_le _
  | a :: l, u, hn, hs => by
    have ha : a ∈ u := hs a (List.mem_cons_self ..)
    obtain ⟨h1, h2⟩ := List.nodup_cons.mp hn
    have ih := nodup_le l (u.erase a) h2 fun x hx => (List.mem_erase_of_ne (fun e => h1 (by rw [← e]; exact hx))).mpr (hs x (List.mem_cons_of_mem _ hx))
    have := List.length_erase_of_mem ha
    have := List.length_pos_of_mem ha
    rw [List.length_cons]
    omega
def allKeys (w : Wd κ) : List (Ky κ) := w.kinds.flatMap fun k => (List.range 6).flatMap fun p => (List.range 27).map fun a => (k, ((p : Nat) : Int), ((a : Nat) : Int))
theorem flat_len {α β : Type} (f : α → List β) (n : Nat) (hf : ∀ a, (f a).length = n) : ∀ l : List α, (l.flatMap f).length = l.length * n
  | [] => by simp
  | a :: l => by
    rw [List.flatMap_cons, List.length_append, hf, flat_len f n hf l, List.length_cons, Nat.add_mul]
    omega
theorem allKeys_len (w : Wd κ) : (allKeys w).length = w.kinds.length * 162 := by
  refine flat_len _ 162 (fun k => ?_) _
  rw [flat_len _ 27 (fun p => ?_), List.length_range]
  rw [List.length_map, List.length_range]
theorem GI.few {w : Wd κ} (hw : WdOk w) {M : List (Ky κ × Int)} {Pe : Int → Ky κ → Prop} (G : GI w M Pe) : M.length ≤ 648 := by
  have h := nodup_le (M.map (·.1)) (allKeys w) G.nod fun key hk => by
    obtain ⟨x, hx⟩ : ∃ x, look M key = some x := by
      cases e : look M key with
      | none => exact absurd hk (look_none e)
      | some x => exact ⟨x, rfl⟩
    obtain ⟨g1, g2, g3, g4, g5, _⟩ := G.good _ _ hx
    have := hw.n1
    refine List.mem_flatMap.mpr ⟨key.1, g1, List.mem_flatMap.mpr ⟨key.2.1.toNat, List.mem_range.mpr (by omega), List.mem_map.mpr ⟨key.2.2.toNat, List.mem_range.mpr (by omega), ?_⟩⟩⟩
    rw [Int.toNat_of_nonneg g2, Int.toNat_of_nonneg g4]
  rw [List.length_map, allKeys_len] at h
  have := hw.k1
  omega

/-! ### the end -/
def tOf (M : List (Ky κ × Int)) : Tv κ := fun k p a => (look M (k, p, a)).map (· - a)
theorem GI.least {w : Wd κ} (hw : WdOk w) {M : List (Ky κ × Int)} {Pe : Int → Ky κ → Prop} (G : GI w M Pe) (he : ∀ m k, ¬ Pe m k) : Least w (tOf M) := by
  have prom : ∀ {k : Ky κ} {t : Int}, Prom M Pe k t → ∃ x, look M k = some x ∧ x ≤ t := fun p => by
    rcases p with p | ⟨t', _, q⟩
    · exact p
    · exact absurd q (he _ _)
  have few := G.few hw
  refine ⟨fun k p a x hk h0 h1 h2 h3 e => ?_, fun k o m c => ?_⟩
  · unfold tOf at e
    cases e1 : look M (k, p, a) with
    | none =>
      rw [e1] at e
      cases e
    | some z =>
      rw [e1] at e
      cases e
      obtain ⟨_, _, _, _, _, em, c⟩ := G.good _ _ e1
      have hb := G.bndM _ _ e1
      refine ⟨em, ?_, by show z - a ≤ _; omega⟩
      show Can w k (z - a) (z - a + a)
      rw [show z - a + a = z by omega]
      exact c
  · have key : o ≤ m ∧ ∃ x, look M (k, o % w.size, min (m - o) 26) = some x ∧ x ≤ o + min (m - o) 26 := by
      refine c (fun k o m => o ≤ m ∧ ∃ x, look M (k, o % w.size, min (m - o) 26) = some x ∧ x ≤ o + min (m - o) 26) ⟨fun s hs m h1 h2 => ?_, fun k o m h => ?_, fun y hy m h0 hm as g ha hg => ?_⟩
      · have S := hw.srcs s hs
        have f1 := first_le hw.n0 h1 h2
        have f2 := first_mod hw.n0 S.p0 S.p1 (s := s.since)
        have a0 := S.a0
        have a1 := S.a1
        obtain ⟨x, hx, hle⟩ := prom (G.src s hs)
        refine ⟨by omega, x, ?_, by omega⟩
        rw [show m - (m - s.age) = s.age by omega, show min s.age 26 = s.age by omega, sub_mod_eq (show m % w.size = firstAt w.size s.place s.since % w.size by rw [f2]; exact h2)]
        exact hx
      · obtain ⟨h1, x, hx, hle⟩ := h
        refine ⟨by omega, ?_⟩
        by_cases h26 : m - o < 26
        · obtain ⟨x', hx', hle'⟩ := prom (G.wai _ _ _ _ hx (by omega))
          exact ⟨x', by rw [show min (m + 1 - o) 26 = min (m - o) 26 + 1 by omega]; exact hx', by omega⟩
        · exact ⟨x, by rw [show min (m + 1 - o) 26 = min (m - o) 26 by omega]; exact hx, by omega⟩
      · have Y := hw.ways y hy
        obtain ⟨i, p, hp, hgi, b1, b2, _⟩ := ha.left hg.1
        have P := Y.parts p (List.mem_of_getElem? hp)
        have l0 := P.l0
        have u1 := P.h1
        have w0 := Y.w0
        have w1 := Y.w1
        have got : Got w M (m % w.size) m y as := ha.mono fun q b hq _ z => by
          obtain ⟨z1, z2, z3, x, hx, hle⟩ := z
          have Q := Y.parts q hq
          have := Q.l0
          have := Q.h1
          rw [show m - (m - b) = b by omega, show min b 26 = b by omega] at hx hle
          refine ⟨z1, z2, x, ?_, by omega⟩
          rw [Int.emod_sub_emod]
          exact hx
        obtain ⟨x, hx, hle⟩ := prom (G.way y hy _ hm as g m got hg)
        refine ⟨by omega, x, ?_, by omega⟩
        rw [show m + y.wait - (m - g) = g + y.wait by omega, show min (g + y.wait) 26 = g + y.wait by omega]
        rw [Int.emod_sub_emod] at hx
        exact hx
    obtain ⟨h1, x, hx, hle⟩ := key
    refine ⟨x - min (m - o) 26, ?_, by omega⟩
    unfold tOf
    rw [hx]
    rfl
end
end Ra
end

section
/-! the plain law of leaks: what the search for a leak tells of a table; no program in sight -/
set_option autoImplicit false
set_option linter.all false
namespace Ra
section
variable {κ : Type}
def thereAt (n : Int) (t : Tv κ) (k : κ) (place age : Int) : Option Int := (t k ((place - age) % n) (min age 26)).map (· + age)
/-- of some ages the one that is there first -/
def Soon (n : Int) (t : Tv κ) (k : κ) (place lo hi : Int) : Option Int → Prop
  | none => ∀ a, lo ≤ a → a ≤ hi → thereAt n t k place a = none
  | some b => lo ≤ b ∧ b ≤ hi ∧ ∃ m, thereAt n t k place b = some m ∧ ∀ a m', lo ≤ a → a ≤ hi → thereAt n t k place a = some m' → m ≤ m'
def winLo (old : Bool) (at_ : Nat) (age : Int) (i : Nat) (q : Prt κ) : Int := if i = at_ then age else if old = true then q.lo else max q.lo age
def winHi (old : Bool) (at_ : Nat) (age : Int) (i : Nat) (q : Prt κ) : Int := if i = at_ then age else if old = true then min q.hi age else q.hi
/-- partners of a part of that age -/
def Partn (n : Int) (t : Tv κ) (y : Wy κ) (place : Int) (at_ : Nat) (age : Int) (r : Option (List Int)) : Prop :=
  ∃ fs : List (Option Int), fs.length = y.parts.length ∧
    (∀ (i : Nat) (q : Prt κ) (f : Option Int), y.parts[i]? = some q → fs[i]? = some f → Soon n t q.kind place (winLo y.old at_ age i q) (winHi y.old at_ age i q) f) ∧
    ((none ∈ fs ∧ r = none) ∨ ∃ as, fs = as.map some ∧ r = some as)
/-- the first moment at which all of them are there -/
def LeastM (n : Int) (t : Tv κ) (y : Wy κ) (place : Int) (as : List Int) (M : Int) : Prop :=
  ∃ ms : List Int, All2 (fun (q : Prt κ × Int) m => thereAt n t q.1.kind place q.2 = some m) (y.parts.zip as) ms ∧ M ∈ firstAt n place 0 :: ms ∧ ∀ x ∈ firstAt n place 0 :: ms, x ≤ M
def Unm (n : Int) (t : Tv κ) (y : Wy κ) (place : Int) (as : List Int) : Prop :=
  ∃ M g, LeastM n t y place as M ∧ Hand y.old as g ∧ ¬ HasT n t y.kind (M - g) (g + y.wait)

theorem max_there (x : Int) : ∀ l : List Int, ∃ M, M ∈ x :: l ∧ ∀ y ∈ x :: l, y ≤ M
  | [] => ⟨x, List.mem_cons_self .., fun y hy => by rw [List.mem_singleton.mp hy]; exact Int.le_refl _⟩
  | a :: l => by
    obtain ⟨M, h1, h2⟩ := max_there x l
    by_cases h : M ≤ a
    · refine ⟨a, List.mem_cons_of_mem _ (List.mem_cons_self ..), fun y hy => ?_⟩
      rcases List.mem_cons.mp hy with e | hy
      · have := h2 x (List.mem_cons_self ..)
        omega
      · rcases List.mem_cons.mp hy with e | hy
        · omega
        · have := h2 y (List.mem_cons_of_mem _ hy)
          omega
    · refine ⟨M, ?_, fun y hy => ?_⟩
      · rcases List.mem_cons.mp h1 with e | h1
        · rw [e]; exact List.mem_cons_self ..
        · exact List.mem_cons_of_mem _ (List.mem_cons_of_mem _ h1)
      · rcases List.mem_cons.mp hy with e | hy
        · rw [e]; exact h2 x (List.mem_cons_self ..)
        · rcases List.mem_cons.mp hy with e | hy
          · omega
          · exact h2 y (List.mem_cons_of_mem _ hy)
theorem zip_at {α β : Type} {xs : List α} {ys : List β} {i : Nat} {p : α × β} (h : (xs.zip ys)[i]? = some p) : xs[i]? = some p.1 ∧ ys[i]? = some p.2 := by
  rw [List.getElem?_zip_eq_some] at h
  exact h
theorem zip_of {α β : Type} {xs : List α} {ys : List β} {i : Nat} {x : α} {y : β} (h1 : xs[i]? = some x) (h2 : ys[i]? = some y) : (xs.zip ys)[i]? = some (x, y) := by
  rw [List.getElem?_zip_eq_some]
  exact ⟨h1, h2⟩

variable {w : Wd κ} {t : Tv κ}
theorem there_mod (hw : WdOk w) (T : TabOk w t) {k : κ} {h a m : Int} (hk : k ∈ w.kinds) (h0 : 0 ≤ h) (h1 : h < w.size) (ha : 0 ≤ a) (e : thereAt w.size t k h a = some m) : m % w.size = h := by
  unfold thereAt at e
  have hr := mod_rng hw.n0 (h - a)
  cases e1 : t k ((h - a) % w.size) (min a 26) with
  | none => rw [e1] at e; cases e
  | some x =>
    rw [e1] at e
    cases e
    have e2 := (T.md k _ _ x hk hr.1 hr.2 (by omega) (by omega) e1).1
    show (x + a) % w.size = h
    rw [← Int.emod_add_emod, e2, Int.emod_add_emod, show h - a + a = h by omega, mod_id h0 h1]
theorem least_facts (hw : WdOk w) (T : TabOk w t) {y : Wy κ} (hy : y ∈ w.ways) {h : Int} (hh : h ∈ y.hours) {as : List Int} (ha : ∀ a ∈ as, 0 ≤ a) {M : Int} (L : LeastM w.size t y h as M) :
    M % w.size = h ∧ 0 ≤ M := by
  have Y := hw.ways y hy
  obtain ⟨h0, h1⟩ := Y.hours h hh
  obtain ⟨ms, hall, hM, hmax⟩ := L
  have f0 := first_ge hw.n0 (p := h) (s := 0)
  refine ⟨?_, by have := hmax _ (List.mem_cons_self ..); omega⟩
  rcases List.mem_cons.mp hM with e | hM
  · rw [e]
    exact first_mod hw.n0 h0 h1
  · obtain ⟨i, p, hp, hm, e⟩ := hall.left hM
    obtain ⟨hp1, hp2⟩ := zip_at hp
    exact there_mod hw T (Y.parts _ (List.mem_of_getElem? hp1)).kin h0 h1 (ha _ (List.mem_of_getElem? hp2)) e

theorem tight_of (hw : WdOk w) (T : TabOk w t) {y : Wy κ} (hy : y ∈ w.ways) {h : Int} (hh : h ∈ y.hours)
    (all : ∀ (at_ : Nat) (q : Prt κ), y.parts[at_]? = some q → ∀ age, q.lo ≤ age → age ≤ q.hi → ∃ r, Partn w.size t y h at_ age r ∧ ∀ as, r = some as → ¬ Unm w.size t y h as) : Tight w t y h := by
  intro m h0 hm as g ha hg
  have Y := hw.ways y hy
  obtain ⟨hh0, hh1⟩ := Y.hours h hh
  obtain ⟨at_, q, hq, hgat, l1, l2, _⟩ := ha.left hg.1
  obtain ⟨r, ⟨fs, hlen, hfs, hr⟩, hun⟩ := all at_ q hq g l1 l2
  -- what each of them has
  have each : ∀ (i : Nat) (p : Prt κ) (f : Option Int), y.parts[i]? = some p → fs[i]? = some f → ∃ b mb, f = some b ∧ thereAt w.size t p.kind h b = some mb ∧ mb ≤ m ∧
      winLo y.old at_ g i p ≤ b ∧ b ≤ winHi y.old at_ g i p := by
    intro i p f hp hf
    have hi : i < as.length := by rw [← ha.1]; exact (List.getElem?_eq_some_iff.mp hp).1
    have hai : as[i]? = some as[i] := List.getElem?_eq_getElem hi
    obtain ⟨z1, z2, z3, x, hx, hle⟩ := ha.2 i p _ hp hai
    have P := Y.parts p (List.mem_of_getElem? hp)
    have p0 := P.l0
    have p1 := P.h1
    rw [show m - (m - as[i]) = as[i] by omega] at hx
    have hthere : thereAt w.size t p.kind h as[i] = some (x + as[i]) := by
      unfold thereAt
      rw [sub_mod_eq (show h % w.size = m % w.size by rw [hm, mod_id hh0 hh1]), hx]
      rfl
    have hH := hg.2 as[i] (List.getElem_mem hi)
    have w1 : winLo y.old at_ g i p ≤ as[i] := by
      unfold winLo
      by_cases e : i = at_
      · subst e
        rw [hgat] at hai
        rw [if_pos rfl]
        have := Option.some.inj hai
        omega
      · rw [if_neg e]
        split
        · exact z1
        · rename_i e2
          rw [if_neg e2] at hH
          omega
    have w2 : as[i] ≤ winHi y.old at_ g i p := by
      unfold winHi
      by_cases e : i = at_
      · subst e
        rw [hgat] at hai
        rw [if_pos rfl]
        have := Option.some.inj hai
        omega
      · rw [if_neg e]
        split
        · rename_i e2
          rw [if_pos e2] at hH
          omega
        · exact z2
    have S := hfs i p f hp hf
    cases f with
    | none =>
      have := S _ w1 w2
      rw [hthere] at this
      cases this
    | some b =>
      obtain ⟨s1, s2, mb, s3, s4⟩ := S
      have := s4 _ _ w1 w2 hthere
      exact ⟨b, mb, rfl, s3, by omega, s1, s2⟩
  have nonone : none ∉ fs := fun hn => by
    obtain ⟨i, hi⟩ := List.mem_iff_getElem?.mp hn
    have hlt : i < y.parts.length := by rw [← hlen]; exact (List.getElem?_eq_some_iff.mp hi).1
    obtain ⟨b, _, e, _⟩ := each i _ _ (List.getElem?_eq_getElem hlt) hi
    cases e
  rcases hr with ⟨hn, _⟩ | ⟨bs, rfl, rfl⟩
  · exact absurd hn nonone
  have nun := hun bs rfl
  rw [List.length_map] at hlen
  have hbs : ∀ (i : Nat) (p : Prt κ) (b : Int), y.parts[i]? = some p → bs[i]? = some b → ∃ mb, thereAt w.size t p.kind h b = some mb ∧ mb ≤ m ∧ winLo y.old at_ g i p ≤ b ∧ b ≤ winHi y.old at_ g i p := by
    intro i p b hp hb
    obtain ⟨b', mb, e, z⟩ := each i p (some b) hp (by rw [List.getElem?_map, hb]; rfl)
    cases e
    exact ⟨mb, z⟩
  -- the moments
  have mss : ∃ ms : List Int, All2 (fun (q : Prt κ × Int) m => thereAt w.size t q.1.kind h q.2 = some m) (y.parts.zip bs) ms := by
    refine ⟨(y.parts.zip bs).map fun q => (thereAt w.size t q.1.kind h q.2).getD 0, by rw [List.length_map], fun i p x hp hx => ?_⟩
    rw [List.getElem?_map, hp] at hx
    obtain ⟨hp1, hp2⟩ := zip_at hp
    obtain ⟨mb, e, _⟩ := hbs i _ _ hp1 hp2
    have hx2 : (thereAt w.size t p.1.kind h p.2).getD 0 = x := Option.some.inj hx
    rw [e] at hx2 ⊢
    rw [← hx2]
    rfl
  obtain ⟨ms, hms⟩ := mss
  obtain ⟨M, hM, hmax⟩ := max_there (firstAt w.size h 0) ms
  have bge : ∀ (i : Nat) (b : Int), bs[i]? = some b → 0 ≤ b ∧ (if y.old = true then b ≤ g else g ≤ b) ∧ (i = at_ → b = g) := by
    intro i b hb
    have hlt : i < y.parts.length := by rw [← hlen]; exact (List.getElem?_eq_some_iff.mp hb).1
    have hp : y.parts[i]? = some y.parts[i] := List.getElem?_eq_getElem hlt
    obtain ⟨mb, _, _, z1, z2⟩ := hbs i _ _ hp hb
    have P := Y.parts _ (List.mem_of_getElem? hp)
    have p0 := P.l0
    have Q := Y.parts _ (List.mem_of_getElem? hq)
    have q0 := Q.l0
    unfold winLo at z1
    unfold winHi at z2
    by_cases e : i = at_
    · rw [if_pos e] at z1 z2
      refine ⟨by omega, ?_, fun _ => by omega⟩
      split <;> omega
    · rw [if_neg e] at z1 z2
      by_cases e2 : y.old = true
      · rw [if_pos e2] at z1 z2
        rw [if_pos e2]
        exact ⟨by omega, by omega, fun e3 => absurd e3 e⟩
      · rw [if_neg e2] at z1 z2
        rw [if_neg e2]
        exact ⟨by omega, by omega, fun e3 => absurd e3 e⟩
  have handb : Hand y.old bs g := by
    refine ⟨?_, fun b hb => ?_⟩
    · have hlt : at_ < bs.length := by rw [hlen]; exact (List.getElem?_eq_some_iff.mp hq).1
      have hb : bs[at_]? = some bs[at_] := List.getElem?_eq_getElem hlt
      rw [← (bge at_ _ hb).2.2 rfl]
      exact List.getElem_mem hlt
    · obtain ⟨i, hi⟩ := List.mem_iff_getElem?.mp hb
      exact (bge i b hi).2.1
  have L : LeastM w.size t y h bs M := ⟨ms, hms, hM, hmax⟩
  obtain ⟨mM, M0⟩ := least_facts hw T hy hh (fun a ha => by
    obtain ⟨i, hi⟩ := List.mem_iff_getElem?.mp ha
    exact (bge i a hi).1) L
  have hMm : M ≤ m := by
    rcases List.mem_cons.mp hM with e | hM
    · rw [e]
      exact first_le hw.n0 h0 hm
    · obtain ⟨i, p, hp, hm', e⟩ := hms.left hM
      obtain ⟨hp1, hp2⟩ := zip_at hp
      obtain ⟨mb, e2, hle, _⟩ := hbs i _ _ hp1 hp2
      rw [e] at e2
      cases e2
      exact hle
  have has : HasT w.size t y.kind (M - g) (g + y.wait) := Classical.byContradiction fun hc => nun ⟨M, g, L, handb, hc⟩
  obtain ⟨x, hx, hle⟩ := has
  have w0 := Y.w0
  have g0 := (Y.parts q (List.mem_of_getElem? hq)).l0
  refine ⟨by omega, x, ?_, by omega⟩
  rw [show m + y.wait - (m - g) = g + y.wait by omega, sub_mod_eq (show m % w.size = M % w.size by rw [hm, mM])]
  exact hx

theorem not_tight_of (hw : WdOk w) (T : TabOk w t) {y : Wy κ} (hy : y ∈ w.ways) {h : Int} (hh : h ∈ y.hours) {at_ : Nat} {q : Prt κ} (hq : y.parts[at_]? = some q) {age : Int} (l1 : q.lo ≤ age) (l2 : age ≤ q.hi)
    {as : List Int} (hp : Partn w.size t y h at_ age (some as)) (hu : Unm w.size t y h as) : ¬ Tight w t y h := by
  intro tight
  have Y := hw.ways y hy
  obtain ⟨hh0, hh1⟩ := Y.hours h hh
  obtain ⟨fs, hlen, hfs, hr⟩ := hp
  rcases hr with ⟨_, e⟩ | ⟨as', hf, e⟩
  · cases e
  cases e
  rw [hf, List.length_map] at hlen
  obtain ⟨M, g, L, hand, hno⟩ := hu
  have each : ∀ (i : Nat) (p : Prt κ) (a : Int), y.parts[i]? = some p → as[i]? = some a → p.lo ≤ a ∧ a ≤ p.hi ∧ ∃ m, thereAt w.size t p.kind h a = some m := by
    intro i p a hp ha
    have S := hfs i p (some a) hp (by rw [hf, List.getElem?_map, ha]; rfl)
    obtain ⟨s1, s2, m, s3, _⟩ := S
    unfold winLo at s1
    unfold winHi at s2
    by_cases e : i = at_
    · subst e
      rw [hq] at hp
      cases hp
      rw [if_pos rfl] at s1 s2
      exact ⟨by omega, by omega, m, s3⟩
    · rw [if_neg e] at s1 s2
      by_cases e2 : y.old = true
      · rw [if_pos e2] at s1 s2
        exact ⟨by omega, by omega, m, s3⟩
      · rw [if_neg e2] at s1 s2
        exact ⟨by omega, by omega, m, s3⟩
  have nn : ∀ a ∈ as, 0 ≤ a := fun a ha => by
    obtain ⟨i, hi⟩ := List.mem_iff_getElem?.mp ha
    have hlt : i < y.parts.length := by rw [← hlen]; exact (List.getElem?_eq_some_iff.mp hi).1
    have hp : y.parts[i]? = some y.parts[i] := List.getElem?_eq_getElem hlt
    have := (each i _ _ hp hi).1
    have := (Y.parts _ (List.mem_of_getElem? hp)).l0
    omega
  obtain ⟨mM, M0⟩ := least_facts hw T hy hh nn L
  obtain ⟨ms, hms, hM, hmax⟩ := L
  have := tight M M0 mM as g ⟨hlen.symm, fun i p a hp ha => ?_⟩ hand
  · obtain ⟨_, hs⟩ := this
    rw [show M + y.wait - (M - g) = g + y.wait by omega] at hs
    exact hno hs
  · obtain ⟨z1, z2, m, e⟩ := each i p a hp ha
    have hi : i < ms.length := by
      rw [← hms.1, List.length_zip]
      have h1 := (List.getElem?_eq_some_iff.mp hp).1
      have h2 := (List.getElem?_eq_some_iff.mp ha).1
      omega
    have e2 := hms.2 i _ _ (zip_of hp ha) (List.getElem?_eq_getElem hi)
    have e3 : thereAt w.size t p.kind h a = some ms[i] := e2
    have hle := hmax ms[i] (List.mem_cons_of_mem _ (List.getElem_mem hi))
    have a0 := nn a (List.mem_of_getElem? ha)
    unfold thereAt at e3
    cases e4 : t p.kind ((h - a) % w.size) (min a 26) with
    | none => rw [e4] at e3; cases e3
    | some x =>
      rw [e4] at e3
      have e5 : x + a = ms[i] := Option.some.inj e3
      refine ⟨z1, z2, by omega, x, ?_, by omega⟩
      rw [show M - (M - a) = a by omega, sub_mod_eq (show M % w.size = h % w.size by rw [mM, mod_id hh0 hh1])]
      exact e4
end
end Ra
end

section
set_option autoImplicit false
set_option linter.all false
set_option maxRecDepth 100000
/-! ages told by bits -/
namespace Ra
open PySem

theorem low_form : ∀ x : Nat, x ≠ 0 → ∃ k m, x = 2 ^ k * (2 * m + 1) := by
  intro x
  induction x using Nat.strongRecOn with
  | _ x ih =>
    intro hx
    by_cases h : x % 2 = 1
    · exact ⟨0, x / 2, by omega⟩
    · obtain ⟨k, m, e⟩ := ih (x / 2) (by omega) (by omega)
      refine ⟨k + 1, m, ?_⟩
      rw [Nat.pow_succ, Nat.mul_comm (2 ^ k) 2, Nat.mul_assoc, ← e]
      omega
theorem low_bit (x : Nat) (hx : x ≠ 0) : ∃ k, x.testBit k = true ∧ (∀ j, j < k → x.testBit j = false) ∧ x - (x &&& (x - 1)) = 2 ^ k := by
  obtain ⟨k, m, e⟩ := low_form x hx
  have hp : 0 < 2 ^ k := Nat.two_pow_pos k
  have e0 : x = 2 ^ k * (2 * m + 1) + 0 := by rw [Nat.add_zero]; exact e
  have e1 : x - 1 = 2 ^ k * (2 * m) + (2 ^ k - 1) := by
    rw [e, Nat.mul_add, Nat.mul_one]
    omega
  have tb : ∀ j, x.testBit j = if j < k then false else (2 * m + 1).testBit (j - k) := fun j => by
    rw [e0, Nat.testBit_two_pow_mul_add _ hp]
    simp
  have ea : x &&& (x - 1) = 2 ^ k * (2 * m) := by
    apply Nat.eq_of_testBit_eq
    intro j
    have e2 : (2 ^ k * (2 * m)).testBit j = if j < k then false else (2 * m).testBit (j - k) := by
      have := Nat.testBit_two_pow_mul_add (2 * m) hp (i := k) j
      rw [Nat.add_zero] at this
      rw [this]
      simp
    rw [Nat.testBit_and, tb, e1, Nat.testBit_two_pow_mul_add _ (show 2 ^ k - 1 < 2 ^ k by omega), e2]
    by_cases h : j < k
    · simp [h]
    · rw [if_neg h, if_neg h, if_neg h]
      generalize j - k = i
      cases i with
      | zero => simp
      | succ i =>
        rw [Nat.testBit_add_one, Nat.testBit_add_one, show (2 * m + 1) / 2 = m by omega, show 2 * m / 2 = m by omega, Bool.and_self]
  refine ⟨k, ?_, fun j hj => ?_, ?_⟩
  · rw [tb, if_neg (Nat.lt_irrefl _), Nat.sub_self]
    simp
  · rw [tb, if_pos hj]
  · rw [ea, e, Nat.mul_add, Nat.mul_one]
    omega

/-- the age next to one, on the side that keeps it -/
def Near (b a : Nat) (old : Bool) (r : Int) : Prop :=
  (r = -1 ∧ ∀ i : Nat, b.testBit i = true → (if old = true then i ≤ a else a ≤ i) → False) ∨
  ∃ i : Nat, r = (i : Int) ∧ b.testBit i = true ∧ (if old = true then i ≤ a else a ≤ i) ∧ (b.testBit a = true → i = a)
theorem intBits_nat (n : Nat) : Builtin.Int.intBits (n : Int) = if n = 0 then 0 else n.log2 + 1 := by
  unfold Builtin.Int.intBits
  by_cases h : n = 0
  · subst h
    rfl
  · rw [if_neg h, if_neg (by simp; omega), Int.natAbs_natCast]
theorem near_old (b a : Nat) : Near b a true ((Builtin.Int.intBits (Builtin.bitAnd (b : Int) (2 * 2 ^ a - 1)) : Nat) - 1) := by
  have e : (2 * 2 ^ a - 1 : Int) = 2 ^ (a + 1) - 1 := by rw [Int.pow_succ, Int.mul_comm]
  have e2 : Builtin.bitAnd (b : Int) (2 * 2 ^ a - 1) = ((b % 2 ^ (a + 1) : Nat) : Int) := by
    rw [e, Bits.bitAnd_mask (a + 1) (by omega)]
    simp
  rw [e2, intBits_nat]
  by_cases h : b % 2 ^ (a + 1) = 0
  · rw [if_pos h]
    refine .inl ⟨rfl, fun i hi hs => ?_⟩
    rw [if_pos rfl] at hs
    have := Nat.testBit_mod_two_pow b (a + 1) i
    rw [h, Nat.zero_testBit, hi, decide_eq_true (by omega : i < a + 1)] at this
    cases this
  · rw [if_neg h]
    have hl := Nat.testBit_log2 h
    have hm := Nat.testBit_mod_two_pow b (a + 1) (b % 2 ^ (a + 1)).log2
    rw [hl] at hm
    have hm2 := Bool.and_eq_true_iff.mp hm.symm
    have h1 := of_decide_eq_true hm2.1
    refine .inr ⟨(b % 2 ^ (a + 1)).log2, by omega, hm2.2, by rw [if_pos rfl]; omega, fun ha => ?_⟩
    have h2 : (b % 2 ^ (a + 1)).testBit a = true := by
      rw [Nat.testBit_mod_two_pow, ha, decide_eq_true (by omega : a < a + 1)]
      rfl
    have h3 := Nat.ge_two_pow_of_testBit h2
    have h4 : a ≤ (b % 2 ^ (a + 1)).log2 := (Nat.le_log2 h).mpr h3
    omega
theorem near_young (b a : Nat) : Near b a false ((Builtin.Int.intBits (Builtin.bitAnd ((b : Int) / 2 ^ a * 2 ^ a) (-((b : Int) / 2 ^ a * 2 ^ a))) : Nat) - 1) := by
  have e : ((b : Int) / 2 ^ a * 2 ^ a) = ((b / 2 ^ a * 2 ^ a : Nat) : Int) := by simp
  have ts : ∀ i, (b / 2 ^ a * 2 ^ a).testBit i = (decide (a ≤ i) && b.testBit i) := fun i => by
    rw [Nat.testBit_mul_two_pow]
    by_cases h : a ≤ i
    · rw [decide_eq_true h, Nat.testBit_div_two_pow, Nat.sub_add_cancel h]
    · rw [decide_eq_false h, Bool.false_and, Bool.false_and]
  rw [e]
  generalize b / 2 ^ a * 2 ^ a = s at ts
  by_cases h : s = 0
  · subst h
    refine .inl ⟨rfl, fun i hi hs => ?_⟩
    rw [if_neg Bool.false_ne_true] at hs
    have := ts i
    rw [Nat.zero_testBit, hi, decide_eq_true hs] at this
    cases this
  · obtain ⟨k, h1, h2, h3⟩ := low_bit s h
    have e3 : Builtin.bitAnd (s : Int) (-(s : Int)) = ((2 ^ k : Nat) : Int) := by
      unfold Builtin.bitAnd
      rw [decide_eq_true (show (0 : Int) ≤ (s : Int) by omega), decide_eq_false (show ¬ (0 : Int) ≤ -(s : Int) by omega)]
      show (s : Int) - (((s : Int).toNat &&& (Builtin.bitNot (-(s : Int))).toNat : Nat) : Int) = _
      have e4 : (Builtin.bitNot (-(s : Int))).toNat = s - 1 := by
        unfold Builtin.bitNot
        omega
      rw [e4, Int.toNat_natCast, ← h3]
      have : s &&& (s - 1) ≤ s := Nat.and_le_left
      omega
    rw [e3, intBits_nat, if_neg (by have := Nat.two_pow_pos k; omega), Nat.log2_two_pow]
    have t1 := ts k
    rw [h1] at t1
    have t2 := Bool.and_eq_true_iff.mp t1.symm
    refine .inr ⟨k, by omega, t2.2, by rw [if_neg Bool.false_ne_true]; exact of_decide_eq_true t2.1, fun ha => ?_⟩
    have t3 : s.testBit a = true := by
      rw [ts, ha, decide_eq_true (Nat.le_refl a)]
      rfl
    by_cases hk : a < k
    · rw [h2 a hk] at t3
      cases t3
    · have := of_decide_eq_true t2.1
      omega

/-! masks -/
theorem and_nat (x y : Nat) : Builtin.bitAnd (x : Int) (y : Int) = ((x &&& y : Nat) : Int) := by
  unfold Builtin.bitAnd
  rw [decide_eq_true (show (0 : Int) ≤ (x : Int) by omega), decide_eq_true (show (0 : Int) ≤ (y : Int) by omega)]
  rfl
theorem or_nat (x y : Nat) : Builtin.bitOr (x : Int) (y : Int) = ((x ||| y : Nat) : Int) := by
  unfold Builtin.bitOr Builtin.bitAnd
  rw [decide_eq_false (show ¬ (0 : Int) ≤ Builtin.bitNot (x : Int) by unfold Builtin.bitNot; omega), decide_eq_false (show ¬ (0 : Int) ≤ Builtin.bitNot (y : Int) by unfold Builtin.bitNot; omega)]
  show Builtin.bitNot (Builtin.bitNot (((Builtin.bitNot (Builtin.bitNot (x : Int))).toNat ||| (Builtin.bitNot (Builtin.bitNot (y : Int))).toNat : Nat) : Int)) = _
  have nn : ∀ z : Int, Builtin.bitNot (Builtin.bitNot z) = z := fun z => by
    unfold Builtin.bitNot
    omega
  rw [nn, nn, nn, Int.toNat_natCast, Int.toNat_natCast]
theorem mask_nat {l g : Nat} (h : l ≤ g) : ((2 : Int) * 2 ^ g - 1 * 2 ^ l) = ((2 ^ l * (2 ^ (g + 1 - l) - 1) : Nat) : Int) := by
  have e1 : (2 : Nat) ^ (g + 1) = 2 ^ l * 2 ^ (g + 1 - l) := by rw [← Nat.pow_add, show l + (g + 1 - l) = g + 1 by omega]
  have e2 : 2 ^ l * (2 ^ (g + 1 - l) - 1) = 2 ^ (g + 1) - 2 ^ l := by rw [Nat.mul_sub, Nat.mul_one, e1]
  have e3 : 2 ^ l ≤ 2 ^ (g + 1) := Nat.pow_le_pow_right (by omega) (by omega)
  rw [e2, Int.natCast_sub e3, Int.natCast_pow, Int.natCast_pow, Int.pow_succ, Int.one_mul, Int.mul_comm]
  rfl
theorem mask_bit (l g i : Nat) (h : l ≤ g) : (2 ^ l * (2 ^ (g + 1 - l) - 1)).testBit i = (decide (l ≤ i) && decide (i ≤ g)) := by
  have := Nat.testBit_two_pow_mul_add (2 ^ (g + 1 - l) - 1) (Nat.two_pow_pos l) (i := l) i
  rw [Nat.add_zero] at this
  rw [this]
  by_cases h1 : i < l
  · rw [if_pos h1, decide_eq_false (by omega : ¬ l ≤ i), Nat.zero_testBit]
    rfl
  · rw [if_neg h1, Nat.testBit_two_pow_sub_one, decide_eq_true (by omega : l ≤ i), Bool.true_and]
    by_cases h2 : i ≤ g
    · rw [decide_eq_true h2, decide_eq_true (by omega)]
    · rw [decide_eq_false h2, decide_eq_false (by omega)]
theorem or_pow_bit (b a i : Nat) : (b ||| 2 ^ a).testBit i = (b.testBit i || decide (a = i)) := by
  rw [Nat.testBit_or, Nat.testBit_two_pow]
end Ra
end

section
set_option Elab.async false
set_option linter.all false
set_option maxRecDepth 100000
set_option maxHeartbeats 4000000
/-! calls by name; data that never changes; how worlds and tables lie in the heap -/
namespace Ra
open PySem PySem.Spec PyProof.Rows L2

/-! ### a def that keeps a promise, by its name -/
structure Fn0 (K : PySem.W.Frag) (x qual : Str) (ps : List Str) (st : Stmt) (f : Addr) (fd : FuncData) : Prop where
  fn : FunD K x qual (defArgs st) (defBody st) (defScope st) [] [] f fd
  bn : Binds K fd ps []
structure Cal (P : Program) (w : World) (K : PySem.W.Frag) (mg : Str → Option Value) (base : Heap) (k : Nat) (x : Str) (ps : List Str) (sp : Sp) : Prop where
  ex : ∃ f fd, FnOk P w K mg base CX0 k f fd ps sp ∧ mg x = some (.ref f) ∧ PySem.W.keepIn K (.ref f) = true ∧ Binds K fd ps []
structure Mth (P : Program) (w : World) (K : PySem.W.Frag) (mg : Str → Option Value) (base : Heap) (k : Nat) (C : Addr) (m : Str) (ps : List Str) (sp : Sp) : Prop where
  ex : ∃ f fd, FnOk P w K mg base CX0 k f fd ps sp ∧ Meth K C m f ∧ Binds K fd ps []
section
variable {P : Program} {w : World} {K : PySem.W.Frag} {mg : Str → Option Value} {base : Heap}
theorem fnok_of {x qual : Str} {N ps : List Str} {st : Stmt} {f : Addr} {fd : FuncData} {k : Nat} {sp : Sp} (F : Fn0 K x qual ps st f fd) (S : FnScope N ps (defScope st)) (len : ∀ vs H Q E, sp vs H Q E → vs.length = ps.length)
    (body : ∀ (cdv : Value) (A : Around) (outer : List Env) (s : Shared) (H : Hp) (vs : List V) (Q : VK) (E : XK), Room k (A.deeper (envOfC qual (defScope st) s.heap.objs.size f cdv)) → sp vs H Q E →
      ∃ t, PSs (cxOf CX0 P w K mg base N qual (defScope st) f cdv A outer s H E).nox (defBody st) t ∧ t { nx := fun _ H' => Q .non H', rt := Q } (start N vs) H) : FnOk P w K mg base CX0 (k + 1) f fd ps sp :=
  F.fn.ok S len fun cdv A outer s H vs Q E hr h => by
    obtain ⟨t, h1, h2⟩ := body cdv A outer s H vs Q E hr h
    exact ⟨t, h1.nox, h2⟩
theorem cal_of {x qual : Str} {N ps : List Str} {st : Stmt} {f : Addr} {k : Nat} {sp : Sp} (F : ∃ fd, Fn0 K x qual ps st f fd) (g : mg x = some (.ref f)) (S : FnScope N ps (defScope st)) (len : ∀ vs H Q E, sp vs H Q E → vs.length = ps.length)
    (body : ∀ (cdv : Value) (A : Around) (outer : List Env) (s : Shared) (H : Hp) (vs : List V) (Q : VK) (E : XK), Room k (A.deeper (envOfC qual (defScope st) s.heap.objs.size f cdv)) → sp vs H Q E →
      ∃ t, PSs (cxOf CX0 P w K mg base N qual (defScope st) f cdv A outer s H E).nox (defBody st) t ∧ t { nx := fun _ H' => Q .non H', rt := Q } (start N vs) H) : Cal P w K mg base (k + 1) x ps sp := by
  obtain ⟨fd, F⟩ := F
  exact ⟨f, fd, fnok_of F S len body, g, F.fn.kp, F.bn⟩
theorem mth_of {m qual : Str} {N ps : List Str} {st : Stmt} {C f : Addr} {k : Nat} {sp : Sp} (F : ∃ fd, Fn0 K m qual ps st f fd) (g : Meth K C m f) (S : FnScope N ps (defScope st)) (len : ∀ vs H Q E, sp vs H Q E → vs.length = ps.length)
    (body : ∀ (cdv : Value) (A : Around) (outer : List Env) (s : Shared) (H : Hp) (vs : List V) (Q : VK) (E : XK), Room k (A.deeper (envOfC qual (defScope st) s.heap.objs.size f cdv)) → sp vs H Q E →
      ∃ t, PSs (cxOf CX0 P w K mg base N qual (defScope st) f cdv A outer s H E).nox (defBody st) t ∧ t { nx := fun _ H' => Q .non H', rt := Q } (start N vs) H) : Mth P w K mg base (k + 1) C m ps sp := by
  obtain ⟨fd, F⟩ := F
  exact ⟨f, fd, fnok_of F S len body, g, F.bn⟩
end
section
variable {X : Cx} {k : Nat} {x m : Str} {ps : List Str} {sp : Sp} {p pos apos : Pos} {e o : Expr} {es : List Expr} {t : TA} {ta : TE} {C : Addr}
theorem pe_cal (F : Cal X.prog X.w X.K X.mg X.base k x ps sp) (hr : Room k X.A) (hg : Gl X x) (ha : PA X (e :: es) t) (hdb : (x == ("__debug__" : Str)) = false := by decide)
    (he : starEach (e :: es) X.env = (false, eval e X.env) :: starEach es X.env := by rfl) (hpl : (backTo pos (starEach es X.env)).any (·.1) = false := by rfl) :
    PE X (.Call (.Name x p) (e :: es) [] pos) (tCall sp [] E0 t) := by
  obtain ⟨f, fd, F, g, kp, b⟩ := F.ex
  exact pe_call F hr hg g kp b .nil pass0 ha hdb he hpl
theorem pe_mth {pl : Sem Bool} (he : PE X o ta) (c : Cls X.K C) (F : Mth X.prog X.w X.K X.mg X.base k C m ps sp) (hr : Room k X.A) (ha : PA X (e :: es) t)
    (hst : starEach (e :: es) X.env = (false, eval e X.env) :: starEach es X.env := by rfl) (hpl : (backTo pos (starEach es X.env)).any (·.1) = false := by rfl)
    (ht : eval (.Call (.Attribute o m apos) (e :: es) [] pos) X.env = (do
      let ov ← eval o X.env
      standAt apos.atName
      let (f, first) ← holding [ov] (getMethod ov m pl)
      callWith pos f first (backTo pos (starEach (e :: es) X.env)) (backToKw pos (keywordEach [] X.env))) := by rfl) :
    PE X (.Call (.Attribute o m apos) (e :: es) [] pos) (tMeth C m sp [] E0 ta t) := by
  obtain ⟨f, fd, F, g, b⟩ := F.ex
  exact pe_meth he c g F hr b .nil pass0 ha hst hpl ht
/-- C(..) -/
structure Ini (P : Program) (w : World) (K : PySem.W.Frag) (mg : Str → Option Value) (base : Heap) (k : Nat) (C : Addr) (ps : List Str) (sp : Sp) : Prop where
  ex : ∃ f fd, FnOk P w K mg base CX0 k f fd ps sp ∧ Mk K C f ∧ Binds K fd ps []
theorem pe_ini (F : Ini X.prog X.w X.K X.mg X.base k C ps sp) (hr : Room (k + 1) X.A) (hg : Gl X x) (hm : X.mg x = some (.ref C)) (ha : PA X (e :: es) t) (hdb : (x == ("__debug__" : Str)) = false := by decide)
    (he : starEach (e :: es) X.env = (false, eval e X.env) :: starEach es X.env := by rfl) (hpl : (backTo pos (starEach es X.env)).any (·.1) = false := by rfl) :
    PE X (.Call (.Name x p) (e :: es) [] pos) (tMake C sp [] E0 t) := by
  obtain ⟨f, fd, F, g, b⟩ := F.ex
  exact pe_make g F hr hg hm b .nil pass0 ha hdb he hpl
/-- a module's number, text -/
theorem pe_gi {i : Int} {pos : Pos} (h : ∃ t, X.mg x = some (.int i t)) (hg : Gl X x) (hd : (x == ("__debug__" : Str)) = false := by decide) : PE X (.Name x pos) (tC (.int i)) := by
  obtain ⟨t, h⟩ := h
  exact pe_glob hg h ⟨t, rfl⟩ hd
theorem pe_gs {z : Str} {pos : Pos} (h : ∃ t, X.mg x = some (.str z t)) (hg : Gl X x) (hd : (x == ("__debug__" : Str)) = false := by decide) : PE X (.Name x pos) (tC (.str z)) := by
  obtain ⟨t, h⟩ := h
  exact pe_glob hg h ⟨t, rfl⟩ hd
end

/-! ### the heap grows -/
theorem sm_new {H : Hp} {p : Addr} {o : HO} (h : H p = none) : Same H (upd H p o) := fun b u e => by
  rw [upd_ne (ne_of_none e h)]
  exact e
theorem sm_then {H H' : Hp} {p : Addr} {o : HO} (e : Same H H') (h : H' p = none) : Same H (upd H' p o) := e.trans (sm_new h)
/-- an object that is not tracked there may change -/
theorem sm_out {H H' : Hp} {p : Addr} {o : HO} (e : Same H H') (h : H p = none) : Same H (upd H' p o) := fun b u q => by
  rw [upd_ne (ne_of_none q h)]
  exact e b u q
theorem rd_sm {H H' : Hp} {a : Addr} {u : HO} (e : Same H H') (h : Rd H a u) : Rd H' a u := by
  rcases h with h | ⟨o, h⟩
  · exact .inl (e _ _ h)
  · exact .inr ⟨o, e _ _ h⟩

/-! ### data that never changes -/
inductive Im (H : Hp) : V → PyData → Prop
  | non : Im H .non .none
  | int (i : Int) : Im H (.int i) (.int i)
  | str (z : Str) : Im H (.str z) (.str z)
  | tup {a : Addr} {xs : List V} {ds : List PyData} : Rd H a (.tup xs) → xs.length = ds.length → (∀ (j : Nat) (x : V) (d : PyData), xs[j]? = some x → ds[j]? = some d → Im H x d) → Im H (.ref a) (.tuple ds)
def Ims (H : Hp) (xs : List V) (ds : List PyData) : Prop := xs.length = ds.length ∧ ∀ (j : Nat) (x : V) (d : PyData), xs[j]? = some x → ds[j]? = some d → Im H x d
/-- tuples stay -/
def Tk (H H' : Hp) : Prop := ∀ (a : Addr) (xs : List V), Rd H a (.tup xs) → Rd H' a (.tup xs)
theorem Tk.refl (H : Hp) : Tk H H := fun _ _ h => h
theorem Tk.trans {H H1 H2 : Hp} (a : Tk H H1) (b : Tk H1 H2) : Tk H H2 := fun c xs h => b c xs (a c xs h)
theorem Tk.sm {H H' : Hp} (e : Same H H') : Tk H H' := fun _ _ h => rd_sm e h
theorem Tk.wr {H H' : Hp} {p : Addr} {o : HO} (e : Tk H H') (h : ∀ xs, ¬ Rd H' p (.tup xs)) : Tk H (upd H' p o) := fun a xs q => by
  have q2 := e a xs q
  have ne : a ≠ p := fun z => h xs (by rw [← z]; exact q2)
  rcases q2 with q2 | ⟨ob, q2⟩
  · exact .inl (by rw [upd_ne ne]; exact q2)
  · exact .inr ⟨ob, by rw [upd_ne ne]; exact q2⟩
theorem Im.tk {H H' : Hp} (e : Tk H H') {v : V} {d : PyData} (h : Im H v d) : Im H' v d := by
  induction h with
  | non => exact .non
  | int i => exact .int i
  | str z => exact .str z
  | tup r l f ih => exact .tup (e _ _ r) l ih
theorem Ims.tk {H H' : Hp} (e : Tk H H') {xs : List V} {ds : List PyData} (h : Ims H xs ds) : Ims H' xs ds := ⟨h.1, fun j x d hx hd => (h.2 j x d hx hd).tk e⟩
theorem Im.sm {H H' : Hp} (e : Same H H') {v : V} {d : PyData} (h : Im H v d) : Im H' v d := h.tk (Tk.sm e)
theorem Ims.sm {H H' : Hp} (e : Same H H') {xs : List V} {ds : List PyData} (h : Ims H xs ds) : Ims H' xs ds := h.tk (Tk.sm e)
section
variable {H : Hp} {v : V} {xs : List V} {ds : List PyData}
theorem im_non (h : Im H v .none) : v = .non := by
  cases h
  rfl
theorem im_int {i : Int} (h : Im H v (.int i)) : v = .int i := by
  cases h
  rfl
theorem im_str {z : Str} (h : Im H v (.str z)) : v = .str z := by
  cases h
  rfl
theorem im_tup (h : Im H v (.tuple ds)) : ∃ a xs, v = .ref a ∧ Rd H a (.tup xs) ∧ Ims H xs ds := by
  cases h with
  | tup r l f => exact ⟨_, _, rfl, r, l, f⟩
theorem Ims.im {a : Addr} (r : Rd H a (.tup xs)) (h : Ims H xs ds) : Im H (.ref a) (.tuple ds) := .tup r h.1 h.2
theorem ims_nil (h : Ims H xs []) : xs = [] := List.length_eq_zero_iff.mp h.1
theorem ims_cons {d : PyData} (h : Ims H xs (d :: ds)) : ∃ x r, xs = x :: r ∧ Im H x d ∧ Ims H r ds := by
  cases xs with
  | nil => cases h.1
  | cons x r => exact ⟨x, r, rfl, h.2 0 x d rfl rfl, by have := h.1; simpa using this, fun j y e hy he => h.2 (j + 1) y e hy he⟩
theorem Ims.nil : Ims H [] [] := ⟨rfl, fun j x d h => by cases h⟩
theorem Ims.cons {x : V} {d : PyData} (h : Im H x d) (t : Ims H xs ds) : Ims H (x :: xs) (d :: ds) := by
  refine ⟨by rw [List.length_cons, List.length_cons, t.1], fun j y e hy he => ?_⟩
  cases j with
  | zero =>
    cases hy
    cases he
    exact h
  | succ j => exact t.2 j y e hy he
theorem Ims.append {ys : List V} {es : List PyData} (h : Ims H xs ds) (t : Ims H ys es) : Ims H (xs ++ ys) (ds ++ es) := by
  induction xs generalizing ds with
  | nil =>
    have : ds = [] := List.length_eq_zero_iff.mp (by have := h.1; simpa using this.symm)
    subst this
    exact t
  | cons x r ih =>
    cases ds with
    | nil => cases h.1
    | cons d ds =>
      obtain ⟨x', r', e, h1, h2⟩ := ims_cons h
      cases e
      exact .cons h1 (ih h2)
theorem Ims.snoc {x : V} {d : PyData} (t : Ims H xs ds) (h : Im H x d) : Ims H (xs ++ [x]) (ds ++ [d]) := t.append (.cons h .nil)
theorem Ims.get {j : Nat} {d : PyData} (h : Ims H xs ds) (e : ds[j]? = some d) : ∃ x, xs[j]? = some x ∧ Im H x d := by
  have hj : j < xs.length := by rw [h.1]; exact (List.getElem?_eq_some_iff.mp e).1
  exact ⟨xs[j], List.getElem?_eq_getElem hj, h.2 j _ _ (List.getElem?_eq_getElem hj) e⟩
theorem Ims.got {j : Nat} {x : V} (h : Ims H xs ds) (e : xs[j]? = some x) : ∃ d, ds[j]? = some d ∧ Im H x d := by
  have hj : j < ds.length := by rw [← h.1]; exact (List.getElem?_eq_some_iff.mp e).1
  exact ⟨ds[j], List.getElem?_eq_getElem hj, h.2 j _ _ e (List.getElem?_eq_getElem hj)⟩
theorem Ims.take (n : Nat) (h : Ims H xs ds) : Ims H (xs.take n) (ds.take n) := by
  refine ⟨by rw [List.length_take, List.length_take, h.1], fun j x d hx hd => ?_⟩
  rw [List.getElem?_take] at hx hd
  by_cases hj : j < n
  · rw [if_pos hj] at hx hd
    exact h.2 j x d hx hd
  · rw [if_neg hj] at hx
    cases hx
theorem Ims.drop (n : Nat) (h : Ims H xs ds) : Ims H (xs.drop n) (ds.drop n) := by
  refine ⟨by rw [List.length_drop, List.length_drop, h.1], fun j x d hx hd => ?_⟩
  rw [List.getElem?_drop] at hx hd
  exact h.2 _ x d hx hd
theorem Ims.ints {ns : List Int} (h : Ims H xs (ns.map .int)) : xs = ns.map V.int := by
  induction ns generalizing xs with
  | nil => exact ims_nil h
  | cons n ns ih =>
    obtain ⟨x, r, rfl, h1, h2⟩ := ims_cons h
    rw [im_int h1, ih h2]
    rfl
theorem Ims.of_ints (ns : List Int) : Ims H (ns.map V.int) (ns.map .int) := by
  induction ns with
  | nil => exact .nil
  | cons n ns ih => exact .cons (.int n) ih
theorem Ims.strs {zs : List Str} (h : Ims H xs (zs.map .str)) : xs = zs.map V.str := by
  induction zs generalizing xs with
  | nil => exact ims_nil h
  | cons n ns ih =>
    obtain ⟨x, r, rfl, h1, h2⟩ := ims_cons h
    rw [im_str h1, ih h2]
    rfl
theorem Ims.of_strs (zs : List Str) : Ims H (zs.map V.str) (zs.map .str) := by
  induction zs with
  | nil => exact .nil
  | cons n ns ih => exact .cons (.str n) ih
theorem sqt_rd {K : PySem.W.Frag} {a : Addr} (h : Rd H a (.tup xs)) : SqT K H a xs := .inl h
end
/-- to the layer's own words for data -/
theorem Im.dp {K : PySem.W.Frag} {H : Hp} : ∀ {d : PyData} {v : V}, Im H v d → Dp K H v d := by
  intro d v h
  induction h with
  | non => exact .non
  | int i => exact .int i
  | str z => exact .str z
  | @tup a xs ds r l f ih =>
    refine .tup (.inl r) ?_
    clear r f
    induction xs generalizing ds with
    | nil =>
      cases ds with
      | nil => exact .nil
      | cons d ds => cases l
    | cons x xs ih2 =>
      cases ds with
      | nil => cases l
      | cons d ds => exact .cons (ih 0 x d rfl rfl) (ih2 (by simpa using l) fun j y e hy he => ih (j + 1) y e hy he)
theorem Ims.dp {K : PySem.W.Frag} {H : Hp} : ∀ {xs : List V} {ds : List PyData}, Ims H xs ds → DpAll K H xs ds
  | [], [], _ => .nil
  | [], _ :: _, h => nomatch h.1
  | _ :: _, [], h => nomatch h.1
  | x :: xs, d :: ds, h => .cons (h.2 0 x d rfl rfl).dp (Ims.dp ⟨by have := h.1; simpa using this, fun j y e hy he => h.2 (j + 1) y e hy he⟩)

/-! ### worlds and tables -/
abbrev WdS := Wd Str
def optV : Option Int → V
  | none => .non
  | some i => .int i
def optD : Option Int → PyData
  | none => .none
  | some i => .int i
def keepS (old : Bool) : Str := if old = true then "oldest" else "youngest"
def encS (s : Src Str) : PyData := .tuple [.str s.kind, .int s.age, .int s.place, .int s.since, .int s.many]
def encP (p : Prt Str) : PyData := .tuple [.str p.kind, .int p.lo, .int p.hi]
def encY (y : Wy Str) : PyData := .tuple [.str y.kind, .tuple (y.parts.map encP), .str (keepS y.old), .tuple (y.hours.map .int), .int y.wait]
abbrev Tb := List (List (List (Option Int)))
def encT (T : Tb) : PyData := .tuple (T.map fun r => .tuple (r.map fun s => .tuple (s.map optD)))
/-- the kinds: a tuple without a dict of its own -/
def KdAt (H : Hp) (v : V) (ks : List Str) : Prop := ∃ (a : Addr) (o : Obj), v = .ref a ∧ H a = some (.frz o (.tup (ks.map V.str))) ∧ o.dict = none
structure WdAt (H : Hp) (v : V) (w : WdS) : Prop where
  ex : ∃ (a : Addr) (vk vs vy : V), v = .ref a ∧ Rd H a (.tup [.int w.size, vk, vs, vy]) ∧ KdAt H vk w.kinds ∧ Im H vs (.tuple (w.sources.map encS)) ∧ Im H vy (.tuple (w.ways.map encY))
theorem KdAt.tk {H H' : Hp} {v : V} {ks : List Str} (e : ∀ a o xs, H a = some (.frz o (.tup xs)) → H' a = some (.frz o (.tup xs))) (h : KdAt H v ks) : KdAt H' v ks := by
  obtain ⟨a, o, e1, e2, e3⟩ := h
  exact ⟨a, o, e1, e _ _ _ e2, e3⟩
/-- tuples stay, each as it is told -/
def Tz (H H' : Hp) : Prop := ∀ (a : Addr) (u : HO), (∃ xs, u = .tup xs ∨ ∃ o, u = .frz o (.tup xs)) → H a = some u → H' a = some u
theorem Tz.refl (H : Hp) : Tz H H := fun _ _ _ h => h
theorem Tz.trans {H H1 H2 : Hp} (a : Tz H H1) (b : Tz H1 H2) : Tz H H2 := fun c u k h => b c u k (a c u k h)
theorem Tz.sm {H H' : Hp} (e : Same H H') : Tz H H' := fun _ _ _ h => e _ _ h
theorem Tz.tk {H H' : Hp} (e : Tz H H') : Tk H H' := fun a xs h => by
  rcases h with h | ⟨o, h⟩
  · exact .inl (e _ _ ⟨xs, .inl rfl⟩ h)
  · exact .inr ⟨o, e _ _ ⟨xs, .inr ⟨o, rfl⟩⟩ h⟩
theorem Tz.new {H H' : Hp} {p : Addr} {o : HO} (e : Tz H H') (h : H' p = none) : Tz H (upd H' p o) := e.trans (Tz.sm (sm_new h))
theorem Tz.wr {H H' : Hp} {p : Addr} {o u : HO} (e : Tz H H') (h : H' p = some u) (hu : ∀ xs, u ≠ .tup xs ∧ ∀ o, u ≠ .frz o (.tup xs)) : Tz H (upd H' p o) := fun a z k q => by
  have q2 := e a z k q
  have ne : a ≠ p := fun y => by
    rw [y, h] at q2
    cases q2
    obtain ⟨xs, k | ⟨o, k⟩⟩ := k
    · exact (hu xs).1 k
    · exact (hu xs).2 o k
  rw [upd_ne ne]
  exact q2
theorem Im.tz {H H' : Hp} (e : Tz H H') {v : V} {d : PyData} (h : Im H v d) : Im H' v d := h.tk e.tk
theorem WdAt.tz {H H' : Hp} (e : Tz H H') {v : V} {w : WdS} (h : WdAt H v w) : WdAt H' v w := by
  obtain ⟨a, vk, vs, vy, e1, e2, e3, e4, e5⟩ := h.ex
  exact ⟨a, vk, vs, vy, e1, e.tk _ _ e2, e3.tk fun a o xs q => e _ _ ⟨xs, .inr ⟨o, rfl⟩⟩ q, e4.tz e, e5.tz e⟩
theorem WdAt.sm {H H' : Hp} (e : Same H H') {v : V} {w : WdS} (h : WdAt H v w) : WdAt H' v w := h.tz (Tz.sm e)
/-- a table's shape -/
structure TbOk (w : WdS) (T : Tb) : Prop where
  n : T.length = w.kinds.length
  r : ∀ r ∈ T, r.length = w.size.toNat
  s : ∀ r ∈ T, ∀ s ∈ r, s.length = 27
/-- what stands in it -/
def idx : List Str → Str → Nat
  | [], _ => 0
  | x :: r, k => if x = k then 0 else idx r k + 1
theorem idx_at : ∀ {ks : List Str} {k : Str}, k ∈ ks → ks[idx ks k]? = some k ∧ ∀ m, m < idx ks k → ks[m]? ≠ some k
  | [], k, h => by cases h
  | x :: r, k, h => by
    unfold idx
    by_cases e : x = k
    · rw [if_pos e, e]
      exact ⟨rfl, fun m hm => absurd hm (Nat.not_lt_zero _)⟩
    · rw [if_neg e]
      have hr : k ∈ r := by
        rcases List.mem_cons.mp h with q | q
        · exact absurd q.symm e
        · exact q
      obtain ⟨h1, h2⟩ := idx_at hr
      refine ⟨h1, fun m hm => ?_⟩
      cases m with
      | zero => exact fun q => e (Option.some.inj q)
      | succ m => exact h2 m (by omega)
def tv (w : WdS) (T : Tb) : Tv Str := fun k p a => ((((T[idx w.kinds k]?).getD [])[p.toNat]?).getD [])[a.toNat]?.getD none
end Ra
end

section
set_option Elab.async false
set_option linter.all false
set_option maxRecDepth 100000
set_option maxHeartbeats 4000000
namespace Ra
open PySem PySem.Spec PyProof.Rows L2
/-- what the top has written -/
structure TX (K : PySem.W.Frag) (mg : Str → Option Value) : Prop where
  f_IsNumber : ∃ fd, Fn0 K "is_number" "is_number" ["thing", "low", "high"] sIsNumber (He.ga K "is_number") fd
  g_IsNumber : mg "is_number" = some (.ref (He.ga K "is_number"))
  f_IsRow : ∃ fd, Fn0 K "is_row" "is_row" ["thing", "least", "most"] sIsRow (He.ga K "is_row") fd
  g_IsRow : mg "is_row" = some (.ref (He.ga K "is_row"))
  f_FirstAt : ∃ fd, Fn0 K "first_at" "first_at" ["size", "place", "since"] sFirstAt (He.ga K "first_at") fd
  g_FirstAt : mg "first_at" = some (.ref (He.ga K "first_at"))
  f_FirstOf : ∃ fd, Fn0 K "first_of" "first_of" ["world", "source"] sFirstOf (He.ga K "first_of") fd
  g_FirstOf : mg "first_of" = some (.ref (He.ga K "first_of"))
  f_HandedOn : ∃ fd, Fn0 K "handed_on" "handed_on" ["keeps", "origins"] sHandedOn (He.ga K "handed_on") fd
  g_HandedOn : mg "handed_on" = some (.ref (He.ga K "handed_on"))
  f_Bears : ∃ fd, Fn0 K "bears" "bears" ["world", "way", "moment", "origins"] sBears (He.ga K "bears") fd
  g_Bears : mg "bears" = some (.ref (He.ga K "bears"))
  f_Nearest : ∃ fd, Fn0 K "nearest" "nearest" ["bits", "age", "keeps"] sNearest (He.ga K "nearest") fd
  g_Nearest : mg "nearest" = some (.ref (He.ga K "nearest"))
  f_Chosen : ∃ fd, Fn0 K "chosen" "chosen" ["parts", "age", "keeps"] sChosen (He.ga K "chosen") fd
  g_Chosen : mg "chosen" = some (.ref (He.ga K "chosen"))
  f_Init : ∃ fd, Fn0 K "__init__" "Growth.__init__" ["self", "world"] sInit (He.ma K (He.ga K "Growth") "__init__") fd
  f_Expect : ∃ fd, Fn0 K "expect" "Growth.expect" ["self", "kind", "age", "moment", "reason"] sExpect (He.ma K (He.ga K "Growth") "expect") fd
  m_Expect : Meth K (He.ga K "Growth") "expect" (He.ma K (He.ga K "Growth") "expect")
  f_Settle : ∃ fd, Fn0 K "settle" "Growth.settle" ["self", "key", "moment", "reason"] sSettle (He.ma K (He.ga K "Growth") "settle") fd
  m_Settle : Meth K (He.ga K "Growth") "settle" (He.ma K (He.ga K "Growth") "settle")
  f_AgesAt : ∃ fd, Fn0 K "ages_at" "Growth.ages_at" ["self", "part", "hour"] sAgesAt (He.ma K (He.ga K "Growth") "ages_at") fd
  m_AgesAt : Meth K (He.ga K "Growth") "ages_at" (He.ma K (He.ga K "Growth") "ages_at")
  f_TryWay : ∃ fd, Fn0 K "try_way" "Growth.try_way" ["self", "number", "kind", "age", "moment"] sTryWay (He.ma K (He.ga K "Growth") "try_way") fd
  m_TryWay : Meth K (He.ga K "Growth") "try_way" (He.ma K (He.ga K "Growth") "try_way")
  f_MakeAll : ∃ fd, Fn0 K "make_all" "Growth.make_all" ["self", "number", "lists", "moment"] sMakeAll (He.ma K (He.ga K "Growth") "make_all") fd
  m_MakeAll : Meth K (He.ga K "Growth") "make_all" (He.ma K (He.ga K "Growth") "make_all")
  f_NumberOf : ∃ fd, Fn0 K "number_of" "Growth.number_of" ["self", "kind", "place", "age"] sNumberOf (He.ma K (He.ga K "Growth") "number_of") fd
  m_NumberOf : Meth K (He.ga K "Growth") "number_of" (He.ma K (He.ga K "Growth") "number_of")
  f_Table : ∃ fd, Fn0 K "table" "table" ["world"] sTable (He.ga K "table") fd
  g_Table : mg "table" = some (.ref (He.ga K "table"))
  f_IsStair : ∃ fd, Fn0 K "is_stair" "is_stair" ["size", "place", "thing"] sIsStair (He.ga K "is_stair") fd
  g_IsStair : mg "is_stair" = some (.ref (He.ga K "is_stair"))
  f_IsTable : ∃ fd, Fn0 K "is_table" "is_table" ["world", "thing"] sIsTable (He.ga K "is_table") fd
  g_IsTable : mg "is_table" = some (.ref (He.ga K "is_table"))
  f_Stands : ∃ fd, Fn0 K "stands" "stands" ["world", "table", "kind", "place", "age"] sStands (He.ga K "stands") fd
  g_Stands : mg "stands" = some (.ref (He.ga K "stands"))
  f_Has : ∃ fd, Fn0 K "has" "has" ["world", "table", "kind", "origin", "age"] sHas (He.ga K "has") fd
  g_Has : mg "has" = some (.ref (He.ga K "has"))
  f_Lesser : ∃ fd, Fn0 K "lesser" "lesser" ["one", "other"] sLesser (He.ga K "lesser") fd
  g_Lesser : mg "lesser" = some (.ref (He.ga K "lesser"))
  f_PutTogether : ∃ fd, Fn0 K "put_together" "put_together" ["one", "other", "choose"] sPutTogether (He.ga K "put_together") fd
  g_PutTogether : mg "put_together" = some (.ref (He.ga K "put_together"))
  f_Within : ∃ fd, Fn0 K "within" "within" ["one", "other"] sWithin (He.ga K "within") fd
  g_Within : mg "within" = some (.ref (He.ga K "within"))
  f_IsLacked : ∃ fd, Fn0 K "is_lacked" "is_lacked" ["world", "table", "source"] sIsLacked (He.ga K "is_lacked") fd
  g_IsLacked : mg "is_lacked" = some (.ref (He.ga K "is_lacked"))
  f_ThereAt : ∃ fd, Fn0 K "there_at" "there_at" ["world", "table", "part", "place", "age"] sThereAt (He.ga K "there_at") fd
  g_ThereAt : mg "there_at" = some (.ref (He.ga K "there_at"))
  f_LeastMoment : ∃ fd, Fn0 K "least_moment" "least_moment" ["world", "table", "way", "place", "ages"] sLeastMoment (He.ga K "least_moment") fd
  g_LeastMoment : mg "least_moment" = some (.ref (He.ga K "least_moment"))
  f_IsUnmade : ∃ fd, Fn0 K "is_unmade" "is_unmade" ["world", "table", "way", "place", "ages"] sIsUnmade (He.ga K "is_unmade") fd
  g_IsUnmade : mg "is_unmade" = some (.ref (He.ga K "is_unmade"))
  f_Soonest : ∃ fd, Fn0 K "soonest" "soonest" ["world", "table", "part", "place", "low", "high"] sSoonest (He.ga K "soonest") fd
  g_Soonest : mg "soonest" = some (.ref (He.ga K "soonest"))
  f_Partners : ∃ fd, Fn0 K "partners" "partners" ["world", "table", "way", "place", "at", "age"] sPartners (He.ga K "partners") fd
  g_Partners : mg "partners" = some (.ref (He.ga K "partners"))
  f_WayLeak : ∃ fd, Fn0 K "way_leak" "way_leak" ["world", "table", "way", "place"] sWayLeak (He.ga K "way_leak") fd
  g_WayLeak : mg "way_leak" = some (.ref (He.ga K "way_leak"))
  f_Leak : ∃ fd, Fn0 K "leak" "leak" ["world", "table"] sLeak (He.ga K "leak") fd
  g_Leak : mg "leak" = some (.ref (He.ga K "leak"))
  f_IsShut : ∃ fd, Fn0 K "is_shut" "is_shut" ["world", "thing"] sIsShut (He.ga K "is_shut") fd
  g_IsShut : mg "is_shut" = some (.ref (He.ga K "is_shut"))
  f_LDraws : ∃ fd, Fn0 K "_law_draws" "_law_draws" ["_law_script"] sLDraws (He.ga K "_law_draws") fd
  g_LDraws : mg "_law_draws" = some (.ref (He.ga K "_law_draws"))
  f_LNext : ∃ fd, Fn0 K "_law_next" "_law_next" ["_law_drawn", "_law_below"] sLNext (He.ga K "_law_next") fd
  g_LNext : mg "_law_next" = some (.ref (He.ga K "_law_next"))
  f_LOne : ∃ fd, Fn0 K "_law_one" "_law_one" ["_law_drawn", "_law_some"] sLOne (He.ga K "_law_one") fd
  g_LOne : mg "_law_one" = some (.ref (He.ga K "_law_one"))
  f_LNames : ∃ fd, Fn0 K "_law_names" "_law_names" ["_law_drawn"] sLNames (He.ga K "_law_names") fd
  g_LNames : mg "_law_names" = some (.ref (He.ga K "_law_names"))
  f_LHours : ∃ fd, Fn0 K "_law_hours" "_law_hours" ["_law_drawn", "_law_size"] sLHours (He.ga K "_law_hours") fd
  g_LHours : mg "_law_hours" = some (.ref (He.ga K "_law_hours"))
  f_LPart : ∃ fd, Fn0 K "_law_part" "_law_part" ["_law_drawn", "_law_kinds", "_law_scale"] sLPart (He.ga K "_law_part") fd
  g_LPart : mg "_law_part" = some (.ref (He.ga K "_law_part"))
  f_LSource : ∃ fd, Fn0 K "_law_source" "_law_source" ["_law_drawn", "_law_kinds", "_law_size", "_law_scale"] sLSource (He.ga K "_law_source") fd
  g_LSource : mg "_law_source" = some (.ref (He.ga K "_law_source"))
  f_LWay : ∃ fd, Fn0 K "_law_way" "_law_way" ["_law_drawn", "_law_kinds", "_law_size", "_law_scale"] sLWay (He.ga K "_law_way") fd
  g_LWay : mg "_law_way" = some (.ref (He.ga K "_law_way"))
  f_LWorld : ∃ fd, Fn0 K "_law_world" "_law_world" ["_law_drawn"] sLWorld (He.ga K "_law_world") fd
  g_LWorld : mg "_law_world" = some (.ref (He.ga K "_law_world"))
  f_LWith : ∃ fd, Fn0 K "_law_with" "_law_with" ["_law_row", "_law_at", "_law_thing"] sLWith (He.ga K "_law_with") fd
  g_LWith : mg "_law_with" = some (.ref (He.ga K "_law_with"))
  f_LWider : ∃ fd, Fn0 K "_law_wider" "_law_wider" ["_law_drawn", "_law_way_here", "_law_size"] sLWider (He.ga K "_law_wider") fd
  g_LWider : mg "_law_wider" = some (.ref (He.ga K "_law_wider"))
  f_LMore : ∃ fd, Fn0 K "_law_more" "_law_more" ["_law_drawn", "_law_world_here"] sLMore (He.ga K "_law_more") fd
  g_LMore : mg "_law_more" = some (.ref (He.ga K "_law_more"))
  f_LTurned : ∃ fd, Fn0 K "_law_turned" "_law_turned" ["_law_drawn", "_law_row"] sLTurned (He.ga K "_law_turned") fd
  g_LTurned : mg "_law_turned" = some (.ref (He.ga K "_law_turned"))
  f_LOtherwise : ∃ fd, Fn0 K "_law_otherwise" "_law_otherwise" ["_law_drawn", "_law_world_here"] sLOtherwise (He.ga K "_law_otherwise") fd
  g_LOtherwise : mg "_law_otherwise" = some (.ref (He.ga K "_law_otherwise"))
  f_Law : ∃ fd, Fn0 K "law" "law" ["_law_script"] sLaw (He.ga K "law") fd
  g_Law : mg "law" = some (.ref (He.ga K "law"))
  gC : mg "Growth" = some (.ref (He.ga K "Growth"))
  cl : Cls K (He.ga K "Growth")
  mkG : Mk K (He.ga K "Growth") (He.ma K (He.ga K "Growth") "__init__")
  n_here : NoAttr K (He.ga K "Growth") "here"
  n_size : NoAttr K (He.ga K "Growth") "size"
  n_moments : NoAttr K (He.ga K "Growth") "moments"
  n_reasons : NoAttr K (He.ga K "Growth") "reasons"
  n_pending : NoAttr K (He.ga K "Growth") "pending"
  n_ages : NoAttr K (He.ga K "Growth") "ages"
  i_OLD : ∃ t, mg "OLD" = some (.int 20 t)
  i_READY : ∃ t, mg "READY" = some (.int 26 t)
  i_LAST : ∃ t, mg "LAST" = some (.int 3000000000000000 t)
  s_OLDEST : ∃ t, mg "OLDEST" = some (.str "oldest" t)
  s_BROUGHT : ∃ t, mg "BROUGHT" = some (.str "brought" t)
  s_MADE : ∃ t, mg "MADE" = some (.str "made" t)
  s_WAITED : ∃ t, mg "WAITED" = some (.str "waited" t)
  z_isinstance : mg "isinstance" = none
  z_int : mg "int" = none
  z_bool : mg "bool" = none
  z_tuple : mg "tuple" = none
  z_len : mg "len" = none
  z_min : mg "min" = none
  z_max : mg "max" = none
  z_enumerate : mg "enumerate" = none
  z_range : mg "range" = none
  z_all : mg "all" = none
  z_zip : mg "zip" = none
  z_list : mg "list" = none
  z_set : mg "set" = none
  z_sorted : mg "sorted" = none
end Ra
end

section
set_option Elab.async false
set_option linter.all false
set_option maxRecDepth 100000
set_option maxHeartbeats 4000000
/-! walks: numbers, rows, first moments, what is handed on -/
namespace Ra
open PySem PySem.Spec PyProof.Rows L2 RZ

/-! ### how parts of a world lie -/
section
variable {H : Hp} {v : V}
theorem list_at {α : Type} {l : List α} {f : α → PyData} (h : Im H v (.tuple (l.map f))) : ∃ a xs, v = .ref a ∧ Rd H a (.tup xs) ∧ Ims H xs (l.map f) := im_tup h
theorem ims_at {α : Type} {l : List α} {f : α → PyData} {xs : List V} {j : Nat} {y : α} (h : Ims H xs (l.map f)) (e : l[j]? = some y) : ∃ x, xs[j]? = some x ∧ Im H x (f y) :=
  h.get (by rw [List.getElem?_map, e]; rfl)
theorem ims_of {α : Type} {l : List α} {f : α → PyData} {xs : List V} {j : Nat} {x : V} (h : Ims H xs (l.map f)) (e : xs[j]? = some x) : ∃ y, l[j]? = some y ∧ Im H x (f y) := by
  obtain ⟨d, hd, hi⟩ := h.got e
  rw [List.getElem?_map] at hd
  cases e2 : l[j]? with
  | none => rw [e2] at hd; cases hd
  | some y =>
    rw [e2] at hd
    cases hd
    exact ⟨y, rfl, hi⟩
theorem src_at {s : Src Str} (h : Im H v (encS s)) : ∃ b, v = .ref b ∧ Rd H b (.tup [.str s.kind, .int s.age, .int s.place, .int s.since, .int s.many]) := by
  obtain ⟨b, xs, rfl, r, i⟩ := im_tup h
  obtain ⟨x1, t1, rfl, h1, i⟩ := ims_cons i
  obtain ⟨x2, t2, rfl, h2, i⟩ := ims_cons i
  obtain ⟨x3, t3, rfl, h3, i⟩ := ims_cons i
  obtain ⟨x4, t4, rfl, h4, i⟩ := ims_cons i
  obtain ⟨x5, t5, rfl, h5, i⟩ := ims_cons i
  rw [im_str h1, im_int h2, im_int h3, im_int h4, im_int h5, ims_nil i] at r
  exact ⟨b, rfl, r⟩
theorem prt_at {p : Prt Str} (h : Im H v (encP p)) : ∃ b, v = .ref b ∧ Rd H b (.tup [.str p.kind, .int p.lo, .int p.hi]) := by
  obtain ⟨b, xs, rfl, r, i⟩ := im_tup h
  obtain ⟨x1, t1, rfl, h1, i⟩ := ims_cons i
  obtain ⟨x2, t2, rfl, h2, i⟩ := ims_cons i
  obtain ⟨x3, t3, rfl, h3, i⟩ := ims_cons i
  rw [im_str h1, im_int h2, im_int h3, ims_nil i] at r
  exact ⟨b, rfl, r⟩
theorem way_at {y : Wy Str} (h : Im H v (encY y)) : ∃ b vp vh, v = .ref b ∧ Rd H b (.tup [.str y.kind, vp, .str (keepS y.old), vh, .int y.wait]) ∧
    Im H vp (.tuple (y.parts.map encP)) ∧ Im H vh (.tuple (y.hours.map .int)) := by
  obtain ⟨b, xs, rfl, r, i⟩ := im_tup h
  obtain ⟨x1, t1, rfl, h1, i⟩ := ims_cons i
  obtain ⟨x2, t2, rfl, h2, i⟩ := ims_cons i
  obtain ⟨x3, t3, rfl, h3, i⟩ := ims_cons i
  obtain ⟨x4, t4, rfl, h4, i⟩ := ims_cons i
  obtain ⟨x5, t5, rfl, h5, i⟩ := ims_cons i
  rw [im_str h1, im_str h3, im_int h5, ims_nil i] at r
  exact ⟨b, x2, x4, rfl, r, h2, h4⟩
theorem keep_eq (old : Bool) : decide (V.str (keepS old) = V.str "oldest") = old := by
  cases old
  · exact decide_eq_false (fun e => absurd (V.str.inj e) (by decide))
  · exact decide_eq_true rfl
end

section
variable {P : Program} {w : World} {K : PySem.W.Frag} {mg : Str → Option Value} {base : Heap}

def spIsNumber : Sp := fun vs H Q _ => ∃ n lo hi : Int, vs = [.int n, .int lo, .int hi] ∧ Q (.bl (decide (lo ≤ n) && decide (n ≤ hi))) H
theorem ok_IsNumber (T : TX K mg) : Cal P w K mg base 1 "is_number" ["thing", "low", "high"] spIsNumber := by
  refine cal_of T.f_IsNumber T.g_IsNumber scIsNumber (fun vs H Q E h => ?_) (fun cdv A outer s H vs Q E hr h => ?_)
  · obtain ⟨n, lo, hi, rfl, _⟩ := h
    rfl
  · obtain ⟨n, lo, hi, rfl, q⟩ := h
    refine ⟨_, (pss_one (ps_ret (pe_and (pe_callB call_isi (by rfl) T.z_isinstance (by decide +kernel) (pa_cons (pv 0) (pa_cons (pe_bltn (v := .ty "int") (by rfl) T.z_int (by decide +kernel) rfl) pa_nil))) (pe_and (pe_not (pe_callB call_isi (by rfl) T.z_isinstance (by decide +kernel) (pa_cons (pv 0) (pa_cons (pe_bltn (v := .ty "bool") (by rfl) T.z_bool (by decide +kernel) rfl) pa_nil)))) (pe_one (pe_chain op_le op_le (pv 1) (pv 0) (pv 2))))))), ?_⟩
    refine ⟨.int n, rfl, .int n, .ty "int", .type "int", .type "int", true, rfl, .ty _, .base (.int n), kit_ty (by decide +kernel), true, rfl, iteT ?_⟩
    refine ⟨.int n, rfl, .int n, .ty "bool", .type "int", .type "bool", false, rfl, .ty _, .base (.int n), kit_ty (by decide +kernel), false, rfl, true, rfl, iteT ?_⟩
    refine ⟨.int lo, rfl, .int n, rfl, lo, n, rfl, rfl, _, rfl, ite2 (fun e => ?_) (fun e => ?_)⟩
    · refine ⟨.int hi, rfl, n, hi, rfl, rfl, ?_⟩
      rw [e, Bool.true_and] at q
      exact q
    · rw [Bool.not_eq_true] at e
      rw [e, Bool.false_and] at q
      exact q

def spIsRow : Sp := fun vs H Q _ => ∃ (p : Addr) (xs : List V) (a b : Int), vs = [.ref p, .int a, .int b] ∧ Rd H p (.tup xs) ∧ Q (.bl (decide (a ≤ (xs.length : Int)) && decide ((xs.length : Int) ≤ b))) H
theorem rd_ty {K : PySem.W.Frag} {H : Hp} {p : Addr} {xs : List V} (h : Rd H p (.tup xs)) : TyX K H (.ref p) (.type "tuple") := by
  rcases h with h | ⟨o, h⟩
  · exact .base (.tup h)
  · exact .fTuple h
theorem ok_IsRow (T : TX K mg) : Cal P w K mg base 1 "is_row" ["thing", "least", "most"] spIsRow := by
  refine cal_of T.f_IsRow T.g_IsRow scIsRow (fun vs H Q E h => ?_) (fun cdv A outer s H vs Q E hr h => ?_)
  · obtain ⟨p, xs, a, b, rfl, _⟩ := h
    rfl
  · obtain ⟨p, xs, a, b, rfl, r, q⟩ := h
    refine ⟨_, (pss_one (ps_ret (pe_and (pe_callB call_isi (by rfl) T.z_isinstance (by decide +kernel) (pa_cons (pv 0) (pa_cons (pe_bltn (v := .ty "tuple") (by rfl) T.z_tuple (by decide +kernel) rfl) pa_nil))) (pe_one (pe_chain op_le op_le (pv 1) (pe_callB call_len_seq (by rfl) T.z_len (by decide +kernel) (pa_cons (pv 0) pa_nil)) (pv 2)))))), ?_⟩
    refine ⟨.ref p, rfl, .ref p, .ty "tuple", .type "tuple", .type "tuple", true, rfl, .ty _, rd_ty r, kit_ty (by decide +kernel), true, rfl, iteT ?_⟩
    refine ⟨.int a, rfl, .ref p, rfl, p, xs, rfl, .inr (.inl r), a, xs.length, rfl, rfl, _, rfl, ite2 (fun e => ?_) (fun e => ?_)⟩
    · refine ⟨.int b, rfl, xs.length, b, rfl, rfl, ?_⟩
      rw [e, Bool.true_and] at q
      exact q
    · rw [Bool.not_eq_true] at e
      rw [e, Bool.false_and] at q
      exact q

def spFirstAt : Sp := fun vs H Q _ => ∃ n p s : Int, vs = [.int n, .int p, .int s] ∧ 0 < n ∧ Q (.int (firstAt n p s)) H
theorem ok_FirstAt (T : TX K mg) : Cal P w K mg base 1 "first_at" ["size", "place", "since"] spFirstAt := by
  refine cal_of T.f_FirstAt T.g_FirstAt scFirstAt (fun vs H Q E h => ?_) (fun cdv A outer s H vs Q E hr h => ?_)
  · obtain ⟨n, p, s, rfl, _⟩ := h
    rfl
  · obtain ⟨n, p, s0, rfl, hn, q⟩ := h
    refine ⟨_, (pss_one (ps_ret (pe_op op_add (pv 2) (pe_op op_mod (pe_op op_sub (pv 1) (pv 2)) (pv 0))))), ?_⟩
    exact ⟨.int s0, rfl, .int p, rfl, .int s0, rfl, p, s0, rfl, rfl, .int n, rfl, p - s0, n, rfl, rfl, hn, s0, (p - s0) % n, rfl, rfl, q⟩

def spFirstOf : Sp := fun vs H Q _ => ∃ (v : V) (j : Nat) (W : WdS) (s : Src Str), vs = [v, .int (j : Int)] ∧ WdAt H v W ∧ 0 < W.size ∧ W.sources[j]? = some s ∧ Q (.int (firstAt W.size s.place s.since)) H
theorem ok_FirstOf (T : TX K mg) : Cal P w K mg base 2 "first_of" ["world", "source"] spFirstOf := by
  refine cal_of T.f_FirstOf T.g_FirstOf scFirstOf (fun vs H Q E h => ?_) (fun cdv A outer s H vs Q E hr h => ?_)
  · obtain ⟨v, j, W, s, rfl, _⟩ := h
    rfl
  · obtain ⟨v, j, W, s, rfl, hW, hn, hs, q⟩ := h
    obtain ⟨a, vk, vs, vy, rfl, ra, hk, his, hiy⟩ := hW.ex
    obtain ⟨b, xs, rfl, rb, hxs⟩ := list_at his
    obtain ⟨x, hx, hi⟩ := ims_at hxs hs
    obtain ⟨c, rfl, rc⟩ := src_at hi
    refine ⟨_, (pss_cons (ps_asg (pe_ix ix_tup (pe_ix ix_tup (pv 0) pe_int (fun _ _ => rfl)) (pv 1) (fun _ _ => rfl)) (pg_tup rfl (pgs_cons (pg_name (i := 2) scFirstOf.nd rfl (.inl rfl)) (pgs_cons (pg_name (i := 3) scFirstOf.nd rfl (.inl rfl)) (pgs_cons (pg_name (i := 4) scFirstOf.nd rfl (.inl rfl)) (pgs_cons (pg_name (i := 5) scFirstOf.nd rfl (.inl rfl)) (pgs_cons (pg_name (i := 6) scFirstOf.nd rfl (.inl rfl)) pgs_nil))))))) (pss_one (ps_ret (pe_cal (ok_FirstAt T) (hr.mono (by decide)) (by rfl) (pa_cons (pe_ix ix_tup (pv 0) pe_int (fun _ _ => rfl)) (pa_cons (pv 4) (pa_cons (pv 5) pa_nil))))))), ?_⟩
    refine ⟨.ref a, rfl, a, _, 2, .ref b, rfl, rfl, .inl ra, atI_nat (j := 2) rfl, .int j, rfl, b, xs, j, .ref c, rfl, rfl, .inl rb, atI_nat hx, ?_⟩
    refine ⟨c, _, rfl, .inl rc, rfl, _, _, rfl, _, _, rfl, _, _, rfl, _, _, rfl, _, _, rfl, rfl, ?_⟩
    exact ⟨.ref a, rfl, a, _, 0, .int W.size, rfl, rfl, .inl ra, atI_nat (j := 0) rfl, .int s.place, rfl, .int s.since, rfl, W.size, s.place, s.since, rfl, hn, q⟩

def spHandedOn : Sp := fun vs H Q _ => ∃ (old : Bool) (a : Addr) (ns : List Int), vs = [.str (keepS old), .ref a] ∧ H a = some (.lst (ns.map V.int)) ∧ 0 < ns.length ∧
  ∀ g, g ∈ ns → (∀ y ∈ ns, if old = true then g ≤ y else y ≤ g) → Q (.int g) H
theorem ok_HandedOn (T : TX K mg) : Cal P w K mg base 1 "handed_on" ["keeps", "origins"] spHandedOn := by
  refine cal_of T.f_HandedOn T.g_HandedOn scHandedOn (fun vs H Q E h => ?_) (fun cdv A outer s H vs Q E hr h => ?_)
  · obtain ⟨old, a, ns, rfl, _⟩ := h
    rfl
  · obtain ⟨old, a, ns, rfl, ha, hl, q⟩ := h
    refine ⟨_, (pss_one (ps_ret (pe_ifExp (pt_cmpR op_eq (pv 0) (pe_gs T.s_OLDEST (by rfl)) (nomark _)) (pe_callB (cr_min rfl) (by rfl) T.z_min (by decide +kernel) (pa_cons (pv 1) pa_nil)) (pe_callB (cr_max rfl) (by rfl) T.z_max (by decide +kernel) (pa_cons (pv 1) pa_nil))))), ?_⟩
    refine ⟨.str (keepS old), rfl, rfl, old, by rw [keep_eq], ?_⟩
    cases old with
    | true => exact ⟨.ref a, rfl, a, ns, rfl, .of ha, hl, fun g h1 h2 => q g h1 (fun y hy => by rw [if_pos rfl]; exact h2 y hy)⟩
    | false => exact ⟨.ref a, rfl, a, ns, rfl, .of ha, hl, fun g h1 h2 => q g h1 (fun y hy => by rw [if_neg Bool.false_ne_true]; exact h2 y hy)⟩

def spBears : Sp := fun vs H Q _ => ∃ (v : V) (j : Nat) (m : Int) (W : WdS) (y : Wy Str) (a : Addr) (ns : List Int), vs = [v, .int (j : Int), .int m, .ref a] ∧ WdAt H v W ∧ W.ways[j]? = some y ∧
  H a = some (.lst (ns.map V.int)) ∧ 0 < ns.length ∧ ∀ g, g ∈ ns → (∀ x ∈ ns, if y.old = true then g ≤ x else x ≤ g) → ∀ p, H p = none → Q (.ref p) (upd H p (.tup [.int g, .int (m + y.wait)]))
theorem ok_Bears (T : TX K mg) : Cal P w K mg base 2 "bears" ["world", "way", "moment", "origins"] spBears := by
  refine cal_of T.f_Bears T.g_Bears scBears (fun vs H Q E h => ?_) (fun cdv A outer s H vs Q E hr h => ?_)
  · obtain ⟨v, j, m, W, y, a, ns, rfl, _⟩ := h
    rfl
  · obtain ⟨v, j, m, W, y, c, ns, rfl, hW, hy, hc, hl, q⟩ := h
    obtain ⟨a, vk, vs, vy, rfl, ra, hk, his, hiy⟩ := hW.ex
    obtain ⟨b, xs, rfl, rb, hxs⟩ := list_at hiy
    obtain ⟨x, hx, hi⟩ := ims_at hxs hy
    obtain ⟨d, vp, vh, rfl, rd, hp, hh⟩ := way_at hi
    refine ⟨_, (pss_cons (ps_asg (pe_ix ix_tup (pe_ix ix_tup (pv 0) pe_int (fun _ _ => rfl)) (pv 1) (fun _ _ => rfl)) (pg_tup rfl (pgs_cons (pg_name (i := 4) scBears.nd rfl (.inl rfl)) (pgs_cons (pg_name (i := 5) scBears.nd rfl (.inl rfl)) (pgs_cons (pg_name (i := 6) scBears.nd rfl (.inl rfl)) (pgs_cons (pg_name (i := 7) scBears.nd rfl (.inl rfl)) (pgs_cons (pg_name (i := 8) scBears.nd rfl (.inl rfl)) pgs_nil))))))) (pss_one (ps_ret (pe_tup (pa_cons (pe_cal (ok_HandedOn T) (hr.mono (by decide)) (by rfl) (pa_cons (pv 6) (pa_cons (pv 3) pa_nil))) (pa_cons (pe_op op_add (pv 2) (pv 8)) pa_nil)))))), ?_⟩
    refine ⟨.ref a, rfl, a, _, 3, .ref b, rfl, rfl, .inl ra, atI_nat (j := 3) rfl, .int j, rfl, b, xs, j, .ref d, rfl, rfl, .inl rb, atI_nat hx, ?_⟩
    refine ⟨d, _, rfl, .inl rd, rfl, _, _, rfl, _, _, rfl, _, _, rfl, _, _, rfl, _, _, rfl, rfl, ?_⟩
    refine ⟨.str (keepS y.old), rfl, .ref c, rfl, y.old, c, ns, rfl, hc, hl, fun g h1 h2 => ?_⟩
    exact ⟨.int m, rfl, .int y.wait, rfl, m, y.wait, rfl, rfl, by show 2 ≤ sizeLine; decide, fun p hp => q g h1 h2 p hp⟩

def spNearest : Sp := fun vs H Q _ => ∃ (b a : Nat) (old : Bool), vs = [.int (b : Int), .int (a : Int), .str (keepS old)] ∧ b < 2 ^ 27 ∧ a ≤ 1000 ∧ ∀ r, Near b a old r → Q (.int r) H
theorem ok_Nearest (T : TX K mg) : Cal P w K mg base 1 "nearest" ["bits", "age", "keeps"] spNearest := by
  refine cal_of T.f_Nearest T.g_Nearest scNearest (fun vs H Q E h => ?_) (fun cdv A outer s H vs Q E hr h => ?_)
  · obtain ⟨b, a, old, rfl, _⟩ := h
    rfl
  · obtain ⟨b, a, old, rfl, hb, ha, q⟩ := h
    have hdiv : ((b : Int) / 2 ^ (a : Int).toNat).natAbs < 2 ^ 64 := by
      rw [Int.toNat_natCast]
      have e : ((b : Int) / 2 ^ a) = ((b / 2 ^ a : Nat) : Int) := by simp
      rw [e, Int.natAbs_natCast]
      have := Nat.div_le_self b (2 ^ a)
      omega
    refine ⟨_, (pss_cons (ps_if (pt_cmpR op_eq (pv 2) (pe_gs T.s_OLDEST (by rfl)) (nomark _)) (pss_one (ps_ret (pe_op op_sub (pe_bits (pe_op op_and (pv 0) (pe_op op_sub (pe_op op_shl pe_int (pv 1)) pe_int))) pe_int))) pss_nil) (pss_cons (ps_set (i := 3) scNearest.nd rfl (.inl rfl) (pe_op op_shl (pe_op op_shr (pv 0) (pv 1)) (pv 1))) (pss_one (ps_ret (pe_op op_sub (pe_bits (pe_op op_and (pv 3) (pe_un un_neg (pv 3)))) pe_int))))), ?_⟩
    refine ⟨.str (keepS old), rfl, rfl, old, by rw [keep_eq], ?_⟩
    cases old with
    | true =>
      refine iteT ⟨.int b, rfl, .int a, rfl, 2, a, rfl, rfl, ⟨by omega, by omega, by decide⟩, _, 1, rfl, rfl, b, _, rfl, rfl, _, rfl, _, 1, rfl, rfl, ?_⟩
      exact q _ (near_old b a)
    | false =>
      refine iteF ⟨.int b, rfl, .int a, rfl, b, a, rfl, rfl, by omega, .int a, rfl, _, a, rfl, rfl, ⟨by omega, by omega, hdiv⟩, ?_⟩
      refine ⟨_, rfl, _, rfl, _, rfl, _, _, rfl, rfl, _, rfl, _, 1, rfl, rfl, ?_⟩
      exact q _ (near_young b a)
end
end Ra
end

section
set_option Elab.async false
set_option linter.all false
set_option maxRecDepth 100000
set_option maxHeartbeats 4000000
/-! walks: what stands in a table -/
namespace Ra
open PySem PySem.Spec PyProof.Rows L2 RZ

theorem im_opt {H : Hp} {v : V} {x : Option Int} (h : Im H v (optD x)) : v = optV x := by
  cases x with
  | none => exact im_non h
  | some i => exact im_int h
theorem tv_at {W : WdS} {T : Tb} (ht : TbOk W T) {k : Str} {p a : Int} (hk : k ∈ W.kinds) (h0 : 0 ≤ p) (h1 : p < W.size) (h2 : 0 ≤ a) (h3 : a ≤ 26) :
    ∃ r s x, T[idx W.kinds k]? = some r ∧ r[p.toNat]? = some s ∧ s[a.toNat]? = some x ∧ tv W T k p a = x := by
  have hi : idx W.kinds k < T.length := by
    rw [ht.n]
    exact (List.getElem?_eq_some_iff.mp (idx_at hk).1).1
  have hr := List.getElem_mem hi
  have hp : p.toNat < (T[idx W.kinds k]).length := by
    rw [ht.r _ hr]
    omega
  have hs := List.getElem_mem hp
  have ha : a.toNat < ((T[idx W.kinds k])[p.toNat]).length := by
    rw [ht.s _ hr _ hs]
    omega
  refine ⟨_, _, _, List.getElem?_eq_getElem hi, List.getElem?_eq_getElem hp, List.getElem?_eq_getElem ha, ?_⟩
  unfold tv
  rw [List.getElem?_eq_getElem hi, Option.getD_some, List.getElem?_eq_getElem hp, Option.getD_some, List.getElem?_eq_getElem ha, Option.getD_some]
theorem min26 (a : Int) : (if (26 : Int) < a then 26 else a) = min a 26 := by
  split <;> omega
/-- what the reader's world and table are -/
structure Rdr (H : Hp) (vw vt : V) (W : WdS) (T : Tb) : Prop where
  w : WdAt H vw W
  t : Im H vt (encT T)
  ok : WdOk W
  tb : TbOk W T
theorem Rdr.sm {H H' : Hp} {vw vt : V} {W : WdS} {T : Tb} (e : Same H H') (R : Rdr H vw vt W T) : Rdr H' vw vt W T := ⟨R.w.sm e, R.t.sm e, R.ok, R.tb⟩
def hasB (W : WdS) (T : Tb) (k : Str) (o a : Int) : Bool := match tv W T k (o % W.size) (min a 26) with
  | none => false
  | some x => decide (x ≤ o)
theorem hasB_iff (W : WdS) (T : Tb) (k : Str) (o a : Int) : hasB W T k o a = true ↔ HasT W.size (tv W T) k o a := by
  unfold hasB HasT
  cases tv W T k (o % W.size) (min a 26) with
  | none => exact ⟨fun h => (nomatch h), fun ⟨x, h, _⟩ => (nomatch h)⟩
  | some x => exact ⟨fun h => ⟨x, rfl, of_decide_eq_true h⟩, fun ⟨y, h, hle⟩ => (by cases h; exact decide_eq_true hle)⟩

section
variable {P : Program} {w : World} {K : PySem.W.Frag} {mg : Str → Option Value} {base : Heap}

def spStands : Sp := fun vs H Q _ => ∃ (vw vt : V) (W : WdS) (T : Tb) (k : Str) (p a : Int), vs = [vw, vt, .str k, .int p, .int a] ∧ Rdr H vw vt W T ∧ k ∈ W.kinds ∧ 0 ≤ a ∧
  Q (optV (tv W T k (p % W.size) (min a 26))) H
theorem ok_Stands (T : TX K mg) : Cal P w K mg base 1 "stands" ["world", "table", "kind", "place", "age"] spStands := by
  refine cal_of T.f_Stands T.g_Stands scStands (fun vs H Q E h => ?_) (fun cdv A outer s H vs Q E hr h => ?_)
  · obtain ⟨vw, vt, W, Tt, k, p, a, rfl, _⟩ := h
    rfl
  · obtain ⟨vw, vt, W, Tt, k, p, a, rfl, R, hk, ha, q⟩ := h
    obtain ⟨aw, vk, vs, vy, rfl, raw, hvk, _, _⟩ := R.w.ex
    obtain ⟨ak, ok, rfl, hak, hnd⟩ := hvk
    obtain ⟨at_, xs, rfl, rat, hxs⟩ := list_at R.t
    have n0 := R.ok.n0
    have hm := mod_rng R.ok.n0 p
    obtain ⟨r, sr, x, e1, e2, e3, e4⟩ := tv_at R.tb hk hm.1 hm.2 (a := min a 26) (by omega) (by omega)
    obtain ⟨v1, hv1, i1⟩ := ims_at hxs e1
    obtain ⟨a1, xs1, rfl, r1, hxs1⟩ := list_at i1
    obtain ⟨v2, hv2, i2⟩ := ims_at hxs1 e2
    obtain ⟨a2, xs2, rfl, r2, hxs2⟩ := list_at i2
    obtain ⟨v3, hv3, i3⟩ := ims_at hxs2 e3
    have ev := im_opt i3
    subst ev
    refine ⟨_, (pss_one (ps_ret (pe_ix ix_tup (pe_ix ix_tup (pe_ix ix_tup (pv 1) (pe_bmZ PySem.F.slot_tuple_index PySem.F.type_tuple_index mt_tup_index (pe_ix ix_tup (pv 0) pe_int (fun _ _ => rfl)) (pa_cons (pv 2) pa_nil)) (fun _ _ => rfl)) (pe_op op_mod (pv 3) (pe_ix ix_tup (pv 0) pe_int (fun _ _ => rfl))) (fun _ _ => rfl)) (pe_callB (call_min2 rfl) (by rfl) T.z_min (by decide +kernel) (pa_cons (pv 4) (pa_cons (pe_gi T.i_READY (by rfl)) pa_nil))) (fun _ _ => rfl)))), ?_⟩
    refine ⟨.ref at_, rfl, .ref aw, rfl, aw, _, 1, .ref ak, rfl, rfl, .inl raw, atI_nat (j := 1) rfl, ⟨ak, ok, _, rfl, hak, hnd⟩, .str k, rfl, ?_⟩
    refine ⟨ak, W.kinds, k, idx W.kinds k, rfl, rfl, .inl (.inr ⟨ok, hak⟩), (idx_at hk).1, (idx_at hk).2, ?_⟩
    refine ⟨at_, xs, _, .ref a1, rfl, rfl, .inl rat, atI_nat hv1, ?_⟩
    refine ⟨.int p, rfl, .ref aw, rfl, aw, _, 0, .int W.size, rfl, rfl, .inl raw, atI_nat (j := 0) rfl, p, W.size, rfl, rfl, by omega, ?_⟩
    refine ⟨a1, xs1, _, .ref a2, rfl, rfl, .inl r1, at_of (Int.toNat_of_nonneg hm.1).symm hv2, ?_⟩
    refine ⟨.int a, rfl, a, 26, rfl, a2, xs2, _, optV x, rfl, rfl, .inl r2, at_of (j := (min a 26).toNat) (by rw [Int.toNat_of_nonneg (by omega)]; exact min26 a) hv3, ?_⟩
    rw [e4] at q
    exact q

def spHas : Sp := fun vs H Q _ => ∃ (vw vt : V) (W : WdS) (T : Tb) (k : Str) (o a : Int), vs = [vw, vt, .str k, .int o, .int a] ∧ Rdr H vw vt W T ∧ k ∈ W.kinds ∧ 0 ≤ a ∧ Q (.bl (hasB W T k o a)) H
theorem ok_Has (T : TX K mg) : Cal P w K mg base 2 "has" ["world", "table", "kind", "origin", "age"] spHas := by
  refine cal_of T.f_Has T.g_Has scHas (fun vs H Q E h => ?_) (fun cdv A outer s H vs Q E hr h => ?_)
  · obtain ⟨vw, vt, W, Tt, k, p, a, rfl, _⟩ := h
    rfl
  · obtain ⟨vw, vt, W, Tt, k, o, a, rfl, R, hk, ha, q⟩ := h
    refine ⟨_, (pss_cons (ps_set (i := 5) scHas.nd rfl (.inl rfl) (pe_cal (ok_Stands T) (hr.mono (by decide)) (by rfl) (pa_cons (pv 0) (pa_cons (pv 1) (pa_cons (pv 2) (pa_cons (pv 3) (pa_cons (pv 4) pa_nil))))))) (pss_one (ps_ret (pe_and (pe_cmp (pc_notN (pv 5)) rfl) (pe_one (pe_cmpR op_le (pv 5) (pv 3) (nomark _))))))), ?_⟩
    refine ⟨vw, rfl, vt, rfl, .str k, rfl, .int o, rfl, .int a, rfl, vw, vt, W, Tt, k, o, a, rfl, R, hk, ha, ?_⟩
    unfold hasB at q
    cases e : tv W Tt k (o % W.size) (min a 26) with
    | none =>
      rw [e] at q
      exact ⟨.non, rfl, false, rfl, iteF q⟩
    | some x =>
      rw [e] at q
      exact ⟨.int x, rfl, true, rfl, iteT ⟨.int x, rfl, .int o, rfl, x, o, rfl, rfl, q⟩⟩

def spIsLacked : Sp := fun vs H Q _ => ∃ (vw vt : V) (W : WdS) (T : Tb) (j : Nat) (s : Src Str), vs = [vw, vt, .int (j : Int)] ∧ Rdr H vw vt W T ∧ W.sources[j]? = some s ∧
  Q (.bl (!hasB W T s.kind (firstAt W.size s.place s.since - s.age) s.age)) H
theorem ok_IsLacked (T : TX K mg) : Cal P w K mg base 3 "is_lacked" ["world", "table", "source"] spIsLacked := by
  refine cal_of T.f_IsLacked T.g_IsLacked scIsLacked (fun vs H Q E h => ?_) (fun cdv A outer s H vs Q E hr h => ?_)
  · obtain ⟨vw, vt, W, Tt, j, s, rfl, _⟩ := h
    rfl
  · obtain ⟨vw, vt, W, Tt, j, sr, rfl, R, hj, q⟩ := h
    have n0 := R.ok.n0
    have S := R.ok.srcs sr (List.mem_of_getElem? hj)
    obtain ⟨a, vk, vs, vy, rfl, ra, hk, his, hiy⟩ := R.w.ex
    obtain ⟨b, xs, rfl, rb, hxs⟩ := list_at his
    obtain ⟨x, hx, hi⟩ := ims_at hxs hj
    obtain ⟨c, rfl, rc⟩ := src_at hi
    refine ⟨_, (pss_cons (ps_asg (pe_ix ix_tup (pe_ix ix_tup (pv 0) pe_int (fun _ _ => rfl)) (pv 2) (fun _ _ => rfl)) (pg_tup rfl (pgs_cons (pg_name (i := 3) scIsLacked.nd rfl (.inl rfl)) (pgs_cons (pg_name (i := 4) scIsLacked.nd rfl (.inl rfl)) (pgs_cons (pg_name (i := 5) scIsLacked.nd rfl (.inl rfl)) (pgs_cons (pg_name (i := 6) scIsLacked.nd rfl (.inl rfl)) (pgs_cons (pg_name (i := 7) scIsLacked.nd rfl (.inl rfl)) pgs_nil))))))) (pss_one (ps_ret (pe_not (pe_cal (ok_Has T) (hr.mono (by decide)) (by rfl) (pa_cons (pv 0) (pa_cons (pv 1) (pa_cons (pv 3) (pa_cons (pe_op op_sub (pe_cal (ok_FirstOf T) (hr.mono (by decide)) (by rfl) (pa_cons (pv 0) (pa_cons (pv 2) pa_nil))) (pv 4)) (pa_cons (pv 4) pa_nil)))))))))), ?_⟩
    refine ⟨.ref a, rfl, a, _, 2, .ref b, rfl, rfl, .inl ra, atI_nat (j := 2) rfl, .int j, rfl, b, xs, j, .ref c, rfl, rfl, .inl rb, atI_nat hx, ?_⟩
    refine ⟨c, _, rfl, .inl rc, rfl, _, _, rfl, _, _, rfl, _, _, rfl, _, _, rfl, _, _, rfl, rfl, ?_⟩
    refine ⟨.ref a, rfl, vt, rfl, .str sr.kind, rfl, .ref a, rfl, .int j, rfl, .ref a, j, W, sr, rfl, R.w, by omega, hj, ?_⟩
    refine ⟨.int sr.age, rfl, _, sr.age, rfl, rfl, .int sr.age, rfl, .ref a, vt, W, Tt, sr.kind, _, sr.age, rfl, R, S.kin, S.a0, _, rfl, q⟩

def spThereAt : Sp := fun vs H Q _ => ∃ (vw vt vp : V) (W : WdS) (T : Tb) (c : Prt Str) (p a : Int), vs = [vw, vt, vp, .int p, .int a] ∧ Rdr H vw vt W T ∧ Im H vp (encP c) ∧ c.kind ∈ W.kinds ∧ 0 ≤ a ∧
  Q (optV (thereAt W.size (tv W T) c.kind p a)) H
theorem ok_ThereAt (T : TX K mg) : Cal P w K mg base 2 "there_at" ["world", "table", "part", "place", "age"] spThereAt := by
  refine cal_of T.f_ThereAt T.g_ThereAt scThereAt (fun vs H Q E h => ?_) (fun cdv A outer s H vs Q E hr h => ?_)
  · obtain ⟨vw, vt, vp, W, Tt, c, p, a, rfl, _⟩ := h
    rfl
  · obtain ⟨vw, vt, vp, W, Tt, c, p, a, rfl, R, hp, hk, ha, q⟩ := h
    obtain ⟨d, rfl, rd⟩ := prt_at hp
    refine ⟨_, (pss_cons (ps_set (i := 5) scThereAt.nd rfl (.inl rfl) (pe_cal (ok_Stands T) (hr.mono (by decide)) (by rfl) (pa_cons (pv 0) (pa_cons (pv 1) (pa_cons (pe_ix ix_tup (pv 2) pe_int (fun _ _ => rfl)) (pa_cons (pe_op op_sub (pv 3) (pv 4)) (pa_cons (pv 4) pa_nil))))))) (pss_one (ps_ret (pe_ifExp (pt_cmp (pc_isN (pv 5)) rfl) pe_non (pe_op op_add (pv 5) (pv 4)))))), ?_⟩
    refine ⟨vw, rfl, vt, rfl, .ref d, rfl, d, _, 0, .str c.kind, rfl, rfl, .inl rd, atI_nat (j := 0) rfl, .int p, rfl, .int a, rfl, p, a, rfl, rfl, .int a, rfl, ?_⟩
    refine ⟨vw, vt, W, Tt, c.kind, p - a, a, rfl, R, hk, ha, ?_⟩
    unfold thereAt at q
    cases e : tv W Tt c.kind ((p - a) % W.size) (min a 26) with
    | none =>
      rw [e] at q
      exact ⟨.non, rfl, true, rfl, iteT q⟩
    | some x =>
      rw [e] at q
      exact ⟨.int x, rfl, false, rfl, iteF ⟨.int x, rfl, .int a, rfl, x, a, rfl, rfl, q⟩⟩

def spSoonest : Sp := fun vs H Q _ => ∃ (vw vt vp : V) (W : WdS) (T : Tb) (c : Prt Str) (p lo hi : Int), vs = [vw, vt, vp, .int p, .int lo, .int hi] ∧ Rdr H vw vt W T ∧ Im H vp (encP c) ∧ c.kind ∈ W.kinds ∧ 0 ≤ lo ∧ lo ≤ 1000 ∧ -1000 ≤ hi ∧ hi ≤ 1000 ∧
  ∀ r, Soon W.size (tv W T) c.kind p lo hi r → Q (optV r) H
/-- the search so far, below an age -/
def SoonTo (n : Int) (t : Tv Str) (k : Str) (p lo up : Int) (f l : Option Int) : Prop :=
  match f with
  | none => l = none ∧ ∀ a, lo ≤ a → a < up → thereAt n t k p a = none
  | some b => lo ≤ b ∧ b < up ∧ ∃ m, l = some m ∧ thereAt n t k p b = some m ∧ ∀ a m', lo ≤ a → a < up → thereAt n t k p a = some m' → m ≤ m'
theorem soon_end {n : Int} {t : Tv Str} {k : Str} {p lo hi up : Int} {f l : Option Int} (h : SoonTo n t k p lo up f l) (hu : up = hi + 1 ∨ (up = lo ∧ hi < lo)) : Soon n t k p lo hi f := by
  cases f with
  | none =>
    intro a h1 h2
    exact h.2 a h1 (by omega)
  | some b =>
    obtain ⟨h1, h2, m, h3, h4, h5⟩ := h
    exact ⟨h1, by omega, m, h4, fun a m' q1 q2 q3 => h5 a m' q1 (by omega) q3⟩
theorem soon_skip {n : Int} {t : Tv Str} {k : Str} {p lo up : Int} {f l : Option Int} (h : SoonTo n t k p lo up f l)
    (hn : ∀ m, thereAt n t k p up = some m → ∃ m', f ≠ none ∧ l = some m' ∧ m' ≤ m) : SoonTo n t k p lo (up + 1) f l := by
  cases f with
  | none =>
    refine ⟨h.1, fun a h1 h2 => ?_⟩
    by_cases e : a = up
    · subst e
      cases e2 : thereAt n t k p a with
      | none => rfl
      | some m => exact absurd rfl (hn m e2).choose_spec.1
    · exact h.2 a h1 (by omega)
  | some b =>
    obtain ⟨h1, h2, m, h3, h4, h5⟩ := h
    refine ⟨h1, by omega, m, h3, h4, fun a m' q1 q2 q3 => ?_⟩
    by_cases e : a = up
    · subst e
      obtain ⟨m2, _, e2, hle⟩ := hn m' q3
      rw [h3] at e2
      cases e2
      exact hle
    · exact h5 a m' q1 (by omega) q3
theorem soon_take {n : Int} {t : Tv Str} {k : Str} {p lo up : Int} {f l : Option Int} {m : Int} (h : SoonTo n t k p lo up f l) (hlo : lo ≤ up) (hm : thereAt n t k p up = some m)
    (hl : f = none ∨ ∀ m', l = some m' → m < m') : SoonTo n t k p lo (up + 1) (some up) (some m) := by
  refine ⟨hlo, by omega, m, rfl, hm, fun a m' q1 q2 q3 => ?_⟩
  by_cases e : a = up
  · subst e
    rw [hm] at q3
    cases q3
    exact Int.le_refl _
  · cases f with
    | none =>
      rw [h.2 a q1 (by omega)] at q3
      cases q3
    | some b =>
      obtain ⟨h1, h2, m0, h3, h4, h5⟩ := h
      rcases hl with hl | hl
      · cases hl
      · have := hl m0 h3
        have := h5 a m' q1 (by omega) q3
        omega
theorem ok_Soonest (T : TX K mg) : Cal P w K mg base 3 "soonest" ["world", "table", "part", "place", "low", "high"] spSoonest := by
  refine cal_of T.f_Soonest T.g_Soonest scSoonest (fun vs H Q E h => ?_) (fun cdv A outer s H vs Q E hr h => ?_)
  · obtain ⟨vw, vt, vp, W, Tt, c, p, lo, hi, rfl, _⟩ := h
    rfl
  · obtain ⟨vw, vt, vp, W, Tt, c, p, lo, hi, rfl, R, hp, hk, h0, h1, h2, h3, q⟩ := h
    refine ⟨_, (pss_cons (ps_set (i := 6) scSoonest.nd rfl (.inl rfl) pe_non) (pss_cons (ps_set (i := 7) scSoonest.nd rfl (.inl rfl) pe_non) (pss_cons (ps_for PassesOwn.never rfl (pi_range2 (by rfl) T.z_range (pa_cons (pv 4) (pa_cons (pe_op op_add (pv 5) pe_int) pa_nil))) (pg_name (i := 8) scSoonest.nd rfl (.inl rfl)) (pss_cons (ps_set (i := 9) scSoonest.nd rfl (.inl rfl) (pe_cal (ok_ThereAt T) (hr.mono (by decide)) (by rfl) (pa_cons (pv 0) (pa_cons (pv 1) (pa_cons (pv 2) (pa_cons (pv 3) (pa_cons (pv 8) pa_nil))))))) (pss_one (ps_if (PW.pt (pw_and (pt_cmp (pc_notN (pv 9)) rfl) (pw_and1 (PW.pt (pw_or (pt_cmp (pc_isN (pv 6)) rfl) (pw_or1 (pt_cmpR op_lt (pv 9) (pv 7) (nomark _)))))))) (pss_one (ps_par (i := 6) (j := 7) rfl scSoonest.nd rfl rfl (by decide) rfl rfl (pa_cons (pv 8) (pa_cons (pv 9) pa_nil)) (by rfl))) pss_nil)))) (pss_one (ps_ret (pv 6)))))), ?_⟩
    refine ⟨.int lo, rfl, .int hi, rfl, hi, 1, rfl, rfl, lo, hi + 1, rfl, ⟨by omega, by omega, by omega, by omega⟩, ?_⟩
    refine for_range (lo := lo) (n := (hi + 1 - lo).toNat) (fun i σ H2 => H2 = H ∧ ∃ f l y1 y2, σ = [some vw, some vt, some vp, some (.int p), some (.int lo), some (.int hi), some (optV f), some (optV l), y1, y2] ∧
      SoonTo W.size (tv W Tt) c.kind p lo (lo + i) f l) ⟨rfl, none, none, none, none, rfl, rfl, fun a q1 q2 => by omega⟩ ?_ ?_
    · rintro i σ H2 hi2 ⟨rfl, f, l, y1, y2, rfl, hS⟩
      refine ⟨vw, rfl, vt, rfl, vp, rfl, .int p, rfl, .int (lo + i), rfl, vw, vt, vp, W, Tt, c, p, lo + i, rfl, R, hp, hk, by omega, ?_⟩
      have e1 : lo + ((i + 1 : Nat) : Int) = lo + i + 1 := by omega
      cases e : thereAt W.size (tv W Tt) c.kind p (lo + i) with
      | none =>
        refine ⟨.non, rfl, false, rfl, iteF (iteF ⟨rfl, f, l, _, _, rfl, ?_⟩)⟩
        rw [e1]
        exact soon_skip hS fun m hm => by rw [e] at hm; cases hm
      | some m =>
        refine ⟨.int m, rfl, true, rfl, iteT ⟨optV f, rfl, ?_⟩⟩
        cases f with
        | none =>
          refine ⟨true, rfl, iteT (iteT ⟨.int (lo + i), rfl, .int m, rfl, _, _, rfl, rfl, some (lo + i), some m, _, _, rfl, ?_⟩)⟩
          rw [e1]
          exact soon_take hS (by omega) e (.inl rfl)
        | some b =>
          obtain ⟨_, _, m0, rfl, _⟩ := id hS
          refine ⟨false, rfl, iteF ⟨.int m, rfl, .int m0, rfl, m, m0, rfl, rfl, _, rfl, ?_⟩⟩
          refine ite2 (fun hlt => ?_) (fun hlt => ?_)
          · refine ⟨.int (lo + i), rfl, .int m, rfl, _, _, rfl, rfl, some (lo + i), some m, _, _, rfl, ?_⟩
            rw [e1]
            exact soon_take hS (by omega) e (.inr fun m' hm' => by cases hm'; exact of_decide_eq_true hlt)
          · refine ⟨rfl, some b, some m0, _, _, rfl, ?_⟩
            rw [e1]
            refine soon_skip hS fun m1 hm1 => ?_
            rw [e] at hm1
            cases hm1
            exact ⟨m0, fun z => (nomatch z), rfl, Int.not_lt.mp fun z => hlt (decide_eq_true z)⟩
    · rintro σ H2 ⟨rfl, f, l, y1, y2, rfl, hS⟩
      exact ⟨optV f, rfl, q f (soon_end hS (by omega))⟩
end
end Ra
end

section
set_option Elab.async false
set_option linter.all false
set_option maxRecDepth 100000
set_option maxHeartbeats 4000000
/-! walks: the search for a leak -/
namespace Ra
open PySem PySem.Spec PyProof.Rows L2 RZ

theorem inV_none (fs : List (Option Int)) : inV .non (fs.map optV) = decide (none ∈ fs) := by
  induction fs with
  | nil => rfl
  | cons f fs ih =>
    cases f with
    | none => rw [decide_eq_true (List.mem_cons_self ..)]; rfl
    | some a =>
      have e : inV .non ((some a :: fs).map optV) = inV .non (fs.map optV) := rfl
      rw [e, ih]
      congr 1
      rw [eq_iff_iff]
      exact ⟨fun h => List.mem_cons_of_mem _ h, fun h => by
        rcases List.mem_cons.mp h with z | z
        · cases z
        · exact z⟩
theorem flat_opt (fs : List (Option Int)) : (fs.map optV).all flatV = true := by
  rw [List.all_eq_true]
  intro v hv
  obtain ⟨f, _, rfl⟩ := List.mem_map.mp hv
  cases f <;> rfl
theorem opt_all : ∀ fs : List (Option Int), none ∉ fs → ∃ ms : List Int, fs = ms.map some
  | [], _ => ⟨[], rfl⟩
  | f :: fs, h => by
    obtain ⟨ms, e⟩ := opt_all fs fun z => h (List.mem_cons_of_mem _ z)
    cases f with
    | none => exact absurd (List.mem_cons_self ..) h
    | some a => exact ⟨a :: ms, by rw [e]; rfl⟩
theorem map_optV (ms : List Int) : (ms.map some).map optV = ms.map V.int := by
  rw [List.map_map]
  rfl
theorem ty_yes {σ : L2.St} {H : Hp} {F G : Hp → Prop} (h : F H) : tYes σ H (fun b H3 => if b = true then F H3 else G H3) := by
  show (if true = true then F H else G H)
  rw [if_pos rfl]
  exact h
theorem small_line {n : Nat} (h : n ≤ 1000) : n ≤ sizeLine := Nat.le_trans h (by decide)
theorem small_lt {n : Nat} (h : n ≤ 1000) : n < sizeLine := Nat.lt_of_le_of_lt h (by decide)
theorem take_snoc {α : Type} {l : List α} {i : Nat} {x : α} (h : l[i]? = some x) : l.take (i + 1) = l.take i ++ [x] := by
  rw [List.take_add_one, h]
  rfl

section
variable {P : Program} {w : World} {K : PySem.W.Frag} {mg : Str → Option Value} {base : Heap}

def spLeastMoment : Sp := fun vs H Q _ => ∃ (vw vt : V) (W : WdS) (T : Tb) (j : Nat) (y : Wy Str) (p : Int) (as : List Int) (b : Addr), vs = [vw, vt, .int (j : Int), .int p, .ref b] ∧ Rdr H vw vt W T ∧
  W.ways[j]? = some y ∧ Rd H b (.tup (as.map V.int)) ∧ as.length = y.parts.length ∧ (∀ a ∈ as, 0 ≤ a) ∧
  ∀ H' v, Same H H' → ((v = .non ∧ ∃ q ∈ y.parts.zip as, thereAt W.size (tv W T) q.1.kind p q.2 = none) ∨ ∃ M, v = .int M ∧ LeastM W.size (tv W T) y p as M) → Q v H'
set_option maxHeartbeats 8000000 in
theorem ok_LeastMoment (T : TX K mg) : Cal P w K mg base 3 "least_moment" ["world", "table", "way", "place", "ages"] spLeastMoment := by
  refine cal_of T.f_LeastMoment T.g_LeastMoment scLeastMoment (fun vs H Q E h => ?_) (fun cdv A outer s H vs Q E hr h => ?_)
  · obtain ⟨vw, vt, W, Tt, j, y, p, as, b, rfl, _⟩ := h
    rfl
  · obtain ⟨vw, vt, W, Tt, j, y, p, as, b, rfl, R, hj, hb, hlen, hpos, q⟩ := h
    have Y := R.ok.ways y (List.mem_of_getElem? hj)
    have n0 := R.ok.n0
    obtain ⟨aw, vk, vs, vy, rfl, raw, _, _, hiy⟩ := R.w.ex
    obtain ⟨ay, xs, rfl, ray, hxs⟩ := list_at hiy
    obtain ⟨x, hx, hi⟩ := ims_at hxs hj
    obtain ⟨c, vp, vh, rfl, rc, hvp, hvh⟩ := way_at hi
    obtain ⟨ap, ps, rfl, rap, hps⟩ := list_at hvp
    have hl3 := Y.p1
    have hpsl : ps.length = y.parts.length := by rw [hps.1, List.length_map]
    generalize hfs : (y.parts.zip as).map (fun q => thereAt W.size (tv W Tt) q.1.kind p q.2) = fs
    have hfl : fs.length = y.parts.length := by
      rw [← hfs, List.length_map, List.length_zip]
      omega
    refine ⟨_, (pss_cons (ps_setLc (i := 5) (own := [("part", 6), ("age", 7)]) (g := gTup K 2 (gCons (gName 6) (gCons (gName 7) gNil))) rfl scLeastMoment.nd rfl rfl (sw_true rfl rfl rfl (by decide +kernel)) (pi_zipA (by rfl) T.z_zip (pa_cons (pe_ix ix_tup (pe_ix ix_tup (pe_ix ix_tup (pv 0) pe_int (fun _ _ => rfl)) (pv 2) (fun _ _ => rfl)) pe_int (fun _ _ => rfl)) (pa_cons (pv 4) pa_nil))) (blkOk_by (N := ["world", "table", "way", "place", "ages", "found", "part", "age"]) (sc := defScope sLeastMoment) (by decide +kernel)) (fun _ _ _ _ _ => (pg_tup rfl (pgs_cons (pg_name (i := 6) scLeastMoment.nd rfl (.inl rfl)) (pgs_cons (pg_name (i := 7) scLeastMoment.nd rfl (.inl rfl)) pgs_nil)))) (fun _ _ _ _ _ => pts_nil) (fun _ _ _ _ _ => (pe_cal (ok_ThereAt T) (hr.mono (by decide)) (by rfl) (pa_cons (pv 0) (pa_cons (pv 1) (pa_cons (pv 6) (pa_cons (pv 3) (pa_cons (pv 7) pa_nil)))))))) (pss_cons (ps_if (pt_cmpR op_in_seq pe_non (pv 5) (by rfl)) (pss_one (ps_ret pe_non)) pss_nil) (pss_one (ps_ret (pe_callB (cr_max rfl) (by rfl) T.z_max (by decide +kernel) (pa_cons (pe_op op_cat (pe_lst (pa_cons (pe_cal (ok_FirstAt T) (hr.mono (by decide)) (by rfl) (pa_cons (pe_ix ix_tup (pv 0) pe_int (fun _ _ => rfl)) (pa_cons (pv 3) (pa_cons pe_int pa_nil)))) pa_nil)) (pv 5)) pa_nil)))))), ?_⟩
    refine ⟨.ref aw, rfl, aw, _, 3, .ref ay, rfl, rfl, .inl raw, atI_nat (j := 3) rfl, .int j, rfl, ay, xs, j, .ref c, rfl, rfl, .inl ray, atI_nat hx, c, _, 1, .ref ap, rfl, rfl, .inl rc, atI_nat (j := 1) rfl, ?_⟩
    refine ⟨.ref b, rfl, ap, b, ps, as.map V.int, rfl, .inr ⟨.inl rap, .inl hb, fun D hD => ?_⟩⟩
    refine lc_it (walk_zipT (n := y.parts.length) (by rw [hpsl, List.length_map, hlen]; omega)) (fun i H' => Same H H' ∧ H' D = some (.lst ((fs.take i).map optV))) ⟨sm_new hD, upd_same⟩
      (fun i H' _ ⟨s1, _⟩ => ⟨.inl (rd_sm s1 rap), .inl (rd_sm s1 hb)⟩) ?_ ?_
    · rintro i x0 H1 H2 hlt ⟨s1, eD⟩ ⟨N, x1, x2, rfl, nN, rfl, e1, e2⟩
      dsimp only at e1 e2
      obtain ⟨pt, hp⟩ : ∃ pt, y.parts[i]? = some pt := ⟨_, List.getElem?_eq_getElem hlt⟩
      obtain ⟨a, ha⟩ : ∃ a, as[i]? = some a := ⟨_, List.getElem?_eq_getElem (by omega)⟩
      have hfi : fs[i]? = some (thereAt W.size (tv W Tt) pt.kind p a) := by
        rw [← hfs, List.getElem?_map, zip_of hp ha]
        rfl
      have ex2 : x2 = .int a := by
        rw [List.getElem?_map, ha] at e2
        exact (Option.some.inj e2).symm
      subst ex2
      have i1 : Im H x1 (encP pt) := by
        obtain ⟨z, hz, iz⟩ := ims_at hps hp
        rw [hz] at e1
        cases e1
        exact iz
      have s2 : Same H (upd H1 N (.tup [x1, .int a])) := sm_then s1 nN
      have nD : D ≠ N := ne_of_none eD nN
      refine ⟨N, _, rfl, .inl (.inl upd_same), rfl, x1, _, rfl, .int a, _, rfl, rfl, rfl, ty_yes ?_⟩
      refine ⟨.ref aw, rfl, vt, rfl, x1, rfl, .int p, rfl, .int a, rfl, .ref aw, vt, x1, W, Tt, pt, p, a, rfl, R.sm s2, i1.sm s2, (Y.parts _ (List.mem_of_getElem? hp)).kin, hpos _ (List.mem_of_getElem? ha), ?_⟩
      refine ⟨_, by rw [upd_ne nD]; exact eD, small_lt (by rw [List.length_map, List.length_take]; omega), sm_out s2 hD, ?_⟩
      rw [upd_same, take_snoc hfi, List.map_append]
      rfl
    · rintro H1 ⟨s1, eD⟩
      rw [List.take_of_length_le (by omega)] at eD
      have R1 := R.sm s1
      refine ⟨.ref D, rfl, D, _, rfl, .inl (.of eD), rfl, flat_opt fs, _, rfl, ?_⟩
      rw [if_neg Bool.false_ne_true, inV_none]
      refine ite2 (fun hn => ?_) (fun hn => ?_)
      · have hm := of_decide_eq_true hn
        rw [← hfs] at hm
        obtain ⟨z, hz, e⟩ := List.mem_map.mp hm
        exact q H1 .non s1 (.inl ⟨rfl, z, hz, e⟩)
      · obtain ⟨ms, rfl⟩ := opt_all fs fun z => hn (decide_eq_true z)
        rw [map_optV] at eD
        rw [List.length_map] at hfl
        refine ⟨.ref aw, rfl, aw, _, 0, .int W.size, rfl, rfl, .inl (rd_sm s1 raw), atI_nat (j := 0) rfl, .int p, rfl, W.size, p, 0, rfl, by omega, small_line (by show 1 ≤ 1000; decide), fun l nl => ?_⟩
        have nD : D ≠ l := ne_of_none eD nl
        refine ⟨.ref D, rfl, l, D, _, _, rfl, rfl, upd_same, by rw [upd_ne nD]; exact eD, small_line (by rw [List.length_map]; show 1 + ms.length ≤ 1000; omega), fun l2 nl2 => ?_⟩
        refine ⟨l2, firstAt W.size p 0 :: ms, rfl, .of (by rw [upd_same]; rfl), by simp, fun M hM hmax => ?_⟩
        refine q _ (.int M) (sm_then (sm_then s1 nl) nl2) (.inr ⟨M, rfl, ms, ⟨by rw [List.length_zip]; omega, fun i z m hz hm => ?_⟩, hM, hmax⟩)
        have : ((y.parts.zip as).map (fun q => thereAt W.size (tv W Tt) q.1.kind p q.2))[i]? = some (some m) := by rw [hfs, List.getElem?_map, hm]; rfl
        rw [List.getElem?_map, hz] at this
        exact Option.some.inj this

theorem leastM_uniq {n : Int} {t : Tv Str} {y : Wy Str} {p : Int} {as : List Int} {M M' : Int} (h : LeastM n t y p as M) (h' : LeastM n t y p as M') : M = M' := by
  obtain ⟨ms, a1, a2, a3⟩ := h
  obtain ⟨ms', b1, b2, b3⟩ := h'
  have e : ms = ms' := by
    refine List.ext_getElem? fun i => ?_
    cases e1 : ms[i]? with
    | none =>
      have h1 := List.getElem?_eq_none_iff.mp e1
      exact (List.getElem?_eq_none_iff.mpr (by rw [← b1.1, a1.1]; exact h1)).symm
    | some m =>
      have hi : i < ms'.length := by rw [← b1.1, a1.1]; exact (List.getElem?_eq_some_iff.mp e1).1
      have hz : i < (y.parts.zip as).length := by rw [b1.1]; exact hi
      have z1 := a1.2 i _ _ (List.getElem?_eq_getElem hz) e1
      have z2 := b1.2 i _ _ (List.getElem?_eq_getElem hz) (List.getElem?_eq_getElem hi)
      rw [List.getElem?_eq_getElem hi]
      dsimp only at z1 z2
      rw [z1] at z2
      exact z2
  subst e
  have := a3 _ b2
  have := b3 _ a2
  omega

def spIsUnmade : Sp := fun vs H Q _ => ∃ (vw vt : V) (W : WdS) (T : Tb) (j : Nat) (y : Wy Str) (p : Int) (as : List Int) (b : Addr), vs = [vw, vt, .int (j : Int), .int p, .ref b] ∧ Rdr H vw vt W T ∧
  W.ways[j]? = some y ∧ Rd H b (.tup (as.map V.int)) ∧ as.length = y.parts.length ∧ (∀ a ∈ as, 0 ≤ a) ∧
  ∀ H' v, Same H H' → (v = true ↔ Unm W.size (tv W T) y p as) → Q (.bl v) H'
set_option maxHeartbeats 8000000 in
theorem ok_IsUnmade (T : TX K mg) : Cal P w K mg base 4 "is_unmade" ["world", "table", "way", "place", "ages"] spIsUnmade := by
  refine cal_of T.f_IsUnmade T.g_IsUnmade scIsUnmade (fun vs H Q E h => ?_) (fun cdv A outer s H vs Q E hr h => ?_)
  · obtain ⟨vw, vt, W, Tt, j, y, p, as, b, rfl, _⟩ := h
    rfl
  · obtain ⟨vw, vt, W, Tt, j, y, p, as, b, rfl, R, hj, hb, hlen, hpos, q⟩ := h
    have Y := R.ok.ways y (List.mem_of_getElem? hj)
    have hl3 := Y.p1
    have hl0 := Y.p0
    refine ⟨_, (pss_cons (ps_set (i := 5) scIsUnmade.nd rfl (.inr rfl) (pe_cal (ok_LeastMoment T) (hr.mono (by decide)) (by rfl) (pa_cons (pv 0) (pa_cons (pv 1) (pa_cons (pv 2) (pa_cons (pv 3) (pa_cons (pv 4) pa_nil))))))) (pss_cons (ps_if (pt_cmp (pc_isN (pv 5)) rfl) (pss_one (ps_ret pe_bl)) pss_nil) (pss_cons (ps_asg (pe_cal (ok_Bears T) (hr.mono (by decide)) (by rfl) (pa_cons (pv 0) (pa_cons (pv 2) (pa_cons (pv 5) (pa_cons (pe_lc (own := [("age", 8)]) (g := gName 8) rfl scIsUnmade.nd (pi_tup (pv 4)) (blkOk_by (N := ["world", "table", "way", "place", "ages", "moment", "origin", "born", "age"]) (sc := defScope sIsUnmade) (by decide +kernel)) (fun _ _ _ _ _ => (pg_name (i := 8) scIsUnmade.nd rfl (.inl rfl))) (fun _ _ _ _ _ => pts_nil) (fun _ _ _ _ _ => (pe_op op_sub (pv 5) (pv 8)))) pa_nil))))) (pg_tup rfl (pgs_cons (pg_name (i := 6) scIsUnmade.nd rfl (.inl rfl)) (pgs_cons (pg_name (i := 7) scIsUnmade.nd rfl (.inl rfl)) pgs_nil)))) (pss_one (ps_ret (pe_not (pe_cal (ok_Has T) (hr.mono (by decide)) (by rfl) (pa_cons (pv 0) (pa_cons (pv 1) (pa_cons (pe_ix ix_tup (pe_ix ix_tup (pe_ix ix_tup (pv 0) pe_int (fun _ _ => rfl)) (pv 2) (fun _ _ => rfl)) pe_int (fun _ _ => rfl)) (pa_cons (pv 6) (pa_cons (pe_op op_sub (pv 7) (pv 6)) pa_nil)))))))))))), ?_⟩
    refine ⟨vw, rfl, vt, rfl, .int j, rfl, .int p, rfl, .ref b, rfl, vw, vt, W, Tt, j, y, p, as, b, rfl, R, hj, hb, hlen, hpos, fun H1 v s1 hv => ?_⟩
    rcases hv with ⟨rfl, z, hz, e⟩ | ⟨M, rfl, hM⟩
    · refine ⟨.non, rfl, true, rfl, iteT (q H1 false s1 ⟨fun z => (nomatch z), fun ⟨M, g, ⟨ms, hms, _⟩, _⟩ => ?_⟩)⟩
      obtain ⟨i, hi⟩ := List.mem_iff_getElem?.mp hz
      have hlt : i < ms.length := by rw [← hms.1]; exact (List.getElem?_eq_some_iff.mp hi).1
      have := hms.2 i _ _ hi (List.getElem?_eq_getElem hlt)
      dsimp only at this
      rw [e] at this
      cases this
    · have R1 := R.sm s1
      obtain ⟨aw, vk, vs, vy, rfl, raw, _, _, hiy⟩ := R1.w.ex
      obtain ⟨ay, xs, rfl, ray, hxs⟩ := list_at hiy
      obtain ⟨x, hx, hi⟩ := ims_at hxs hj
      obtain ⟨c, vp, vh, rfl, rc, hvp, hvh⟩ := way_at hi
      refine ⟨.int M, rfl, false, rfl, iteF ⟨.ref aw, rfl, .int j, rfl, .int M, rfl, .ref b, rfl, b, rfl, ⟨_, .inl (rd_sm s1 hb)⟩, fun D hD => ?_⟩⟩
      refine lc_it (walk_tup (xs := as.map V.int)) (fun i H' => Same H1 H' ∧ H' D = some (.lst (((as.map (M - ·)).take i).map V.int))) ⟨sm_new hD, upd_same⟩ (fun i H' _ ⟨s2, _⟩ => .inl (rd_sm s2 (rd_sm s1 hb))) ?_ ?_
      · rintro i x0 H2 H3 hlt ⟨s2, eD⟩ ⟨rfl, e1⟩
        rw [List.length_map] at hlt
        have ha : as[i]? = some as[i] := List.getElem?_eq_getElem hlt
        have ex : x0 = .int as[i] := by
          rw [List.getElem?_map, ha] at e1
          exact (Option.some.inj e1).symm
        subst ex
        refine ⟨rfl, ty_yes ⟨.int M, rfl, .int as[i], rfl, M, as[i], rfl, rfl, _, eD, small_lt (by rw [List.length_map, List.length_take, List.length_map]; omega), sm_out s2 hD, ?_⟩⟩
        rw [upd_same, take_snoc (x := M - as[i]) (by rw [List.getElem?_map, ha]; rfl), List.map_append]
        rfl
      · rintro H2 ⟨s2, eD⟩
        rw [List.take_of_length_le (by simp)] at eD
        have R2 := R1.sm s2
        refine ⟨.ref aw, j, M, W, y, D, as.map (M - ·), rfl, R2.w, hj, eD, by rw [List.length_map]; omega, fun o ho1 ho2 N nN => ?_⟩
        obtain ⟨g, hg, rfl⟩ := List.mem_map.mp ho1
        have hand : Hand y.old as g := by
          refine ⟨hg, fun a ha => ?_⟩
          have := ho2 (M - a) (List.mem_map.mpr ⟨a, ha, rfl⟩)
          by_cases ho : y.old = true
          · rw [if_pos ho] at this ⊢
            omega
          · rw [if_neg ho] at this ⊢
            omega
        have s3 : Same H1 (upd H2 N (.tup [.int (M - g), .int (M + y.wait)])) := sm_then s2 nN
        have R3 := R1.sm s3
        have w0 := Y.w0
        have g0 := hpos g hg
        refine ⟨N, _, rfl, .inl (.inl upd_same), rfl, _, _, rfl, _, _, rfl, rfl, ?_⟩
        refine ⟨.ref aw, rfl, vt, rfl, .ref aw, rfl, aw, _, 3, .ref ay, rfl, rfl, .inl (rd_sm s3 raw), atI_nat (j := 3) rfl, .int j, rfl, ay, xs, j, .ref c, rfl, rfl, .inl (rd_sm s3 ray), atI_nat hx,
          c, _, 0, .str y.kind, rfl, rfl, .inl (rd_sm s3 rc), atI_nat (j := 0) rfl, ?_⟩
        refine ⟨.int (M - g), rfl, .int (M + y.wait), rfl, .int (M - g), rfl, _, _, rfl, rfl, .ref aw, vt, W, Tt, y.kind, M - g, _, rfl, R3, Y.kin, by omega, _, rfl, ?_⟩
        refine q _ _ (s1.trans s3) ?_
        rw [show M + y.wait - (M - g) = g + y.wait by omega]
        constructor
        · intro hb
          refine ⟨M, g, hM, hand, fun hh => ?_⟩
          rw [(hasB_iff W Tt y.kind (M - g) (g + y.wait)).mpr hh] at hb
          cases hb
        · rintro ⟨M', g', hM', hand', hno⟩
          have e1 := leastM_uniq hM hM'
          have e2 := hand.uniq hand'
          subst e1 e2
          cases e3 : hasB W Tt y.kind (M - g) (g + y.wait) with
          | false => rfl
          | true => exact absurd ((hasB_iff W Tt _ _ _).mp e3) hno
end
end Ra
end

section
set_option Elab.async false
set_option linter.all false
set_option maxRecDepth 100000
set_option maxHeartbeats 4000000
/-! walks: partners, a way's leak, a leak -/
namespace Ra
open PySem PySem.Spec PyProof.Rows L2 RZ
section
variable {P : Program} {w : World} {K : PySem.W.Frag} {mg : Str → Option Value} {base : Heap}

def spPartners : Sp := fun vs H Q _ => ∃ (vw vt : V) (W : WdS) (T : Tb) (j : Nat) (y : Wy Str) (p : Int) (at_ : Nat) (age : Int), vs = [vw, vt, .int (j : Int), .int p, .int (at_ : Int), .int age] ∧ Rdr H vw vt W T ∧
  W.ways[j]? = some y ∧ 0 ≤ age ∧ age ≤ 20 ∧
  ∀ H' v r, Same H H' → Partn W.size (tv W T) y p at_ age r → (r = none → v = .non) → (∀ as, r = some as → ∃ b, v = .ref b ∧ Rd H' b (.tup (as.map V.int))) → Q v H'
set_option maxHeartbeats 8000000 in
theorem ok_Partners (T : TX K mg) : Cal P w K mg base 4 "partners" ["world", "table", "way", "place", "at", "age"] spPartners := by
  refine cal_of T.f_Partners T.g_Partners scPartners (fun vs H Q E h => ?_) (fun cdv A outer s H vs Q E hr h => ?_)
  · obtain ⟨vw, vt, W, Tt, j, y, p, at_, age, rfl, _⟩ := h
    rfl
  · obtain ⟨vw, vt, W, Tt, j, y, p, at_, age, rfl, R, hj, ha0, ha1, q⟩ := h
    have Y := R.ok.ways y (List.mem_of_getElem? hj)
    have hl3 := Y.p1
    obtain ⟨aw, vk, vs, vy, rfl, raw, _, _, hiy⟩ := R.w.ex
    obtain ⟨ay, xs, rfl, ray, hxs⟩ := list_at hiy
    obtain ⟨x, hx, hi⟩ := ims_at hxs hj
    obtain ⟨c, vp, vh, rfl, rc, hvp, hvh⟩ := way_at hi
    obtain ⟨ap, ps, rfl, rap, hps⟩ := list_at hvp
    have hpsl : ps.length = y.parts.length := by rw [hps.1, List.length_map]
    refine ⟨_, (pss_cons (ps_asg (pe_ix ix_tup (pe_ix ix_tup (pv 0) pe_int (fun _ _ => rfl)) (pv 2) (fun _ _ => rfl)) (pg_tup rfl (pgs_cons (pg_name (i := 6) scPartners.nd rfl (.inl rfl)) (pgs_cons (pg_name (i := 7) scPartners.nd rfl (.inl rfl)) (pgs_cons (pg_name (i := 8) scPartners.nd rfl (.inl rfl)) (pgs_cons (pg_name (i := 9) scPartners.nd rfl (.inl rfl)) (pgs_cons (pg_name (i := 10) scPartners.nd rfl (.inl rfl)) pgs_nil))))))) (pss_cons (ps_set (i := 11) scPartners.nd rfl (.inl rfl) (pe_lst pa_nil)) (pss_cons (ps_for PassesOwn.never rfl (pi_enumT (by rfl) T.z_enumerate (pa_cons (pv 7) pa_nil)) (pg_tup rfl (pgs_cons (pg_name (i := 12) scPartners.nd rfl (.inl rfl)) (pgs_cons (pg_name (i := 13) scPartners.nd rfl (.inl rfl)) pgs_nil))) (pss_cons (ps_asg (pe_slice sl_tupA (pv 13) (po_some pe_int) po_none) (pg_tup rfl (pgs_cons (pg_name (i := 14) scPartners.nd rfl (.inl rfl)) (pgs_cons (pg_name (i := 15) scPartners.nd rfl (.inl rfl)) pgs_nil)))) (pss_cons (ps_if (pt_cmpR op_eq (pv 12) (pv 4) (nomark _)) (pss_one (ps_par (i := 14) (j := 15) rfl scPartners.nd rfl rfl (by decide) rfl rfl (pa_cons (pv 5) (pa_cons (pv 5) pa_nil)) (by rfl))) (pss_one (ps_if (pt_cmpR op_eq (pv 8) (pe_gs T.s_OLDEST (by rfl)) (nomark _)) (pss_one (ps_set (i := 15) scPartners.nd rfl (.inl rfl) (pe_callB (call_min2 rfl) (by rfl) T.z_min (by decide +kernel) (pa_cons (pv 15) (pa_cons (pv 5) pa_nil))))) (pss_one (ps_set (i := 14) scPartners.nd rfl (.inl rfl) (pe_callB (call_max2 rfl) (by rfl) T.z_max (by decide +kernel) (pa_cons (pv 14) (pa_cons (pv 5) pa_nil)))))))) (pss_one (ps_expr (pe_bm PySem.F.plainAttrs_list PySem.F.slot_list_append PySem.F.type_list_append mt_append (pv 11) (pa_cons (pe_cal (ok_Soonest T) (hr.mono (by decide)) (by rfl) (pa_cons (pv 0) (pa_cons (pv 1) (pa_cons (pv 13) (pa_cons (pv 3) (pa_cons (pv 14) (pa_cons (pv 15) pa_nil))))))) pa_nil))))))) (pss_one (ps_ret (pe_ifExp (pt_cmpR op_in_seq pe_non (pv 11) (by rfl)) pe_non (pe_callTy call_tuple_of (by rfl) T.z_tuple (by decide +kernel) (pa_cons (pv 11) pa_nil)))))))), ?_⟩
    refine ⟨.ref aw, rfl, aw, _, 3, .ref ay, rfl, rfl, .inl raw, atI_nat (j := 3) rfl, .int j, rfl, ay, xs, j, .ref c, rfl, rfl, .inl ray, atI_nat hx, ?_⟩
    refine ⟨c, _, rfl, .inl rc, rfl, _, _, rfl, _, _, rfl, _, _, rfl, _, _, rfl, _, _, rfl, rfl, ?_⟩
    refine ⟨Nat.zero_le _, fun D nD => ⟨.ref ap, rfl, ap, ps, rfl, .inl (rd_sm (sm_new nD) rap), ?_⟩⟩
    refine for_it walk_enumT (fun i σ H2 => ∃ fs y12 y13 y14 y15, σ = [some (.ref aw), some vt, some (.int j), some (.int p), some (.int at_), some (.int age), some (.str y.kind), some (.ref ap), some (.str (keepS y.old)), some vh, some (.int y.wait), some (.ref D), y12, y13, y14, y15] ∧
      Same H H2 ∧ H2 D = some (.lst (fs.map optV)) ∧ fs.length = i ∧
      ∀ (i' : Nat) (pt : Prt Str) (f : Option Int), y.parts[i']? = some pt → fs[i']? = some f → Soon W.size (tv W Tt) pt.kind p (winLo y.old at_ age i' pt) (winHi y.old at_ age i' pt) f)
      ⟨[], none, none, none, none, rfl, sm_new nD, upd_same, rfl, fun i' pt f _ e => by cases e⟩ (fun i σ H2 _ ⟨_, _, _, _, _, _, s2, _⟩ => .inl (rd_sm s2 rap)) ?_ ?_
    · rintro i x0 σ H2 H3 hlt ⟨fs, y12, y13, y14, y15, rfl, s2, eD, hfl, hS⟩ ⟨N, x1, x2, rfl, nN, rfl, e1, e2⟩
      dsimp only at e1 e2
      cases e1
      rw [hpsl] at hlt
      obtain ⟨pt, hp⟩ : ∃ pt, y.parts[i]? = some pt := ⟨_, List.getElem?_eq_getElem hlt⟩
      have PT := Y.parts pt (List.mem_of_getElem? hp)
      have l0 := PT.l0
      have lh := PT.lh
      have h1 := PT.h1
      have i1 : Im H x2 (encP pt) := by
        obtain ⟨z, hz, iz⟩ := ims_at hps hp
        rw [hz] at e2
        cases e2
        exact iz
      obtain ⟨d, rfl, rd⟩ := prt_at i1
      have s3 : Same H (upd H2 N (.tup [.int (i : Int), .ref d])) := sm_then s2 nN
      have nDN : D ≠ N := ne_of_none eD nN
      refine ⟨N, _, rfl, .inl (.inl upd_same), rfl, _, _, rfl, _, _, rfl, rfl, ?_⟩
      refine ⟨.ref d, rfl, 1, rfl, d, _, rfl, .inl (rd_sm s3 rd), fun z => absurd z.1 (show ¬ (HT.sIx 3 0 (some 1) = 0) by decide), fun _ M nM => ?_⟩
      have s4 := sm_then (o := .tup (cutV [.str pt.kind, .int pt.lo, .int pt.hi] (some 1) none)) s3 nM
      have eD4 : (upd (upd H2 N (.tup [.int (i : Int), .ref d])) M (.tup (cutV [.str pt.kind, .int pt.lo, .int pt.hi] (some 1) none))) D = some (.lst (fs.map optV)) := by
        rw [upd_ne (fun z => by rw [← z, upd_ne nDN, eD] at nM; cases nM), upd_ne nDN]
        exact eD
      have eM4 : (upd (upd H2 N (.tup [.int (i : Int), .ref d])) M (.tup (cutV [.str pt.kind, .int pt.lo, .int pt.hi] (some 1) none))) M = some (.tup [.int pt.lo, .int pt.hi]) := upd_same
      generalize upd (upd H2 N (.tup [.int (i : Int), .ref d])) M (.tup (cutV [.str pt.kind, .int pt.lo, .int pt.hi] (some 1) none)) = H4 at s4 eD4 eM4 ⊢
      have nxt : ∀ (l g : Int) (r : Option Int), winLo y.old at_ age i pt = l → winHi y.old at_ age i pt = g → Soon W.size (tv W Tt) pt.kind p l g r →
          ∀ (i' : Nat) (qt : Prt Str) (f : Option Int), y.parts[i']? = some qt → (fs ++ [r])[i']? = some f → Soon W.size (tv W Tt) qt.kind p (winLo y.old at_ age i' qt) (winHi y.old at_ age i' qt) f := by
        intro l g r el eg hr i' qt f hq hf
        by_cases hi' : i' < fs.length
        · rw [List.getElem?_append_left hi'] at hf
          exact hS i' qt f hq hf
        · have hle : i' < (fs ++ [r]).length := (List.getElem?_eq_some_iff.mp hf).1
          rw [List.length_append, List.length_singleton] at hle
          have ei : i' = i := by omega
          subst ei
          rw [hp] at hq
          cases hq
          rw [List.getElem?_append_right (by omega), hfl, Nat.sub_self] at hf
          cases hf
          rw [el, eg]
          exact hr
      refine ⟨M, _, rfl, .inl (.inl eM4), rfl, _, _, rfl, _, _, rfl, rfl, ?_⟩
      refine ⟨.int i, rfl, .int at_, rfl, rfl, _, rfl, ite2 (fun e => ?_) (fun e => ⟨.str (keepS y.old), rfl, rfl, y.old, by rw [keep_eq], ite2 (fun e3 => ?_) (fun e3 => ?_)⟩)⟩
      · have ei : i = at_ := Int.ofNat.inj (V.int.inj (of_decide_eq_true e))
        have el : winLo y.old at_ age i pt = age := by unfold winLo; rw [if_pos ei]
        have eg : winHi y.old at_ age i pt = age := by unfold winHi; rw [if_pos ei]
        refine ⟨.int age, rfl, .int age, rfl, _, _, rfl, ?_⟩
        refine ⟨.ref D, rfl, .inl ⟨rfl, _, .of eD4⟩, .ref aw, rfl, vt, rfl, .ref d, rfl, .int p, rfl, .int age, rfl, .int age, rfl, ?_⟩
        refine ⟨.ref aw, vt, .ref d, W, Tt, pt, p, age, age, rfl, R.sm s4, i1.sm s4, PT.kin, by omega, by omega, by omega, by omega, fun r hr => ?_⟩
        refine ⟨D, _, _, rfl, rfl, eD4, small_lt (by rw [List.length_map]; omega), fs ++ [r], _, _, _, _, rfl, sm_out s4 nD, by rw [upd_same, List.map_append]; rfl, by rw [List.length_append, List.length_singleton, hfl], nxt _ _ r el eg hr⟩
      · have ei : ¬ i = at_ := fun z => e (decide_eq_true (by rw [z]))
        have el : winLo y.old at_ age i pt = pt.lo := by unfold winLo; rw [if_neg ei, if_pos e3]
        have eg : winHi y.old at_ age i pt = (if age < pt.hi then age else pt.hi) := by unfold winHi; rw [if_neg ei, if_pos e3]; split <;> omega
        refine ⟨.int pt.hi, rfl, .int age, rfl, pt.hi, age, rfl, ?_⟩
        refine ⟨.ref D, rfl, .inl ⟨rfl, _, .of eD4⟩, .ref aw, rfl, vt, rfl, .ref d, rfl, .int p, rfl, .int pt.lo, rfl, .int _, rfl, ?_⟩
        refine ⟨.ref aw, vt, .ref d, W, Tt, pt, p, pt.lo, _, rfl, R.sm s4, i1.sm s4, PT.kin, by omega, by omega, by split <;> omega, by split <;> omega, fun r hr => ?_⟩
        refine ⟨D, _, _, rfl, rfl, eD4, small_lt (by rw [List.length_map]; omega), fs ++ [r], _, _, _, _, rfl, sm_out s4 nD, by rw [upd_same, List.map_append]; rfl, by rw [List.length_append, List.length_singleton, hfl], nxt _ _ r el eg hr⟩
      · have ei : ¬ i = at_ := fun z => e (decide_eq_true (by rw [z]))
        have el : winLo y.old at_ age i pt = (if age > pt.lo then age else pt.lo) := by unfold winLo; rw [if_neg ei, if_neg e3]; split <;> omega
        have eg : winHi y.old at_ age i pt = pt.hi := by unfold winHi; rw [if_neg ei, if_neg e3]
        refine ⟨.int pt.lo, rfl, .int age, rfl, pt.lo, age, rfl, ?_⟩
        refine ⟨.ref D, rfl, .inl ⟨rfl, _, .of eD4⟩, .ref aw, rfl, vt, rfl, .ref d, rfl, .int p, rfl, .int _, rfl, .int pt.hi, rfl, ?_⟩
        refine ⟨.ref aw, vt, .ref d, W, Tt, pt, p, _, pt.hi, rfl, R.sm s4, i1.sm s4, PT.kin, by split <;> omega, by split <;> omega, by omega, by omega, fun r hr => ?_⟩
        refine ⟨D, _, _, rfl, rfl, eD4, small_lt (by rw [List.length_map]; omega), fs ++ [r], _, _, _, _, rfl, sm_out s4 nD, by rw [upd_same, List.map_append]; rfl, by rw [List.length_append, List.length_singleton, hfl], nxt _ _ r el eg hr⟩
    · rintro σ H2 ⟨fs, y12, y13, y14, y15, rfl, s2, eD, hfl, hS⟩
      refine ⟨.ref D, rfl, D, _, rfl, .inl (.of eD), rfl, flat_opt fs, _, rfl, ?_⟩
      rw [if_neg Bool.false_ne_true, inV_none]
      refine ite2 (fun hn => ?_) (fun hn => ?_)
      · exact q H2 .non none s2 ⟨fs, by rw [hfl, hpsl], hS, .inl ⟨of_decide_eq_true hn, rfl⟩⟩ (fun _ => rfl) (fun as e => by cases e)
      · obtain ⟨ms, rfl⟩ := opt_all fs fun z => hn (decide_eq_true z)
        refine ⟨.ref D, rfl, D, _, rfl, .inl ⟨.of eD, fun l nl => ?_⟩⟩
        refine q _ _ (some ms) (sm_then s2 nl) ⟨ms.map some, by rw [hfl, hpsl], hS, .inr ⟨ms, rfl, rfl⟩⟩ (fun e => by cases e) (fun as e => ?_)
        cases e
        rw [map_optV]
        exact ⟨l, rfl, .inl upd_same⟩

def spWayLeak : Sp := fun vs H Q _ => ∃ (vw vt : V) (W : WdS) (T : Tb) (j : Nat) (y : Wy Str) (p : Int), vs = [vw, vt, .int (j : Int), .int p] ∧ Rdr H vw vt W T ∧ TabOk W (tv W T) ∧
  W.ways[j]? = some y ∧ p ∈ y.hours ∧ ∀ H' v, Same H H' → (v = .non ↔ Tight W (tv W T) y p) → Q v H'
/-- no leak of that part and age -/
def Dry (W : WdS) (T : Tb) (y : Wy Str) (p : Int) (at_ : Nat) (age : Int) : Prop := ∃ r, Partn W.size (tv W T) y p at_ age r ∧ ∀ as, r = some as → ¬ Unm W.size (tv W T) y p as
set_option maxHeartbeats 8000000 in
theorem ok_WayLeak (T : TX K mg) : Cal P w K mg base 5 "way_leak" ["world", "table", "way", "place"] spWayLeak := by
  refine cal_of T.f_WayLeak T.g_WayLeak scWayLeak (fun vs H Q E h => ?_) (fun cdv A outer s H vs Q E hr h => ?_)
  · obtain ⟨vw, vt, W, Tt, j, y, p, rfl, _⟩ := h
    rfl
  · obtain ⟨vw, vt, W, Tt, j, y, p, rfl, R, TO, hj, hp, q⟩ := h
    have hjm := List.mem_of_getElem? hj
    have Y := R.ok.ways y hjm
    obtain ⟨aw, vk, vs, vy, rfl, raw, _, _, hiy⟩ := R.w.ex
    obtain ⟨ay, xs, rfl, ray, hxs⟩ := list_at hiy
    obtain ⟨x, hx, hi⟩ := ims_at hxs hj
    obtain ⟨c, vp, vh, rfl, rc, hvp, hvh⟩ := way_at hi
    obtain ⟨ap, ps, rfl, rap, hps⟩ := list_at hvp
    have hpsl : ps.length = y.parts.length := by rw [hps.1, List.length_map]
    refine ⟨_, (pss_cons (ps_for PassesOwn.never rfl (pi_enumT (by rfl) T.z_enumerate (pa_cons (pe_ix ix_tup (pe_ix ix_tup (pe_ix ix_tup (pv 0) pe_int (fun _ _ => rfl)) (pv 2) (fun _ _ => rfl)) pe_int (fun _ _ => rfl)) pa_nil)) (pg_tup rfl (pgs_cons (pg_name (i := 4) scWayLeak.nd rfl (.inl rfl)) (pgs_cons (pg_name (i := 5) scWayLeak.nd rfl (.inl rfl)) pgs_nil))) (pss_one (ps_for PassesOwn.never rfl (pi_range2 (by rfl) T.z_range (pa_cons (pe_ix ix_tup (pv 5) pe_int (fun _ _ => rfl)) (pa_cons (pe_op op_add (pe_ix ix_tup (pv 5) pe_int (fun _ _ => rfl)) pe_int) pa_nil))) (pg_name (i := 6) scWayLeak.nd rfl (.inl rfl)) (pss_cons (ps_set (i := 7) scWayLeak.nd rfl (.inl rfl) (pe_cal (ok_Partners T) (hr.mono (by decide)) (by rfl) (pa_cons (pv 0) (pa_cons (pv 1) (pa_cons (pv 2) (pa_cons (pv 3) (pa_cons (pv 4) (pa_cons (pv 6) pa_nil)))))))) (pss_one (ps_if (PW.pt (pw_and (pt_cmp (pc_notN (pv 7)) rfl) (pw_and1 (pt_val (pe_cal (ok_IsUnmade T) (hr.mono (by decide)) (by rfl) (pa_cons (pv 0) (pa_cons (pv 1) (pa_cons (pv 2) (pa_cons (pv 3) (pa_cons (pv 7) pa_nil)))))))))) (pss_one (ps_ret (pe_tup (pa_cons (pe_gs T.s_MADE (by rfl)) (pa_cons (pv 2) (pa_cons (pv 3) (pa_cons (pv 7) pa_nil))))))) pss_nil)))))) (pss_one (ps_ret pe_non))), ?_⟩
    refine ⟨.ref aw, rfl, aw, _, 3, .ref ay, rfl, rfl, .inl raw, atI_nat (j := 3) rfl, .int j, rfl, ay, xs, j, .ref c, rfl, rfl, .inl ray, atI_nat hx, c, _, 1, .ref ap, rfl, rfl, .inl rc, atI_nat (j := 1) rfl, ap, ps, rfl, .inl rap, ?_⟩
    refine for_it walk_enumT (fun i σ H2 => ∃ y4 y5 y6 y7, σ = [some (.ref aw), some vt, some (.int j), some (.int p), y4, y5, y6, y7] ∧ Same H H2 ∧
      ∀ (at_ : Nat) (pt : Prt Str), at_ < i → y.parts[at_]? = some pt → ∀ age, pt.lo ≤ age → age ≤ pt.hi → Dry W Tt y p at_ age)
      ⟨none, none, none, none, rfl, Same.refl H, fun at_ pt h => absurd h (Nat.not_lt_zero _)⟩ (fun i σ H2 _ ⟨_, _, _, _, _, s2, _⟩ => .inl (rd_sm s2 rap)) ?_ ?_
    · rintro i x0 σ H2 H3 hlt ⟨y4, y5, y6, y7, rfl, s2, hD⟩ ⟨N, x1, x2, rfl, nN, rfl, e1, e2⟩
      dsimp only at e1 e2
      cases e1
      rw [hpsl] at hlt
      obtain ⟨pt, hpt⟩ : ∃ pt, y.parts[i]? = some pt := ⟨_, List.getElem?_eq_getElem hlt⟩
      have PT := Y.parts pt (List.mem_of_getElem? hpt)
      have l0 := PT.l0
      have lh := PT.lh
      have h1 := PT.h1
      have i1 : Im H x2 (encP pt) := by
        obtain ⟨z, hz, iz⟩ := ims_at hps hpt
        rw [hz] at e2
        cases e2
        exact iz
      obtain ⟨d, rfl, rd⟩ := prt_at i1
      have s3 : Same H (upd H2 N (.tup [.int (i : Int), .ref d])) := sm_then s2 nN
      refine ⟨N, _, rfl, .inl (.inl upd_same), rfl, _, _, rfl, _, _, rfl, rfl, ?_⟩
      refine ⟨.ref d, rfl, d, _, 1, .int pt.lo, rfl, rfl, .inl (rd_sm s3 rd), atI_nat (j := 1) rfl, .ref d, rfl, d, _, 2, .int pt.hi, rfl, rfl, .inl (rd_sm s3 rd), atI_nat (j := 2) rfl, pt.hi, 1, rfl, rfl,
        pt.lo, pt.hi + 1, rfl, ⟨by omega, by omega, by omega, by omega⟩, ?_⟩
      refine for_range (lo := pt.lo) (n := (pt.hi + 1 - pt.lo).toNat) (fun k σ H4 => ∃ y6 y7, σ = [some (.ref aw), some vt, some (.int j), some (.int p), some (.int (i : Int)), some (.ref d), y6, y7] ∧ Same H H4 ∧
        ∀ age, pt.lo ≤ age → age < pt.lo + k → Dry W Tt y p i age) ⟨y6, y7, rfl, s3, fun age h1 h2 => by omega⟩ ?_ ?_
      · rintro k σ H4 hk ⟨y6, y7, rfl, s4, hDk⟩
        refine ⟨.ref aw, rfl, vt, rfl, .int j, rfl, .int p, rfl, .int i, rfl, .int (pt.lo + k), rfl, .ref aw, vt, W, Tt, j, y, p, i, pt.lo + k, rfl, R.sm s4, hj, by omega, by omega, fun H5 v r s5 hP hn hs => ?_⟩
        have s45 := s4.trans s5
        have step : Dry W Tt y p i (pt.lo + k) → ∀ age, pt.lo ≤ age → age < pt.lo + ((k + 1 : Nat) : Int) → Dry W Tt y p i age := fun hd age q1 q2 => by
          by_cases e : age = pt.lo + k
          · rw [e]; exact hd
          · exact hDk age q1 (by omega)
        cases r with
        | none =>
          have ev := hn rfl
          subst ev
          exact ⟨.non, rfl, false, rfl, iteF ⟨_, _, rfl, s45, step ⟨none, hP, fun as e => by cases e⟩⟩⟩
        | some as =>
          obtain ⟨b, rfl, rb⟩ := hs as rfl
          have hlen : as.length = y.parts.length ∧ ∀ a ∈ as, 0 ≤ a := by
            obtain ⟨fs, f1, f2, f3⟩ := hP
            rcases f3 with ⟨_, f3⟩ | ⟨as', f3, f4⟩
            · cases f3
            · cases f4
              refine ⟨by rw [← f1, f3, List.length_map], fun a ha => ?_⟩
              obtain ⟨i', hi'⟩ := List.mem_iff_getElem?.mp ha
              have hl' : i' < y.parts.length := by rw [← f1, f3, List.length_map]; exact (List.getElem?_eq_some_iff.mp hi').1
              obtain ⟨z1, z2, _⟩ := f2 i' _ (some a) (List.getElem?_eq_getElem hl') (by rw [f3, List.getElem?_map, hi']; rfl)
              have Q0 := (Y.parts _ (List.getElem_mem hl')).l0
              unfold winLo at z1
              split at z1
              · omega
              · split at z1 <;> omega
          refine ⟨.ref b, rfl, true, rfl, iteT ⟨.ref aw, rfl, vt, rfl, .int j, rfl, .int p, rfl, .ref b, rfl, .ref aw, vt, W, Tt, j, y, p, as, b, rfl, R.sm s45, hj, rb, hlen.1, hlen.2, fun H6 v s6 hv => ⟨v, rfl, ?_⟩⟩⟩
          have s46 := s45.trans s6
          cases v with
          | true =>
            refine iteT ⟨.int j, rfl, .int p, rfl, .ref b, rfl, by show 4 ≤ sizeLine; decide, fun p7 n7 => q _ _ (sm_then s46 n7) ⟨fun z => (nomatch z), fun tight => ?_⟩⟩
            exact absurd tight (not_tight_of R.ok TO hjm hp hpt (by omega) (by omega) hP (hv.mp rfl))
          | false =>
            refine iteF ⟨_, _, rfl, s46, step ⟨some as, hP, fun as' e hu => ?_⟩⟩
            cases e
            exact absurd (hv.mpr hu) Bool.false_ne_true
      · rintro σ H4 ⟨y6, y7, rfl, s4, hDk⟩
        refine ⟨_, _, _, _, rfl, s4, fun at_ qt h1 hq age a1 a2 => ?_⟩
        by_cases e : at_ = i
        · subst e
          rw [hpt] at hq
          cases hq
          exact hDk age a1 (by omega)
        · exact hD at_ qt (by omega) hq age a1 a2
    · rintro σ H2 ⟨y4, y5, y6, y7, rfl, s2, hD⟩
      refine q H2 .non s2 ⟨fun _ => tight_of R.ok TO hjm hp fun at_ pt hq age a1 a2 => ?_, fun _ => rfl⟩
      exact hD at_ pt (by rw [hpsl]; exact (List.getElem?_eq_some_iff.mp hq).1) hq age a1 a2

def spLeak : Sp := fun vs H Q _ => ∃ (vw vt : V) (W : WdS) (T : Tb), vs = [vw, vt] ∧ Rdr H vw vt W T ∧ TabOk W (tv W T) ∧ ∀ H' v, Same H H' → (v = .non ↔ Shut W (tv W T)) → Q v H'
set_option maxHeartbeats 8000000 in
theorem ok_Leak (T : TX K mg) : Cal P w K mg base 6 "leak" ["world", "table"] spLeak := by
  refine cal_of T.f_Leak T.g_Leak scLeak (fun vs H Q E h => ?_) (fun cdv A outer s H vs Q E hr h => ?_)
  · obtain ⟨vw, vt, W, Tt, rfl, _⟩ := h
    rfl
  · obtain ⟨vw, vt, W, Tt, rfl, R, TO, q⟩ := h
    obtain ⟨aw, vk, vs, vy, rfl, raw, _, his, hiy⟩ := R.w.ex
    obtain ⟨as, ss, rfl, ras, hss⟩ := list_at his
    obtain ⟨ay, ys, rfl, ray, hys⟩ := list_at hiy
    have hssl : ss.length = W.sources.length := by rw [hss.1, List.length_map]
    have hysl : ys.length = W.ways.length := by rw [hys.1, List.length_map]
    have s8 := R.ok.s1
    refine ⟨_, (pss_cons (ps_for PassesOwn.never rfl (pi_range1 (by rfl) T.z_range (pa_cons (pe_callB call_len_seq (by rfl) T.z_len (by decide +kernel) (pa_cons (pe_ix ix_tup (pv 0) pe_int (fun _ _ => rfl)) pa_nil)) pa_nil)) (pg_name (i := 2) scLeak.nd rfl (.inl rfl)) (pss_one (ps_if (pt_val (pe_cal (ok_IsLacked T) (hr.mono (by decide)) (by rfl) (pa_cons (pv 0) (pa_cons (pv 1) (pa_cons (pv 2) pa_nil))))) (pss_one (ps_ret (pe_tup (pa_cons (pe_gs T.s_BROUGHT (by rfl)) (pa_cons (pv 2) pa_nil))))) pss_nil))) (pss_cons (ps_for PassesOwn.never rfl (pi_enumT (by rfl) T.z_enumerate (pa_cons (pe_ix ix_tup (pv 0) pe_int (fun _ _ => rfl)) pa_nil)) (pg_tup rfl (pgs_cons (pg_name (i := 3) scLeak.nd rfl (.inl rfl)) (pgs_cons (pg_name (i := 4) scLeak.nd rfl (.inl rfl)) pgs_nil))) (pss_one (ps_for PassesOwn.never rfl (pi_tup (pe_ix ix_tup (pv 4) pe_int (fun _ _ => rfl))) (pg_name (i := 5) scLeak.nd rfl (.inl rfl)) (pss_cons (ps_set (i := 6) scLeak.nd rfl (.inl rfl) (pe_cal (ok_WayLeak T) (hr.mono (by decide)) (by rfl) (pa_cons (pv 0) (pa_cons (pv 1) (pa_cons (pv 3) (pa_cons (pv 5) pa_nil)))))) (pss_one (ps_if (pt_cmp (pc_notN (pv 6)) rfl) (pss_one (ps_ret (pv 6))) pss_nil)))))) (pss_one (ps_ret pe_non)))), ?_⟩
    refine ⟨.ref aw, rfl, aw, _, 2, .ref as, rfl, rfl, .inl raw, atI_nat (j := 2) rfl, as, ss, rfl, .inr (.inl ras), ss.length, rfl, by omega, by omega, ?_⟩
    refine for_range (lo := 0) (n := (ss.length : Int).toNat) (fun k σ H2 => H2 = H ∧ ∃ y2 y3 y4 y5 y6, σ = [some (.ref aw), some vt, y2, y3, y4, y5, y6] ∧ ∀ (j : Nat) (sr : Src Str), j < k → W.sources[j]? = some sr → Laid W (tv W Tt) sr)
      ⟨rfl, none, none, none, none, none, rfl, fun j sr h => absurd h (Nat.not_lt_zero _)⟩ ?_ ?_
    · rintro k σ H2 hk ⟨rfl, y2, y3, y4, y5, y6, rfl, hL⟩
      have hk2 : k < W.sources.length := by omega
      obtain ⟨sr, hsr⟩ : ∃ sr, W.sources[k]? = some sr := ⟨_, List.getElem?_eq_getElem hk2⟩
      refine ⟨.ref aw, rfl, vt, rfl, .int (0 + k), rfl, .ref aw, vt, W, Tt, k, sr, by rw [Int.zero_add]; rfl, R, hsr, ?_⟩
      cases e : hasB W Tt sr.kind (firstAt W.size sr.place sr.since - sr.age) sr.age with
      | false =>
        refine ⟨true, rfl, iteT ⟨.int (0 + k), rfl, by show 2 ≤ sizeLine; decide, fun p np => q _ _ (sm_new np) ⟨fun z => (nomatch z), fun sh => ?_⟩⟩⟩
        have := (hasB_iff W Tt _ _ _).mpr (sh.1 sr (List.mem_of_getElem? hsr))
        rw [e] at this
        cases this
      | true =>
        refine ⟨false, rfl, iteF ⟨rfl, _, _, _, _, _, rfl, fun j sr' hj hs' => ?_⟩⟩
        by_cases ej : j = k
        · subst ej
          rw [hsr] at hs'
          cases hs'
          exact (hasB_iff W Tt _ _ _).mp e
        · exact hL j sr' (by omega) hs'
    · rintro σ H2 ⟨rfl, y2, y3, y4, y5, y6, rfl, hL⟩
      have laid : ∀ sr ∈ W.sources, Laid W (tv W Tt) sr := fun sr hs => by
        obtain ⟨j, hj⟩ := List.mem_iff_getElem?.mp hs
        have := (List.getElem?_eq_some_iff.mp hj).1
        exact hL j sr (by omega) hj
      refine ⟨.ref aw, rfl, aw, _, 3, .ref ay, rfl, rfl, .inl raw, atI_nat (j := 3) rfl, ay, ys, rfl, .inl ray, ?_⟩
      refine for_it walk_enumT (fun i σ H3 => ∃ y2 y3 y4 y5 y6, σ = [some (.ref aw), some vt, y2, y3, y4, y5, y6] ∧ Same H2 H3 ∧
        ∀ (j : Nat) (y : Wy Str), j < i → W.ways[j]? = some y → ∀ hh ∈ y.hours, Tight W (tv W Tt) y hh)
        ⟨_, _, _, _, _, rfl, Same.refl H2, fun j y h => absurd h (Nat.not_lt_zero _)⟩ (fun i σ H3 _ ⟨_, _, _, _, _, _, s3, _⟩ => .inl (rd_sm s3 ray)) ?_ ?_
      · rintro i x0 σ H3 H4 hlt ⟨y2, y3, y4, y5, y6, rfl, s3, hT⟩ ⟨N, x1, x2, rfl, nN, rfl, e1, e2⟩
        dsimp only at e1 e2
        cases e1
        rw [hysl] at hlt
        obtain ⟨y, hy⟩ : ∃ y, W.ways[i]? = some y := ⟨_, List.getElem?_eq_getElem hlt⟩
        have Y := R.ok.ways y (List.mem_of_getElem? hy)
        have i1 : Im H2 x2 (encY y) := by
          obtain ⟨z, hz, iz⟩ := ims_at hys hy
          rw [hz] at e2
          cases e2
          exact iz
        obtain ⟨c, vp, vh, rfl, rc, hvp, hvh⟩ := way_at i1
        obtain ⟨ah, hs, rfl, rah, hhs⟩ := im_tup hvh
        have ehs := hhs.ints
        subst ehs
        have s4 : Same H2 (upd H3 N (.tup [.int (i : Int), .ref c])) := sm_then s3 nN
        refine ⟨N, _, rfl, .inl (.inl upd_same), rfl, _, _, rfl, _, _, rfl, rfl, ?_⟩
        refine ⟨.ref c, rfl, c, _, 3, .ref ah, rfl, rfl, .inl (rd_sm s4 rc), atI_nat (j := 3) rfl, ah, rfl, ⟨_, .inl (rd_sm s4 rah)⟩, ?_⟩
        refine for_tup (K := K) (a := ah) (xs := y.hours.map V.int) (fun k σ H5 => ∃ y5 y6, σ = [some (.ref aw), some vt, y2, some (.int (i : Int)), some (.ref c), y5, y6] ∧ Same H2 H5 ∧
          ∀ (j : Nat) (hh : Int), j < k → y.hours[j]? = some hh → Tight W (tv W Tt) y hh)
          ⟨_, _, rfl, s4, fun j hh h => absurd h (Nat.not_lt_zero _)⟩ (fun k σ H5 _ ⟨_, _, _, s5, _⟩ => .inl (rd_sm s5 rah)) ?_ ?_
        · rintro k x σ H5 hx ⟨y5, y6, rfl, s5, hT5⟩
          obtain ⟨hh, hk, rfl⟩ : ∃ hh, y.hours[k]? = some hh ∧ x = .int hh := by
            rw [List.getElem?_map] at hx
            cases e : y.hours[k]? with
            | none => rw [e] at hx; cases hx
            | some hh => rw [e] at hx; cases hx; exact ⟨hh, rfl, rfl⟩
          refine ⟨.ref aw, rfl, vt, rfl, .int (i : Int), rfl, .int hh, rfl, .ref aw, vt, W, Tt, i, y, hh, rfl, R.sm s5, TO, hy, List.mem_of_getElem? hk, fun H6 v s6 hv => ?_⟩
          have s56 := s5.trans s6
          refine ⟨v, rfl, _, rfl, ite2 (fun e => ⟨v, rfl, q H6 v s56 ⟨fun z => ?_, fun sh => ?_⟩⟩) (fun e => ⟨_, _, rfl, s56, fun j hh' hj hh2 => ?_⟩)⟩
          · rw [z] at e
            cases e
          · exact hv.mpr (sh.2 y (List.mem_of_getElem? hy) hh (List.mem_of_getElem? hk))
          · have ev : v = .non := by
              rw [Bool.not_eq_true, Bool.not_eq_false'] at e
              exact of_decide_eq_true e
            by_cases ej : j = k
            · subst ej
              rw [hk] at hh2
              cases hh2
              exact hv.mp ev
            · exact hT5 j hh' (by omega) hh2
        · rintro σ H5 ⟨y5, y6, rfl, s5, hT5⟩
          rw [List.length_map] at hT5
          refine ⟨_, _, _, _, _, rfl, s5, fun j y' hj hy' => ?_⟩
          by_cases ej : j = i
          · subst ej
            rw [hy] at hy'
            cases hy'
            intro hh hm
            obtain ⟨k, hk⟩ := List.mem_iff_getElem?.mp hm
            exact hT5 k hh (List.getElem?_eq_some_iff.mp hk).1 hk
          · exact hT j y' (by omega) hy'
      · rintro σ H3 ⟨y2, y3, y4, y5, y6, rfl, s3, hT⟩
        refine q H3 .non s3 ⟨fun _ => ⟨laid, fun y hy hh hm => ?_⟩, fun _ => rfl⟩
        obtain ⟨j, hj⟩ := List.mem_iff_getElem?.mp hy
        exact hT j y (by rw [hysl]; exact (List.getElem?_eq_some_iff.mp hj).1) hj hh hm
end
end Ra
end

section
set_option Elab.async false
set_option linter.all false
set_option maxRecDepth 100000
set_option maxHeartbeats 4000000
/-! walks: tables looked at and put together -/
namespace Ra
open PySem PySem.Spec PyProof.Rows L2 RZ

/-! ### tables as data -/
def lesserO : Option Int → Option Int → Option Int
  | none, y => y
  | some x, none => some x
  | some x, some y => some (if y < x then y else x)
def lesserT (A B : Tb) : Tb := List.zipWith (List.zipWith (List.zipWith lesserO)) A B
theorem eqvAll_map {α : Type} [DecidableEq α] {f : α → PyData} (h : ∀ a b, PyData.eqv (f a) (f b) = decide (a = b)) : ∀ l m : List α, PyData.eqvAll (l.map f) (m.map f) = decide (l = m)
  | [], [] => rfl
  | [], b :: m => by
    rw [decide_eq_false (fun e => by cases e)]
    rfl
  | a :: l, [] => by
    rw [decide_eq_false (fun e => by cases e)]
    rfl
  | a :: l, b :: m => by
    have e : PyData.eqvAll ((a :: l).map f) ((b :: m).map f) = (PyData.eqv (f a) (f b) && PyData.eqvAll (l.map f) (m.map f)) := by
      rw [List.map_cons, List.map_cons, PyData.eqvAll]
    rw [e, h, eqvAll_map h l m, Bool.eq_iff_iff, Bool.and_eq_true_iff, decide_eq_true_eq, decide_eq_true_eq, decide_eq_true_eq, List.cons.injEq]
theorem eqv_tupmap {α : Type} [DecidableEq α] {f : α → PyData} (h : ∀ a b, PyData.eqv (f a) (f b) = decide (a = b)) (l m : List α) : PyData.eqv (.tuple (l.map f)) (.tuple (m.map f)) = decide (l = m) := by
  rw [PyData.eqv]
  exact eqvAll_map h l m
theorem eqv_opt (a b : Option Int) : PyData.eqv (optD a) (optD b) = decide (a = b) := by
  cases a with
  | none => cases b with
    | none => rfl
    | some y => rw [decide_eq_false (fun e => by cases e)]; rfl
  | some x => cases b with
    | none => rw [decide_eq_false (fun e => by cases e)]; rfl
    | some y =>
      show PyData.eqv (.int x) (.int y) = _
      rw [PyData.eqv, Bool.eq_iff_iff, beq_iff_eq, decide_eq_true_eq, Option.some.injEq]
theorem eqv_tb (A B : Tb) : PyData.eqv (encT A) (encT B) = decide (A = B) :=
  eqv_tupmap (eqv_tupmap (eqv_tupmap eqv_opt)) A B
theorem layAll {l : List PyData} (h : ∀ d ∈ l, d.canLay0 = true) : PyData.canLayAll0 l = true := by
  induction l with
  | nil => rfl
  | cons a l ih =>
    rw [PyData.canLayAll0, h a (List.mem_cons_self ..), ih fun d hd => h d (List.mem_cons_of_mem _ hd)]
    rfl
theorem depAll {l : List PyData} {n : Nat} (h : ∀ d ∈ l, d.depth ≤ n) : PyData.depthAll l ≤ n := by
  induction l with
  | nil => exact Nat.zero_le _
  | cons a l ih =>
    rw [PyData.depthAll]
    exact Nat.max_le.mpr ⟨h a (List.mem_cons_self ..), ih fun d hd => h d (List.mem_cons_of_mem _ hd)⟩
theorem lay_tup {α : Type} {f : α → PyData} (h : ∀ a, (f a).canLay0 = true) (l : List α) : (PyData.tuple (l.map f)).canLay0 = true := by
  rw [PyData.canLay0]
  exact layAll fun d hd => by
    obtain ⟨a, _, rfl⟩ := List.mem_map.mp hd
    exact h a
theorem dep_tup {α : Type} {f : α → PyData} {n : Nat} (h : ∀ a, (f a).depth ≤ n) (l : List α) : (PyData.tuple (l.map f)).depth ≤ n + 1 := by
  rw [PyData.depth]
  exact Nat.succ_le_succ (depAll fun d hd => by
    obtain ⟨a, _, rfl⟩ := List.mem_map.mp hd
    exact h a)
theorem shaped_tb (A : Tb) : SeqAt.shaped (encT A) = true := by
  unfold SeqAt.shaped
  rw [Bool.and_eq_true_iff]
  refine ⟨lay_tup (lay_tup (lay_tup fun a => by cases a <;> rfl)) A, decide_eq_true ?_⟩
  have h : (encT A).depth ≤ 0 + 1 + 1 + 1 := dep_tup (dep_tup (dep_tup fun a => by cases a <;> exact Nat.le_refl 0)) A
  omega

section
variable {P : Program} {w : World} {K : PySem.W.Frag} {mg : Str → Option Value} {base : Heap}

/-- a stair as it should be -/
structure Stair (n p : Int) (s : List (Option Int)) : Prop where
  len : s.length = 27
  md : ∀ (i : Nat) (x : Int), s[i]? = some (some x) → x % n = p ∧ -20 ≤ x ∧ x ≤ 3000000000000000
  mono : ∀ (i : Nat) (x : Int), s[i]? = some (some x) → i + 1 < 27 → ∃ y, s[i + 1]? = some (some y) ∧ y ≤ x
def spIsStair : Sp := fun vs H Q _ => ∃ (n p : Int) (v : V) (s : List (Option Int)), vs = [.int n, .int p, v] ∧ 0 < n ∧ Im H v (.tuple (s.map optD)) ∧ Stair n p s ∧ Q (.bl true) H
set_option maxHeartbeats 8000000 in
theorem ok_IsStair (T : TX K mg) : Cal P w K mg base 2 "is_stair" ["size", "place", "thing"] spIsStair := by
  refine cal_of T.f_IsStair T.g_IsStair scIsStair (fun vs H Q E h => ?_) (fun cdv A outer s H vs Q E hr h => ?_)
  · obtain ⟨n, p, v, s, rfl, _⟩ := h
    rfl
  · obtain ⟨n, p, v, st, rfl, hn, hv, S, q⟩ := h
    obtain ⟨a, xs, rfl, ra, hxs⟩ := list_at hv
    have hl : xs.length = 27 := by rw [hxs.1, List.length_map, S.len]
    refine ⟨_, (pss_cons (ps_if (pt_not (pt_val (pe_cal (ok_IsRow T) (hr.mono (by decide)) (by rfl) (pa_cons (pv 2) (pa_cons (pe_op op_add (pe_gi T.i_READY (by rfl)) pe_int) (pa_cons (pe_op op_add (pe_gi T.i_READY (by rfl)) pe_int) pa_nil)))))) (pss_one (ps_ret pe_bl)) pss_nil) (pss_cons (ps_set (i := 3) scIsStair.nd rfl (.inl rfl) pe_non) (pss_cons (ps_for PassesOwn.never rfl (pi_tup (pv 2)) (pg_name (i := 4) scIsStair.nd rfl (.inl rfl)) (pss_cons (ps_if (pt_cmp (pc_isN (pv 4)) rfl) (pss_one (ps_if (pt_cmp (pc_notN (pv 3)) rfl) (pss_one (ps_ret pe_bl)) pss_nil)) (pss_one (ps_if (PW.pt (pw_or (pt_not (pt_val (pe_cal (ok_IsNumber T) (hr.mono (by decide)) (by rfl) (pa_cons (pv 4) (pa_cons (pe_un un_neg (pe_gi T.i_OLD (by rfl))) (pa_cons (pe_gi T.i_LAST (by rfl)) pa_nil)))))) (pw_or (pt_cmpR op_ne (pe_op op_mod (pv 4) (pv 0)) (pv 1) (nomark _)) (pw_or1 (PW.pt (pw_and (pt_cmp (pc_notN (pv 3)) rfl) (pw_and1 (pt_cmpR op_gt (pv 4) (pv 3) (nomark _))))))))) (pss_one (ps_ret pe_bl)) pss_nil))) (pss_one (ps_set (i := 3) scIsStair.nd rfl (.inl rfl) (pv 4))))) (pss_one (ps_ret pe_bl))))), ?_⟩
    refine ⟨.ref a, rfl, 26, 1, rfl, rfl, 26, 1, rfl, rfl, a, xs, 27, 27, rfl, ra, true, by rw [hl]; rfl, iteF ?_⟩
    refine ⟨.ref a, rfl, a, rfl, ⟨_, .inl ra⟩, ?_⟩
    refine for_tup (K := K) (a := a) (xs := xs) (fun i σ H2 => H2 = H ∧ ∃ ah y4, σ = [some (.int n), some (.int p), some (.ref a), some (optV ah), y4] ∧ ((i = 0 ∧ ah = none) ∨ ∃ i', i = i' + 1 ∧ st[i']? = some ah))
      ⟨rfl, none, none, rfl, .inl ⟨rfl, rfl⟩⟩ (fun i σ H2 _ ⟨e, _⟩ => by rw [e]; exact .inl ra) ?_ ?_
    · rintro i x σ H2 hx ⟨rfl, ah, y4, rfl, hah⟩
      have hi27 : i < 27 := by rw [← hl]; exact (List.getElem?_eq_some_iff.mp hx).1
      obtain ⟨z, hz, iz⟩ := ims_of hxs hx
      have ex := im_opt iz
      subst ex
      cases z with
      | none =>
        have hn : ah = none := by
          rcases hah with ⟨_, e⟩ | ⟨i', rfl, e⟩
          · exact e
          · cases ah with
            | none => rfl
            | some b =>
              obtain ⟨y, hy, _⟩ := S.mono i' b e hi27
              rw [hz] at hy
              cases hy
        subst hn
        refine ⟨.non, rfl, true, rfl, iteT ⟨.non, rfl, false, rfl, iteF ?_⟩⟩
        exact ⟨.non, rfl, rfl, none, _, rfl, .inr ⟨i, rfl, hz⟩⟩
      | some z =>
        obtain ⟨m1, m2, m3⟩ := S.md i z hz
        refine ⟨.int z, rfl, false, rfl, iteF ?_⟩
        refine ⟨.int z, rfl, 20, rfl, z, _, _, rfl, _, rfl, ?_⟩
        rw [decide_eq_true (show (-20 : Int) ≤ z from m2), decide_eq_true (show z ≤ 3000000000000000 from m3)]
        refine iteF ⟨.int z, rfl, .int n, rfl, z, n, rfl, rfl, hn, .int p, rfl, rfl, false, by show (V.bl !decide (V.int (z % n) = V.int p)) = _; rw [m1, decide_eq_true rfl]; rfl, iteF ?_⟩
        refine ⟨optV ah, rfl, ?_⟩
        cases ah with
        | none => exact ⟨false, rfl, iteF (iteF ⟨.int z, rfl, rfl, some z, _, rfl, .inr ⟨i, rfl, hz⟩⟩)⟩
        | some b =>
          rcases hah with ⟨_, e⟩ | ⟨i', rfl, e⟩
          · cases e
          · obtain ⟨y, hy, hle⟩ := S.mono i' b e hi27
            rw [hz] at hy
            cases hy
            refine ⟨true, rfl, iteT ⟨.int z, rfl, .int b, rfl, z, b, rfl, rfl, _, rfl, ?_⟩⟩
            rw [decide_eq_false (show ¬ b < z by omega)]
            exact iteF ⟨.int z, rfl, rfl, some z, _, rfl, .inr ⟨i' + 1, rfl, hz⟩⟩
    · rintro σ H2 ⟨rfl, ah, y4, rfl, _⟩
      exact q

theorem idx_nodup {ks : List Str} (h : ks.Nodup) {r : Nat} {k : Str} (e : ks[r]? = some k) : idx ks k = r :=
  nd_ix h (idx_at (List.mem_of_getElem? e)).1 e
theorem stair_of {W : WdS} {T : Tb} (ok : WdOk W) (tb : TbOk W T) (TO : TabOk W (tv W T)) {i p : Nat} {r : List (List (Option Int))} {s : List (Option Int)} (hr : T[i]? = some r) (hs : r[p]? = some s) : Stair W.size p s := by
  have hi : i < W.kinds.length := by rw [← tb.n]; exact (List.getElem?_eq_some_iff.mp hr).1
  have hrm := List.mem_of_getElem? hr
  have hp : p < W.size.toNat := by rw [← tb.r r hrm]; exact (List.getElem?_eq_some_iff.mp hs).1
  have hsl := tb.s r hrm s (List.mem_of_getElem? hs)
  have hk : W.kinds[i]? = some W.kinds[i] := List.getElem?_eq_getElem hi
  have hkm := List.mem_of_getElem? hk
  have hix := idx_nodup ok.kn hk
  have htv : ∀ (j : Nat) (x : Option Int), s[j]? = some x → tv W T W.kinds[i] p j = x := fun j x e => by
    unfold tv
    rw [hix, hr, Option.getD_some, Int.toNat_natCast, hs, Option.getD_some, Int.toNat_natCast, e, Option.getD_some]
  refine ⟨hsl, fun j x e => ?_, fun j x e hj => ?_⟩
  · have hj : j < 27 := by rw [← hsl]; exact (List.getElem?_eq_some_iff.mp e).1
    exact TO.md _ p j x hkm (by omega) (by omega) (by omega) (by omega) (htv j _ e)
  · obtain ⟨y, hy, hle⟩ := TO.mono _ p j x hkm (by omega) (by omega) (by omega) (by omega) (htv j _ e)
    have hj2 : j + 1 < s.length := by rw [hsl]; exact hj
    have e2 := htv (j + 1) _ (List.getElem?_eq_getElem hj2)
    have e3 : tv W T W.kinds[i] p ((j : Int) + 1) = some y := hy
    rw [show ((j + 1 : Nat) : Int) = (j : Int) + 1 by omega, e3] at e2
    exact ⟨y, by rw [List.getElem?_eq_getElem hj2, ← e2], hle⟩

def spIsTable : Sp := fun vs H Q _ => ∃ (vw vt : V) (W : WdS) (T : Tb), vs = [vw, vt] ∧ Rdr H vw vt W T ∧ TabOk W (tv W T) ∧ ∀ H', Same H H' → Q (.bl true) H'
set_option maxHeartbeats 8000000 in
theorem ok_IsTable (T : TX K mg) : Cal P w K mg base 3 "is_table" ["world", "thing"] spIsTable := by
  refine cal_of T.f_IsTable T.g_IsTable scIsTable (fun vs H Q E h => ?_) (fun cdv A outer s H vs Q E hr h => ?_)
  · obtain ⟨vw, vt, W, Tt, rfl, _⟩ := h
    rfl
  · obtain ⟨vw, vt, W, Tt, rfl, R, TO, q⟩ := h
    obtain ⟨aw, vk, vs, vy, rfl, raw, hvk, his, hiy⟩ := R.w.ex
    obtain ⟨ak, ok, rfl, hak, hnd⟩ := hvk
    obtain ⟨at_, xs, rfl, rat, hxs⟩ := list_at R.t
    have hl : xs.length = W.kinds.length := by rw [hxs.1, List.length_map, R.tb.n]
    have n0 := R.ok.n0
    have n1 := R.ok.n1
    refine ⟨_, (pss_cons (ps_asg (pe_tup (pa_cons (pe_ix ix_tup (pv 0) pe_int (fun _ _ => rfl)) (pa_cons (pe_callB call_len_seq (by rfl) T.z_len (by decide +kernel) (pa_cons (pe_ix ix_tup (pv 0) pe_int (fun _ _ => rfl)) pa_nil)) pa_nil))) (pg_tup rfl (pgs_cons (pg_name (i := 2) scIsTable.nd rfl (.inr rfl)) (pgs_cons (pg_name (i := 3) scIsTable.nd rfl (.inl rfl)) pgs_nil)))) (pss_cons (ps_if (pt_not (pt_val (pe_cal (ok_IsRow T) (hr.mono (by decide)) (by rfl) (pa_cons (pv 1) (pa_cons (pv 3) (pa_cons (pv 3) pa_nil)))))) (pss_one (ps_ret pe_bl)) pss_nil) (pss_cons (ps_for PassesOwn.never rfl (pi_tup (pv 1)) (pg_name (i := 4) scIsTable.nd rfl (.inl rfl)) (pss_cons (ps_if (pt_not (pt_val (pe_cal (ok_IsRow T) (hr.mono (by decide)) (by rfl) (pa_cons (pv 4) (pa_cons (pv 2) (pa_cons (pv 2) pa_nil)))))) (pss_one (ps_ret pe_bl)) pss_nil) (pss_one (ps_if (pt_not (pt_val (pe_callB (cr_all rfl) (by rfl) T.z_all (by decide +kernel) (pa_cons (pe_lc (own := [("place", 5), ("stair", 6)]) (g := gTup K 2 (gCons (gName 5) (gCons (gName 6) gNil))) rfl scIsTable.nd (pi_enumT (by rfl) T.z_enumerate (pa_cons (pv 4) pa_nil)) (blkOk_by (N := ["world", "thing", "size", "many", "row", "place", "stair"]) (sc := defScope sIsTable) (by decide +kernel)) (fun _ _ _ _ _ => (pg_tup rfl (pgs_cons (pg_name (i := 5) scIsTable.nd rfl (.inl rfl)) (pgs_cons (pg_name (i := 6) scIsTable.nd rfl (.inl rfl)) pgs_nil)))) (fun _ _ _ _ _ => pts_nil) (fun _ _ _ _ _ => (pe_cal (ok_IsStair T) (hr.mono (by decide)) (by rfl) (pa_cons (pv 2) (pa_cons (pv 5) (pa_cons (pv 6) pa_nil)))))) pa_nil)))) (pss_one (ps_ret pe_bl)) pss_nil)))) (pss_one (ps_ret pe_bl))))), ?_⟩
    refine ⟨.ref aw, rfl, aw, _, 0, .int W.size, rfl, rfl, .inl raw, atI_nat (j := 0) rfl, .ref aw, rfl, aw, _, 1, .ref ak, rfl, rfl, .inl raw, atI_nat (j := 1) rfl,
      ak, W.kinds.map V.str, rfl, .inr (.inl (.inr ⟨ok, hak⟩)), by show 2 ≤ sizeLine; decide, fun N nN => ?_⟩
    have s1 : Same H (upd H N (.tup [.int W.size, .int ((W.kinds.map V.str).length : Nat)])) := sm_new nN
    refine ⟨N, _, rfl, .inl (.inl upd_same), rfl, _, _, rfl, _, _, rfl, rfl, ?_⟩
    generalize upd H N (.tup [.int W.size, .int ((W.kinds.map V.str).length : Nat)]) = H1 at s1 ⊢
    refine ⟨.ref at_, rfl, .int ((W.kinds.map V.str).length : Nat), rfl, .int ((W.kinds.map V.str).length : Nat), rfl, at_, xs, _, _, rfl, rd_sm s1 rat, true, by rw [List.length_map, hl, decide_eq_true (Int.le_refl _)]; rfl, iteF ?_⟩
    refine ⟨.ref at_, rfl, at_, rfl, ⟨_, .inl (rd_sm s1 rat)⟩, ?_⟩
    refine for_tup (K := K) (a := at_) (xs := xs) (fun i σ H2 => Same H H2 ∧ ∃ y4 y5 y6, σ = [some (.ref aw), some (.ref at_), some (.int W.size), some (.int ((W.kinds.map V.str).length : Nat)), y4, y5, y6])
      ⟨s1, none, none, none, rfl⟩ (fun i σ H2 _ ⟨s2, _⟩ => .inl (rd_sm s2 rat)) ?_ ?_
    · rintro i x σ H2 hx ⟨s2, y4, y5, y6, rfl⟩
      obtain ⟨r, hr2, ir⟩ := ims_of hxs hx
      obtain ⟨ar, ys, rfl, rar, hys⟩ := list_at ir
      have hyl : ys.length = W.size.toNat := by rw [hys.1, List.length_map, R.tb.r r (List.mem_of_getElem? hr2)]
      refine ⟨.ref ar, rfl, .int W.size, rfl, .int W.size, rfl, ar, ys, _, _, rfl, rd_sm s2 rar, true, by rw [hyl, Int.toNat_of_nonneg (by omega), decide_eq_true (Int.le_refl _)]; rfl, iteF ?_⟩
      refine ⟨.ref ar, rfl, ar, ys, rfl, .inl (rd_sm s2 rar), fun D hD => ?_⟩
      refine lc_it walk_enumT (fun k H3 => Same H H3 ∧ H3 D = some (.lst ((List.replicate k true).map V.bl))) ⟨sm_then s2 hD, upd_same⟩ (fun k H3 _ ⟨s3, _⟩ => .inl (rd_sm s3 rar)) ?_ ?_
      · rintro k x0 H3 H4 hlt ⟨s3, eD⟩ ⟨M, x1, x2, rfl, nM, rfl, e1, e2⟩
        dsimp only at e1 e2
        cases e1
        obtain ⟨sr, hsr, isr⟩ := ims_of hys e2
        have s4 : Same H (upd H3 M (.tup [.int (k : Int), x2])) := sm_then s3 nM
        have nD : D ≠ M := ne_of_none eD nM
        have hD0 : H D = none := by
          cases e : H D with
          | none => rfl
          | some u =>
            have := s2 D u e
            rw [hD] at this
            cases this
        refine ⟨M, _, rfl, .inl (.inl upd_same), rfl, _, _, rfl, _, _, rfl, rfl, rfl, ty_yes ?_⟩
        refine ⟨.int W.size, rfl, .int k, rfl, x2, rfl, W.size, k, x2, sr, rfl, by omega, isr.sm s4, stair_of R.ok R.tb TO hr2 hsr, ?_⟩
        refine ⟨_, by rw [upd_ne nD]; exact eD, small_lt (by rw [List.length_map, List.length_replicate]; omega), sm_out s4 hD0, ?_⟩
        rw [upd_same, List.replicate_succ', List.map_append]
        rfl
      · rintro H3 ⟨s3, eD⟩
        refine ⟨D, List.replicate ys.length true, rfl, .of eD, true, by simp, iteF ⟨s3, _, _, _, rfl⟩⟩
    · rintro σ H2 ⟨s2, y4, y5, y6, rfl⟩
      exact q H2 s2

def spIsShut : Sp := fun vs H Q _ => ∃ (vw vt : V) (W : WdS) (T : Tb), vs = [vw, vt] ∧ Rdr H vw vt W T ∧ TabOk W (tv W T) ∧ ∀ H' b, Same H H' → (b = true ↔ Shut W (tv W T)) → Q (.bl b) H'
theorem ok_IsShut (T : TX K mg) : Cal P w K mg base 7 "is_shut" ["world", "thing"] spIsShut := by
  refine cal_of T.f_IsShut T.g_IsShut scIsShut (fun vs H Q E h => ?_) (fun cdv A outer s H vs Q E hr h => ?_)
  · obtain ⟨vw, vt, W, Tt, rfl, _⟩ := h
    rfl
  · obtain ⟨vw, vt, W, Tt, rfl, R, TO, q⟩ := h
    refine ⟨_, (pss_one (ps_ret (pe_and (pe_cal (ok_IsTable T) (hr.mono (by decide)) (by rfl) (pa_cons (pv 0) (pa_cons (pv 1) pa_nil))) (pe_one (pe_cmp (pc_isN (pe_cal (ok_Leak T) (hr.mono (by decide)) (by rfl) (pa_cons (pv 0) (pa_cons (pv 1) pa_nil)))) rfl))))), ?_⟩
    refine ⟨vw, rfl, vt, rfl, vw, vt, W, Tt, rfl, R, TO, fun H1 s1 => ⟨true, rfl, iteT ?_⟩⟩
    refine ⟨vw, rfl, vt, rfl, vw, vt, W, Tt, rfl, R.sm s1, TO, fun H2 v s2 hv => ?_⟩
    refine q H2 _ (s1.trans s2) ?_
    rw [decide_eq_true_eq]
    exact hv

def spLesser : Sp := fun vs H Q _ => ∃ x y : Option Int, vs = [optV x, optV y] ∧ Q (optV (lesserO x y)) H
theorem ok_Lesser (T : TX K mg) : Cal P w K mg base 1 "lesser" ["one", "other"] spLesser := by
  refine cal_of T.f_Lesser T.g_Lesser scLesser (fun vs H Q E h => ?_) (fun cdv A outer s H vs Q E hr h => ?_)
  · obtain ⟨x, y, rfl, _⟩ := h
    rfl
  · obtain ⟨x, y, rfl, q⟩ := h
    refine ⟨_, (pss_cons (ps_if (pt_cmp (pc_isN (pv 0)) rfl) (pss_one (ps_ret (pv 1))) pss_nil) (pss_one (ps_ret (pe_ifExp (pt_cmp (pc_isN (pv 1)) rfl) (pv 0) (pe_callB (call_min2 rfl) (by rfl) T.z_min (by decide +kernel) (pa_cons (pv 0) (pa_cons (pv 1) pa_nil))))))), ?_⟩
    cases x with
    | none => exact ⟨.non, rfl, true, rfl, iteT ⟨optV y, rfl, q⟩⟩
    | some x =>
      cases y with
      | none => exact ⟨.int x, rfl, false, rfl, iteF ⟨.non, rfl, true, rfl, iteT ⟨.int x, rfl, q⟩⟩⟩
      | some y => exact ⟨.int x, rfl, false, rfl, iteF ⟨.int y, rfl, false, rfl, iteF ⟨.int x, rfl, .int y, rfl, x, y, rfl, q⟩⟩⟩
end
end Ra
end

section
set_option Elab.async false
set_option linter.all false
set_option maxRecDepth 100000
set_option maxHeartbeats 4000000
/-! walks: two tables put together, whether one is within the other -/
namespace Ra
open PySem PySem.Spec PyProof.Rows L2 RZ
abbrev scopeLR : Scope := { kind := .function, names := [(".0", .local), ("left", .local), ("right", .local), ("tuple", .globalImplicit), ("zip", .globalImplicit), ("choose", .free)], isGenerator := false, isCoroutine := false }

theorem zw_at {α β γ : Type} {f : α → β → γ} {l : List α} {m : List β} {i : Nat} {x : α} {y : β} (h1 : l[i]? = some x) (h2 : m[i]? = some y) : (List.zipWith f l m)[i]? = some (f x y) := by
  rw [List.getElem?_zipWith, h1, h2]
def encSt (s : List (Option Int)) : PyData := .tuple (s.map optD)
def encR (r : List (List (Option Int))) : PyData := .tuple (r.map encSt)
theorem encT_eq (T : Tb) : encT T = .tuple (T.map encR) := rfl
theorem ims_opts {H : Hp} (l : List (Option Int)) : Ims H (l.map optV) (l.map optD) := by
  induction l with
  | nil => exact .nil
  | cons a l ih =>
    refine .cons ?_ ih
    cases a with
    | none => exact .non
    | some x => exact .int x
section
variable {P : Program} {w : World} {K : PySem.W.Frag} {mg : Str → Option Value} {base : Heap}

def spPutTogether (K : PySem.W.Frag) : Sp := fun vs H Q _ => ∃ (v1 v2 : V) (W : WdS) (A B : Tb), vs = [v1, v2, .ref (He.ga K "lesser")] ∧ WdOk W ∧ TbOk W A ∧ TbOk W B ∧ Im H v1 (encT A) ∧ Im H v2 (encT B) ∧
  ∀ H' v, Same H H' → Im H' v (encT (lesserT A B)) → Q v H'
set_option maxHeartbeats 8000000 in
theorem ok_PutTogether (T : TX K mg) : Cal P w K mg base 2 "put_together" ["one", "other", "choose"] (spPutTogether K) := by
  refine cal_of T.f_PutTogether T.g_PutTogether scPutTogether (fun vs H Q E h => ?_) (fun cdv A outer s H vs Q E hr h => ?_)
  · obtain ⟨v1, v2, W, A, B, rfl, _⟩ := h
    rfl
  · obtain ⟨v1, v2, W, TA, TB, rfl, ok, ta, tb, i1, i2, q⟩ := h
    obtain ⟨fL, fdL, FC, hm, kC, bC⟩ := (ok_Lesser (P := P) (w := w) (base := base) T).ex
    have eL : fL = He.ga K "lesser" := by
      have := hm.symm.trans T.g_Lesser
      cases this
      rfl
    subst eL
    have k4 := ok.k1
    have n6 := ok.n1
    rw [encT_eq] at i1 i2
    obtain ⟨a1, xs, rfl, r1, hxs⟩ := list_at i1
    obtain ⟨a2, ys, rfl, r2, hys⟩ := list_at i2
    have lx : xs.length = W.kinds.length := by rw [hxs.1, List.length_map, ta.n]
    have ly : ys.length = W.kinds.length := by rw [hys.1, List.length_map, tb.n]
    refine ⟨_, (pss_cons (ps_set (i := 3) scPutTogether.nd rfl (.inl rfl) (pe_lst pa_nil)) (pss_cons (ps_for PassesOwn.never rfl (pi_zipA (by rfl) T.z_zip (pa_cons (pv 0) (pa_cons (pv 1) pa_nil))) (pg_tup rfl (pgs_cons (pg_name (i := 4) scPutTogether.nd rfl (.inl rfl)) (pgs_cons (pg_name (i := 5) scPutTogether.nd rfl (.inl rfl)) pgs_nil))) (pss_one (ps_expr (pe_bm PySem.F.plainAttrs_list PySem.F.slot_list_append PySem.F.type_list_append mt_append (pv 3) (pa_cons (pe_callTy call_tuple_of (by rfl) T.z_tuple (by decide +kernel) (pa_cons (pe_lc (own := [("left", 6), ("right", 7)]) (g := gTup K 2 (gCons (gName 6) (gCons (gName 7) gNil))) rfl scPutTogether.nd (pi_zipA (by rfl) T.z_zip (pa_cons (pv 4) (pa_cons (pv 5) pa_nil))) (blkOk_by (N := ["one", "other", "choose", "found", "row", "more", "left", "right", "a", "b"]) (sc := defScope sPutTogether) (by decide +kernel)) (fun _ _ _ _ _ => (pg_tup rfl (pgs_cons (pg_name (i := 6) scPutTogether.nd rfl (.inl rfl)) (pgs_cons (pg_name (i := 7) scPutTogether.nd rfl (.inl rfl)) pgs_nil)))) (fun _ _ _ _ _ => pts_nil) (fun _ _ _ _ _ => (pe_callTy (call_tuple_ofK (K := K) rfl) (by rfl) T.z_tuple (by decide +kernel) (pa_cons (pe_lc (own := [("a", 8), ("b", 9)]) (g := gTup K 2 (gCons (gName 8) (gCons (gName 9) gNil))) rfl scPutTogether.nd (pi_zipAK (K := K) rfl (by rfl) T.z_zip (pa_cons (pv 6) (pa_cons (pv 7) pa_nil))) (blkOk_by (N := ["one", "other", "choose", "found", "row", "more", "left", "right", "a", "b"]) (sc := relS scopeLR (defScope sPutTogether)) (by decide +kernel)) (fun _ _ _ _ _ => (pg_tup rfl (pgs_cons (pg_name (i := 8) scPutTogether.nd rfl (.inl rfl)) (pgs_cons (pg_name (i := 9) scPutTogether.nd rfl (.inl rfl)) pgs_nil)))) (fun _ _ _ _ _ => pts_nil) (fun _ _ _ _ _ => (pe_callL (i := 2) FC (hr.mono (by decide)) (by rfl) (by first | exact Or.inl rfl | exact Or.inr (Or.inl rfl) | exact Or.inr (Or.inr rfl)) kC bC .nil pass0 (pa_cons (pv 8) (pa_cons (pv 9) pa_nil))))) pa_nil)))) pa_nil)) pa_nil))))) (pss_one (ps_ret (pe_callTy call_tuple_of (by rfl) T.z_tuple (by decide +kernel) (pa_cons (pv 3) pa_nil)))))), ?_⟩
    refine ⟨Nat.zero_le _, fun D nD => ?_⟩
    have s0 : Same H (upd H D (.lst [])) := sm_new nD
    refine ⟨.ref a1, rfl, .ref a2, rfl, a1, a2, xs, ys, rfl, .inr ⟨.inl (rd_sm s0 r1), .inl (rd_sm s0 r2), ?_⟩⟩
    refine for_it (walk_zipT (n := W.kinds.length) (by rw [lx, ly]; omega)) (fun i σ H2 => ∃ zs y4 y5 y6 y7 y8 y9, σ = [some (.ref a1), some (.ref a2), some (.ref (He.ga K "lesser")), some (.ref D), y4, y5, y6, y7, y8, y9] ∧
      Same H H2 ∧ H2 D = some (.lst zs) ∧ Ims H2 zs (((lesserT TA TB).take i).map encR)) ⟨[], none, none, none, none, none, none, rfl, s0, upd_same, .nil⟩
      (fun i σ H2 _ ⟨_, _, _, _, _, _, _, _, s2, _⟩ => ⟨.inl (rd_sm s2 r1), .inl (rd_sm s2 r2)⟩) ?_ ?_
    · rintro i x0 σ H2 H3 hlt ⟨zs, y4, y5, y6, y7, y8, y9, rfl, s2, eD, iz⟩ ⟨N, x1, x2, rfl, nN, rfl, e1, e2⟩
      dsimp only at e1 e2
      obtain ⟨ra, hra, ira⟩ := ims_of hxs e1
      obtain ⟨rb, hrb, irb⟩ := ims_of hys e2
      have lra := ta.r ra (List.mem_of_getElem? hra)
      have lrb := tb.r rb (List.mem_of_getElem? hrb)
      obtain ⟨b1, ps, rfl, rp, hps⟩ := list_at ira
      obtain ⟨b2, qs, rfl, rq, hqs⟩ := list_at irb
      have lp : ps.length = W.size.toNat := by rw [hps.1, List.length_map, lra]
      have lq : qs.length = W.size.toNat := by rw [hqs.1, List.length_map, lrb]
      have s3 : Same H (upd H2 N (.tup [.ref b1, .ref b2])) := sm_then s2 nN
      have t3 : Same H2 (upd H2 N (.tup [.ref b1, .ref b2])) := sm_new nN
      refine ⟨N, _, rfl, .inl (.inl upd_same), rfl, _, _, rfl, _, _, rfl, rfl, ?_⟩
      generalize upd H2 N (.tup [.ref b1, .ref b2]) = H3 at s3 t3 ⊢
      have eD3 := t3 _ _ eD
      refine ⟨.ref D, rfl, .inl ⟨rfl, _, .of eD3⟩, .ref b1, rfl, .ref b2, rfl, b1, b2, ps, qs, rfl, .inr ⟨.inl (rd_sm s3 rp), .inl (rd_sm s3 rq), fun D2 nD2 => ?_⟩⟩
      have hrow : (lesserT TA TB)[i]? = some (List.zipWith (List.zipWith lesserO) ra rb) := zw_at hra hrb
      generalize hR : List.zipWith (List.zipWith lesserO) ra rb = R at hrow
      have lR : R.length = W.size.toNat := by rw [← hR, List.length_zipWith, lra, lrb]; omega
      refine lc_it (walk_zipT (n := W.size.toNat) (by rw [lp, lq]; omega)) (fun k H4 => Same H3 H4 ∧ ∃ us, H4 D2 = some (.lst us) ∧ Ims H4 us ((R.take k).map encSt)) ⟨sm_new nD2, [], upd_same, .nil⟩
        (fun k H4 _ ⟨s4, _⟩ => ⟨.inl (rd_sm (s3.trans s4) rp), .inl (rd_sm (s3.trans s4) rq)⟩) ?_ ?_
      · rintro k x0 H4 H5 hlt2 ⟨s4, us, eD2, ius⟩ ⟨M, z1, z2, rfl, nM, rfl, f1, f2⟩
        dsimp only at f1 f2
        obtain ⟨sa, hsa, isa⟩ := ims_of hps f1
        obtain ⟨sb, hsb, isb⟩ := ims_of hqs f2
        have lsa := ta.s ra (List.mem_of_getElem? hra) sa (List.mem_of_getElem? hsa)
        have lsb := tb.s rb (List.mem_of_getElem? hrb) sb (List.mem_of_getElem? hsb)
        obtain ⟨c1, ls, rfl, rl, hls⟩ := list_at isa
        obtain ⟨c2, rs, rfl, rr, hrs⟩ := list_at isb
        have ll : ls.length = 27 := by rw [hls.1, List.length_map, lsa]
        have lr : rs.length = 27 := by rw [hrs.1, List.length_map, lsb]
        have t5 : Same H4 (upd H4 M (.tup [.ref c1, .ref c2])) := sm_new nM
        have s5 : Same H3 (upd H4 M (.tup [.ref c1, .ref c2])) := sm_then s4 nM
        refine ⟨M, _, rfl, .inl (.inl upd_same), rfl, _, _, rfl, _, _, rfl, rfl, rfl, ty_yes ?_⟩
        generalize upd H4 M (.tup [.ref c1, .ref c2]) = H5 at t5 s5 ⊢
        have s35 := s3.trans s5
        have eD25 := t5 _ _ eD2
        have hst : R[k]? = some (List.zipWith lesserO sa sb) := by rw [← hR]; exact zw_at hsa hsb
        generalize hS : List.zipWith lesserO sa sb = S at hst
        have lS : S.length = 27 := by rw [← hS, List.length_zipWith, lsa, lsb]; omega
        refine ⟨.ref c1, rfl, .ref c2, rfl, c1, c2, ls, rs, rfl, .inr ⟨.inl (rd_sm s35 rl), .inl (rd_sm s35 rr), fun D3 nD3 => ?_⟩⟩
        refine lc_it (walk_zipT (n := 27) (by rw [ll, lr]; omega)) (fun l H6 => Same H5 H6 ∧ H6 D3 = some (.lst ((S.take l).map optV))) ⟨sm_new nD3, upd_same⟩
          (fun l H6 _ ⟨s6, _⟩ => ⟨.inl (rd_sm (s35.trans s6) rl), .inl (rd_sm (s35.trans s6) rr)⟩) ?_ ?_
        · rintro l x0 H6 H7 hlt3 ⟨s6, eD3⟩ ⟨O, w1, w2, rfl, nO, rfl, g1, g2⟩
          dsimp only at g1 g2
          obtain ⟨oa, hoa, ioa⟩ := ims_of hls g1
          obtain ⟨ob, hob, iob⟩ := ims_of hrs g2
          have ea := im_opt ioa
          have eb := im_opt iob
          subst ea eb
          have nD3O : D3 ≠ O := ne_of_none eD3 nO
          refine ⟨O, _, rfl, .inl (.inl upd_same), rfl, _, _, rfl, _, _, rfl, rfl, rfl, ty_yes ?_⟩
          refine ⟨rfl, optV oa, rfl, optV ob, rfl, oa, ob, rfl, ?_⟩
          have hse : S[l]? = some (lesserO oa ob) := by rw [← hS]; exact zw_at hoa hob
          refine ⟨_, by rw [upd_ne nD3O]; exact eD3, small_lt (by rw [List.length_map, List.length_take]; omega), sm_out (sm_then s6 nO) nD3, ?_⟩
          rw [upd_same, take_snoc hse, List.map_append]
          rfl
        · rintro H6 ⟨s6, eD3⟩
          rw [List.take_of_length_le (by omega)] at eD3
          refine ⟨D3, _, rfl, .inl ⟨.of eD3, fun l nl => ?_⟩⟩
          have t7 : Same H5 (upd H6 l (.tup (S.map optV))) := sm_then s6 nl
          have nD2H3 : H3 D2 = none := nD2
          refine ⟨us, t7 _ _ eD25, small_lt (by rw [ius.1, List.length_map, List.length_take]; omega), sm_out (s5.trans t7) nD2, us ++ [.ref l], upd_same, ?_⟩
          rw [take_snoc hst, List.map_append]
          have t8 : Tk (upd H6 l (.tup (S.map optV))) (upd (upd H6 l (.tup (S.map optV))) D2 (.lst (us ++ [.ref l]))) :=
            Tk.wr (Tk.refl _) fun zs hz => by
              have h9 := t7 _ _ eD25
              rcases hz with hz | ⟨o, hz⟩
              · rw [h9] at hz; cases hz
              · rw [h9] at hz; cases hz
          refine Ims.snoc (((ius.sm t5).sm t7).tk t8) ?_
          have i9 : Im (upd H6 l (.tup (S.map optV))) (.ref l) (encSt S) := Ims.im (.inl upd_same) (ims_opts S)
          exact i9.tk t8
      · rintro H4 ⟨s4, us, eD2, ius⟩
        rw [List.take_of_length_le (by omega)] at ius
        refine ⟨D2, us, rfl, .inl ⟨.of eD2, fun l nl => ?_⟩⟩
        have t5 : Same H3 (upd H4 l (.tup us)) := sm_then s4 nl
        have eD5 := t5 _ _ eD3
        refine ⟨D, zs, .ref l, rfl, rfl, eD5, small_lt (by rw [iz.1, List.length_map, List.length_take]; unfold lesserT; rw [List.length_zipWith, ta.n, tb.n]; omega), ?_⟩
        have t8 : Tk (upd H4 l (.tup us)) (upd (upd H4 l (.tup us)) D (.lst (zs ++ [.ref l]))) :=
          Tk.wr (Tk.refl _) fun ws hz => by
            rcases hz with hz | ⟨o, hz⟩
            · rw [eD5] at hz; cases hz
            · rw [eD5] at hz; cases hz
        refine ⟨zs ++ [.ref l], _, _, _, _, _, _, rfl, sm_out (s3.trans t5) nD, upd_same, ?_⟩
        rw [take_snoc hrow, List.map_append]
        refine Ims.snoc (((iz.sm t3).sm t5).tk t8) ?_
        have i9 : Im (upd H4 l (.tup us)) (.ref l) (encR R) := Ims.im (.inl upd_same) (ius.sm (sm_new nl))
        exact i9.tk t8
    · rintro σ H2 ⟨zs, y4, y5, y6, y7, y8, y9, rfl, s2, eD, iz⟩
      rw [List.take_of_length_le (by unfold lesserT; rw [List.length_zipWith, ta.n, tb.n]; omega)] at iz
      refine ⟨.ref D, rfl, D, zs, rfl, .inl ⟨.of eD, fun l nl => ?_⟩⟩
      exact q _ _ (sm_then s2 nl) (Ims.im (.inl upd_same) (iz.sm (sm_new nl)))

def spWithin : Sp := fun vs H Q _ => ∃ (v1 v2 : V) (W : WdS) (A B : Tb), vs = [v1, v2] ∧ WdOk W ∧ TbOk W A ∧ TbOk W B ∧ Im H v1 (encT A) ∧ Im H v2 (encT B) ∧ ∀ H', Same H H' → Q (.bl (decide (lesserT A B = B))) H'
theorem ok_Within (T : TX K mg) : Cal P w K mg base 3 "within" ["one", "other"] spWithin := by
  refine cal_of T.f_Within T.g_Within scWithin (fun vs H Q E h => ?_) (fun cdv A outer s H vs Q E hr h => ?_)
  · obtain ⟨v1, v2, W, A, B, rfl, _⟩ := h
    rfl
  · obtain ⟨v1, v2, W, TA, TB, rfl, ok, ta, tb, i1, i2, q⟩ := h
    refine ⟨_, (pss_one (ps_ret (pe_cmpR (op_eqD hr.units) (pe_cal (ok_PutTogether T) (hr.mono (by decide)) (by rfl) (pa_cons (pv 0) (pa_cons (pv 1) (pa_cons (pe_glob (v := .ref (He.ga K "lesser")) (by rfl) T.g_Lesser rfl) pa_nil)))) (pv 1) (nomark _)))), ?_⟩
    refine ⟨v1, rfl, v2, rfl, v1, v2, W, TA, TB, rfl, ok, ta, tb, i1, i2, fun H1 v s1 iv => ?_⟩
    refine ⟨v2, rfl, encT (lesserT TA TB), encT TB, iv.dp, (i2.sm s1).dp, shaped_tb _, shaped_tb _, ?_⟩
    rw [eqv_tb]
    exact q H1 s1
end
end Ra
end

section
set_option Elab.async false
set_option linter.all false
set_option maxRecDepth 100000
set_option maxHeartbeats 4000000
/-! walks: ages that go together; how the growth lies -/
namespace Ra
open PySem PySem.Spec PyProof.Rows L2 RZ

def natV (b : Nat) : V := .int (b : Int)
/-- ages, one of each list, of which this one is handed on -/
def Sel (bs : List Nat) (old : Bool) (g : Nat) : Prop := ∃ cs : List Nat, All2 (fun b c => b.testBit c = true ∧ (if old = true then c ≤ g else g ≤ c)) bs cs ∧ g ∈ cs
theorem inV_nat (g : Nat) (cs : List Nat) : inV (.int (g : Int)) (cs.map natV) = decide (g ∈ cs) := by
  induction cs with
  | nil => rfl
  | cons c cs ih =>
    have e : inV (.int (g : Int)) ((c :: cs).map natV) = (((c : Int) == (g : Int)) || inV (.int (g : Int)) (cs.map natV)) := rfl
    rw [e, ih, Bool.eq_iff_iff, Bool.or_eq_true, beq_iff_eq, decide_eq_true_eq, decide_eq_true_eq, List.mem_cons]
    constructor
    · rintro (h | h)
      · exact .inl (by omega)
      · exact .inr h
    · rintro (h | h)
      · exact .inl (by omega)
      · exact .inr h
theorem flat_nat (cs : List Nat) : (cs.map natV).all flatV = true := by
  rw [List.all_eq_true]
  intro v hv
  obtain ⟨f, _, rfl⟩ := List.mem_map.mp hv
  rfl
theorem all2_snoc {α β : Type} {R : α → β → Prop} {xs : List α} {ys : List β} {i : Nat} {x : α} {y : β} (h : All2 R (xs.take i) ys) (hx : xs[i]? = some x) (r : R x y) : All2 R (xs.take (i + 1)) (ys ++ [y]) := by
  rw [take_snoc hx]
  refine ⟨by rw [List.length_append, List.length_append, h.1]; rfl, fun j a b ha hb => ?_⟩
  by_cases hj : j < (xs.take i).length
  · rw [List.getElem?_append_left hj] at ha
    rw [List.getElem?_append_left (by rw [← h.1]; exact hj)] at hb
    exact h.2 j a b ha hb
  · rw [List.getElem?_append_right (by omega)] at ha
    rw [List.getElem?_append_right (by rw [← h.1]; omega), ← h.1] at hb
    cases hk : j - (xs.take i).length with
    | zero =>
      rw [hk] at ha hb
      cases ha
      cases hb
      exact r
    | succ k =>
      rw [hk] at ha
      cases ha

section
variable {P : Program} {w : World} {K : PySem.W.Frag} {mg : Str → Option Value} {base : Heap}

def spChosen : Sp := fun vs H Q _ => ∃ (a : Addr) (bs : List Nat) (g : Nat) (old : Bool), vs = [.ref a, .int (g : Int), .str (keepS old)] ∧ H a = some (.lst (bs.map natV)) ∧ (∀ b ∈ bs, b < 2 ^ 27) ∧ bs.length ≤ 3 ∧ g ≤ 1000 ∧
  ∀ H' v, Same H H' → (v = .non ↔ ¬ Sel bs old g) → Q v H'
theorem ok_Chosen (T : TX K mg) : Cal P w K mg base 2 "chosen" ["parts", "age", "keeps"] spChosen := by
  refine cal_of T.f_Chosen T.g_Chosen scChosen (fun vs H Q E h => ?_) (fun cdv A outer s H vs Q E hr h => ?_)
  · obtain ⟨a, bs, g, old, rfl, _⟩ := h
    rfl
  · obtain ⟨a, bs, g, old, rfl, ha, hb, hl, hg, q⟩ := h
    refine ⟨_, (pss_cons (ps_set (i := 3) scChosen.nd rfl (.inl rfl) (pe_lst pa_nil)) (pss_cons (ps_for PassesOwn.never rfl (pi_list (pv 0)) (pg_name (i := 4) scChosen.nd rfl (.inl rfl)) (pss_cons (ps_set (i := 5) scChosen.nd rfl (.inl rfl) (pe_cal (ok_Nearest T) (hr.mono (by decide)) (by rfl) (pa_cons (pv 4) (pa_cons (pv 1) (pa_cons (pv 2) pa_nil))))) (pss_cons (ps_if (pt_cmpR op_lt (pv 5) pe_int (nomark _)) (pss_one (ps_ret pe_non)) pss_nil) (pss_one (ps_expr (pe_bm PySem.F.plainAttrs_list PySem.F.slot_list_append PySem.F.type_list_append mt_append (pv 3) (pa_cons (pv 5) pa_nil))))))) (pss_one (ps_ret (pe_ifExp (pt_cmpR op_in_seq (pv 1) (pv 3) (by rfl)) (pe_callTy call_tuple_of (by rfl) T.z_tuple (by decide +kernel) (pa_cons (pv 3) pa_nil)) pe_non))))), ?_⟩
    refine ⟨Nat.zero_le _, fun D nD => ?_⟩
    have s0 : Same H (upd H D (.lst [])) := sm_new nD
    refine ⟨.ref a, rfl, a, rfl, ⟨_, .of (s0 _ _ ha)⟩, ?_⟩
    refine for_list (K := K) (a := a) (xs := bs.map natV) (fun i σ H2 => ∃ cs y4 y5, σ = [some (.ref a), some (.int (g : Int)), some (.str (keepS old)), some (.ref D), y4, y5] ∧ Same H H2 ∧ H2 D = some (.lst (cs.map natV)) ∧
      All2 (fun b c => b.testBit c = true ∧ (if old = true then c ≤ g else g ≤ c) ∧ (b.testBit g = true → c = g)) (bs.take i) cs)
      ⟨[], none, none, rfl, s0, upd_same, rfl, fun i x y e => by cases e⟩ (fun i σ H2 _ ⟨_, _, _, _, s2, _⟩ => .of (s2 _ _ ha)) ?_ ?_
    · rintro i x σ H2 hx ⟨cs, y4, y5, rfl, s2, eD, hcs⟩
      obtain ⟨b, hbi, rfl⟩ : ∃ b, bs[i]? = some b ∧ x = natV b := by
        rw [List.getElem?_map] at hx
        cases e : bs[i]? with
        | none => rw [e] at hx; cases hx
        | some b => rw [e] at hx; cases hx; exact ⟨b, rfl, rfl⟩
      have hi := (List.getElem?_eq_some_iff.mp hbi).1
      refine ⟨natV b, rfl, .int (g : Int), rfl, .str (keepS old), rfl, b, g, old, rfl, hb b (List.mem_of_getElem? hbi), hg, fun r hnear => ?_⟩
      rcases hnear with ⟨rfl, hno⟩ | ⟨c, rfl, c1, c2, c3⟩
      · refine ⟨.int (-1), rfl, -1, 0, rfl, rfl, true, rfl, iteT (q H2 .non s2 ⟨fun _ => ?_, fun _ => rfl⟩)⟩
        rintro ⟨cs', h', _⟩
        have hi' : i < cs'.length := by rw [← h'.1]; exact hi
        have := h'.2 i b _ hbi (List.getElem?_eq_getElem hi')
        exact hno _ this.1 this.2
      · refine ⟨.int (c : Int), rfl, (c : Int), 0, rfl, rfl, false, ?_, iteF ?_⟩
        · show V.bl (decide ((c : Int) < 0)) = V.bl false
          rw [decide_eq_false (by omega)]
        have hlen : cs.length = i := by
          have := hcs.1
          rw [List.length_take] at this
          omega
        refine ⟨.ref D, rfl, .inl ⟨rfl, _, .of eD⟩, .int (c : Int), rfl, D, _, _, rfl, rfl, eD, small_lt (by rw [List.length_map]; omega), cs ++ [c], _, _, rfl, sm_out s2 nD, ?_, all2_snoc hcs hbi ⟨c1, c2, c3⟩⟩
        rw [upd_same, List.map_append]
        rfl
    · rintro σ H2 ⟨cs, y4, y5, rfl, s2, eD, hcs⟩
      rw [List.length_map, List.take_of_length_le (Nat.le_refl _)] at hcs
      refine ⟨.int (g : Int), rfl, .ref D, rfl, D, _, rfl, .inl (.of eD), rfl, flat_nat cs, _, rfl, ?_⟩
      rw [if_neg Bool.false_ne_true, inV_nat]
      refine ite2 (fun hm => ?_) (fun hm => ?_)
      · refine ⟨.ref D, rfl, D, _, rfl, .inl ⟨.of eD, fun l nl => q _ _ (sm_then s2 nl) ⟨fun z => (nomatch z), fun hs => ?_⟩⟩⟩
        exact absurd ⟨cs, hcs.mono fun b c _ _ z => ⟨z.1, z.2.1⟩, of_decide_eq_true hm⟩ hs
      · refine q _ .non s2 ⟨fun _ => ?_, fun _ => rfl⟩
        rintro ⟨cs', h', hg'⟩
        obtain ⟨i, b, hbi, hci, z1, _⟩ := h'.left hg'
        have hlt : i < cs.length := by rw [← hcs.1]; exact (List.getElem?_eq_some_iff.mp hbi).1
        have := (hcs.2 i b _ hbi (List.getElem?_eq_getElem hlt)).2.2 z1
        exact hm (decide_eq_true (by rw [← this]; exact List.getElem_mem hlt))

/-! ### how the growth lies -/
structure GA where
  C : Addr
  self : Addr
  dx : Addr
  am : Addr
  ar : Addr
  ap : Addr
  aa : Addr
abbrev KyS := Ky Str
def encK (key : KyS) : List Key := [.inr key.1, .inl key.2.1, .inl key.2.2]
theorem encK_inj {a b : KyS} (e : encK a = encK b) : a = b := by
  obtain ⟨a1, a2, a3⟩ := a
  obtain ⟨b1, b2, b3⟩ := b
  simp only [encK, List.cons.injEq, Sum.inr.injEq, Sum.inl.injEq, and_true] at e
  obtain ⟨rfl, rfl, rfl⟩ := e
  rfl
def encM (M : List (KyS × Int)) : List (List Key × V) := M.map fun p => (encK p.1, V.int p.2)
theorem val_encM (M : List (KyS × Int)) (key : KyS) : valV (encM M) (encK key) = (look M key).map V.int := by
  induction M with
  | nil => rfl
  | cons p M ih =>
    rw [look_cons]
    show valV ((encK p.1, V.int p.2) :: encM M) (encK key) = _
    by_cases h : p.1 = key
    · rw [if_pos h, valV_pos (by rw [h])]
      rfl
    · rw [if_neg h, valV_neg (fun e => h (encK_inj e)), ih]
abbrev Pd := List (Int × Addr × List KyS)
def addrs (pd : Pd) : List Addr := pd.map (·.2.1)
def EntAt (H : Hp) (v : V) (key : KyS) : Prop := ∃ (e kq : Addr) (rv : V), v = .ref e ∧ H e = some (.tup [.ref kq, rv]) ∧ H kq = some (.tup ((encK key).map kV))
theorem EntAt.tz {H H' : Hp} (e : Tz H H') {v : V} {key : KyS} (h : EntAt H v key) : EntAt H' v key := by
  obtain ⟨a, kq, rv, e1, e2, e3⟩ := h
  exact ⟨a, kq, rv, e1, e _ _ ⟨_, .inl rfl⟩ e2, e _ _ ⟨_, .inl rfl⟩ e3⟩
def Ents (H : Hp) (vs : List V) (ks : List KyS) : Prop := All2 (EntAt H) vs ks
structure PdAt (H : Hp) (ap : Addr) (pd : Pd) : Prop where
  d : H ap = some (.dK (pd.map fun p => (Sum.inl p.1, V.ref p.2.1)))
  l : ∀ p ∈ pd, ∃ vs, H p.2.1 = some (.lst vs) ∧ Ents H vs p.2.2
  nm : (pd.map (·.1)).Nodup
  na : (addrs pd).Nodup
  ne : ∀ p ∈ pd, p.2.2 ≠ []
def InP (pd : Pd) (m : Int) (key : KyS) : Prop := ∃ p ∈ pd, p.1 = m ∧ key ∈ p.2.2
def cnt (pd : Pd) : Nat := (pd.map (fun p => p.2.2.length)).sum
def AgesOk (n : Int) (M : List (KyS × Int)) (kA : List (List Key × V)) : Prop := ∀ (k : Str) (h : Int), 0 ≤ h → h < n → ∃ b : Nat, (valV kA [.inr k, .inl h]).getD (.int 0) = .int (b : Int) ∧
  ∀ i : Nat, b.testBit i = true ↔ i ≤ 26 ∧ (look M (k, (h - i) % n, (i : Int))).isSome = true
structure GrAt (G : GA) (W : WdS) (vw : V) (M : List (KyS × Int)) (pd : Pd) (H : Hp) : Prop where
  self : H G.self = some (.ins G.C G.dx [("here", vw), ("size", .int W.size), ("moments", .ref G.am), ("reasons", .ref G.ar), ("pending", .ref G.ap), ("ages", .ref G.aa)])
  w : WdAt H vw W
  mo : H G.am = some (.dT (encM M))
  re : ∃ kR, H G.ar = some (.dT kR) ∧ kR.length ≤ M.length
  ag : ∃ kA, H G.aa = some (.dT kA) ∧ kA.length ≤ M.length ∧ AgesOk W.size M kA
  pe : PdAt H G.ap pd
  d1 : G.am ≠ G.ar
  d2 : G.am ≠ G.aa
  d3 : G.ar ≠ G.aa
/-- what may change: the four dicts, the lists that wait; new lists wait, or old ones -/
structure Fg (G : GA) (pd pd' : Pd) (H H' : Hp) : Prop where
  k : ∀ b o, H b = some o → b ≠ G.am → b ≠ G.ar → b ≠ G.ap → b ≠ G.aa → b ∉ addrs pd → H' b = some o
  n : ∀ b ∈ addrs pd', b ∈ addrs pd ∨ H b = none
  t : ∀ b, H' b = none → H b = none
theorem Fg.refl (G : GA) (pd : Pd) (H : Hp) : Fg G pd pd H H := ⟨fun _ _ e _ _ _ _ _ => e, fun _ h => .inl h, fun _ h => h⟩
theorem same_none {H H' : Hp} (e : Same H H') {b : Addr} (h : H' b = none) : H b = none := by
  cases q : H b with
  | none => rfl
  | some o =>
    rw [e b o q] at h
    cases h
theorem Fg.sm {G : GA} {pd : Pd} {H H' : Hp} (e : Same H H') : Fg G pd pd H H' := ⟨fun b o q _ _ _ _ _ => e b o q, fun _ h => .inl h, fun b h => same_none e h⟩
theorem Fg.trans {G : GA} {p1 p2 p3 : Pd} {H1 H2 H3 : Hp} (a : Fg G p1 p2 H1 H2) (b : Fg G p2 p3 H2 H3) : Fg G p1 p3 H1 H3 := by
  refine ⟨fun c o q h1 h2 h3 h4 h5 => b.k c o (a.k c o q h1 h2 h3 h4 h5) h1 h2 h3 h4 fun h => ?_, fun c hc => ?_, fun c hc => a.t c (b.t c hc)⟩
  · rcases a.n c h with h | h
    · exact h5 h
    · rw [q] at h
      cases h
  · rcases b.n c hc with h | h
    · exact a.n c h
    · exact .inr (a.t c h)
def tupB : HO → Bool
  | .tup _ => true
  | .frz _ (.tup _) => true
  | _ => false
theorem tupB_of {u : HO} (h : ∃ xs, u = .tup xs ∨ ∃ o, u = .frz o (.tup xs)) : tupB u = true := by
  obtain ⟨xs, h | ⟨o, h⟩⟩ := h
  · rw [h]; rfl
  · rw [h]; rfl
theorem ne_tup {H : Hp} {a b : Addr} {u o : HO} (ha : H a = some u) (hb : H b = some o) (hu : tupB u = true) (ho : tupB o = false) : a ≠ b := fun q => by
  rw [q, hb] at ha
  rw [Option.some.inj ha, hu] at ho
  cases ho
theorem GrAt.tz {G : GA} {W : WdS} {vw : V} {M : List (KyS × Int)} {pd pd' : Pd} {H H' : Hp} (g : GrAt G W vw M pd H) (f : Fg G pd pd' H H') : Tz H H' := by
  intro a u hu e
  have hb := tupB_of hu
  obtain ⟨kR, hR, _⟩ := g.re
  obtain ⟨kA, hA, _⟩ := g.ag
  refine f.k a u e (ne_tup e g.mo hb rfl) (ne_tup e hR hb rfl) (ne_tup e g.pe.d hb rfl) (ne_tup e hA hb rfl) fun h => ?_
  obtain ⟨p, hp, hpa⟩ := List.mem_map.mp h
  obtain ⟨vs, hv, _⟩ := g.pe.l p hp
  exact ne_tup e hv hb rfl hpa.symm
theorem PdAt.sm {H H' : Hp} {ap : Addr} {pd : Pd} (e : Same H H') (p : PdAt H ap pd) : PdAt H' ap pd :=
  ⟨e _ _ p.d, fun q hq => by
    obtain ⟨vs, h1, h2⟩ := p.l q hq
    exact ⟨vs, e _ _ h1, h2.mono fun _ _ _ _ z => z.tz (Tz.sm e)⟩, p.nm, p.na, p.ne⟩
theorem GrAt.sm {G : GA} {W : WdS} {vw : V} {M : List (KyS × Int)} {pd : Pd} {H H' : Hp} (e : Same H H') (g : GrAt G W vw M pd H) : GrAt G W vw M pd H' := by
  obtain ⟨kR, hR, lR⟩ := g.re
  obtain ⟨kA, hA, lA, oA⟩ := g.ag
  exact ⟨e _ _ g.self, g.w.sm e, e _ _ g.mo, ⟨kR, e _ _ hR, lR⟩, ⟨kA, e _ _ hA, lA, oA⟩, g.pe.sm e, g.d1, g.d2, g.d3⟩

def spNumberOf (C : Addr) : Sp := fun vs H Q _ => ∃ (G : GA) (W : WdS) (vw : V) (M : List (KyS × Int)) (pd : Pd) (k : Str) (p a : Int), vs = [.ref G.self, .str k, .int p, .int a] ∧ G.C = C ∧ GrAt G W vw M pd H ∧
  ∀ H', Same H H' → Q (optV (tOf M k p a)) H'
theorem ok_NumberOf (T : TX K mg) : Mth P w K mg base 1 (He.ga K "Growth") "number_of" ["self", "kind", "place", "age"] (spNumberOf (He.ga K "Growth")) := by
  refine mth_of T.f_NumberOf T.m_NumberOf scNumberOf (fun vs H Q E h => ?_) (fun cdv A outer s H vs Q E hr h => ?_)
  · obtain ⟨G, W, vw, M, pd, k, p, a, rfl, _⟩ := h
    rfl
  · obtain ⟨G, W, vw, M, pd, k, p, a, rfl, hC, g, q⟩ := h
    have hcl : Cls K G.C := by rw [hC]; exact T.cl
    have hnm : NoAttr K G.C "moments" := by rw [hC]; exact T.n_moments
    refine ⟨_, (pss_cons (ps_set (i := 4) scNumberOf.nd rfl (.inl rfl) (pe_dget1 (hu_of hr) (pe_fld (pv 0) rfl) (pe_tup (pa_cons (pv 1) (pa_cons (pv 2) (pa_cons (pv 3) pa_nil)))) ⟨rfl, rfl, rfl, rfl⟩)) (pss_one (ps_ret (pe_ifExp (pt_cmp (pc_isN (pv 4)) rfl) pe_non (pe_op op_sub (pv 4) (pv 3)))))), ?_⟩
    refine ⟨.ref G.self, rfl, G.self, G.C, G.dx, _, .ref G.am, rfl, g.self, hcl, hnm, rfl, G.am, rfl, .inr ⟨_, .inl g.mo⟩, ?_⟩
    refine ⟨.str k, rfl, .int p, rfl, .int a, rfl, by show 3 ≤ sizeLine; decide, fun kq nk => ?_⟩
    have s1 : Same H (upd H kq (.tup [.str k, .int p, .int a])) := sm_new nk
    refine ⟨_, .t (k := encK (k, p, a)) (s1 _ _ g.mo) upd_same, ?_⟩
    have e := val_encM M (k, p, a)
    unfold tOf at q
    rw [e]
    cases e2 : look M (k, p, a) with
    | none =>
      rw [e2] at q
      exact ⟨.non, rfl, true, rfl, iteT (q _ s1)⟩
    | some m =>
      rw [e2] at q
      exact ⟨.int m, rfl, false, rfl, iteF ⟨.int m, rfl, .int a, rfl, m, a, rfl, rfl, q _ s1⟩⟩

def spAgesAt (C : Addr) : Sp := fun vs H Q _ => ∃ (G : GA) (W : WdS) (vw vp : V) (M : List (KyS × Int)) (pd : Pd) (c : Prt Str) (h : Int), vs = [.ref G.self, vp, .int h] ∧ G.C = C ∧ GrAt G W vw M pd H ∧ Im H vp (encP c) ∧
  0 ≤ c.lo ∧ c.lo ≤ c.hi ∧ c.hi ≤ 20 ∧ 0 ≤ h ∧ h < W.size ∧
  ∀ H' (b : Nat), Same H H' → (∀ i : Nat, b.testBit i = true ↔ c.lo ≤ i ∧ (i : Int) ≤ c.hi ∧ (look M (c.kind, (h - i) % W.size, (i : Int))).isSome = true) → Q (.int (b : Int)) H'
theorem ok_AgesAt (T : TX K mg) : Mth P w K mg base 1 (He.ga K "Growth") "ages_at" ["self", "part", "hour"] (spAgesAt (He.ga K "Growth")) := by
  refine mth_of T.f_AgesAt T.m_AgesAt scAgesAt (fun vs H Q E h => ?_) (fun cdv A outer s H vs Q E hr h => ?_)
  · obtain ⟨G, W, vw, vp, M, pd, c, h, rfl, _⟩ := h
    rfl
  · obtain ⟨G, W, vw, vp, M, pd, c, hh, rfl, hC, g, ip, l0, lh, h1, hh0, hh1, q⟩ := h
    have hcl : Cls K G.C := by rw [hC]; exact T.cl
    have hna : NoAttr K G.C "ages" := by rw [hC]; exact T.n_ages
    obtain ⟨d, rfl, rd⟩ := prt_at ip
    obtain ⟨kA, hA, lA, oA⟩ := g.ag
    obtain ⟨b, hb, hbits⟩ := oA c.kind hh hh0 hh1
    refine ⟨_, (pss_cons (ps_asg (pv 1) (pg_tup rfl (pgs_cons (pg_name (i := 3) scAgesAt.nd rfl (.inl rfl)) (pgs_cons (pg_name (i := 4) scAgesAt.nd rfl (.inl rfl)) (pgs_cons (pg_name (i := 5) scAgesAt.nd rfl (.inl rfl)) pgs_nil))))) (pss_one (ps_ret (pe_op op_and (pe_dget2 (hu_of hr) (pe_fld (pv 0) rfl) (pe_tup (pa_cons (pv 3) (pa_cons (pv 2) pa_nil))) pe_int ⟨rfl, rfl, rfl, rfl⟩) (pe_op op_sub (pe_op op_shl pe_int (pv 5)) (pe_op op_shl pe_int (pv 4))))))), ?_⟩
    refine ⟨.ref d, rfl, d, _, rfl, .inl rd, rfl, _, _, rfl, _, _, rfl, _, _, rfl, rfl, ?_⟩
    refine ⟨.ref G.self, rfl, G.self, G.C, G.dx, _, .ref G.aa, rfl, g.self, hcl, hna, rfl, G.aa, rfl, .inr ⟨_, .inl hA⟩, ?_⟩
    refine ⟨.str c.kind, rfl, .int hh, rfl, by show 2 ≤ sizeLine; decide, fun kq nk => ?_⟩
    have s1 : Same H (upd H kq (.tup [.str c.kind, .int hh])) := sm_new nk
    refine ⟨_, .t (k := [.inr c.kind, .inl hh]) (s1 _ _ hA) upd_same, ?_⟩
    rw [hb]
    obtain ⟨lo, elo⟩ := Int.eq_ofNat_of_zero_le l0
    obtain ⟨hi, ehi⟩ := Int.eq_ofNat_of_zero_le (show 0 ≤ c.hi by omega)
    refine ⟨.int c.hi, rfl, 2, c.hi, rfl, rfl, ⟨by omega, by omega, by decide⟩, .int c.lo, rfl, 1, c.lo, rfl, rfl, ⟨by omega, by omega, by decide⟩, _, _, rfl, rfl, b, _, rfl, rfl, ?_⟩
    rw [elo, ehi, Int.toNat_natCast, Int.toNat_natCast, mask_nat (show lo ≤ hi by omega)]
    show Q (V.int (Builtin.bitAnd _ _)) _
    rw [and_nat]
    refine q _ _ s1 fun i => ?_
    rw [Nat.testBit_and, mask_bit lo hi i (by omega), Bool.and_eq_true, Bool.and_eq_true, decide_eq_true_eq, decide_eq_true_eq, hbits i, elo, ehi]
    constructor
    · rintro ⟨⟨z1, z2⟩, z3, z4⟩
      exact ⟨by omega, by omega, z2⟩
    · rintro ⟨z1, z2, z3⟩
      exact ⟨⟨by omega, z3⟩, by omega, by omega⟩
end
end Ra
end

section
set_option Elab.async false
set_option linter.all false
set_option maxRecDepth 100000
set_option maxHeartbeats 4000000
/-! walks: something is awaited; all that a way makes -/
namespace Ra
open PySem PySem.Spec PyProof.Rows L2 RZ

def app1 (pd : Pd) (m : Int) (key : KyS) : Pd := pd.map fun p => if p.1 = m then (p.1, p.2.1, p.2.2 ++ [key]) else p
theorem app1_fst (pd : Pd) (m : Int) (key : KyS) : (app1 pd m key).map (·.1) = pd.map (·.1) := by
  unfold app1
  rw [List.map_map]
  refine List.map_congr_left fun p _ => ?_
  show (if p.1 = m then _ else p).1 = p.1
  split <;> rfl
theorem app1_addrs (pd : Pd) (m : Int) (key : KyS) : addrs (app1 pd m key) = addrs pd := by
  unfold app1 addrs
  rw [List.map_map]
  refine List.map_congr_left fun p _ => ?_
  show (if p.1 = m then _ else p).2.1 = p.2.1
  split <;> rfl
theorem inP_app1 {pd : Pd} {m : Int} {key : KyS} (h : m ∈ pd.map (·.1)) (m' : Int) (k' : KyS) : InP (app1 pd m key) m' k' ↔ InP pd m' k' ∨ (m' = m ∧ k' = key) := by
  constructor
  · rintro ⟨p', hp', e1, e2⟩
    obtain ⟨p, hp, rfl⟩ := List.mem_map.mp hp'
    by_cases hm : p.1 = m
    · rw [if_pos hm] at e1 e2
      rcases List.mem_append.mp e2 with e2 | e2
      · exact .inl ⟨p, hp, e1, e2⟩
      · exact .inr ⟨by rw [← e1]; exact hm, List.mem_singleton.mp e2⟩
    · rw [if_neg hm] at e1 e2
      exact .inl ⟨p, hp, e1, e2⟩
  · rintro (⟨p, hp, e1, e2⟩ | ⟨rfl, rfl⟩)
    · refine ⟨_, List.mem_map.mpr ⟨p, hp, rfl⟩, ?_, ?_⟩
      · split <;> exact e1
      · split
        · exact List.mem_append_left _ e2
        · exact e2
    · obtain ⟨p, hp, e⟩ := List.mem_map.mp h
      refine ⟨_, List.mem_map.mpr ⟨p, hp, rfl⟩, ?_, ?_⟩
      · split <;> exact e
      · rw [if_pos e]
        exact List.mem_append_right _ (List.mem_singleton.mpr rfl)
theorem inP_snoc {pd : Pd} {m : Int} {a : Addr} {key : KyS} (m' : Int) (k' : KyS) : InP (pd ++ [(m, a, [key])]) m' k' ↔ InP pd m' k' ∨ (m' = m ∧ k' = key) := by
  constructor
  · rintro ⟨p, hp, e1, e2⟩
    rcases List.mem_append.mp hp with hp | hp
    · exact .inl ⟨p, hp, e1, e2⟩
    · rw [List.mem_singleton.mp hp] at e1 e2
      exact .inr ⟨e1.symm, List.mem_singleton.mp e2⟩
  · rintro (⟨p, hp, e1, e2⟩ | ⟨rfl, rfl⟩)
    · exact ⟨p, List.mem_append_left _ hp, e1, e2⟩
    · exact ⟨_, List.mem_append_right _ (List.mem_singleton.mpr rfl), rfl, List.mem_singleton.mpr rfl⟩
theorem app1_no : ∀ {pd : Pd} {m : Int} {key : KyS}, m ∉ pd.map (·.1) → app1 pd m key = pd
  | [], _, _, _ => rfl
  | p :: pd, m, key, h => by
    rw [List.map_cons, List.mem_cons, not_or] at h
    show (if p.1 = m then _ else p) :: app1 pd m key = p :: pd
    rw [if_neg (fun e => h.1 e.symm), app1_no h.2]
theorem cnt_cons (p : Int × Addr × List KyS) (pd : Pd) : cnt (p :: pd) = p.2.2.length + cnt pd := by
  unfold cnt
  rw [List.map_cons, List.sum_cons]
theorem cnt_snoc (pd : Pd) (p : Int × Addr × List KyS) : cnt (pd ++ [p]) = cnt pd + p.2.2.length := by
  unfold cnt
  rw [List.map_append, List.sum_append]
  simp
theorem cnt_app1 : ∀ {pd : Pd} {m : Int} {key : KyS}, (pd.map (·.1)).Nodup → cnt (app1 pd m key) ≤ cnt pd + 1
  | [], _, _, _ => Nat.zero_le _
  | p :: pd, m, key, h => by
    rw [List.map_cons, List.nodup_cons] at h
    show cnt ((if p.1 = m then (p.1, p.2.1, p.2.2 ++ [key]) else p) :: app1 pd m key) ≤ _
    rw [cnt_cons, cnt_cons]
    by_cases e : p.1 = m
    · rw [if_pos e, app1_no (by rw [← e]; exact h.1)]
      show (p.2.2 ++ [key]).length + cnt pd ≤ _
      rw [List.length_append, List.length_singleton]
      omega
    · rw [if_neg e]
      have := cnt_app1 (m := m) (key := key) h.2
      omega
theorem len_cnt : ∀ {pd : Pd}, (∀ p ∈ pd, p.2.2 ≠ []) → pd.length ≤ cnt pd
  | [], _ => Nat.zero_le _
  | p :: pd, h => by
    rw [cnt_cons, List.length_cons]
    have := len_cnt fun q hq => h q (List.mem_cons_of_mem _ hq)
    have := List.length_pos_iff.mpr (h p (List.mem_cons_self ..))
    omega
theorem mem_cnt : ∀ {pd : Pd} {p : Int × Addr × List KyS}, p ∈ pd → p.2.2.length ≤ cnt pd
  | [], _, h => by cases h
  | q :: pd, p, h => by
    rw [cnt_cons]
    rcases List.mem_cons.mp h with e | h
    · rw [e]
      omega
    · have := mem_cnt h
      omega
theorem nodup_map_inj {α β : Type} {f : α → β} : ∀ {l : List α} {a b : α}, (l.map f).Nodup → a ∈ l → b ∈ l → f a = f b → a = b
  | [], _, _, _, h, _, _ => by cases h
  | c :: l, a, b, hn, ha, hb, e => by
    rw [List.map_cons, List.nodup_cons] at hn
    rcases List.mem_cons.mp ha with ha | ha
    · rcases List.mem_cons.mp hb with hb | hb
      · rw [ha, hb]
      · exact absurd (List.mem_map.mpr ⟨b, hb, by rw [← e, ha]⟩) hn.1
    · rcases List.mem_cons.mp hb with hb | hb
      · exact absurd (List.mem_map.mpr ⟨a, ha, by rw [e, hb]⟩) hn.1
      · exact nodup_map_inj hn.2 ha hb e
theorem val_pd (pd : Pd) (m : Int) : (valV (pd.map fun p => ((Sum.inl p.1 : Key), V.ref p.2.1)) (Sum.inl m) = none ∧ m ∉ pd.map (·.1)) ∨
    ∃ p ∈ pd, p.1 = m ∧ valV (pd.map fun p => ((Sum.inl p.1 : Key), V.ref p.2.1)) (Sum.inl m) = some (.ref p.2.1) := by
  induction pd with
  | nil => exact .inl ⟨rfl, fun h => by cases h⟩
  | cons q pd ih =>
    rw [List.map_cons]
    by_cases e : q.1 = m
    · exact .inr ⟨q, List.mem_cons_self .., e, valV_pos (by show Sum.inl q.1 = Sum.inl m; rw [e])⟩
    · have hv : valV (((Sum.inl q.1 : Key), V.ref q.2.1) :: pd.map fun p => ((Sum.inl p.1 : Key), V.ref p.2.1)) (Sum.inl m) = valV (pd.map fun p => ((Sum.inl p.1 : Key), V.ref p.2.1)) (Sum.inl m) :=
        valV_neg fun z => e (Sum.inl.inj z)
      rw [hv]
      rcases ih with ⟨h1, h2⟩ | ⟨p, h1, h2, h3⟩
      · refine .inl ⟨h1, fun z => ?_⟩
        rw [List.map_cons] at z
        rcases List.mem_cons.mp z with z | z
        · exact e z.symm
        · exact h2 z
      · exact .inr ⟨p, List.mem_cons_of_mem _ h1, h2, h3⟩

/-- all stands as it was but for what is awaited -/
theorem gr_keep {G : GA} {W : WdS} {vw : V} {M : List (KyS × Int)} {pd pd' : Pd} {H H' : Hp} (g : GrAt G W vw M pd H) (k : ∀ b o, H b = some o → b ≠ G.ap → b ∉ addrs pd → H' b = some o) (p : PdAt H' G.ap pd') :
    GrAt G W vw M pd' H' ∧ Tz H H' := by
  have nl : ∀ {a : Addr} {o : HO}, H a = some o → (∀ vs, o ≠ .lst vs) → a ∉ addrs pd := fun e ho h => by
    obtain ⟨q, hq, rfl⟩ := List.mem_map.mp h
    obtain ⟨vs, hv, _⟩ := g.pe.l q hq
    rw [hv] at e
    cases e
    exact ho _ rfl
  have na : ∀ {a : Addr} {o : HO}, H a = some o → (∀ kvs, o ≠ .dK kvs) → a ≠ G.ap := fun e ho h => by
    rw [h, g.pe.d] at e
    cases e
    exact ho _ rfl
  have tz : Tz H H' := fun a u hu e => by
    obtain ⟨xs, hu | ⟨o, hu⟩⟩ := hu
    · subst hu
      exact k _ _ e (na e fun _ z => by cases z) (nl e fun _ z => by cases z)
    · subst hu
      exact k _ _ e (na e fun _ z => by cases z) (nl e fun _ z => by cases z)
  obtain ⟨kR, hR, lR⟩ := g.re
  obtain ⟨kA, hA, lA, oA⟩ := g.ag
  exact ⟨⟨k _ _ g.self (na g.self fun _ z => by cases z) (nl g.self fun _ z => by cases z), g.w.tz tz, k _ _ g.mo (na g.mo fun _ z => by cases z) (nl g.mo fun _ z => by cases z),
    ⟨kR, k _ _ hR (na hR fun _ z => by cases z) (nl hR fun _ z => by cases z), lR⟩, ⟨kA, k _ _ hA (na hA fun _ z => by cases z) (nl hA fun _ z => by cases z), lA, oA⟩, p, g.d1, g.d2, g.d3⟩, tz⟩
theorem pd_app {H H' : Hp} {ap : Addr} {pd : Pd} {p : Int × Addr × List KyS} {vs : List V} {v : V} {key : KyS} (P : PdAt H ap pd) (hp : p ∈ pd) (hvs : H p.2.1 = some (.lst vs))
    (k : ∀ b o, H b = some o → b ≠ p.2.1 → H' b = some o) (h' : H' p.2.1 = some (.lst (vs ++ [v]))) (he : EntAt H' v key) (tz : Tz H H') : PdAt H' ap (app1 pd p.1 key) := by
  refine ⟨?_, fun q' hq' => ?_, ?_, ?_, fun q' hq' => ?_⟩
  · have e : (app1 pd p.1 key).map (fun p => ((Sum.inl p.1 : Key), V.ref p.2.1)) = pd.map (fun p => ((Sum.inl p.1 : Key), V.ref p.2.1)) := by
      unfold app1
      rw [List.map_map]
      refine List.map_congr_left fun q _ => ?_
      show ((Sum.inl (if q.1 = p.1 then _ else q).1 : Key), V.ref (if q.1 = p.1 then _ else q).2.1) = _
      split <;> rfl
    rw [e]
    exact k _ _ P.d fun z => by
      rw [← z, P.d] at hvs
      cases hvs
  · obtain ⟨q, hq, rfl⟩ := List.mem_map.mp hq'
    by_cases e : q.1 = p.1
    · have eq := nodup_map_inj P.nm hq hp e
      subst eq
      rw [if_pos rfl]
      obtain ⟨ws, hw, hE⟩ := P.l q hp
      rw [hvs] at hw
      cases hw
      refine ⟨vs ++ [v], h', ?_⟩
      refine ⟨by show (vs ++ [v]).length = (q.2.2 ++ [key]).length; rw [List.length_append, List.length_append, hE.1]; rfl, fun i x y hx hy => ?_⟩
      by_cases hi : i < vs.length
      · rw [List.getElem?_append_left hi] at hx
        have hy2 : (q.2.2 ++ [key])[i]? = some y := hy
        rw [List.getElem?_append_left (by rw [← hE.1]; exact hi)] at hy2
        exact (hE.2 i x y hx hy2).tz tz
      · rw [List.getElem?_append_right (by omega)] at hx
        have hy2 : (q.2.2 ++ [key])[i]? = some y := hy
        rw [List.getElem?_append_right (by rw [← hE.1]; omega), ← hE.1] at hy2
        cases hk : i - vs.length with
        | zero =>
          rw [hk] at hx hy2
          cases hx
          cases hy2
          exact he
        | succ n =>
          rw [hk] at hx
          cases hx
    · rw [if_neg e]
      obtain ⟨ws, hw, hE⟩ := P.l q hq
      refine ⟨ws, k _ _ hw fun z => e ?_, hE.mono fun _ _ _ _ z => z.tz tz⟩
      rw [nodup_map_inj P.na hq hp z]
  · rw [app1_fst]
    exact P.nm
  · rw [app1_addrs]
    exact P.na
  · obtain ⟨q, hq, rfl⟩ := List.mem_map.mp hq'
    split
    · exact List.append_ne_nil_of_right_ne_nil _ (by simp)
    · exact P.ne q hq
theorem pd_new {H H' : Hp} {ap ne : Addr} {pd : Pd} {m : Int} {v : V} {key : KyS} (P : PdAt H ap pd) (hm : m ∉ pd.map (·.1)) (hne : H ne = none) (k : ∀ b o, H b = some o → b ≠ ap → H' b = some o)
    (h' : H' ap = some (.dK ((pd ++ [(m, ne, [key])]).map fun p => (Sum.inl p.1, V.ref p.2.1)))) (hl : H' ne = some (.lst [v])) (he : EntAt H' v key) (tz : Tz H H') : PdAt H' ap (pd ++ [(m, ne, [key])]) := by
  refine ⟨h', fun q hq => ?_, ?_, ?_, fun q hq => ?_⟩
  · rcases List.mem_append.mp hq with hq | hq
    · obtain ⟨ws, hw, hE⟩ := P.l q hq
      exact ⟨ws, k _ _ hw (fun z => by rw [z, P.d] at hw; cases hw), hE.mono fun _ _ _ _ z => z.tz tz⟩
    · rw [List.mem_singleton.mp hq]
      refine ⟨[v], hl, rfl, fun i x y hx hy => ?_⟩
      cases i with
      | zero =>
        cases hx
        cases hy
        exact he
      | succ n => cases hx
  · rw [List.map_append, List.nodup_append]
    refine ⟨P.nm, by simp, fun a ha b hb e => ?_⟩
    rw [List.map_singleton, List.mem_singleton] at hb
    have e2 : a = m := e.trans hb
    rw [e2] at ha
    exact hm ha
  · unfold addrs
    rw [List.map_append, List.nodup_append]
    refine ⟨P.na, by simp, fun a ha b hb e => ?_⟩
    rw [List.map_singleton, List.mem_singleton] at hb
    obtain ⟨q, hq, hqa⟩ := List.mem_map.mp ha
    obtain ⟨ws, hw, _⟩ := P.l q hq
    have e2 : a = ne := e.trans hb
    rw [hqa, e2, hne] at hw
    cases hw
  · rcases List.mem_append.mp hq with hq | hq
    · exact P.ne q hq
    · rw [List.mem_singleton.mp hq]
      simp

section
variable {P : Program} {w : World} {K : PySem.W.Frag} {mg : Str → Option Value} {base : Heap}

def spExpect (C : Addr) : Sp := fun vs H Q _ => ∃ (G : GA) (W : WdS) (vw rv : V) (M : List (KyS × Int)) (pd : Pd) (k : Str) (a m : Int), vs = [.ref G.self, .str k, .int a, .int m, rv] ∧ G.C = C ∧ GrAt G W vw M pd H ∧ 0 < W.size ∧
  cnt pd ≤ 1000000 ∧ ∀ H' pd', Fg G pd pd' H H' → GrAt G W vw M pd' H' →
    (∀ m' k', InP pd' m' k' ↔ InP pd m' k' ∨ (m' = m ∧ k' = (k, (m - a) % W.size, a) ∧ look M k' = none)) → cnt pd' ≤ cnt pd + 1 → Q .non H'
set_option maxHeartbeats 8000000 in
theorem ok_Expect (T : TX K mg) : Mth P w K mg base 1 (He.ga K "Growth") "expect" ["self", "kind", "age", "moment", "reason"] (spExpect (He.ga K "Growth")) := by
  refine mth_of T.f_Expect T.m_Expect scExpect (fun vs H Q E h => ?_) (fun cdv A outer s H vs Q E hr h => ?_)
  · obtain ⟨G, W, vw, rv, M, pd, k, a, m, rfl, _⟩ := h
    rfl
  · obtain ⟨G, W, vw, rv, M, pd, k, a, m, rfl, hC, g, hn, hcnt, q⟩ := h
    have hcl : Cls K G.C := by rw [hC]; exact T.cl
    have hnm : NoAttr K G.C "moments" := by rw [hC]; exact T.n_moments
    have hns : NoAttr K G.C "size" := by rw [hC]; exact T.n_size
    have hnp : NoAttr K G.C "pending" := by rw [hC]; exact T.n_pending
    generalize hkey : ((k, (m - a) % W.size, a) : KyS) = key at q
    refine ⟨_, (pss_cons (ps_set (i := 5) scExpect.nd rfl (.inl rfl) (pe_tup (pa_cons (pv 1) (pa_cons (pe_op op_mod (pe_op op_sub (pv 3) (pv 2)) (pe_fld (pv 0) rfl)) (pa_cons (pv 2) pa_nil))))) (pss_one (ps_if (pt_cmp (pc_dnotin (hu_of hr) (pv 5) (pe_fld (pv 0) rfl)) rfl) (pss_one (ps_expr (pe_bm PySem.F.plainAttrs_list PySem.F.slot_list_append PySem.F.type_list_append mt_append (pe_dsetd (pe_fld (pv 0) rfl) (pv 3) (pe_lst pa_nil) ⟨rfl, rfl, rfl, rfl⟩) (pa_cons (pe_tup (pa_cons (pv 5) (pa_cons (pv 4) pa_nil))) pa_nil)))) pss_nil))), ?_⟩
    refine ⟨.str k, rfl, .int m, rfl, .int a, rfl, m, a, rfl, rfl, .ref G.self, rfl, G.self, G.C, G.dx, _, .int W.size, rfl, g.self, hcl, hns, rfl, m - a, W.size, rfl, rfl, hn, .int a, rfl, by show 3 ≤ sizeLine; decide, fun kq nk => ?_⟩
    have ekq : [V.str k, .int ((m - a) % W.size), .int a] = (encK key).map kV := by rw [← hkey]; rfl
    rw [show (HO.tup [V.str k, (fun i j => V.int (i % j)) (m - a) W.size, .int a]) = .tup ((encK key).map kV) from congrArg HO.tup ekq]
    have s1 : Same H (upd H kq (.tup ((encK key).map kV))) := sm_new nk
    have hkq : (upd H kq (.tup ((encK key).map kV))) kq = some (.tup ((encK key).map kV)) := upd_same
    generalize upd H kq (.tup ((encK key).map kV)) = H1 at s1 hkq ⊢
    have g1 := g.sm s1
    refine ⟨.ref kq, rfl, .ref G.self, rfl, G.self, G.C, G.dx, _, .ref G.am, rfl, g1.self, hcl, hnm, rfl, G.am, _, rfl, .t g1.mo hkq, _, rfl, ?_⟩
    rw [val_encM]
    cases e : look M key with
    | some x =>
      refine iteF (q H1 pd (Fg.sm s1) g1 (fun m' k' => ⟨.inl, fun h => ?_⟩) (Nat.le_succ _))
      rcases h with h | ⟨_, h2, h3⟩
      · exact h
      · rw [h2, e] at h3
        cases h3
    | none =>
      refine iteT ⟨.ref G.self, rfl, G.self, G.C, G.dx, _, .ref G.ap, rfl, g1.self, hcl, hnp, rfl, G.ap, rfl, .inl ⟨_, .inl g1.pe.d⟩, .int m, rfl, Nat.zero_le _, fun ne nne => ?_⟩
      have s2 : Same H1 (upd H1 ne (.lst [])) := sm_new nne
      have hne2 : (upd H1 ne (.lst [])) ne = some (.lst []) := upd_same
      generalize upd H1 ne (.lst []) = H2 at s2 hne2 ⊢
      have g2 := g1.sm s2
      have hlen := len_cnt g2.pe.ne
      refine ⟨_, .inl m, g2.pe.d, rfl, by rw [List.length_map]; exact Nat.lt_of_le_of_lt (Nat.le_trans hlen hcnt) (by decide), fun v hv => ?_, fun hv => ?_⟩
      · rcases val_pd pd m with ⟨z, _⟩ | ⟨p, hp, hpm, hval⟩
        · rw [hv] at z
          cases z
        · rw [hv] at hval
          cases hval
          obtain ⟨ws, hw, hE⟩ := g2.pe.l p hp
          refine ⟨.inl ⟨rfl, _, .of hw⟩, .ref kq, rfl, rv, rfl, by show 2 ≤ sizeLine; decide, fun en nen => ?_⟩
          have s3 : Same H2 (upd H2 en (.tup [.ref kq, rv])) := sm_new nen
          have hen : (upd H2 en (.tup [.ref kq, rv])) en = some (.tup [.ref kq, rv]) := upd_same
          generalize upd H2 en (.tup [.ref kq, rv]) = H3 at s3 hen ⊢
          have g3 := g2.sm s3
          have hw3 := s3 _ _ hw
          have hmc := mem_cnt hp
          refine ⟨p.2.1, ws, .ref en, rfl, rfl, hw3, Nat.lt_of_le_of_lt (show ws.length ≤ 1000000 by rw [hE.1]; omega) (by decide), ?_⟩
          have k3 : ∀ b o, H3 b = some o → b ≠ p.2.1 → (upd H3 p.2.1 (.lst (ws ++ [.ref en]))) b = some o := fun b o hb hne' => by
            rw [upd_ne hne']
            exact hb
          have pin : p.2.1 ∈ addrs pd := List.mem_map.mpr ⟨p, hp, rfl⟩
          have tz : Tz H3 (upd H3 p.2.1 (.lst (ws ++ [.ref en]))) := (Tz.refl H3).wr hw3 fun xs => ⟨fun z => (by cases z), fun o z => (by cases z)⟩
          have he : EntAt (upd H3 p.2.1 (.lst (ws ++ [.ref en]))) (.ref en) key :=
            ⟨en, kq, rv, rfl, tz _ _ ⟨_, .inl rfl⟩ hen, tz _ _ ⟨_, .inl rfl⟩ (s3 _ _ (s2 _ _ hkq))⟩
          have P' := pd_app g3.pe hp hw3 k3 upd_same he tz
          rw [hpm] at P'
          obtain ⟨g4, _⟩ := gr_keep g3 (fun b o hb _ hb2 => k3 b o hb fun z => hb2 (by rw [z]; exact pin)) P'
          have hmm : m ∈ pd.map (·.1) := List.mem_map.mpr ⟨p, hp, hpm⟩
          have sm13 : Same H H3 := s1.trans (s2.trans s3)
          refine q _ (app1 pd m key) ⟨fun b o hb _ _ _ _ h5 => k3 b o (sm13 b o hb) fun z => h5 (by rw [z]; exact pin), fun b hb => ?_, fun b hb => ?_⟩ g4 (fun m' k' => ?_) (cnt_app1 g.pe.nm)
          · rw [app1_addrs] at hb
            exact .inl hb
          · refine same_none sm13 ?_
            by_cases z : b = p.2.1
            · rw [z, upd_same] at hb
              cases hb
            · rw [upd_ne z] at hb
              exact hb
          · rw [inP_app1 hmm]
            constructor
            · rintro (h | ⟨h1, h2⟩)
              · exact .inl h
              · exact .inr ⟨h1, h2, by rw [h2]; exact e⟩
            · rintro (h | ⟨h1, h2, _⟩)
              · exact .inl h
              · exact .inr ⟨h1, h2⟩
      · rcases val_pd pd m with ⟨_, hmm⟩ | ⟨p, hp, hpm, hval⟩
        · have eput : putK (pd.map fun p => ((Sum.inl p.1 : Key), V.ref p.2.1)) (Sum.inl m) (.ref ne) = (pd ++ [(m, ne, [key])]).map fun p => (Sum.inl p.1, V.ref p.2.1) := by
            rw [putK_new _ hv, List.map_append]
            rfl
          rw [eput]
          have hapne : G.ap ≠ ne := fun z => by
            have := g2.pe.d
            rw [z, hne2] at this
            cases this
          have k3 : ∀ b o, H2 b = some o → b ≠ G.ap → (upd H2 G.ap (.dK ((pd ++ [(m, ne, [key])]).map fun p => (Sum.inl p.1, V.ref p.2.1)))) b = some o := fun b o hb hb2 => by
            rw [upd_ne hb2]
            exact hb
          have hap : (upd H2 G.ap (.dK ((pd ++ [(m, ne, [key])]).map fun p => (Sum.inl p.1, V.ref p.2.1)))) G.ap = some (.dK ((pd ++ [(m, ne, [key])]).map fun p => (Sum.inl p.1, V.ref p.2.1))) := upd_same
          have tz3 : Tz H2 (upd H2 G.ap (.dK ((pd ++ [(m, ne, [key])]).map fun p => (Sum.inl p.1, V.ref p.2.1)))) := (Tz.refl H2).wr g2.pe.d fun xs => ⟨fun z => (by cases z), fun o z => (by cases z)⟩
          have n3 : ∀ b, (upd H2 G.ap (.dK ((pd ++ [(m, ne, [key])]).map fun p => (Sum.inl p.1, V.ref p.2.1)))) b = none → H2 b = none := fun b hb => by
            by_cases z : b = G.ap
            · rw [z, upd_same] at hb
              cases hb
            · rw [upd_ne z] at hb
              exact hb
          generalize upd H2 G.ap (.dK ((pd ++ [(m, ne, [key])]).map fun p => (Sum.inl p.1, V.ref p.2.1))) = H3 at k3 hap tz3 n3 ⊢
          have hne3 := k3 _ _ hne2 hapne.symm
          refine ⟨.inl ⟨rfl, _, .of hne3⟩, .ref kq, rfl, rv, rfl, by show 2 ≤ sizeLine; decide, fun en nen => ?_⟩
          have s4 : Same H3 (upd H3 en (.tup [.ref kq, rv])) := sm_new nen
          have hen : (upd H3 en (.tup [.ref kq, rv])) en = some (.tup [.ref kq, rv]) := upd_same
          generalize upd H3 en (.tup [.ref kq, rv]) = H4 at s4 hen ⊢
          have hne4 := s4 _ _ hne3
          refine ⟨ne, [], .ref en, rfl, rfl, hne4, by decide, ?_⟩
          have k5 : ∀ b o, H1 b = some o → b ≠ G.ap → (upd H4 ne (.lst ([] ++ [.ref en]))) b = some o := fun b o hb hb2 => by
            have hbn : b ≠ ne := ne_of_none hb nne
            rw [upd_ne hbn]
            exact s4 _ _ (k3 _ _ (s2 _ _ hb) hb2)
          have tz5 : Tz H4 (upd H4 ne (.lst ([] ++ [.ref en]))) := (Tz.refl H4).wr hne4 fun xs => ⟨fun z => (by cases z), fun o z => (by cases z)⟩
          have tz15 : Tz H1 (upd H4 ne (.lst ([] ++ [.ref en]))) := (((Tz.sm s2).trans tz3).trans (Tz.sm s4)).trans tz5
          have he : EntAt (upd H4 ne (.lst ([] ++ [.ref en]))) (.ref en) key := ⟨en, kq, rv, rfl, tz5 _ _ ⟨_, .inl rfl⟩ hen, tz15 _ _ ⟨_, .inl rfl⟩ hkq⟩
          have P' : PdAt (upd H4 ne (.lst ([] ++ [.ref en]))) G.ap (pd ++ [(m, ne, [key])]) :=
            pd_new g1.pe hmm nne k5 (by rw [upd_ne hapne]; exact s4 _ _ hap) upd_same he tz15
          obtain ⟨g5, _⟩ := gr_keep g1 (fun b o hb hb1 _ => k5 b o hb hb1) P'
          refine q _ (pd ++ [(m, ne, [key])]) ⟨fun b o hb _ _ h3 _ _ => k5 b o (s1 b o hb) h3, fun b hb => ?_, fun b hb => ?_⟩ g5 (fun m' k' => ?_) (by rw [cnt_snoc]; exact Nat.le_refl _)
          · unfold addrs at hb
            rw [List.map_append] at hb
            rcases List.mem_append.mp hb with hb | hb
            · exact .inl hb
            · rw [List.map_singleton, List.mem_singleton] at hb
              rw [hb]
              exact .inr (same_none s1 nne)
          · by_cases z : b = ne
            · rw [z]
              exact same_none s1 nne
            · rw [upd_ne z] at hb
              exact same_none (s1.trans s2) (n3 b (same_none s4 hb))
          · rw [inP_snoc]
            constructor
            · rintro (h | ⟨h1, h2⟩)
              · exact .inl h
              · exact .inr ⟨h1, h2, by rw [h2]; exact e⟩
            · rintro (h | ⟨h1, h2, _⟩)
              · exact .inl h
              · exact .inr ⟨h1, h2⟩
        · rw [hv] at hval
          cases hval
end
end Ra
end

section
set_option Elab.async false
set_option linter.all false
set_option maxRecDepth 100000
set_option maxHeartbeats 4000000
/-! walks: all that a way makes at a moment -/
namespace Ra
open PySem PySem.Spec PyProof.Rows L2 RZ
/-- a list that doesn't wait stays -/
theorem Fg.lst {G : GA} {W : WdS} {vw : V} {M : List (KyS × Int)} {pd pd' : Pd} {H H' : Hp} (f : Fg G pd pd' H H') (g : GrAt G W vw M pd H) {a : Addr} {vs : List V} (e : H a = some (.lst vs)) (n : a ∉ addrs pd) :
    H' a = some (.lst vs) ∧ a ∉ addrs pd' := by
  obtain ⟨kR, hR, _⟩ := g.re
  obtain ⟨kA, hA, _⟩ := g.ag
  refine ⟨f.k a _ e (ne_of e g.mo fun z => by cases z) (ne_of e hR fun z => by cases z) (ne_of e g.pe.d fun z => by cases z) (ne_of e hA fun z => by cases z) n, fun h => ?_⟩
  rcases f.n a h with h | h
  · exact n h
  · rw [e] at h
    cases h
section
variable {P : Program} {w : World} {K : PySem.W.Frag} {mg : Str → Option Value} {base : Heap}

def MadeAt (W : WdS) (M : List (KyS × Int)) (y : Wy Str) (t : Int) (bs : List Nat) (up : Nat) (m' : Int) (k' : KyS) : Prop :=
  m' = t + y.wait ∧ look M k' = none ∧ ∃ g : Nat, g < up ∧ Sel bs y.old g ∧ k' = (y.kind, (t + y.wait - ((g : Int) + y.wait)) % W.size, (g : Int) + y.wait)
def spMakeAll (C : Addr) : Sp := fun vs H Q _ => ∃ (G : GA) (W : WdS) (vw : V) (M : List (KyS × Int)) (pd : Pd) (j : Nat) (y : Wy Str) (al : Addr) (bs : List Nat) (t : Int), vs = [.ref G.self, .int (j : Int), .ref al, .int t] ∧ G.C = C ∧
  GrAt G W vw M pd H ∧ 0 < W.size ∧ W.ways[j]? = some y ∧ H al = some (.lst (bs.map natV)) ∧ al ∉ addrs pd ∧ (∀ b ∈ bs, b < 2 ^ 27) ∧ bs.length ≤ 3 ∧ cnt pd + 21 ≤ 1000000 ∧
  ∀ H' pd', Fg G pd pd' H H' → GrAt G W vw M pd' H' → (∀ m' k', InP pd' m' k' ↔ InP pd m' k' ∨ MadeAt W M y t bs 21 m' k') → cnt pd' ≤ cnt pd + 21 → Q .non H'
set_option maxHeartbeats 8000000 in
theorem ok_MakeAll (T : TX K mg) : Mth P w K mg base 3 (He.ga K "Growth") "make_all" ["self", "number", "lists", "moment"] (spMakeAll (He.ga K "Growth")) := by
  refine mth_of T.f_MakeAll T.m_MakeAll scMakeAll (fun vs H Q E h => ?_) (fun cdv A outer s H vs Q E hr h => ?_)
  · obtain ⟨G, W, vw, M, pd, j, y, al, bs, t, rfl, _⟩ := h
    rfl
  · obtain ⟨G, W, vw, M, pd, j, y, al, bs, t, rfl, hC, g, hn, hj, hal, nal, hb, hl3, hcnt, q⟩ := h
    have hcl : Cls K G.C := by rw [hC]; exact T.cl
    have hnm : NoAttr K G.C "moments" := by rw [hC]; exact T.n_moments
    have hns : NoAttr K G.C "size" := by rw [hC]; exact T.n_size
    have hnh : NoAttr K G.C "here" := by rw [hC]; exact T.n_here
    obtain ⟨aw, vk, vs, vy, rfl, raw, _, _, hiy⟩ := g.w.ex
    obtain ⟨ay, xs, rfl, ray, hxs⟩ := list_at hiy
    obtain ⟨x, hx, hi⟩ := ims_at hxs hj
    obtain ⟨c, vp, vh, rfl, rc, hvp, hvh⟩ := way_at hi
    refine ⟨_, (pss_cons (ps_asg (pe_ix ix_tup (pe_ix ix_tup (pe_fld (pv 0) rfl) pe_int (fun _ _ => rfl)) (pv 1) (fun _ _ => rfl)) (pg_tup rfl (pgs_cons (pg_name (i := 4) scMakeAll.nd rfl (.inl rfl)) (pgs_cons (pg_name (i := 5) scMakeAll.nd rfl (.inl rfl)) (pgs_cons (pg_name (i := 6) scMakeAll.nd rfl (.inl rfl)) (pgs_cons (pg_name (i := 7) scMakeAll.nd rfl (.inl rfl)) (pgs_cons (pg_name (i := 8) scMakeAll.nd rfl (.inl rfl)) pgs_nil))))))) (pss_one (ps_for PassesOwn.never rfl (pi_range1 (by rfl) T.z_range (pa_cons (pe_op op_add (pe_gi T.i_OLD (by rfl)) pe_int) pa_nil)) (pg_name (i := 9) scMakeAll.nd rfl (.inl rfl)) (pss_one (ps_if (pt_cmp (pc_dnotin (hu_of hr) (pe_tup (pa_cons (pv 4) (pa_cons (pe_op op_mod (pe_op op_sub (pv 3) (pv 9)) (pe_fld (pv 0) rfl)) (pa_cons (pe_op op_add (pv 9) (pv 8)) pa_nil)))) (pe_fld (pv 0) rfl)) rfl) (pss_cons (ps_set (i := 10) scMakeAll.nd rfl (.inl rfl) (pe_cal (ok_Chosen T) (hr.mono (by decide)) (by rfl) (pa_cons (pv 2) (pa_cons (pv 9) (pa_cons (pv 6) pa_nil))))) (pss_one (ps_if (pt_cmp (pc_notN (pv 10)) rfl) (pss_one (ps_expr (pe_mth (pv 0) T.cl (ok_Expect T) (hr.mono (by decide)) (pa_cons (pv 4) (pa_cons (pe_op op_add (pv 9) (pv 8)) (pa_cons (pe_op op_add (pv 3) (pv 8)) (pa_cons (pe_tup (pa_cons (pe_gs T.s_MADE (by rfl)) (pa_cons (pv 1) (pa_cons (pv 10) pa_nil)))) pa_nil))))))) pss_nil))) pss_nil))))), ?_⟩
    refine ⟨.ref G.self, rfl, G.self, G.C, G.dx, _, .ref aw, rfl, g.self, hcl, hnh, rfl, aw, _, 3, .ref ay, rfl, rfl, .inl raw, atI_nat (j := 3) rfl, .int j, rfl, ay, xs, j, .ref c, rfl, rfl, .inl ray, atI_nat hx, ?_⟩
    refine ⟨c, _, rfl, .inl rc, rfl, _, _, rfl, _, _, rfl, _, _, rfl, _, _, rfl, _, _, rfl, rfl, ?_⟩
    refine ⟨20, 1, rfl, rfl, 21, rfl, by decide, by decide, ?_⟩
    refine for_range (lo := 0) (n := (21 : Int).toNat) (fun i σ H2 => ∃ pd2 y9 y10, σ = [some (.ref G.self), some (.int j), some (.ref al), some (.int t), some (.str y.kind), some vp, some (.str (keepS y.old)), some vh, some (.int y.wait), y9, y10] ∧
      Fg G pd pd2 H H2 ∧ GrAt G W (.ref aw) M pd2 H2 ∧ (∀ m' k', InP pd2 m' k' ↔ InP pd m' k' ∨ MadeAt W M y t bs i m' k') ∧ cnt pd2 ≤ cnt pd + i)
      ⟨pd, none, none, rfl, Fg.refl G pd H, g, fun m' k' => ⟨.inl, fun h => ?_⟩, Nat.le_refl _⟩ ?_ ?_
    · rcases h with h | ⟨_, _, gg, h, _⟩
      · exact h
      · exact absurd h (Nat.not_lt_zero _)
    · rintro i σ H2 hi21 ⟨pd2, y9, y10, rfl, f2, g2, hin, hc2⟩
      have hi21' : i < 21 := hi21
      obtain ⟨hal2, nal2⟩ := f2.lst g hal nal
      -- the key
      refine ⟨.str y.kind, rfl, .int t, rfl, .int (0 + i), rfl, t, _, rfl, rfl, .ref G.self, rfl, G.self, G.C, G.dx, _, .int W.size, rfl, g2.self, hcl, hns, rfl, _, W.size, rfl, rfl, hn, .int (0 + i), rfl, .int y.wait, rfl, _, y.wait, rfl, rfl,
        by show 3 ≤ sizeLine; decide, fun kq nk => ?_⟩
      generalize hkey : ((y.kind, (t + y.wait - ((i : Int) + y.wait)) % W.size, (i : Int) + y.wait) : KyS) = key
      have ekq : [V.str y.kind, (fun i j => V.int (i % j)) (t - (0 + (i : Int))) W.size, V.int (0 + (i : Int) + y.wait)] = (encK key).map kV := by
        rw [← hkey, Int.zero_add, show t - (i : Int) = t + y.wait - ((i : Int) + y.wait) by omega]
        rfl
      have eho : HO.tup [V.str y.kind, (fun i j => V.int (i % j)) (t - (0 + (i : Int))) W.size, V.int (0 + (i : Int) + y.wait)] = .tup ((encK key).map kV) := congrArg HO.tup ekq
      rw [show (HO.tup [V.str y.kind, (fun i j => V.int (i % j)) ((fun i j => i - j) t (0 + (i : Int))) W.size, (fun i j => V.int (i + j)) (0 + (i : Int)) y.wait]) = .tup ((encK key).map kV) from eho]
      have s3 : Same H2 (upd H2 kq (.tup ((encK key).map kV))) := sm_new nk
      have hkq : (upd H2 kq (.tup ((encK key).map kV))) kq = some (.tup ((encK key).map kV)) := upd_same
      generalize upd H2 kq (.tup ((encK key).map kV)) = H3 at s3 hkq ⊢
      have g3 := g2.sm s3
      have f3 := f2.trans (Fg.sm (pd := pd2) s3)
      have skip : look M key ≠ none ∨ ¬ Sel bs y.old i → ∀ m' k', InP pd2 m' k' ↔ InP pd m' k' ∨ MadeAt W M y t bs (i + 1) m' k' := fun hs m' k' => by
        rw [hin]
        constructor
        · rintro (h | ⟨h1, h2, gg, h3, h4, h5⟩)
          · exact .inl h
          · exact .inr ⟨h1, h2, gg, by omega, h4, h5⟩
        · rintro (h | ⟨h1, h2, gg, h3, h4, h5⟩)
          · exact .inl h
          · by_cases e : gg = i
            · subst e
              rcases hs with hs | hs
              · rw [h5, hkey] at h2
                exact absurd h2 hs
              · exact absurd h4 hs
            · exact .inr ⟨h1, h2, gg, by omega, h4, h5⟩
      refine ⟨.ref G.self, rfl, G.self, G.C, G.dx, _, .ref G.am, rfl, g3.self, hcl, hnm, rfl, G.am, _, rfl, .t g3.mo hkq, _, rfl, ?_⟩
      rw [val_encM]
      cases e : look M key with
      | some z =>
        exact iteF ⟨pd2, _, _, rfl, f3, g3, skip (.inl (by rw [e]; exact nofun)), by omega⟩
      | none =>
        refine iteT ⟨.ref al, rfl, .int (0 + i), rfl, .str (keepS y.old), rfl, al, bs, i, y.old, by rw [Int.zero_add]; rfl, s3 _ _ hal2, hb, hl3, by omega, fun H4 v s4 hv => ?_⟩
        have g4 := g3.sm s4
        have f4 := f3.trans (Fg.sm (pd := pd2) s4)
        refine ⟨v, rfl, _, rfl, ite2 (fun hne => ?_) (fun hne => ?_)⟩
        · have hsel : Sel bs y.old i := Classical.byContradiction fun hc => by
            rw [hv.mpr hc] at hne
            cases hne
          refine ⟨.ref G.self, rfl, G.self, G.dx, _, rfl, by rw [← hC]; exact g4.self, rfl, .str y.kind, rfl, .int (0 + i), rfl, .int y.wait, rfl, _, y.wait, rfl, rfl, .int t, rfl, .int y.wait, rfl, t, y.wait, rfl, rfl,
            .int j, rfl, v, rfl, by show 3 ≤ sizeLine; decide, fun er ner => ?_⟩
          have s5 := sm_new (o := .tup [.str "made", .int (j : Int), v]) ner
          refine ⟨G, W, .ref aw, .ref er, M, pd2, y.kind, 0 + (i : Int) + y.wait, t + y.wait, rfl, hC, g4.sm s5, hn, by omega, fun H6 pd6 f6 g6 hin6 hc6 => ?_⟩
          rw [Int.zero_add, hkey] at hin6
          refine ⟨pd6, _, _, rfl, (f4.trans (Fg.sm (pd := pd2) s5)).trans f6, g6, fun m' k' => ?_, by omega⟩
          rw [hin6, hin]
          constructor
          · rintro ((h | ⟨h1, h2, gg, h3, h4, h5⟩) | ⟨h1, h2, h3⟩)
            · exact .inl h
            · exact .inr ⟨h1, h2, gg, by omega, h4, h5⟩
            · exact .inr ⟨h1, h3, i, by omega, hsel, by rw [h2, hkey]⟩
          · rintro (h | ⟨h1, h2, gg, h3, h4, h5⟩)
            · exact .inl (.inl h)
            · by_cases e : gg = i
              · subst e
                exact .inr ⟨h1, by rw [h5, hkey], h2⟩
              · exact .inl (.inr ⟨h1, h2, gg, by omega, h4, h5⟩)
        · have hsel : ¬ Sel bs y.old i := hv.mp (by
            rw [Bool.not_eq_true, Bool.not_eq_false'] at hne
            exact of_decide_eq_true hne)
          exact ⟨pd2, _, _, rfl, f4, g4, skip (.inr hsel), by omega⟩
    · rintro σ H2 ⟨pd2, y9, y10, rfl, f2, g2, hin, hc2⟩
      exact q H2 pd2 f2 g2 hin hc2
end
end Ra
end

section
set_option Elab.async false
set_option linter.all false
set_option maxRecDepth 100000
set_option maxHeartbeats 4000000
/-! walks: what a way makes of what is there for the first time -/
namespace Ra
open PySem PySem.Spec PyProof.Rows L2 RZ

/-- ages of parts that are there at moments of the moment's place -/
def Avail (W : WdS) (M : List (KyS × Int)) (t : Int) (q : Prt Str) (b : Int) : Prop := q.lo ≤ b ∧ b ≤ q.hi ∧ (look M (q.kind, (t - b) % W.size, b)).isSome = true
def TwAt (W : WdS) (M : List (KyS × Int)) (y : Wy Str) (k : Str) (a : Int) (t : Int) (at_ : Nat) (m' : Int) (k' : KyS) : Prop :=
  m' = t + y.wait ∧ look M k' = none ∧ ∃ (q : Prt Str) (as : List Int) (g : Int), y.parts[at_]? = some q ∧ q.kind = k ∧ as[at_]? = some a ∧ All2 (Avail W M t) y.parts as ∧ Hand y.old as g ∧
    k' = (y.kind, (t + y.wait - (g + y.wait)) % W.size, g + y.wait)
/-- lists of such ages -/
def BitsOk (W : WdS) (M : List (KyS × Int)) (t : Int) (ps : List (Prt Str)) (bs : List Nat) : Prop :=
  ∀ (i : Nat) (q : Prt Str) (b : Nat), ps[i]? = some q → bs[i]? = some b → ∀ c : Nat, b.testBit c = true ↔ Avail W M t q c
theorem bits_small {W : WdS} {M : List (KyS × Int)} {t : Int} {q : Prt Str} {b : Nat} (h : ∀ c : Nat, b.testBit c = true ↔ Avail W M t q c) (hq : q.hi ≤ 20) : b < 2 ^ 27 := by
  refine Nat.lt_pow_two_of_testBit b fun i hi => ?_
  cases e : b.testBit i with
  | false => rfl
  | true =>
    have := ((h i).mp e).2.1
    omega
theorem made_iff {W : WdS} {M : List (KyS × Int)} {y : Wy Str} {k : Str} {a : Nat} {t : Int} {i : Nat} {q : Prt Str} {bs : List Nat} (hps : ∀ p ∈ y.parts, 0 ≤ p.lo ∧ p.hi ≤ 20) (hlen : bs.length = y.parts.length)
    (hb : BitsOk W M t y.parts bs) (hq : y.parts[i]? = some q) (hk : q.kind = k) (h1 : q.lo ≤ (a : Int)) (h2 : (a : Int) ≤ q.hi) (hM : (look M (k, (t - a) % W.size, (a : Int))).isSome = true) (m' : Int) (k' : KyS) :
    MadeAt W M y t (bs.set i (2 ^ a)) 21 m' k' ↔ TwAt W M y k a t i m' k' := by
  have hi : i < bs.length := by rw [hlen]; exact (List.getElem?_eq_some_iff.mp hq).1
  constructor
  · rintro ⟨e1, e2, g, hg, ⟨cs, hcs, hgc⟩, e3⟩
    have hcl : cs.length = y.parts.length := by rw [← hcs.1, List.length_set, hlen]
    refine ⟨e1, e2, q, cs.map (fun c : Nat => (c : Int)), g, hq, hk, ?_, ⟨by rw [List.length_map, hcl], fun j p c hp hc => ?_⟩, ⟨List.mem_map.mpr ⟨g, hgc, rfl⟩, fun c hc => ?_⟩, e3⟩
    · have hic : i < cs.length := by rw [hcl, ← hlen]; exact hi
      have := (hcs.2 i (2 ^ a) cs[i] (by rw [List.getElem?_set_self hi]) (List.getElem?_eq_getElem hic)).1
      rw [Nat.testBit_two_pow, decide_eq_true_eq] at this
      rw [List.getElem?_map, List.getElem?_eq_getElem hic, ← this]
      rfl
    · rw [List.getElem?_map] at hc
      cases e : cs[j]? with
      | none => rw [e] at hc; cases hc
      | some c' =>
        rw [e] at hc
        cases hc
        by_cases hj : j = i
        · subst hj
          rw [hq] at hp
          cases hp
          have := (hcs.2 j (2 ^ a) c' (by rw [List.getElem?_set_self hi]) e).1
          rw [Nat.testBit_two_pow, decide_eq_true_eq] at this
          subst this
          exact ⟨h1, h2, by rw [hk]; exact hM⟩
        · have hjl : j < bs.length := by rw [hlen, ← hcl]; exact (List.getElem?_eq_some_iff.mp e).1
          have := (hcs.2 j bs[j] c' (by rw [List.getElem?_set_ne (fun z => hj z.symm)]; exact List.getElem?_eq_getElem hjl) e).1
          exact (hb j p _ hp (List.getElem?_eq_getElem hjl) c').mp this
    · obtain ⟨c', hc', rfl⟩ := List.mem_map.mp hc
      obtain ⟨j, b, hbj, hcj, _, hs⟩ := hcs.left hc'
      by_cases ho : y.old = true
      · rw [if_pos ho] at hs ⊢
        omega
      · rw [if_neg ho] at hs ⊢
        omega
  · rintro ⟨e1, e2, q', as, g, hq', hk', hat, hall, hand, e3⟩
    have hal : as.length = y.parts.length := hall.1.symm
    have rng : ∀ c ∈ as, 0 ≤ c ∧ c ≤ 20 := fun c hc => by
      obtain ⟨j, p, hp, _, z1, z2, _⟩ := hall.left hc
      have := hps p (List.mem_of_getElem? hp)
      omega
    obtain ⟨g0, g20⟩ := rng g hand.1
    refine ⟨e1, e2, g.toNat, by omega, ⟨as.map Int.toNat, ⟨by rw [List.length_set, List.length_map, hal, hlen], fun j b c hbj hcj => ?_⟩, List.mem_map.mpr ⟨g, hand.1, rfl⟩⟩, by rw [Int.toNat_of_nonneg g0]; exact e3⟩
    rw [List.getElem?_map] at hcj
    cases e : as[j]? with
    | none => rw [e] at hcj; cases hcj
    | some c' =>
      rw [e] at hcj
      cases hcj
      obtain ⟨c0, c20⟩ := rng c' (List.mem_of_getElem? e)
      have hs := hand.2 c' (List.mem_of_getElem? e)
      refine ⟨?_, ?_⟩
      · by_cases hj : j = i
        · subst hj
          rw [List.getElem?_set_self hi] at hbj
          cases hbj
          rw [hat] at e
          cases e
          rw [Nat.testBit_two_pow, decide_eq_true_eq, Int.toNat_natCast]
        · rw [List.getElem?_set_ne (fun z => hj z.symm)] at hbj
          have hjl : j < y.parts.length := by rw [← hlen]; exact (List.getElem?_eq_some_iff.mp hbj).1
          have hpj : y.parts[j]? = some y.parts[j] := List.getElem?_eq_getElem hjl
          refine (hb j _ b hpj hbj c'.toNat).mpr ?_
          rw [Int.toNat_of_nonneg c0]
          exact hall.2 j _ _ hpj e
      · by_cases ho : y.old = true
        · rw [if_pos ho] at hs ⊢
          show c'.toNat ≤ g.toNat
          omega
        · rw [if_neg ho] at hs ⊢
          show g.toNat ≤ c'.toNat
          omega
theorem cut_to (l : List V) (i : Nat) (h : i ≤ l.length) : cutV l none (some (i : Int)) = l.take i := by
  unfold cutV
  rw [HT.sIx_none, HT.sIx_nat, Nat.min_eq_left h, Nat.sub_zero, List.drop_zero]
theorem cut_from (l : List V) (i : Nat) (h : i ≤ l.length) : cutV l (some (i : Int)) none = l.drop i := by
  unfold cutV
  rw [HT.sIx_none, HT.sIx_nat, Nat.min_eq_left h]
  exact List.take_of_length_le (by rw [List.length_drop]; omega)
theorem set_parts {α : Type} (l : List α) (i : Nat) (x : α) (h : i < l.length) : l.take i ++ [x] ++ l.drop (i + 1) = l.set i x := by
  rw [List.set_eq_take_append_cons_drop, if_pos h, List.append_assoc]
  rfl
section
variable {P : Program} {w : World} {K : PySem.W.Frag} {mg : Str → Option Value} {base : Heap}

def spTryWay (C : Addr) : Sp := fun vs H Q _ => ∃ (G : GA) (W : WdS) (vw : V) (M : List (KyS × Int)) (pd : Pd) (j : Nat) (y : Wy Str) (k : Str) (a : Nat) (t : Int), vs = [.ref G.self, .int (j : Int), .str k, .int (a : Int), .int t] ∧ G.C = C ∧
  GrAt G W vw M pd H ∧ WdOk W ∧ W.ways[j]? = some y ∧ a ≤ 26 ∧ (look M (k, (t - a) % W.size, (a : Int))).isSome = true ∧ cnt pd + 63 ≤ 1000000 ∧
  ∀ H' pd', Fg G pd pd' H H' → GrAt G W vw M pd' H' → (∀ m' k', InP pd' m' k' ↔ InP pd m' k' ∨ ∃ at_, TwAt W M y k a t at_ m' k') → cnt pd' ≤ cnt pd + 63 → Q .non H'
set_option maxHeartbeats 8000000 in
theorem ok_TryWay (T : TX K mg) : Mth P w K mg base 4 (He.ga K "Growth") "try_way" ["self", "number", "kind", "age", "moment"] (spTryWay (He.ga K "Growth")) := by
  refine mth_of T.f_TryWay T.m_TryWay scTryWay (fun vs H Q E h => ?_) (fun cdv A outer s H vs Q E hr h => ?_)
  · obtain ⟨G, W, vw, M, pd, j, y, k, a, t, rfl, _⟩ := h
    rfl
  · obtain ⟨G, W, vw, M, pd, j, y, k, a, t, rfl, hC, g, ok, hj, ha26, hM, hcnt, q⟩ := h
    have hcl : Cls K G.C := by rw [hC]; exact T.cl
    have hns : NoAttr K G.C "size" := by rw [hC]; exact T.n_size
    have hnh : NoAttr K G.C "here" := by rw [hC]; exact T.n_here
    have n0 := ok.n0
    have Y := ok.ways y (List.mem_of_getElem? hj)
    have p3 := Y.p1
    have htm := mod_rng ok.n0 t
    have hps : ∀ p ∈ y.parts, 0 ≤ p.lo ∧ p.hi ≤ 20 := fun p hp => ⟨(Y.parts p hp).l0, (Y.parts p hp).h1⟩
    obtain ⟨aw, vk, vs, vy, rfl, raw, _, _, hiy⟩ := g.w.ex
    obtain ⟨ay, xs, rfl, ray, hxs⟩ := list_at hiy
    obtain ⟨x, hx, hi⟩ := ims_at hxs hj
    obtain ⟨c, vp, vh, rfl, rc, hvp, hvh⟩ := way_at hi
    obtain ⟨ap, pts, rfl, rap, hpts⟩ := list_at hvp
    have hpl : pts.length = y.parts.length := by rw [hpts.1, List.length_map]
    refine ⟨_, (pss_cons (ps_set (i := 5) scTryWay.nd rfl (.inl rfl) (pe_ix ix_tup (pe_ix ix_tup (pe_ix ix_tup (pe_fld (pv 0) rfl) pe_int (fun _ _ => rfl)) (pv 1) (fun _ _ => rfl)) pe_int (fun _ _ => rfl))) (pss_cons (ps_setLc (i := 7) (own := [("part", 6)]) (g := gName 6) rfl scTryWay.nd rfl rfl (sw_true rfl rfl rfl (by decide +kernel)) (pi_tup (pv 5)) (blkOk_by (N := ["self", "number", "kind", "age", "moment", "parts", "part", "lists", "at"]) (sc := defScope sTryWay) (by decide +kernel)) (fun _ _ _ _ _ => (pg_name (i := 6) scTryWay.nd rfl (.inl rfl))) (fun _ _ _ _ _ => pts_nil) (fun _ _ _ _ _ => (pe_mth (pv 0) T.cl (ok_AgesAt T) (hr.mono (by decide)) (pa_cons (pv 6) (pa_cons (pe_op op_mod (pv 4) (pe_fldK (K := K) rfl (pv 0) rfl)) pa_nil))))) (pss_cons (ps_if (pt_cmpR op_in_seq pe_int (pv 7) (by rfl)) (pss_one ps_retN) pss_nil) (pss_one (ps_for PassesOwn.never rfl (pi_enumT (by rfl) T.z_enumerate (pa_cons (pv 5) pa_nil)) (pg_tup rfl (pgs_cons (pg_name (i := 8) scTryWay.nd rfl (.inl rfl)) (pgs_cons (pg_name (i := 6) scTryWay.nd rfl (.inl rfl)) pgs_nil))) (pss_one (ps_if (PW.pt (pw_and (pt_cmpR op_eq (pe_ix ix_tup (pv 6) pe_int (fun _ _ => rfl)) (pv 2) (nomark _)) (pw_and1 (pt_chain op_le op_le (pe_ix ix_tup (pv 6) pe_int (fun _ _ => rfl)) (pv 3) (pe_ix ix_tup (pv 6) pe_int (fun _ _ => rfl)))))) (pss_one (ps_expr (pe_mth (pv 0) T.cl (ok_MakeAll T) (hr.mono (by decide)) (pa_cons (pv 1) (pa_cons (pe_op op_cat (pe_op op_cat (pe_slice sl_list (pv 7) po_none (po_some (pv 8))) (pe_lst (pa_cons (pe_op op_shl pe_int (pv 3)) pa_nil))) (pe_slice sl_list (pv 7) (po_some (pe_op op_add (pv 8) pe_int)) po_none)) (pa_cons (pv 4) pa_nil)))))) pss_nil))))))), ?_⟩
    refine ⟨.ref G.self, rfl, G.self, G.C, G.dx, _, .ref aw, rfl, g.self, hcl, hnh, rfl, aw, _, 3, .ref ay, rfl, rfl, .inl raw, atI_nat (j := 3) rfl, .int j, rfl, ay, xs, j, .ref c, rfl, rfl, .inl ray, atI_nat hx,
      c, _, 1, .ref ap, rfl, rfl, .inl rc, atI_nat (j := 1) rfl, ?_⟩
    refine ⟨.ref ap, rfl, ap, rfl, ⟨_, .inl rap⟩, fun D nD => ?_⟩
    refine lc_it (walk_tup (xs := pts)) (fun i H1 => Same H H1 ∧ ∃ bs : List Nat, H1 D = some (.lst (bs.map natV)) ∧ bs.length = i ∧ BitsOk W M t y.parts bs) ⟨sm_new nD, [], upd_same, rfl, fun i q b _ e => by cases e⟩
      (fun i H1 _ ⟨s1, _⟩ => .inl (rd_sm s1 rap)) ?_ ?_
    · rintro i x0 H1 H2 hlt ⟨s1, bs, eD, hbl, hbo⟩ ⟨rfl, ex⟩
      obtain ⟨pt, hp, ip⟩ := ims_of hpts ex
      have PT := Y.parts pt (List.mem_of_getElem? hp)
      have g1 := g.sm s1
      refine ⟨rfl, ty_yes ⟨.ref G.self, rfl, G.self, G.dx, _, rfl, by rw [← hC]; exact g1.self, rfl, x0, rfl, .int t, rfl, .ref G.self, rfl, G.self, G.C, G.dx, _, .int W.size, rfl, g1.self, hcl, hns, rfl, t, W.size, rfl, rfl, by omega, ?_⟩⟩
      refine ⟨G, W, .ref aw, x0, M, pd, pt, t % W.size, rfl, hC, g1, ip.sm s1, PT.l0, PT.lh, PT.h1, htm.1, htm.2, fun H3 b s3 hb => ?_⟩
      have hb2 : ∀ c : Nat, b.testBit c = true ↔ Avail W M t pt c := fun c => by
        rw [hb c]
        unfold Avail
        rw [Int.emod_sub_emod]
      refine ⟨bs.map natV, s3 _ _ eD, small_lt (by rw [List.length_map]; omega), sm_out (s1.trans s3) nD, bs ++ [b], by rw [upd_same, List.map_append]; rfl, by rw [List.length_append, hbl]; rfl, fun i' q' b' hq' hb' => ?_⟩
      by_cases hi' : i' < bs.length
      · rw [List.getElem?_append_left hi'] at hb'
        exact hbo i' q' b' hq' hb'
      · have hle : i' < (bs ++ [b]).length := (List.getElem?_eq_some_iff.mp hb').1
        rw [List.length_append, List.length_singleton] at hle
        have ei : i' = i := by omega
        subst ei
        rw [hp] at hq'
        cases hq'
        rw [List.getElem?_append_right (by omega), hbl, Nat.sub_self] at hb'
        cases hb'
        exact hb2
    · rintro H1 ⟨s1, bs, eD, hbl, hbo⟩
      have g1 := g.sm s1
      have f1 := Fg.sm (G := G) (pd := pd) s1
      rw [hpl] at hbl
      have hDn : D ∉ addrs pd := fun h => by
        obtain ⟨p, hp, e⟩ := List.mem_map.mp h
        obtain ⟨ws, hw, _⟩ := g.pe.l p hp
        rw [e, nD] at hw
        cases hw
      refine ⟨.ref D, rfl, D, _, rfl, .inl (.of eD), rfl, flat_nat bs, _, rfl, ?_⟩
      rw [if_neg Bool.false_ne_true]
      rw [show inV (.int 0) (bs.map natV) = decide (0 ∈ bs) from inV_nat 0 bs]
      refine ite2 (fun h0 => ?_) (fun h0 => ?_)
      · refine q H1 pd f1 g1 (fun m' k' => ⟨.inl, fun h => ?_⟩) (by omega)
        rcases h with h | ⟨at_, _, _, q', as, g', hq', hk', hat, hall, _, _⟩
        · exact h
        · obtain ⟨i, hi0⟩ := List.mem_iff_getElem?.mp (of_decide_eq_true h0)
          have hil : i < y.parts.length := by rw [← hbl]; exact (List.getElem?_eq_some_iff.mp hi0).1
          have hip : y.parts[i]? = some y.parts[i] := List.getElem?_eq_getElem hil
          have hial : i < as.length := by rw [← hall.1]; exact hil
          have hia : as[i]? = some as[i] := List.getElem?_eq_getElem hial
          have hav := hall.2 i _ _ hip hia
          have h00 := (hps _ (List.mem_of_getElem? hip)).1
          have := (hbo i _ 0 hip hi0 as[i].toNat).mpr (by
            rw [Int.toNat_of_nonneg (by have := hav.1; omega)]
            exact hav)
          rw [Nat.zero_testBit] at this
          cases this
      · refine ⟨.ref ap, rfl, ap, pts, rfl, .inl (rd_sm s1 rap), ?_⟩
        refine for_it walk_enumT (fun i σ H2 => ∃ pd2 y6 y8, σ = [some (.ref G.self), some (.int j), some (.str k), some (.int (a : Int)), some (.int t), some (.ref ap), y6, some (.ref D), y8] ∧ Fg G pd pd2 H1 H2 ∧ GrAt G W (.ref aw) M pd2 H2 ∧
          (∀ m' k', InP pd2 m' k' ↔ InP pd m' k' ∨ ∃ at_, at_ < i ∧ TwAt W M y k a t at_ m' k') ∧ cnt pd2 ≤ cnt pd + 21 * i)
          ⟨pd, _, _, rfl, Fg.refl G pd H1, g1, fun m' k' => ⟨.inl, fun h => by
            rcases h with h | ⟨at_, h, _⟩
            · exact h
            · exact absurd h (Nat.not_lt_zero _)⟩, Nat.le_refl _⟩ (fun i σ H2 _ ⟨_, _, _, _, f2, _⟩ => .inl ((g1.tz f2).tk _ _ (rd_sm s1 rap))) ?_ ?_
        · rintro i x0 σ H2 H3 hlt ⟨pd2, y6, y8, rfl, f2, g2, hin, hc2⟩ ⟨N, x1, x2, rfl, nN, rfl, e1, e2⟩
          dsimp only at e1 e2
          cases e1
          rw [hpl] at hlt
          obtain ⟨pt, hp, ip⟩ := ims_of hpts e2
          have PT := Y.parts pt (List.mem_of_getElem? hp)
          obtain ⟨eD2, hDn2⟩ := f2.lst g1 eD hDn
          have s3 : Same H2 (upd H2 N (.tup [.int (i : Int), x2])) := sm_new nN
          have ip3 : Im (upd H2 N (.tup [.int (i : Int), x2])) x2 (encP pt) := (((ip.sm s1).tz (g1.tz f2))).sm s3
          refine ⟨N, _, rfl, .inl (.inl upd_same), rfl, _, _, rfl, _, _, rfl, rfl, ?_⟩
          generalize upd H2 N (.tup [.int (i : Int), x2]) = H3 at s3 ip3 ⊢
          have g3 := g2.sm s3
          have f3 := f2.trans (Fg.sm (pd := pd2) s3)
          have eD3 := s3 _ _ eD2
          obtain ⟨d, rfl, rd⟩ := prt_at ip3
          have skip : (¬ (pt.kind = k ∧ pt.lo ≤ (a : Int) ∧ (a : Int) ≤ pt.hi)) → ∀ m' k', InP pd2 m' k' ↔ InP pd m' k' ∨ ∃ at_, at_ < i + 1 ∧ TwAt W M y k a t at_ m' k' := fun hno m' k' => by
            rw [hin]
            constructor
            · rintro (h | ⟨at_, h1, h2⟩)
              · exact .inl h
              · exact .inr ⟨at_, by omega, h2⟩
            · rintro (h | ⟨at_, h1, h2⟩)
              · exact .inl h
              · by_cases e : at_ = i
                · subst e
                  obtain ⟨_, _, q', as, g', hq', hk', hat, hall, _⟩ := h2
                  rw [hp] at hq'
                  cases hq'
                  have := hall.2 at_ pt _ hp hat
                  exact absurd ⟨hk', this.1, this.2.1⟩ hno
                · exact .inr ⟨at_, by omega, h2⟩
          refine ⟨.ref d, rfl, d, _, 0, .str pt.kind, rfl, rfl, .inl rd, atI_nat (j := 0) rfl, .str k, rfl, rfl, _, rfl, ite2 (fun hk => ?_) (fun hk => ?_)⟩
          · have ek : pt.kind = k := V.str.inj (of_decide_eq_true hk)
            refine ⟨.ref d, rfl, d, _, 1, .int pt.lo, rfl, rfl, .inl rd, atI_nat (j := 1) rfl, .int (a : Int), rfl, pt.lo, a, rfl, rfl, _, rfl, ite2 (fun h1 => ?_) (fun h1 => ?_)⟩
            · refine ⟨.ref d, rfl, d, _, 2, .int pt.hi, rfl, rfl, .inl rd, atI_nat (j := 2) rfl, a, pt.hi, rfl, rfl, _, rfl, ite2 (fun h2 => ?_) (fun h2 => ?_)⟩
              · have l1 := of_decide_eq_true h1
                have l2 := of_decide_eq_true h2
                have hil : i < bs.length := by rw [hbl]; exact hlt
                have hlm : (bs.map natV).length = bs.length := List.length_map ..
                refine ⟨.ref G.self, rfl, G.self, G.dx, _, rfl, by rw [← hC]; exact g3.self, rfl, .int j, rfl, .ref D, rfl, .int (i : Int), rfl, (i : Int), rfl, D, _, rfl, .of eD3, fun c1 n1 => ?_⟩
                rw [cut_to _ i (by omega)]
                have s4 := sm_new (o := .lst ((bs.map natV).take i)) n1
                have hc1 : (upd H3 c1 (.lst ((bs.map natV).take i))) c1 = some (.lst ((bs.map natV).take i)) := upd_same
                generalize upd H3 c1 (.lst ((bs.map natV).take i)) = H4 at s4 hc1 ⊢
                refine ⟨.int (a : Int), rfl, 1, a, rfl, rfl, ⟨by omega, by omega, by decide⟩, by show 1 ≤ sizeLine; decide, fun c2 n2 => ?_⟩
                have epow : (fun (i j : Int) => V.int (i * 2 ^ j.toNat)) 1 (a : Int) = natV (2 ^ a) := by
                  show V.int (1 * 2 ^ (a : Int).toNat) = V.int ((2 ^ a : Nat) : Int)
                  rw [Int.one_mul, Int.toNat_natCast, Int.natCast_pow]
                  rfl
                rw [epow]
                have s5 := sm_new (o := .lst [natV (2 ^ a)]) n2
                have hc2 : (upd H4 c2 (.lst [natV (2 ^ a)])) c2 = some (.lst [natV (2 ^ a)]) := upd_same
                generalize upd H4 c2 (.lst [natV (2 ^ a)]) = H5 at s5 hc2 ⊢
                refine ⟨c1, c2, _, _, rfl, rfl, s5 _ _ hc1, hc2, small_line (by rw [List.length_take, List.length_singleton]; omega), fun c3 n3 => ?_⟩
                have s6 := sm_new (o := .lst ((bs.map natV).take i ++ [natV (2 ^ a)])) n3
                have hc3 : (upd H5 c3 (.lst ((bs.map natV).take i ++ [natV (2 ^ a)]))) c3 = some (.lst ((bs.map natV).take i ++ [natV (2 ^ a)])) := upd_same
                generalize upd H5 c3 (.lst ((bs.map natV).take i ++ [natV (2 ^ a)])) = H6 at s6 hc3 ⊢
                refine ⟨.ref D, rfl, .int (i : Int), rfl, i, 1, rfl, rfl, ((i + 1 : Nat) : Int), rfl, D, _, rfl, .of (s6 _ _ (s5 _ _ (s4 _ _ eD3))), fun c4 n4 => ?_⟩
                rw [cut_from _ (i + 1) (by omega)]
                have s7 := sm_new (o := .lst ((bs.map natV).drop (i + 1))) n4
                have hc4 : (upd H6 c4 (.lst ((bs.map natV).drop (i + 1)))) c4 = some (.lst ((bs.map natV).drop (i + 1))) := upd_same
                generalize upd H6 c4 (.lst ((bs.map natV).drop (i + 1))) = H7 at s7 hc4 ⊢
                refine ⟨c3, c4, _, _, rfl, rfl, s7 _ _ hc3, hc4, small_line (by rw [List.length_append, List.length_take, List.length_singleton, List.length_drop]; omega), fun c5 n5 => ?_⟩
                rw [set_parts _ i _ (by omega)]
                rw [show (bs.map natV).set i (natV (2 ^ a)) = (bs.set i (2 ^ a)).map natV by rw [List.map_set]]
                have s8 := sm_new (o := .lst ((bs.set i (2 ^ a)).map natV)) n5
                have hc5 : (upd H7 c5 (.lst ((bs.set i (2 ^ a)).map natV))) c5 = some (.lst ((bs.set i (2 ^ a)).map natV)) := upd_same
                generalize upd H7 c5 (.lst ((bs.set i (2 ^ a)).map natV)) = H8 at s8 hc5 ⊢
                have s38 : Same H3 H8 := s4.trans (s5.trans (s6.trans (s7.trans s8)))
                have g8 := g3.sm s38
                have f8 := f3.trans (Fg.sm (pd := pd2) s38)
                have n5d : c5 ∉ addrs pd2 := fun h => by
                  obtain ⟨p, hp', e⟩ := List.mem_map.mp h
                  obtain ⟨ws, hw, _⟩ := (g3.sm (s4.trans (s5.trans (s6.trans s7)))).pe.l p hp'
                  rw [e, n5] at hw
                  cases hw
                refine ⟨.int t, rfl, G, W, .ref aw, M, pd2, j, y, c5, bs.set i (2 ^ a), t, rfl, hC, g8, by omega, hj, hc5, n5d, fun b hb => ?_, by rw [List.length_set]; omega, by omega, fun H9 pd9 f9 g9 hin9 hc9 => ?_⟩
                · rcases List.mem_or_eq_of_mem_set hb with hb | hb
                  · obtain ⟨i', hi'⟩ := List.mem_iff_getElem?.mp hb
                    have hil' : i' < y.parts.length := by rw [← hbl]; exact (List.getElem?_eq_some_iff.mp hi').1
                    have hpi : y.parts[i']? = some y.parts[i'] := List.getElem?_eq_getElem hil'
                    exact bits_small (hbo i' _ b hpi hi') (hps _ (List.mem_of_getElem? hpi)).2
                  · rw [hb]
                    exact Nat.pow_lt_pow_right (by omega) (by omega)
                · refine ⟨pd9, _, _, rfl, f8.trans f9, g9, fun m' k' => ?_, by omega⟩
                  rw [hin9, hin, made_iff hps (by rw [hbl]) hbo hp ek l1 l2 hM]
                  constructor
                  · rintro ((h | ⟨at_, z1, z2⟩) | h)
                    · exact .inl h
                    · exact .inr ⟨at_, by omega, z2⟩
                    · exact .inr ⟨i, by omega, h⟩
                  · rintro (h | ⟨at_, z1, z2⟩)
                    · exact .inl (.inl h)
                    · by_cases e : at_ = i
                      · rw [e] at z2
                        exact .inr z2
                      · exact .inl (.inr ⟨at_, by omega, z2⟩)
              · exact ⟨pd2, _, _, rfl, f3, g3, skip fun z => h2 (decide_eq_true z.2.2), by omega⟩
            · exact ⟨false, rfl, iteF ⟨pd2, _, _, rfl, f3, g3, skip fun z => h1 (decide_eq_true z.2.1), by omega⟩⟩
          · exact iteF ⟨pd2, _, _, rfl, f3, g3, skip fun z => hk (decide_eq_true (by rw [z.1])), by omega⟩
        · rintro σ H2 ⟨pd2, y6, y8, rfl, f2, g2, hin, hc2⟩
          rw [hpl] at hin hc2
          refine q H2 pd2 (f1.trans f2) g2 (fun m' k' => ?_) (by omega)
          rw [hin]
          constructor
          · rintro (h | ⟨at_, _, h2⟩)
            · exact .inl h
            · exact .inr ⟨at_, h2⟩
          · rintro (h | ⟨at_, h2⟩)
            · exact .inl h
            · obtain ⟨_, _, q', as, g', hq', _⟩ := id h2
              exact .inr ⟨at_, (List.getElem?_eq_some_iff.mp hq').1, h2⟩
end
end Ra
end

section
set_option Elab.async false
set_option linter.all false
set_option maxRecDepth 100000
set_option maxHeartbeats 4000000
/-! walks: something is there for the first time -/
namespace Ra
open PySem PySem.Spec PyProof.Rows L2 RZ

theorem inV_int (h : Int) (cs : List Int) : inV (.int h) (cs.map V.int) = decide (h ∈ cs) := by
  induction cs with
  | nil => rfl
  | cons c cs ih =>
    have e : inV (.int h) ((c :: cs).map V.int) = ((c == h) || inV (.int h) (cs.map V.int)) := rfl
    rw [e, ih, Bool.eq_iff_iff, Bool.or_eq_true, beq_iff_eq, decide_eq_true_eq, decide_eq_true_eq, List.mem_cons]
    constructor
    · rintro (h | h)
      · exact .inl h.symm
      · exact .inr h
    · rintro (h | h)
      · exact .inl h.symm
      · exact .inr h
theorem flat_int (cs : List Int) : (cs.map V.int).all flatV = true := by
  rw [List.all_eq_true]
  intro v hv
  obtain ⟨f, _, rfl⟩ := List.mem_map.mp hv
  rfl
theorem put_le {κ : Type} [DecidableEq κ] (c : List (κ × V)) (k : κ) (x : V) : (putK c k x).length ≤ c.length + 1 := by
  unfold putK
  split
  · rw [List.length_map]
    exact Nat.le_succ _
  · rw [List.length_append]
    exact Nat.le_refl _
theorem encM_snoc (M : List (KyS × Int)) (key : KyS) (t : Int) (h : look M key = none) : putK (encM M) (encK key) (.int t) = encM (M ++ [(key, t)]) := by
  rw [putK_new]
  · unfold encM
    rw [List.map_append]
    rfl
  · rw [val_encM, h]
    rfl
theorem ages_new {n : Int} (hn : 1 ≤ n) {M : List (KyS × Int)} {kA : List (List Key × V)} (o : AgesOk n M kA) {k : Str} {p t : Int} {a b0 : Nat} (ha : a ≤ 26) (hp : (t - a) % n = p) (hnone : look M (k, p, (a : Int)) = none)
    (hb : (valV kA [.inr k, .inl (t % n)]).getD (.int 0) = .int (b0 : Int)) (hbits : ∀ i : Nat, b0.testBit i = true ↔ i ≤ 26 ∧ (look M (k, (t % n - i) % n, (i : Int))).isSome = true) :
    AgesOk n (M ++ [((k, p, (a : Int)), t)]) (putK kA [.inr k, .inl (t % n)] (.int ((b0 ||| 2 ^ a : Nat) : Int))) := by
  intro k' h' h0 h1
  rw [valV_put]
  by_cases e : ([.inr k', .inl h'] : List Key) = [.inr k, .inl (t % n)]
  · rw [if_pos e]
    simp only [List.cons.injEq, Sum.inr.injEq, Sum.inl.injEq, and_true] at e
    obtain ⟨rfl, rfl⟩ := e
    refine ⟨_, rfl, fun i => ?_⟩
    rw [or_pow_bit, Bool.or_eq_true, decide_eq_true_eq, hbits i, look_snoc M _ _ t hnone]
    by_cases ei : a = i
    · subst ei
      rw [if_pos (by rw [Int.emod_sub_emod, hp])]
      exact ⟨fun _ => ⟨ha, rfl⟩, fun _ => .inr rfl⟩
    · rw [if_neg (fun z => ei (by
        have := congrArg (fun q : KyS => q.2.2) z
        exact Int.ofNat.inj this))]
      exact ⟨fun z => by
        rcases z with z | z
        · exact z
        · exact absurd z ei, fun z => .inl z⟩
  · rw [if_neg e]
    obtain ⟨b, hb2, hbits2⟩ := o k' h' h0 h1
    refine ⟨b, hb2, fun i => ?_⟩
    rw [hbits2 i, look_snoc M _ _ t hnone, if_neg (fun z => e ?_)]
    simp only [Prod.mk.injEq] at z
    obtain ⟨rfl, z2, z3⟩ := z
    have ei : a = i := Int.ofNat.inj z3
    subst ei
    have e4 : (h' - a) % n = (t - a) % n := by rw [hp, ← z2]
    have e5 : (h' - a + a) % n = (t - a + a) % n := by rw [← Int.emod_add_emod, e4, Int.emod_add_emod]
    rw [show h' - a + a = h' by omega, show t - (a : Int) + a = t by omega, mod_id h0 h1] at e5
    rw [e5]
theorem gr_settle {G : GA} {W : WdS} {vw : V} {M M' : List (KyS × Int)} {pd : Pd} {H H' : Hp} (g : GrAt G W vw M pd H) (k : ∀ b o, H b = some o → b ≠ G.am → b ≠ G.ar → b ≠ G.aa → H' b = some o) (t : ∀ b, H' b = none → H b = none)
    (mo : H' G.am = some (.dT (encM M'))) (re : ∃ kR, H' G.ar = some (.dT kR) ∧ kR.length ≤ M'.length) (ag : ∃ kA, H' G.aa = some (.dT kA) ∧ kA.length ≤ M'.length ∧ AgesOk W.size M' kA) :
    GrAt G W vw M' pd H' ∧ Fg G pd pd H H' := by
  obtain ⟨kR, hR, _⟩ := g.re
  obtain ⟨kA, hA, _⟩ := g.ag
  have k2 : ∀ {b : Addr} {o : HO}, H b = some o → (∀ kvs, o ≠ .dT kvs) → H' b = some o := fun {b o} e h =>
    k b o e (ne_of e g.mo (h _)) (ne_of e hR (h _)) (ne_of e hA (h _))
  have tz : Tz H H' := fun a u hu e => by
    have hb := tupB_of hu
    exact k a u e (ne_tup e g.mo hb rfl) (ne_tup e hR hb rfl) (ne_tup e hA hb rfl)
  refine ⟨⟨k2 g.self (fun _ z => by cases z), g.w.tz tz, mo, re, ag, ⟨k2 g.pe.d (fun _ z => by cases z), fun p hp => ?_, g.pe.nm, g.pe.na, g.pe.ne⟩, g.d1, g.d2, g.d3⟩, ⟨fun b o e h1 h2 _ h4 _ => k b o e h1 h2 h4, fun b hb => .inl hb, t⟩⟩
  obtain ⟨vs, h1, h2⟩ := g.pe.l p hp
  exact ⟨vs, k2 h1 (fun _ z => by cases z), h2.mono fun _ _ _ _ z => z.tz tz⟩
section
variable {P : Program} {w : World} {K : PySem.W.Frag} {mg : Str → Option Value} {base : Heap}

def spSettle (C : Addr) : Sp := fun vs H Q _ => ∃ (G : GA) (W : WdS) (vw rv : V) (M : List (KyS × Int)) (pd : Pd) (key : KyS) (kq : Addr) (t : Int), vs = [.ref G.self, .ref kq, .int t, rv] ∧ G.C = C ∧ GrAt G W vw M pd H ∧ WdOk W ∧
  H kq = some (.tup ((encK key).map kV)) ∧ 0 ≤ key.2.2 ∧ key.2.2 ≤ 26 ∧ (t - key.2.2) % W.size = key.2.1 ∧ M.length ≤ 700 ∧ cnt pd + 700 ≤ 1000000 ∧
  (look M key ≠ none → Q .non H) ∧
  (look M key = none → ∀ H' pd', Fg G pd pd' H H' → GrAt G W vw (M ++ [(key, t)]) pd' H' → (∀ m' k', InP pd' m' k' ↔ InP pd m' k' ∨ NewK W (M ++ [(key, t)]) key t m' k') → cnt pd' ≤ cnt pd + 631 → Q .non H')
set_option maxHeartbeats 8000000 in
theorem ok_Settle (T : TX K mg) : Mth P w K mg base 5 (He.ga K "Growth") "settle" ["self", "key", "moment", "reason"] (spSettle (He.ga K "Growth")) := by
  refine mth_of T.f_Settle T.m_Settle scSettle (fun vs H Q E h => ?_) (fun cdv A outer s H vs Q E hr h => ?_)
  · obtain ⟨G, W, vw, rv, M, pd, key, kq, t, rfl, _⟩ := h
    rfl
  · obtain ⟨G, W, vw, rv, M, pd, key, kq, t, rfl, hC, g, ok, hkq, ha0, ha26, hpl, hM, hcnt, qo, qn⟩ := h
    have hcl : Cls K G.C := by rw [hC]; exact T.cl
    have hnm : NoAttr K G.C "moments" := by rw [hC]; exact T.n_moments
    have hnr : NoAttr K G.C "reasons" := by rw [hC]; exact T.n_reasons
    have hna : NoAttr K G.C "ages" := by rw [hC]; exact T.n_ages
    have hns : NoAttr K G.C "size" := by rw [hC]; exact T.n_size
    have hnh : NoAttr K G.C "here" := by rw [hC]; exact T.n_here
    have n0 := ok.n0
    have y10 := ok.y1
    obtain ⟨k, p, ai⟩ := key
    obtain ⟨a, rfl⟩ := Int.eq_ofNat_of_zero_le ha0
    have ha26' : a ≤ 26 := Int.ofNat_le.mp ha26
    have hpl' : (t - (a : Int)) % W.size = p := hpl
    have hme : (encK (k, p, (a : Int))).map kV = [V.str k, .int p, .int a] := rfl
    refine ⟨_, (pss_cons (ps_if (pt_cmp (pc_din (hu_of hr) (pv 1) (pe_fld (pv 0) rfl)) rfl) (pss_one ps_retN) pss_nil) (pss_cons (ps_dput (hu_of hr) (pe_fld (pv 0) rfl) (pv 1) (pv 2) rfl) (pss_cons (ps_dput (hu_of hr) (pe_fld (pv 0) rfl) (pv 1) (pv 3) rfl) (pss_cons (ps_asg (pv 1) (pg_tup rfl (pgs_cons (pg_name (i := 4) scSettle.nd rfl (.inl rfl)) (pgs_cons (pg_name (i := 5) scSettle.nd rfl (.inl rfl)) (pgs_cons (pg_name (i := 6) scSettle.nd rfl (.inl rfl)) pgs_nil))))) (pss_cons (ps_set (i := 7) scSettle.nd rfl (.inl rfl) (pe_op op_mod (pv 2) (pe_fld (pv 0) rfl))) (pss_cons (ps_dput (hu_of hr) (pe_fld (pv 0) rfl) (pe_tup (pa_cons (pv 4) (pa_cons (pv 7) pa_nil))) (pe_op op_or (pe_dget2 (hu_of hr) (pe_fld (pv 0) rfl) (pe_tup (pa_cons (pv 4) (pa_cons (pv 7) pa_nil))) pe_int ⟨rfl, rfl, rfl, rfl⟩) (pe_op op_shl pe_int (pv 6))) rfl) (pss_cons (ps_if (pt_cmpR op_lt (pv 6) (pe_gi T.i_READY (by rfl)) (nomark _)) (pss_one (ps_expr (pe_mth (pv 0) T.cl (ok_Expect T) (hr.mono (by decide)) (pa_cons (pv 4) (pa_cons (pe_op op_add (pv 6) pe_int) (pa_cons (pe_op op_add (pv 2) pe_int) (pa_cons (pe_tup (pa_cons (pe_gs T.s_WAITED (by rfl)) pa_nil)) pa_nil))))))) pss_nil) (pss_one (ps_for PassesOwn.never rfl (pi_enumT (by rfl) T.z_enumerate (pa_cons (pe_ix ix_tup (pe_fld (pv 0) rfl) pe_int (fun _ _ => rfl)) pa_nil)) (pg_tup rfl (pgs_cons (pg_name (i := 8) scSettle.nd rfl (.inl rfl)) (pgs_cons (pg_name (i := 9) scSettle.nd rfl (.inl rfl)) pgs_nil))) (pss_one (ps_if (pt_cmpR op_in_seq (pv 7) (pe_ix ix_tup (pv 9) pe_int (fun _ _ => rfl)) (by rfl)) (pss_one (ps_expr (pe_mth (pv 0) T.cl (ok_TryWay T) (hr.mono (by decide)) (pa_cons (pv 8) (pa_cons (pv 4) (pa_cons (pv 6) (pa_cons (pv 2) pa_nil))))))) pss_nil))))))))))), ?_⟩
    refine ⟨.ref kq, rfl, .ref G.self, rfl, G.self, G.C, G.dx, _, .ref G.am, rfl, g.self, hcl, hnm, rfl, G.am, _, rfl, .t g.mo hkq, _, rfl, ?_⟩
    rw [val_encM]
    cases e : look M (k, p, (a : Int)) with
    | some x => exact iteT (qo (by rw [e]; exact nofun))
    | none =>
      have hlM : (encM M).length < sizeLine := small_lt (by unfold encM; rw [List.length_map]; omega)
      refine iteF ⟨.int t, rfl, .ref G.self, rfl, G.self, G.C, G.dx, _, .ref G.am, rfl, g.self, hcl, hnm, rfl, .ref kq, rfl, G.am, _, rfl, .t g.mo hkq hlM, ?_⟩
      rw [encM_snoc M _ t e]
      obtain ⟨kR, hR, lR⟩ := g.re
      obtain ⟨kA, hA, lA, oA⟩ := g.ag
      -- the moments
      have k1 : ∀ b o, H b = some o → b ≠ G.am → (upd H G.am (.dT (encM (M ++ [((k, p, (a : Int)), t)])))) b = some o := fun b o h1 h2 => by
        rw [upd_ne h2]
        exact h1
      have m1 : (upd H G.am (.dT (encM (M ++ [((k, p, (a : Int)), t)])))) G.am = some (.dT (encM (M ++ [((k, p, (a : Int)), t)]))) := upd_same
      have t1 : ∀ b, (upd H G.am (.dT (encM (M ++ [((k, p, (a : Int)), t)])))) b = none → H b = none := fun b h1 => by
        by_cases z : b = G.am
        · rw [z, upd_same] at h1
          cases h1
        · rw [upd_ne z] at h1
          exact h1
      generalize upd H G.am (.dT (encM (M ++ [((k, p, (a : Int)), t)]))) = H1 at k1 m1 t1 ⊢
      have self1 := k1 _ _ g.self (ne_of g.self g.mo fun z => by cases z)
      have kq1 := k1 _ _ hkq (ne_of hkq g.mo fun z => by cases z)
      have re1 := k1 _ _ hR g.d1.symm
      refine ⟨rv, rfl, .ref G.self, rfl, G.self, G.C, G.dx, _, .ref G.ar, rfl, self1, hcl, hnr, rfl, .ref kq, rfl, G.ar, _, rfl, .t re1 kq1 (small_lt (by omega)), ?_⟩
      -- the reasons
      have lR2 := put_le kR (encK (k, p, (a : Int))) rv
      generalize putK kR (encK (k, p, (a : Int))) rv = kR2 at lR2 ⊢
      have k2 : ∀ b o, H1 b = some o → b ≠ G.ar → (upd H1 G.ar (.dT kR2)) b = some o := fun b o h1 h2 => by
        rw [upd_ne h2]
        exact h1
      have m2 : (upd H1 G.ar (.dT kR2)) G.ar = some (.dT kR2) := upd_same
      have t2 : ∀ b, (upd H1 G.ar (.dT kR2)) b = none → H1 b = none := fun b h1 => by
        by_cases z : b = G.ar
        · rw [z, upd_same] at h1
          cases h1
        · rw [upd_ne z] at h1
          exact h1
      generalize upd H1 G.ar (.dT kR2) = H2 at k2 m2 t2 ⊢
      have self2 := k2 _ _ self1 (ne_of self1 re1 fun z => by cases z)
      have kq2 := k2 _ _ kq1 (ne_of kq1 re1 fun z => by cases z)
      have aa2 := k2 _ _ (k1 _ _ hA g.d2.symm) g.d3.symm
      have am2 := k2 _ _ m1 g.d1
      rw [hme] at kq2
      refine ⟨.ref kq, rfl, kq, _, rfl, .inl (.inl kq2), rfl, .str k, _, rfl, .int p, _, rfl, .int a, _, rfl, rfl, ?_⟩
      refine ⟨.int t, rfl, .ref G.self, rfl, G.self, G.C, G.dx, _, .int W.size, rfl, self2, hcl, hns, rfl, t, W.size, rfl, rfl, by omega, ?_⟩
      -- the ages
      obtain ⟨hm0, hm1⟩ := mod_rng n0 t
      obtain ⟨b0, hb0, hbits⟩ := oA k (t % W.size) hm0 hm1
      refine ⟨.ref G.self, rfl, G.self, G.C, G.dx, _, .ref G.aa, rfl, self2, hcl, hna, rfl, G.aa, rfl, .inr ⟨_, .inl aa2⟩, .str k, rfl, .int (t % W.size), rfl, by show 2 ≤ sizeLine; decide, fun N1 n1 => ?_⟩
      have s3 := sm_new (o := .tup [.str k, .int (t % W.size)]) n1
      refine ⟨_, .t (k := [.inr k, .inl (t % W.size)]) (s3 _ _ aa2) upd_same, ?_⟩
      rw [hb0]
      refine ⟨.int a, rfl, 1, a, rfl, rfl, ⟨by omega, by omega, by decide⟩, b0, _, rfl, rfl, ?_⟩
      have epow : V.int (Builtin.bitOr (b0 : Int) (1 * 2 ^ (a : Int).toNat)) = .int ((b0 ||| 2 ^ a : Nat) : Int) := by
        rw [Int.one_mul, Int.toNat_natCast, ← or_nat, Int.natCast_pow]
        rfl
      generalize upd H2 N1 (.tup [.str k, .int (t % W.size)]) = H3 at s3 ⊢
      have self3 := s3 _ _ self2
      refine ⟨.ref G.self, rfl, G.self, G.C, G.dx, _, .ref G.aa, rfl, self3, hcl, hna, rfl, .str k, rfl, .int (t % W.size), rfl, by show 2 ≤ sizeLine; decide, fun N2 n2 => ?_⟩
      have s4 := sm_new (o := .tup [.str k, .int (t % W.size)]) n2
      have hN2 : (upd H3 N2 (.tup [.str k, .int (t % W.size)])) N2 = some (.tup [.str k, .int (t % W.size)]) := upd_same
      generalize upd H3 N2 (.tup [.str k, .int (t % W.size)]) = H4 at s4 hN2 ⊢
      have s24 := s3.trans s4
      have aa4 := s24 _ _ aa2
      refine ⟨G.aa, _, rfl, (show DPut H4 G.aa (.ref N2) (V.int (Builtin.bitOr (b0 : Int) (1 * 2 ^ (a : Int).toNat))) _ from .t (k := [.inr k, .inl (t % W.size)]) aa4 hN2 (small_lt (by omega))), ?_⟩
      rw [epow]
      have oA2 := ages_new n0 oA ha26' hpl' e hb0 hbits
      have lA2 := put_le kA [.inr k, .inl (t % W.size)] (.int ((b0 ||| 2 ^ a : Nat) : Int))
      generalize putK kA [.inr k, .inl (t % W.size)] (.int ((b0 ||| 2 ^ a : Nat) : Int)) = kA2 at oA2 lA2 ⊢
      have lM : (M ++ [((k, p, (a : Int)), t)]).length = M.length + 1 := by rw [List.length_append]; rfl
      obtain ⟨g5, f5⟩ : GrAt G W vw (M ++ [((k, p, (a : Int)), t)]) pd (upd H4 G.aa (.dT kA2)) ∧ Fg G pd pd H (upd H4 G.aa (.dT kA2)) := by
        refine gr_settle g (fun b o h1 h2 h3 h4 => ?_) (fun b h1 => ?_) ?_ ⟨kR2, ?_, by omega⟩ ⟨kA2, upd_same, by omega, oA2⟩
        · rw [upd_ne h4]
          exact s24 _ _ (k2 _ _ (k1 _ _ h1 h2) h3)
        · by_cases z : b = G.aa
          · rw [z, upd_same] at h1
            cases h1
          · rw [upd_ne z] at h1
            exact t1 b (t2 b (same_none s24 h1))
        · rw [upd_ne g.d2]
          exact s24 _ _ am2
        · rw [upd_ne g.d3]
          exact s24 _ _ m2
      generalize upd H4 G.aa (.dT kA2) = H5 at g5 f5 ⊢
      generalize hM' : M ++ [((k, p, (a : Int)), t)] = M' at g5 lM qn
      have hself : look M' (k, p, (a : Int)) = some t := by rw [← hM', look_snoc M _ _ t e, if_pos rfl]
      have qn' := qn e
      have fin : ∀ H6 pd6, Fg G pd pd6 H H6 → GrAt G W vw M' pd6 H6 →
          (∀ m' k', InP pd6 m' k' ↔ InP pd m' k' ∨ (m' = t + 1 ∧ k' = (k, (t + 1 - ((a : Int) + 1)) % W.size, (a : Int) + 1) ∧ look M' k' = none ∧ (a : Int) < 26) ∨
            ∃ (j : Nat) (y : Wy Str), W.ways[j]? = some y ∧ t % W.size ∈ y.hours ∧ ∃ at_, TwAt W M' y k a t at_ m' k') → cnt pd6 ≤ cnt pd + 631 → Q .non H6 := by
        intro H6 pd6 f6 g6 hin6 hc6
        refine qn' H6 pd6 f6 g6 (fun m' k' => ?_) hc6
        rw [hin6]
        constructor
        · rintro (h | ⟨h1, h2, h3, h4⟩ | ⟨j, y, hj, hh, at_, h1, h2, q', as, g', h3, h4, h5, h6, h7, h8⟩)
          · exact .inl h
          · exact .inr ⟨h3, .inl ⟨h4, h1, h2⟩⟩
          · exact .inr ⟨h2, .inr ⟨y, List.mem_of_getElem? hj, hh, at_, q', as, g', h3, h4, h5, h6, h7, h1, h8⟩⟩
        · rintro (h | ⟨h3, ⟨h4, h1, h2⟩ | ⟨y, hj, hh, at_, q', as, g', h3', h4, h5, h6, h7, h1, h8⟩⟩)
          · exact .inl h
          · exact .inr (.inl ⟨h1, h2, h3, h4⟩)
          · obtain ⟨j, hj⟩ := List.mem_iff_getElem?.mp hj
            exact .inr (.inr ⟨j, y, hj, hh, at_, h1, h3, q', as, g', h3', h4, h5, h6, h7, h8⟩)
      refine ⟨.int a, rfl, a, 26, rfl, rfl, _, rfl, ite2 (fun h26 => ?_) (fun h26 => ?_)⟩
      · refine ⟨.ref G.self, rfl, G.self, G.dx, _, rfl, by rw [← hC]; exact g5.self, rfl, .str k, rfl, .int a, rfl, a, 1, rfl, rfl, .int t, rfl, t, 1, rfl, rfl, by show 1 ≤ sizeLine; decide, fun er ner => ?_⟩
        have s6 := sm_new (o := .tup [.str "waited"]) ner
        refine ⟨G, W, vw, .ref er, M', pd, k, (a : Int) + 1, t + 1, rfl, hC, g5.sm s6, by omega, by omega, fun H6 pd6 f6' g6 hin6' hc6 => ?_⟩
        have f6 : Fg G pd pd6 H H6 := (f5.trans (Fg.sm (pd := pd) s6)).trans f6'
        have hin6 : ∀ m' k', InP pd6 m' k' ↔ InP pd m' k' ∨ (m' = t + 1 ∧ k' = (k, (t + 1 - ((a : Int) + 1)) % W.size, (a : Int) + 1) ∧ look M' k' = none ∧ (a : Int) < 26) := fun m' k' => by
          rw [hin6']
          exact ⟨fun h => by
            rcases h with h | ⟨h1, h2, h3⟩
            · exact .inl h
            · exact .inr ⟨h1, h2, h3, of_decide_eq_true h26⟩, fun h => by
            rcases h with h | ⟨h1, h2, h3, _⟩
            · exact .inl h
            · exact .inr ⟨h1, h2, h3⟩⟩
        obtain ⟨aw, vk, vs, vy, rfl, raw, _, _, hiy⟩ := g6.w.ex
        obtain ⟨ay, ys, rfl, ray, hys⟩ := list_at hiy
        have hysl : ys.length = W.ways.length := by rw [hys.1, List.length_map]
        refine ⟨.ref G.self, rfl, G.self, G.C, G.dx, _, .ref aw, rfl, g6.self, hcl, hnh, rfl, aw, _, 3, .ref ay, rfl, rfl, .inl raw, atI_nat (j := 3) rfl, ay, ys, rfl, .inl ray, ?_⟩
        refine for_it walk_enumT (fun i σ H7 => ∃ pd7 y8 y9, σ = [some (.ref G.self), some (.ref kq), some (.int t), some rv, some (.str k), some (.int p), some (.int a), some (.int (t % W.size)), y8, y9] ∧ Fg G pd pd7 H H7 ∧ Rd H7 ay (.tup ys) ∧ Ims H7 ys (W.ways.map encY) ∧ GrAt G W (.ref aw) M' pd7 H7 ∧
          (∀ m' k', InP pd7 m' k' ↔ InP pd m' k' ∨ (m' = t + 1 ∧ k' = (k, (t + 1 - ((a : Int) + 1)) % W.size, (a : Int) + 1) ∧ look M' k' = none ∧ (a : Int) < 26) ∨
            ∃ (j : Nat) (y : Wy Str), j < i ∧ W.ways[j]? = some y ∧ t % W.size ∈ y.hours ∧ ∃ at_, TwAt W M' y k a t at_ m' k') ∧ cnt pd7 ≤ cnt pd + 1 + 63 * i)
          ⟨_, _, _, rfl, f6, ray, hys, g6, fun m' k' => (hin6 m' k').trans ⟨fun h => by
            rcases h with h | h
            · exact .inl h
            · exact .inr (.inl h), fun h => by
            rcases h with h | h | ⟨j, _, h, _⟩
            · exact .inl h
            · exact .inr h
            · exact absurd h (Nat.not_lt_zero _)⟩, hc6⟩ (fun i σ H7 _ ⟨_, _, _, _, _, r7, _⟩ => .inl r7) ?_ ?_
        · rintro i x0 σ H7 H8 hlt ⟨pd7, y8, y9, rfl, f7, r7, i7, g7, hin7, hc7⟩ ⟨N, x1, x2, rfl, nN, rfl, e1, e2⟩
          dsimp only at e1 e2
          cases e1
          rw [hysl] at hlt
          obtain ⟨y, hy⟩ : ∃ y, W.ways[i]? = some y := ⟨_, List.getElem?_eq_getElem hlt⟩
          have iy : Im H7 x2 (encY y) := by
            obtain ⟨z, hz, iz⟩ := ims_at i7 hy
            rw [hz] at e2
            cases e2
            exact iz
          have s8 : Same H7 (upd H7 N (.tup [.int (i : Int), x2])) := sm_new nN
          refine ⟨N, _, rfl, .inl (.inl upd_same), rfl, _, _, rfl, _, _, rfl, rfl, ?_⟩
          generalize upd H7 N (.tup [.int (i : Int), x2]) = H8 at s8 ⊢
          have g8 := g7.sm s8
          have f8 := f7.trans (Fg.sm (pd := pd7) s8)
          have r8 := rd_sm s8 r7
          have i8 := i7.sm s8
          obtain ⟨c, vp, vh, rfl, rc, _, hvh⟩ := way_at (iy.sm s8)
          obtain ⟨ah, hs, rfl, rah, ihs⟩ := im_tup hvh
          have ehs := ihs.ints
          subst ehs
          refine ⟨.int (t % W.size), rfl, .ref c, rfl, c, _, 3, .ref ah, rfl, rfl, .inl rc, atI_nat (j := 3) rfl, ah, _, rfl, .inr (.inl rah), rfl, flat_int _, _, rfl, ?_⟩
          rw [if_neg Bool.false_ne_true]
          rw [show inV ((fun i j => V.int (i % j)) t W.size) (y.hours.map V.int) = decide (t % W.size ∈ y.hours) from inV_int _ _]
          refine ite2 (fun hh => ?_) (fun hh => ?_)
          · refine ⟨.ref G.self, rfl, G.self, G.dx, _, rfl, by rw [← hC]; exact g8.self, rfl, .int (i : Int), rfl, .str k, rfl, .int a, rfl, .int t, rfl, ?_⟩
            refine ⟨G, W, .ref aw, M', pd7, i, y, k, a, t, rfl, hC, g8, ok, hy, ha26', by rw [hpl', hself]; rfl, by omega, fun H9 pd9 f9 g9 hin9 hc9 => ?_⟩
            have tz9 := g8.tz f9
            refine ⟨pd9, _, _, rfl, f8.trans f9, tz9.tk _ _ r8, i8.tk tz9.tk, g9, fun m' k' => ((hin9 m' k').trans (or_congr_left (hin7 m' k'))).trans ⟨fun h => ?_, fun h => ?_⟩, by omega⟩
            · rcases h with (h | h | ⟨j, y', hj, h⟩) | h
              · exact .inl h
              · exact .inr (.inl h)
              · exact .inr (.inr ⟨j, y', by omega, h⟩)
              · exact .inr (.inr ⟨i, y, by omega, hy, of_decide_eq_true hh, h⟩)
            · rcases h with h | h | ⟨j, y', hj, h1, h2, h3⟩
              · exact .inl (.inl h)
              · exact .inl (.inr (.inl h))
              · by_cases e : j = i
                · subst e
                  rw [hy] at h1
                  cases h1
                  exact .inr h3
                · exact .inl (.inr (.inr ⟨j, y', by omega, h1, h2, h3⟩))
          · refine ⟨pd7, _, _, rfl, f8, r8, i8, g8, fun m' k' => (hin7 m' k').trans ⟨fun h => ?_, fun h => ?_⟩, by omega⟩
            · rcases h with h | h | ⟨j, y', hj, h⟩
              · exact .inl h
              · exact .inr (.inl h)
              · exact .inr (.inr ⟨j, y', by omega, h⟩)
            · rcases h with h | h | ⟨j, y', hj, h1, h2, h3⟩
              · exact .inl h
              · exact .inr (.inl h)
              · by_cases e : j = i
                · subst e
                  rw [hy] at h1
                  cases h1
                  exact absurd (decide_eq_true h2) hh
                · exact .inr (.inr ⟨j, y', by omega, h1, h2, h3⟩)
        · rintro σ H7 ⟨pd7, y8, y9, rfl, f7, r7, i7, g7, hin7, hc7⟩
          rw [hysl] at hin7 hc7
          refine fin H7 pd7 f7 g7 (fun m' k' => ?_) (by omega)
          rw [hin7]
          constructor
          · rintro (h | h | ⟨j, y, _, h⟩)
            · exact .inl h
            · exact .inr (.inl h)
            · exact .inr (.inr ⟨j, y, h⟩)
          · rintro (h | h | ⟨j, y, hj, h⟩)
            · exact .inl h
            · exact .inr (.inl h)
            · exact .inr (.inr ⟨j, y, (List.getElem?_eq_some_iff.mp hj).1, hj, h⟩)
      · have hno : ¬ (a : Int) < 26 := fun z => h26 (decide_eq_true z)
        have f6 := f5
        have g6 := g5
        have hc6 : cnt pd ≤ cnt pd + 1 := Nat.le_succ _
        have hin6 : ∀ m' k', InP pd m' k' ↔ InP pd m' k' ∨ (m' = t + 1 ∧ k' = (k, (t + 1 - ((a : Int) + 1)) % W.size, (a : Int) + 1) ∧ look M' k' = none ∧ (a : Int) < 26) := fun m' k' =>
          ⟨.inl, fun h => by
            rcases h with h | ⟨_, _, _, h4⟩
            · exact h
            · exact absurd h4 hno⟩
        obtain ⟨aw, vk, vs, vy, rfl, raw, _, _, hiy⟩ := g6.w.ex
        obtain ⟨ay, ys, rfl, ray, hys⟩ := list_at hiy
        have hysl : ys.length = W.ways.length := by rw [hys.1, List.length_map]
        refine ⟨.ref G.self, rfl, G.self, G.C, G.dx, _, .ref aw, rfl, g6.self, hcl, hnh, rfl, aw, _, 3, .ref ay, rfl, rfl, .inl raw, atI_nat (j := 3) rfl, ay, ys, rfl, .inl ray, ?_⟩
        refine for_it walk_enumT (fun i σ H7 => ∃ pd7 y8 y9, σ = [some (.ref G.self), some (.ref kq), some (.int t), some rv, some (.str k), some (.int p), some (.int a), some (.int (t % W.size)), y8, y9] ∧ Fg G pd pd7 H H7 ∧ Rd H7 ay (.tup ys) ∧ Ims H7 ys (W.ways.map encY) ∧ GrAt G W (.ref aw) M' pd7 H7 ∧
          (∀ m' k', InP pd7 m' k' ↔ InP pd m' k' ∨ (m' = t + 1 ∧ k' = (k, (t + 1 - ((a : Int) + 1)) % W.size, (a : Int) + 1) ∧ look M' k' = none ∧ (a : Int) < 26) ∨
            ∃ (j : Nat) (y : Wy Str), j < i ∧ W.ways[j]? = some y ∧ t % W.size ∈ y.hours ∧ ∃ at_, TwAt W M' y k a t at_ m' k') ∧ cnt pd7 ≤ cnt pd + 1 + 63 * i)
          ⟨_, _, _, rfl, f6, ray, hys, g6, fun m' k' => (hin6 m' k').trans ⟨fun h => by
            rcases h with h | h
            · exact .inl h
            · exact .inr (.inl h), fun h => by
            rcases h with h | h | ⟨j, _, h, _⟩
            · exact .inl h
            · exact .inr h
            · exact absurd h (Nat.not_lt_zero _)⟩, hc6⟩ (fun i σ H7 _ ⟨_, _, _, _, _, r7, _⟩ => .inl r7) ?_ ?_
        · rintro i x0 σ H7 H8 hlt ⟨pd7, y8, y9, rfl, f7, r7, i7, g7, hin7, hc7⟩ ⟨N, x1, x2, rfl, nN, rfl, e1, e2⟩
          dsimp only at e1 e2
          cases e1
          rw [hysl] at hlt
          obtain ⟨y, hy⟩ : ∃ y, W.ways[i]? = some y := ⟨_, List.getElem?_eq_getElem hlt⟩
          have iy : Im H7 x2 (encY y) := by
            obtain ⟨z, hz, iz⟩ := ims_at i7 hy
            rw [hz] at e2
            cases e2
            exact iz
          have s8 : Same H7 (upd H7 N (.tup [.int (i : Int), x2])) := sm_new nN
          refine ⟨N, _, rfl, .inl (.inl upd_same), rfl, _, _, rfl, _, _, rfl, rfl, ?_⟩
          generalize upd H7 N (.tup [.int (i : Int), x2]) = H8 at s8 ⊢
          have g8 := g7.sm s8
          have f8 := f7.trans (Fg.sm (pd := pd7) s8)
          have r8 := rd_sm s8 r7
          have i8 := i7.sm s8
          obtain ⟨c, vp, vh, rfl, rc, _, hvh⟩ := way_at (iy.sm s8)
          obtain ⟨ah, hs, rfl, rah, ihs⟩ := im_tup hvh
          have ehs := ihs.ints
          subst ehs
          refine ⟨.int (t % W.size), rfl, .ref c, rfl, c, _, 3, .ref ah, rfl, rfl, .inl rc, atI_nat (j := 3) rfl, ah, _, rfl, .inr (.inl rah), rfl, flat_int _, _, rfl, ?_⟩
          rw [if_neg Bool.false_ne_true]
          rw [show inV ((fun i j => V.int (i % j)) t W.size) (y.hours.map V.int) = decide (t % W.size ∈ y.hours) from inV_int _ _]
          refine ite2 (fun hh => ?_) (fun hh => ?_)
          · refine ⟨.ref G.self, rfl, G.self, G.dx, _, rfl, by rw [← hC]; exact g8.self, rfl, .int (i : Int), rfl, .str k, rfl, .int a, rfl, .int t, rfl, ?_⟩
            refine ⟨G, W, .ref aw, M', pd7, i, y, k, a, t, rfl, hC, g8, ok, hy, ha26', by rw [hpl', hself]; rfl, by omega, fun H9 pd9 f9 g9 hin9 hc9 => ?_⟩
            have tz9 := g8.tz f9
            refine ⟨pd9, _, _, rfl, f8.trans f9, tz9.tk _ _ r8, i8.tk tz9.tk, g9, fun m' k' => ((hin9 m' k').trans (or_congr_left (hin7 m' k'))).trans ⟨fun h => ?_, fun h => ?_⟩, by omega⟩
            · rcases h with (h | h | ⟨j, y', hj, h⟩) | h
              · exact .inl h
              · exact .inr (.inl h)
              · exact .inr (.inr ⟨j, y', by omega, h⟩)
              · exact .inr (.inr ⟨i, y, by omega, hy, of_decide_eq_true hh, h⟩)
            · rcases h with h | h | ⟨j, y', hj, h1, h2, h3⟩
              · exact .inl (.inl h)
              · exact .inl (.inr (.inl h))
              · by_cases e : j = i
                · subst e
                  rw [hy] at h1
                  cases h1
                  exact .inr h3
                · exact .inl (.inr (.inr ⟨j, y', by omega, h1, h2, h3⟩))
          · refine ⟨pd7, _, _, rfl, f8, r8, i8, g8, fun m' k' => (hin7 m' k').trans ⟨fun h => ?_, fun h => ?_⟩, by omega⟩
            · rcases h with h | h | ⟨j, y', hj, h⟩
              · exact .inl h
              · exact .inr (.inl h)
              · exact .inr (.inr ⟨j, y', by omega, h⟩)
            · rcases h with h | h | ⟨j, y', hj, h1, h2, h3⟩
              · exact .inl h
              · exact .inr (.inl h)
              · by_cases e : j = i
                · subst e
                  rw [hy] at h1
                  cases h1
                  exact absurd (decide_eq_true h2) hh
                · exact .inr (.inr ⟨j, y', by omega, h1, h2, h3⟩)
        · rintro σ H7 ⟨pd7, y8, y9, rfl, f7, r7, i7, g7, hin7, hc7⟩
          rw [hysl] at hin7 hc7
          refine fin H7 pd7 f7 g7 (fun m' k' => ?_) (by omega)
          rw [hin7]
          constructor
          · rintro (h | h | ⟨j, y, _, h⟩)
            · exact .inl h
            · exact .inr (.inl h)
            · exact .inr (.inr ⟨j, y, h⟩)
          · rintro (h | h | ⟨j, y, hj, h⟩)
            · exact .inl h
            · exact .inr (.inl h)
            · exact .inr (.inr ⟨j, y, (List.getElem?_eq_some_iff.mp hj).1, hj, h⟩)
end
end Ra
end

section
set_option Elab.async false
set_option linter.all false
set_option maxRecDepth 100000
set_option maxHeartbeats 4000000
/-! walks: the growth from its start to its end -/
namespace Ra
open PySem PySem.Spec PyProof.Rows L2 RZ

def PeOf (pd : Pd) (t : Int) (rest : List KyS) (m : Int) (k : KyS) : Prop := InP pd m k ∨ (m = t ∧ k ∈ rest)
def popPd (pd : Pd) (t : Int) : Pd := pd.filter fun p => decide (p.1 ≠ t)
theorem pop_cnt {pd : Pd} {p : Int × Addr × List KyS} (hp : p ∈ pd) : cnt (popPd pd p.1) + p.2.2.length ≤ cnt pd := by
  induction pd with
  | nil => cases hp
  | cons q pd ih =>
    rw [cnt_cons]
    have e : popPd (q :: pd) p.1 = if q.1 = p.1 then popPd pd p.1 else q :: popPd pd p.1 := by
      unfold popPd
      rw [List.filter_cons]
      by_cases h : q.1 = p.1
      · rw [if_pos h, if_neg (by simp [h])]
      · rw [if_neg h, if_pos (by simp [h])]
    rw [e]
    have le : ∀ l : Pd, cnt (popPd l p.1) ≤ cnt l := fun l => by
      induction l with
      | nil => exact Nat.le_refl _
      | cons r l ih =>
        unfold popPd at ih ⊢
        rw [List.filter_cons, cnt_cons]
        split
        · rw [cnt_cons]
          omega
        · omega
    rcases List.mem_cons.mp hp with h | h
    · subst h
      rw [if_pos rfl]
      have := le pd
      omega
    · have := ih h
      split
      · omega
      · rw [cnt_cons]
        omega
theorem pop_drop (pd : Pd) (t : Int) : dropK (pd.map fun p => ((Sum.inl p.1 : Key), V.ref p.2.1)) (Sum.inl t) = (popPd pd t).map fun p => (Sum.inl p.1, V.ref p.2.1) := by
  unfold dropK popPd
  rw [List.filter_map]
  congr 1
  refine List.filter_congr fun p _ => ?_
  show decide ((Sum.inl p.1 : Key) ≠ Sum.inl t) = decide (p.1 ≠ t)
  rw [Bool.eq_iff_iff, decide_eq_true_eq, decide_eq_true_eq]
  exact ⟨fun h e => h (by rw [e]), fun h e => h (Sum.inl.inj e)⟩
theorem pop_in {pd : Pd} {p : Int × Addr × List KyS} (hn : (pd.map (·.1)).Nodup) (hp : p ∈ pd) (m : Int) (k : KyS) : InP pd m k ↔ InP (popPd pd p.1) m k ∨ (m = p.1 ∧ k ∈ p.2.2) := by
  constructor
  · rintro ⟨q, hq, e1, e2⟩
    by_cases h : q.1 = p.1
    · have := nodup_map_inj hn hq hp h
      subst this
      exact .inr ⟨e1.symm, e2⟩
    · exact .inl ⟨q, List.mem_filter.mpr ⟨hq, decide_eq_true h⟩, e1, e2⟩
  · rintro (⟨q, hq, e1, e2⟩ | ⟨rfl, h⟩)
    · exact ⟨q, (List.mem_filter.mp hq).1, e1, e2⟩
    · exact ⟨p, hp, rfl, h⟩
theorem nodup_sub {α β : Type} (f : α → β) (g : α → Bool) {l : List α} (h : (l.map f).Nodup) : ((l.filter g).map f).Nodup :=
  List.Sublist.nodup (List.Sublist.map f List.filter_sublist) h
theorem pd_pop {H H' : Hp} {ap : Addr} {pd : Pd} {t : Int} (P : PdAt H ap pd) (k : ∀ b o, H b = some o → b ≠ ap → H' b = some o) (d : H' ap = some (.dK ((popPd pd t).map fun p => (Sum.inl p.1, V.ref p.2.1)))) (tz : Tz H H') : PdAt H' ap (popPd pd t) := by
  refine ⟨d, fun p hp => ?_, nodup_sub _ _ P.nm, nodup_sub _ _ P.na, fun p hp => P.ne p (List.mem_filter.mp hp).1⟩
  obtain ⟨vs, h1, h2⟩ := P.l p (List.mem_filter.mp hp).1
  exact ⟨vs, k _ _ h1 (fun z => by rw [z, P.d] at h1; cases h1), h2.mono fun _ _ _ _ z => z.tz tz⟩

/-- an object being filled: all else as it was, new things beside -/
structure Stp (H0 H : Hp) (x0 : Addr) (u : HO) : Prop where
  k : ∀ b z, H0 b = some z → b ≠ x0 → H b = some z
  e : H x0 = some u
  t : ∀ b, H b = none → H0 b = none
theorem Stp.fld {H0 H : Hp} {x0 : Addr} {u u' : HO} (s : Stp H0 H x0 u) : Stp H0 (upd H x0 u') x0 u' ∧ ∀ b z, H b = some z → b ≠ x0 → (upd H x0 u') b = some z := by
  refine ⟨⟨fun b z h1 h2 => by rw [upd_ne h2]; exact s.k b z h1 h2, upd_same, fun b h => s.t b ?_⟩, fun b z h1 h2 => by rw [upd_ne h2]; exact h1⟩
  by_cases z : b = x0
  · rw [z, upd_same] at h
    cases h
  · rw [upd_ne z] at h
    exact h
theorem Stp.new {H0 H : Hp} {x0 d : Addr} {u o : HO} (s : Stp H0 H x0 u) (n : H d = none) : Stp H0 (upd H d o) x0 u :=
  ⟨fun b z h1 h2 => sm_new n b z (s.k b z h1 h2), sm_new n _ _ s.e, fun b h => s.t b (same_none (sm_new n) h)⟩
/-- a new dict and its field -/
theorem Stp.both {H0 H : Hp} {x0 d : Addr} {u u' o : HO} (s : Stp H0 H x0 u) (n : H d = none) :
    Stp H0 (upd (upd H d o) x0 u') x0 u' ∧ (upd (upd H d o) x0 u') d = some o ∧ d ≠ x0 ∧ H0 d = none ∧ ∀ b z, H b = some z → b ≠ x0 → (upd (upd H d o) x0 u') b = some z := by
  have hd : d ≠ x0 := fun z => by
    rw [z, s.e] at n
    cases n
  have s2 := s.new (o := o) n
  obtain ⟨s3, k3⟩ := s2.fld (u' := u')
  exact ⟨s3, k3 _ _ upd_same hd, hd, s.t d n, fun b z h1 h2 => k3 b z (sm_new n b z h1) h2⟩
section
variable {P : Program} {w : World} {K : PySem.W.Frag} {mg : Str → Option Value} {base : Heap}

def spInit (C : Addr) : Sp := fun vs H Q _ => ∃ (self dx : Addr) (W : WdS) (vw : V), vs = [.ref self, vw] ∧ H self = some (.ins C dx []) ∧ WdAt H vw W ∧ WdOk W ∧
  ∀ H' G M, G.self = self → G.C = C → (∀ b o, H b = some o → b ≠ self → H' b = some o) → GrAt G W vw M [] H' → GI W M (fun _ _ => False) → Q .non H'
set_option maxHeartbeats 8000000 in
theorem ok_Init (T : TX K mg) : Ini P w K mg base 6 (He.ga K "Growth") ["self", "world"] (spInit (He.ga K "Growth")) := by
  obtain ⟨fd, F⟩ := T.f_Init
  refine ⟨_, fd, fnok_of F scInit (fun vs H Q E h => ?_) (fun cdv A outer s H vs Q E hr h => ?_), T.mkG, F.bn⟩
  · obtain ⟨self, dx, W, vw, rfl, _⟩ := h
    rfl
  · obtain ⟨self, dx, W, vw, rfl, hself, hW, ok, q⟩ := h
    have n0 := ok.n0
    have s8 := ok.s1
    refine ⟨_, (pss_cons (ps_fld (pv 0) (pv 1) rfl) (pss_cons (ps_fld (pv 0) (pe_ix ix_tup (pv 1) pe_int (fun _ _ => rfl)) rfl) (pss_cons (ps_fld (pv 0) pe_dnewT rfl) (pss_cons (ps_fld (pv 0) pe_dnewT rfl) (pss_cons (ps_fld (pv 0) pe_dnewK rfl) (pss_cons (ps_fld (pv 0) pe_dnewT rfl) (pss_cons (ps_for PassesOwn.never rfl (pi_enumT (by rfl) T.z_enumerate (pa_cons (pe_ix ix_tup (pv 1) pe_int (fun _ _ => rfl)) pa_nil)) (pg_tup rfl (pgs_cons (pg_name (i := 2) scInit.nd rfl (.inl rfl)) (pgs_cons (pg_name (i := 3) scInit.nd rfl (.inl rfl)) pgs_nil))) (pss_one (ps_expr (pe_mth (pv 0) T.cl (ok_Expect T) (hr.mono (by decide)) (pa_cons (pe_ix ix_tup (pv 3) pe_int (fun _ _ => rfl)) (pa_cons (pe_ix ix_tup (pv 3) pe_int (fun _ _ => rfl)) (pa_cons (pe_cal (ok_FirstOf T) (hr.mono (by decide)) (by rfl) (pa_cons (pv 1) (pa_cons (pv 2) pa_nil))) (pa_cons (pe_tup (pa_cons (pe_gs T.s_BROUGHT (by rfl)) (pa_cons (pv 2) pa_nil))) pa_nil)))))))) (pss_one (ps_while PassesOwn.never (pt_truth (pe_fld (pv 0) rfl) (by intro _; rfl)) (pss_cons (ps_set (i := 4) scInit.nd rfl (.inl rfl) (pe_callB (cr_minK rfl) (by rfl) T.z_min (by decide +kernel) (pa_cons (pe_fld (pv 0) rfl) pa_nil))) (pss_one (ps_for PassesOwn.never rfl (pi_list (pe_dpop1 (pe_fld (pv 0) rfl) (pv 4) ⟨rfl, rfl, rfl, rfl⟩)) (pg_tup rfl (pgs_cons (pg_name (i := 5) scInit.nd rfl (.inl rfl)) (pgs_cons (pg_name (i := 6) scInit.nd rfl (.inl rfl)) pgs_nil))) (pss_one (ps_expr (pe_mth (pv 0) T.cl (ok_Settle T) (hr.mono (by decide)) (pa_cons (pv 5) (pa_cons (pv 4) (pa_cons (pv 6) pa_nil)))))))))))))))))), ?_⟩
    obtain ⟨aw, vk, vs, vy, rfl, raw, _, his, hiy⟩ := hW.ex
    -- the fields
    have s0 : Stp H H self (.ins (He.ga K "Growth") dx []) := ⟨fun _ _ h _ => h, hself, fun _ h => h⟩
    have tzs : ∀ {H' : Hp} {u : HO}, Stp H H' self u → Tz H H' := fun st b z hz e => st.k b z e (ne_tup e hself (tupB_of hz) rfl)
    refine ⟨.ref aw, rfl, .ref self, rfl, self, _, dx, [], rfl, hself, T.cl, T.n_here, by show 0 < 1000; decide, ?_⟩
    obtain ⟨s1, _⟩ := s0.fld (u' := .ins (He.ga K "Growth") dx (putF "here" (.ref aw) []))
    generalize upd H self (.ins (He.ga K "Growth") dx (putF "here" (.ref aw) [])) = H1 at s1 ⊢
    refine ⟨.ref aw, rfl, aw, _, 0, .int W.size, rfl, rfl, .inl ((tzs s1).tk _ _ raw), atI_nat (j := 0) rfl, .ref self, rfl, self, _, dx, _, rfl, s1.e, T.cl, T.n_size, by show 1 < 1000; decide, ?_⟩
    obtain ⟨s2, _⟩ := s1.fld (u' := .ins (He.ga K "Growth") dx (putF "size" (.int W.size) (putF "here" (.ref aw) [])))
    generalize upd H1 self (.ins (He.ga K "Growth") dx (putF "size" (.int W.size) (putF "here" (.ref aw) []))) = H2 at s2 ⊢
    intro am nam
    refine ⟨.ref self, rfl, self, _, dx, _, rfl, (s2.new nam).e, T.cl, T.n_moments, by show 2 < 1000; decide, ?_⟩
    obtain ⟨s3, em3, nam1, nam0, _⟩ := s2.both (o := .dT []) (u' := .ins (He.ga K "Growth") dx (putF "moments" (.ref am) (putF "size" (.int W.size) (putF "here" (.ref aw) [])))) nam
    generalize upd (upd H2 am (.dT [])) self (.ins (He.ga K "Growth") dx (putF "moments" (.ref am) (putF "size" (.int W.size) (putF "here" (.ref aw) [])))) = H3 at s3 em3 ⊢
    intro ar nar
    refine ⟨.ref self, rfl, self, _, dx, _, rfl, (s3.new nar).e, T.cl, T.n_reasons, by show 3 < 1000; decide, ?_⟩
    obtain ⟨s4, er4, nar1, nar0, k4⟩ := s3.both (o := .dT []) (u' := .ins (He.ga K "Growth") dx (putF "reasons" (.ref ar) (putF "moments" (.ref am) (putF "size" (.int W.size) (putF "here" (.ref aw) []))))) nar
    have em4 := k4 _ _ em3 nam1
    have d1 : am ≠ ar := ne_of_none em3 nar
    generalize upd (upd H3 ar (.dT [])) self (.ins (He.ga K "Growth") dx (putF "reasons" (.ref ar) (putF "moments" (.ref am) (putF "size" (.int W.size) (putF "here" (.ref aw) []))))) = H4 at s4 er4 em4 ⊢
    intro ap nap
    refine ⟨.ref self, rfl, self, _, dx, _, rfl, (s4.new nap).e, T.cl, T.n_pending, by show 4 < 1000; decide, ?_⟩
    obtain ⟨s5, ep5, nap1, nap0, k5⟩ := s4.both (o := .dK []) (u' := .ins (He.ga K "Growth") dx (putF "pending" (.ref ap) (putF "reasons" (.ref ar) (putF "moments" (.ref am) (putF "size" (.int W.size) (putF "here" (.ref aw) [])))))) nap
    have em5 := k5 _ _ em4 nam1
    have er5 := k5 _ _ er4 nar1
    generalize upd (upd H4 ap (.dK [])) self (.ins (He.ga K "Growth") dx (putF "pending" (.ref ap) (putF "reasons" (.ref ar) (putF "moments" (.ref am) (putF "size" (.int W.size) (putF "here" (.ref aw) [])))))) = H5 at s5 ep5 em5 er5 ⊢
    intro aa naa
    refine ⟨.ref self, rfl, self, _, dx, _, rfl, (s5.new naa).e, T.cl, T.n_ages, by show 5 < 1000; decide, ?_⟩
    obtain ⟨s6, ea6, naa1, naa0, k6⟩ := s5.both (o := .dT []) (u' := .ins (He.ga K "Growth") dx (putF "ages" (.ref aa) (putF "pending" (.ref ap) (putF "reasons" (.ref ar) (putF "moments" (.ref am) (putF "size" (.int W.size) (putF "here" (.ref aw) []))))))) naa
    have em6 := k6 _ _ em5 nam1
    have er6 := k6 _ _ er5 nar1
    have ep6 := k6 _ _ ep5 nap1
    have d2 : am ≠ aa := ne_of_none em5 naa
    have d3 : ar ≠ aa := ne_of_none er5 naa
    generalize upd (upd H5 aa (.dT [])) self (.ins (He.ga K "Growth") dx (putF "ages" (.ref aa) (putF "pending" (.ref ap) (putF "reasons" (.ref ar) (putF "moments" (.ref am) (putF "size" (.int W.size) (putF "here" (.ref aw) []))))))) = H6 at s6 ea6 em6 er6 ep6 ⊢
    have tz6 := tzs s6
    have g0 : GrAt ⟨He.ga K "Growth", self, dx, am, ar, ap, aa⟩ W (.ref aw) [] [] H6 :=
      ⟨s6.e, hW.tz tz6, em6, ⟨[], er6, Nat.le_refl _⟩, ⟨[], ea6, Nat.le_refl _, fun k h _ _ => ⟨0, rfl, fun i => ⟨fun z => by { rw [Nat.zero_testBit] at z; cases z }, fun z => (nomatch z.2)⟩⟩⟩,
        ⟨ep6, fun p hp => (nomatch hp), List.nodup_nil, List.nodup_nil, fun p hp => (nomatch hp)⟩, d1, d2, d3⟩
    generalize hG : (⟨He.ga K "Growth", self, dx, am, ar, ap, aa⟩ : GA) = G at g0
    have hGs : G.self = self := by rw [← hG]
    have hGC : G.C = He.ga K "Growth" := by rw [← hG]
    have hframe : ∀ {H' : Hp} {pd : Pd}, Fg G [] pd H6 H' → ∀ b o, H b = some o → b ≠ self → H' b = some o := fun f b o e ne => by
      have ne' : ∀ {d : Addr}, H d = none → b ≠ d := fun hd z => by
        rw [z, hd] at e
        cases e
      rw [← hG] at f
      exact f.k b o (s6.k b o e ne) (ne' nam0) (ne' nar0) (ne' nap0) (ne' naa0) (fun z => by cases z)
    subst hGs
    clear hG hself s0 s1 s2 s3 s4 s5
    have gself : ∀ {M : List (KyS × Int)} {pd : Pd} {H' : Hp}, GrAt G W (.ref aw) M pd H' → H' G.self = some (.ins (He.ga K "Growth") G.dx [("here", .ref aw), ("size", .int W.size), ("moments", .ref G.am), ("reasons", .ref G.ar), ("pending", .ref G.ap), ("ages", .ref G.aa)]) := fun g => by
      rw [← hGC]
      exact g.self
    have hcl : Cls K G.C := by rw [hGC]; exact T.cl
    have hnp : NoAttr K G.C "pending" := by rw [hGC]; exact T.n_pending
    obtain ⟨as, xs, rfl, ras, hxs⟩ := list_at his
    have hxl : xs.length = W.sources.length := by rw [hxs.1, List.length_map]
    refine ⟨.ref aw, rfl, aw, _, 2, .ref as, rfl, rfl, .inl (tz6.tk _ _ raw), atI_nat (j := 2) rfl, as, xs, rfl, .inl (tz6.tk _ _ ras), ?_⟩
    refine for_it walk_enumT (fun i σ H7 => ∃ pd7 y2 y3 y4 y5 y6, σ = [some (.ref G.self), some (.ref aw), y2, y3, y4, y5, y6] ∧ Fg G [] pd7 H6 H7 ∧ GrAt G W (.ref aw) [] pd7 H7 ∧
      (∀ m' k', InP pd7 m' k' ↔ ∃ (j : Nat) (s : Src Str), j < i ∧ W.sources[j]? = some s ∧ m' = firstAt W.size s.place s.since ∧ k' = (s.kind, (firstAt W.size s.place s.since - s.age) % W.size, s.age)) ∧ cnt pd7 ≤ i)
      ⟨[], _, _, _, _, _, rfl, Fg.refl _ _ _, g0, fun m' k' => ⟨fun ⟨p, hp, _⟩ => (nomatch hp), fun ⟨j, _, hj, _⟩ => absurd hj (Nat.not_lt_zero _)⟩, Nat.le_refl _⟩
      (fun i σ H7 _ ⟨_, _, _, _, _, _, _, f7, g7, _⟩ => .inl ((g0.tz f7).tk _ _ (tz6.tk _ _ ras))) ?_ ?_
    · rintro i x0 σ H7 H8 hlt ⟨pd7, y2, y3, y4, y5, y6, rfl, f7, g7, hin7, hc7⟩ ⟨N, x1, x2, rfl, nN, rfl, e1, e2⟩
      dsimp only at e1 e2
      cases e1
      rw [hxl] at hlt
      obtain ⟨sr, hsr⟩ : ∃ sr, W.sources[i]? = some sr := ⟨_, List.getElem?_eq_getElem hlt⟩
      have i7 := (hxs.tk tz6.tk).tk (g0.tz f7).tk
      have ix : Im H7 x2 (encS sr) := by
        obtain ⟨z, hz, iz⟩ := ims_at i7 hsr
        rw [hz] at e2
        cases e2
        exact iz
      have s8 : Same H7 (upd H7 N (.tup [.int (i : Int), x2])) := sm_new nN
      refine ⟨N, _, rfl, .inl (.inl upd_same), rfl, _, _, rfl, _, _, rfl, rfl, ?_⟩
      generalize upd H7 N (.tup [.int (i : Int), x2]) = H8 at s8 ⊢
      have g8 := g7.sm s8
      have f8 := f7.trans (Fg.sm (pd := pd7) s8)
      obtain ⟨c, rfl, rc⟩ := src_at (ix.sm s8)
      refine ⟨.ref G.self, rfl, G.self, G.dx, _, rfl, gself g8, rfl, .ref c, rfl, c, _, 0, .str sr.kind, rfl, rfl, .inl rc, atI_nat (j := 0) rfl, .ref c, rfl, c, _, 1, .int sr.age, rfl, rfl, .inl rc, atI_nat (j := 1) rfl, ?_⟩
      refine ⟨.ref aw, rfl, .int (i : Int), rfl, .ref aw, i, W, sr, rfl, g8.w, by omega, hsr, ?_⟩
      refine ⟨.int (i : Int), rfl, by show 2 ≤ sizeLine; decide, fun r nr => ?_⟩
      have s9 := sm_new (o := .tup [.str "brought", .int (i : Int)]) nr
      refine ⟨G, W, .ref aw, _, [], pd7, sr.kind, sr.age, _, rfl, hGC, g8.sm s9, by omega, by omega, fun H9 pd9 f9 g9 hin9 hc9 => ?_⟩
      refine ⟨pd9, _, _, _, _, _, rfl, (f8.trans (Fg.sm (pd := pd7) s9)).trans f9, g9, fun m' k' => ((hin9 m' k').trans (or_congr_left (hin7 m' k'))).trans ⟨fun h => ?_, fun h => ?_⟩, by omega⟩
      · rcases h with ⟨j, s, hj, h⟩ | ⟨h1, h2, _⟩
        · exact ⟨j, s, by omega, h⟩
        · exact ⟨i, sr, by omega, hsr, h1, h2⟩
      · obtain ⟨j, s, hj, h1, h2, h3⟩ := h
        by_cases e : j = i
        · subst e
          rw [hsr] at h1
          cases h1
          exact .inr ⟨h2, h3, rfl⟩
        · exact .inl ⟨j, s, by omega, h1, h2, h3⟩
    · rintro σ H7 ⟨pd7, y2, y3, y4, y5, y6, rfl, f7, g7, hin7, hc7⟩
      rw [hxl] at hin7 hc7
      have gi7 : GI W [] (InP pd7) := GI.start ok fun m k => (hin7 m k).trans ⟨fun ⟨j, s, _, h1, h2⟩ => ⟨s, List.mem_of_getElem? h1, h2⟩, fun ⟨s, hs, h⟩ => by
        obtain ⟨j, hj⟩ := List.mem_iff_getElem?.mp hs
        exact ⟨j, s, (List.getElem?_eq_some_iff.mp hj).1, hj, h⟩⟩
      refine ⟨fun m σ H8 => ∃ M pd y2 y3 y4 y5 y6, σ = [some (.ref G.self), some (.ref aw), y2, y3, y4, y5, y6] ∧ Fg G [] pd H6 H8 ∧ GrAt G W (.ref aw) M pd H8 ∧ GI W M (InP pd) ∧ cnt pd ≤ 8 + 631 * M.length ∧ (648 - M.length) * 1000 + cnt pd = m,
        ⟨_, [], pd7, _, _, _, _, _, rfl, f7, g7, gi7, by simp only [List.length_nil]; omega, rfl⟩, ?_⟩
      rintro m σ H8 ⟨M, pd, z2, z3, z4, z5, z6, rfl, f8, g8, gi8, hc8, hm⟩
      have few := gi8.few ok
      refine ⟨.ref G.self, rfl, G.self, G.C, G.dx, _, .ref G.ap, rfl, g8.self, hcl, hnp, rfl, _, .inr (.inr ⟨_, g8.pe.d, rfl⟩), ?_⟩
      refine ite2 (fun hne => ?_) (fun he => ?_)
      · have hpd : pd ≠ [] := fun z => by
          rw [z] at hne
          cases hne
        refine ⟨fun σ H' => ∃ M pd y2 y3 y4 y5 y6, σ = [some (.ref G.self), some (.ref aw), y2, y3, y4, y5, y6] ∧ Fg G [] pd H6 H' ∧ GrAt G W (.ref aw) M pd H' ∧ GI W M (InP pd) ∧ cnt pd ≤ 8 + 631 * M.length ∧ (648 - M.length) * 1000 + cnt pd < m,
          fun σ' H' ⟨M, pd, y2, y3, y4, y5, y6, h1, h2, h3, h4, h5, h6⟩ => ⟨_, h6, M, pd, y2, y3, y4, y5, y6, h1, h2, h3, h4, h5, rfl⟩, ?_⟩
        refine ⟨.ref G.self, rfl, G.self, G.C, G.dx, _, .ref G.ap, rfl, g8.self, hcl, hnp, rfl, G.ap, _, pd.map (·.1), rfl, g8.pe.d, by rw [List.map_map, List.map_map]; rfl, fun z => hpd (List.map_eq_nil_iff.mp z), fun t ht hle => ?_⟩
        obtain ⟨p, hp, hpt, hv⟩ : ∃ p ∈ pd, p.1 = t ∧ valV (pd.map fun p => ((Sum.inl p.1 : Key), V.ref p.2.1)) (Sum.inl t) = some (.ref p.2.1) := by
          rcases val_pd pd t with ⟨_, h⟩ | h
          · exact absurd ht h
          · exact h
        subst hpt
        refine ⟨.ref G.self, rfl, G.self, G.C, G.dx, _, .ref G.ap, rfl, g8.self, hcl, hnp, rfl, G.ap, rfl, .inl ⟨_, .of g8.pe.d⟩, .int p.1, rfl, _, Sum.inl p.1, _, g8.pe.d, rfl, hv, ?_⟩
        rw [pop_drop]
        obtain ⟨vs, hvs, hes⟩ := g8.pe.l p hp
        have hpe : p.2.2 ≠ [] := g8.pe.ne p hp
        have hpc := pop_cnt hp
        have hpin := fun m k => pop_in g8.pe.nm hp m k
        have kk : ∀ b o, H8 b = some o → b ≠ G.ap → (upd H8 G.ap (.dK ((popPd pd p.1).map fun p => (Sum.inl p.1, V.ref p.2.1)))) b = some o := fun b o e ne => by rw [upd_ne ne]; exact e
        have tz9 : Tz H8 (upd H8 G.ap (.dK ((popPd pd p.1).map fun p => (Sum.inl p.1, V.ref p.2.1)))) := fun b u hu e => kk b u e (ne_tup e g8.pe.d (tupB_of hu) rfl)
        have pd9 : PdAt _ G.ap (popPd pd p.1) := pd_pop g8.pe kk upd_same tz9
        have g9 := (gr_keep g8 (fun b o e ne _ => kk b o e ne) pd9).1
        have f9 : Fg G pd (popPd pd p.1) H8 _ := ⟨fun b o e _ _ ne _ _ => kk b o e ne, fun b hb => .inl (by
          obtain ⟨q, hq, rfl⟩ := List.mem_map.mp hb
          exact List.mem_map.mpr ⟨q, (List.mem_filter.mp hq).1, rfl⟩), fun b hb => by
            by_cases z : b = G.ap
            · rw [z, upd_same] at hb
              cases hb
            · rw [upd_ne z] at hb
              exact hb⟩
        have hvs9 := kk _ _ hvs (ne_of hvs g8.pe.d fun z => by cases z)
        have hes9 : Ents _ vs p.2.2 := hes.mono fun _ _ _ _ z => z.tz tz9
        have hna9 : p.2.1 ∉ addrs (popPd pd p.1) := fun h => by
          obtain ⟨q, hq, hqa⟩ := List.mem_map.mp h
          have hq' := List.mem_filter.mp hq
          have := nodup_map_inj g8.pe.na hq'.1 hp hqa
          rw [this] at hq'
          exact of_decide_eq_true hq'.2 rfl
        have f0 := f8.trans f9
        generalize upd H8 G.ap (.dK ((popPd pd p.1).map fun p => (Sum.inl p.1, V.ref p.2.1))) = H9 at *
        have hlen : vs.length = p.2.2.length := hes9.1
        refine ⟨p.2.1, rfl, ⟨vs, .of hvs9⟩, ?_⟩
        refine for_list (K := K) (a := p.2.1) (xs := vs) (fun i σ H' => ∃ M3 pd3 y5 y6, σ = [some (.ref G.self), some (.ref aw), z2, z3, some (.int p.1), y5, y6] ∧ Fg G [] pd3 H6 H' ∧ GrAt G W (.ref aw) M3 pd3 H' ∧
          H' p.2.1 = some (.lst vs) ∧ p.2.1 ∉ addrs pd3 ∧ Ents H' vs p.2.2 ∧ GI W M3 (PeOf pd3 p.1 (p.2.2.drop i)) ∧ (∀ m k, PeOf pd3 p.1 (p.2.2.drop i) m k → p.1 ≤ m) ∧ cnt pd3 ≤ 8 + 631 * M3.length ∧
          (648 - M3.length) * 1000 + cnt pd3 + p.2.2.length ≤ m)
          ⟨M, popPd pd p.1, _, _, rfl, f0, g9, hvs9, hna9, hes9, gi8.congr hpin, fun m k h => ?_, by omega, by omega⟩ (fun i σ H' _ ⟨_, _, _, _, _, _, _, h, _⟩ => .of h) ?_ ?_
        · obtain ⟨q, hq, rfl, _⟩ := (hpin m k).mpr h
          exact hle _ (List.mem_map.mpr ⟨q, hq, rfl⟩)
        · rintro i x σ H' hx ⟨M3, pd3, y5, y6, rfl, f3, g3, hv3, hna3, he3, gi3, hle3, hc3, hm3⟩
          have hi : i < p.2.2.length := by
            rw [← hlen]
            exact (List.getElem?_eq_some_iff.mp hx).1
          have hdrop : p.2.2.drop i = p.2.2[i] :: p.2.2.drop (i + 1) := List.drop_eq_getElem_cons hi
          obtain ⟨key, hkey⟩ : ∃ key, p.2.2[i] = key := ⟨_, rfl⟩
          rw [hkey] at hdrop
          obtain ⟨e, kq, rv, rfl, he, hkq⟩ := he3.2 i x key hx (by rw [← hkey]; exact List.getElem?_eq_getElem hi)
          refine ⟨e, _, rfl, .inl (.inl he), rfl, _, _, rfl, _, _, rfl, rfl, ?_⟩
          have hPe : PeOf pd3 p.1 (p.2.2.drop i) p.1 key := .inr ⟨rfl, by rw [hdrop]; exact List.mem_cons_self ..⟩
          obtain ⟨_, _, _, a0, a1, hpl, _⟩ := gi3.goodP _ _ hPe
          have few3 := gi3.few ok
          have step1 : ∀ {pd4 : Pd}, (∀ m k, InP pd3 m k → InP pd4 m k) → ∀ m k, PeOf pd3 p.1 (p.2.2.drop i) m k → (m = p.1 ∧ k = key) ∨ PeOf pd4 p.1 (p.2.2.drop (i + 1)) m k := fun hs m k h => by
            rcases h with h | ⟨h1, h2⟩
            · exact .inr (.inl (hs _ _ h))
            · rw [hdrop] at h2
              rcases List.mem_cons.mp h2 with h2 | h2
              · exact .inl ⟨h1, h2⟩
              · exact .inr (.inr ⟨h1, h2⟩)
          have step2 : ∀ m k, PeOf pd3 p.1 (p.2.2.drop (i + 1)) m k → PeOf pd3 p.1 (p.2.2.drop i) m k := fun m k h => by
            rcases h with h | ⟨h1, h2⟩
            · exact .inl h
            · exact .inr ⟨h1, by rw [hdrop]; exact List.mem_cons_of_mem _ h2⟩
          refine ⟨.ref G.self, rfl, G.self, G.dx, _, rfl, gself g3, rfl, .ref kq, rfl, .int p.1, rfl, rv, rfl, ?_⟩
          refine ⟨G, W, .ref aw, rv, M3, pd3, key, kq, p.1, rfl, hGC, g3, ok, hkq, a0, a1, hpl, by omega, by omega, fun hold => ?_, fun hnew H4 pd4 f4 g4 hin4 hc4 => ?_⟩
          · obtain ⟨x, hx⟩ : ∃ x, look M3 key = some x := by
              cases q : look M3 key with
              | none => exact absurd q hold
              | some x => exact ⟨x, rfl⟩
            exact ⟨M3, pd3, _, _, rfl, f3, g3, hv3, hna3, he3, settle_old gi3 hPe hx (step1 fun _ _ h => h) step2, fun m k h => hle3 m k (step2 m k h), hc3, hm3⟩
          · have gi4 : GI W (M3 ++ [(key, p.1)]) (PeOf pd4 p.1 (p.2.2.drop (i + 1))) := settle_new ok gi3 hPe hnew hle3 (step1 fun m k h => (hin4 m k).mpr (.inl h)) (fun m k h => by
                rcases h with h | h
                · rcases (hin4 m k).mp h with h | h
                  · exact .inl (.inl h)
                  · exact .inr h
                · exact .inl (step2 m k (.inr h))) (fun m k h => .inl ((hin4 m k).mpr (.inr h)))
            have few4 := gi4.few ok
            obtain ⟨hv4, hna4⟩ := f4.lst g3 hv3 hna3
            rw [List.length_append] at few4
            have hself : look (M3 ++ [(key, p.1)]) key = some p.1 := by rw [look_snoc _ _ _ _ hnew, if_pos rfl]
            refine ⟨M3 ++ [(key, p.1)], pd4, _, _, rfl, f3.trans f4, g4, hv4, hna4, he3.mono fun _ _ _ _ z => z.tz (g3.tz f4), gi4, fun m k h => gi4.ord _ _ _ _ hself h, ?_, ?_⟩
            · rw [List.length_append]
              simp only [List.length_cons, List.length_nil] at few4 ⊢
              omega
            · rw [List.length_append]
              simp only [List.length_cons, List.length_nil] at few4 ⊢
              omega
        · rintro σ H' ⟨M3, pd3, y5, y6, rfl, f3, g3, hv3, hna3, he3, gi3, hle3, hc3, hm3⟩
          have hpos : 0 < p.2.2.length := List.length_pos_iff.mpr hpe
          refine ⟨M3, pd3, _, _, _, _, _, rfl, f3, g3, gi3.congr fun m k => ⟨fun h => ?_, fun h => .inl h⟩, hc3, by omega⟩
          rcases h with h | ⟨_, h⟩
          · exact h
          · rw [hlen, List.drop_length] at h
            cases h
      · have hpd : pd = [] := by
          cases pd with
          | nil => rfl
          | cons _ _ => exact absurd rfl he
        subst hpd
        exact q H8 G M rfl hGC (hframe f8) g8 (gi8.congr fun m k => ⟨fun ⟨p, hp, _⟩ => (nomatch hp), fun h => h.elim⟩)
end
end Ra
end

section
set_option Elab.async false
set_option linter.all false
set_option maxRecDepth 100000
set_option maxHeartbeats 4000000
/-! walks: the least shut table -/
namespace Ra
open PySem PySem.Spec PyProof.Rows L2 RZ

def tCell (M : List (KyS × Int)) (k : Str) (p : Int) : List (Option Int) := (List.range 27).map fun (a : Nat) => tOf M k p (a : Int)
def tRow (M : List (KyS × Int)) (n : Nat) (k : Str) : List (List (Option Int)) := (List.range n).map fun (p : Nat) => tCell M k (p : Int)
def tTab (W : WdS) (M : List (KyS × Int)) : Tb := W.kinds.map (tRow M W.size.toNat)
theorem tTab_ok (W : WdS) (M : List (KyS × Int)) : TbOk W (tTab W M) := by
  refine ⟨by unfold tTab; rw [List.length_map], fun r hr => ?_, fun r hr s hs => ?_⟩
  · obtain ⟨k, _, rfl⟩ := List.mem_map.mp hr
    unfold tRow
    rw [List.length_map, List.length_range]
  · obtain ⟨k, _, rfl⟩ := List.mem_map.mp hr
    obtain ⟨p, _, rfl⟩ := List.mem_map.mp hs
    unfold tCell
    rw [List.length_map, List.length_range]
theorem tTab_at {W : WdS} {M : List (KyS × Int)} {k : Str} {p a : Int} (hk : k ∈ W.kinds) (p0 : 0 ≤ p) (p1 : p < W.size) (a0 : 0 ≤ a) (a1 : a ≤ 26) : tv W (tTab W M) k p a = tOf M k p a := by
  obtain ⟨pn, rfl⟩ := Int.eq_ofNat_of_zero_le p0
  obtain ⟨an, rfl⟩ := Int.eq_ofNat_of_zero_le a0
  unfold tv tTab
  rw [List.getElem?_map, (idx_at hk).1]
  show ((tRow M W.size.toNat k)[(pn : Int).toNat]?.getD [])[(an : Int).toNat]?.getD none = _
  unfold tRow
  rw [Int.toNat_natCast, Int.toNat_natCast, List.getElem?_map, List.getElem?_range (by omega)]
  show (tCell M k pn)[an]?.getD none = _
  unfold tCell
  rw [List.getElem?_map, List.getElem?_range (by omega)]
  rfl
theorem Least.agree {w : WdS} (hw : WdOk w) {t t' : Tv Str} (L : Least w t) (e : ∀ k p a, k ∈ w.kinds → 0 ≤ p → p < w.size → 0 ≤ a → a ≤ 26 → t' k p a = t k p a) (kin : ∀ k o m, Can w k o m → k ∈ w.kinds ∧ o ≤ m) : Least w t' := by
  refine ⟨fun k p a x hk p0 p1 a0 a1 h => L.snd k p a x hk p0 p1 a0 a1 ((e k p a hk p0 p1 a0 a1).symm.trans h), fun k o m c => ?_⟩
  obtain ⟨x, h1, h2⟩ := L.cmp k o m c
  obtain ⟨hk, hom⟩ := kin k o m c
  have r := mod_rng hw.n0 o
  exact ⟨x, (e k _ _ hk r.1 r.2 (by omega) (by omega)).trans h1, h2⟩
theorem im_snoc {H : Hp} {D : Addr} {us : List V} {ds : List PyData} {x : V} {d : PyData} (eD : H D = some (.lst us)) (h : Ims H us ds) (hx : Im H x d) : Ims (upd H D (.lst (us ++ [x]))) (us ++ [x]) (ds ++ [d]) := by
  have t : Tk H (upd H D (.lst (us ++ [x]))) := Tk.wr (Tk.refl _) fun zs hz => by
    rcases hz with hz | ⟨o, hz⟩
    · rw [eD] at hz; cases hz
    · rw [eD] at hz; cases hz
  exact Ims.snoc (h.tk t) (hx.tk t)
theorem im_newtup {H : Hp} {l : Addr} {us : List V} {ds : List PyData} (n : H l = none) (h : Ims H us ds) : Im (upd H l (.tup us)) (.ref l) (.tuple ds) := Ims.im (.inl upd_same) (h.sm (sm_new n))

section
variable {P : Program} {w : World} {K : PySem.W.Frag} {mg : Str → Option Value} {base : Heap}

def spTable : Sp := fun vs H Q _ => ∃ (vw : V) (W : WdS), vs = [vw] ∧ WdAt H vw W ∧ WdOk W ∧ ∀ H' v T, Same H H' → Im H' v (encT T) → TbOk W T → Least W (tv W T) → Q v H'
set_option maxHeartbeats 8000000 in
theorem ok_Table (T : TX K mg) : Cal P w K mg base 8 "table" ["world"] spTable := by
  refine cal_of T.f_Table T.g_Table scTable (fun vs H Q E h => ?_) (fun cdv A outer s H vs Q E hr h => ?_)
  · obtain ⟨vw, W, rfl, _⟩ := h
    rfl
  · obtain ⟨vw, W, rfl, hW, ok, q⟩ := h
    have n0 := ok.n0
    have n6 := ok.n1
    have k4 := ok.k1
    obtain ⟨aw, vk, vs, vy, rfl, raw, hk, his, hiy⟩ := hW.ex
    obtain ⟨ak, ko, rfl, hko, _⟩ := hk
    refine ⟨_, (pss_cons (ps_set (i := 1) scTable.nd rfl (.inr rfl) (pe_ini (ok_Init T) (hr.mono (by decide)) (by rfl) T.gC (pa_cons (pv 0) pa_nil))) (pss_cons (ps_set (i := 2) scTable.nd rfl (.inl rfl) (pe_lst pa_nil)) (pss_cons (ps_for PassesOwn.never rfl (pi_tup (pe_ix ix_tup (pv 0) pe_int (fun _ _ => rfl))) (pg_name (i := 3) scTable.nd rfl (.inr rfl)) (pss_cons (ps_set (i := 4) scTable.nd rfl (.inl rfl) (pe_lst pa_nil)) (pss_cons (ps_for PassesOwn.never rfl (pi_range1 (by rfl) T.z_range (pa_cons (pe_ix ix_tup (pv 0) pe_int (fun _ _ => rfl)) pa_nil)) (pg_name (i := 5) scTable.nd rfl (.inr rfl)) (pss_one (ps_expr (pe_bm PySem.F.plainAttrs_list PySem.F.slot_list_append PySem.F.type_list_append mt_append (pv 4) (pa_cons (pe_callTy call_tuple_of (by rfl) T.z_tuple (by decide +kernel) (pa_cons (pe_lc (own := [("age", 6)]) (g := gName 6) rfl scTable.nd (pi_range1 (by rfl) T.z_range (pa_cons (pe_op op_add (pe_gi T.i_READY (by rfl)) pe_int) pa_nil)) (blkOk_by (N := ["world", "grown", "found", "kind", "places", "place", "age"]) (sc := defScope sTable) (by decide +kernel)) (fun _ _ _ _ _ => (pg_name (i := 6) scTable.nd rfl (.inl rfl))) (fun _ _ _ _ _ => pts_nil) (fun _ _ _ _ _ => (pe_mth (pv 1) T.cl (ok_NumberOf T) (hr.mono (by decide)) (pa_cons (pv 3) (pa_cons (pv 5) (pa_cons (pv 6) pa_nil)))))) pa_nil)) pa_nil))))) (pss_one (ps_expr (pe_bm PySem.F.plainAttrs_list PySem.F.slot_list_append PySem.F.type_list_append mt_append (pv 2) (pa_cons (pe_callTy call_tuple_of (by rfl) T.z_tuple (by decide +kernel) (pa_cons (pv 4) pa_nil)) pa_nil))))))) (pss_one (ps_ret (pe_callTy call_tuple_of (by rfl) T.z_tuple (by decide +kernel) (pa_cons (pv 2) pa_nil))))))), ?_⟩
    refine ⟨.ref aw, rfl, fun x dx nx ndx hne => ?_⟩
    have s1 : Same H (upd (upd H dx (.own x)) x (.ins (He.ga K "Growth") dx [])) := (sm_new ndx).trans (sm_new (by rw [upd_ne (Ne.symm hne)]; exact nx))
    refine ⟨x, dx, W, .ref aw, rfl, upd_same, hW.sm s1, ok, fun H2 G M hGs hGC hfr g gi => ⟨rfl, ?_⟩⟩
    have s2 : Same H H2 := fun b o e => hfr b o (s1 b o e) fun z => by
      rw [z, nx] at e
      cases e
    have L0 : Least W (tOf M) := gi.least ok fun _ _ h => h
    have L : Least W (tv W (tTab W M)) := L0.agree ok (fun k p a hk p0 p1 a0 a1 => tTab_at hk p0 p1 a0 a1) fun k o m c => ⟨(can_bnd ok c).1, (can_bnd ok c).2.1⟩
    subst hGs
    refine ⟨Nat.zero_le _, fun D nD => ?_⟩
    have s3 : Same H2 (upd H2 D (.lst [])) := sm_new nD
    refine ⟨.ref aw, rfl, aw, _, 1, .ref ak, rfl, rfl, .inl (rd_sm s3 (rd_sm s2 raw)), atI_nat (j := 1) rfl, ak, rfl, ⟨_, .inl (.inr ⟨ko, s3 _ _ (s2 _ _ hko)⟩)⟩, ?_⟩
    refine for_tup (xs := W.kinds.map V.str) (fun i σ H4 => ∃ us y3 y4 y5 y6, σ = [some (.ref aw), some (.ref G.self), some (.ref D), y3, y4, y5, y6] ∧ Same H2 H4 ∧ H4 D = some (.lst us) ∧ Ims H4 us (((tTab W M).take i).map encR))
      ⟨[], _, _, _, _, rfl, s3, upd_same, .nil⟩ (fun i σ H4 _ ⟨_, _, _, _, _, _, s4, _⟩ => .inl (.inr ⟨ko, s4 _ _ (s2 _ _ hko)⟩)) ?_ ?_
    · rintro i x0 σ H4 hx ⟨us, y3, y4, y5, y6, rfl, s4, eD, ius⟩
      obtain ⟨k, hki, rfl⟩ : ∃ k, W.kinds[i]? = some k ∧ x0 = .str k := by
        rw [List.getElem?_map] at hx
        cases e : W.kinds[i]? with
        | none => rw [e] at hx; cases hx
        | some b => rw [e] at hx; cases hx; exact ⟨b, rfl, rfl⟩
      have hi4 := (List.getElem?_eq_some_iff.mp hki).1
      have hTi : (tTab W M)[i]? = some (tRow M W.size.toNat k) := by
        unfold tTab
        rw [List.getElem?_map, hki]
        rfl
      generalize hR : tRow M W.size.toNat k = R at hTi
      have lR : R.length = W.size.toNat := by rw [← hR]; unfold tRow; rw [List.length_map, List.length_range]
      refine ⟨Nat.zero_le _, fun D2 nD2 => ?_⟩
      have s5 : Same H4 (upd H4 D2 (.lst [])) := sm_new nD2
      refine ⟨.ref aw, rfl, aw, _, 0, .int W.size, rfl, rfl, .inl (rd_sm s5 (rd_sm s4 (rd_sm s2 raw))), atI_nat (j := 0) rfl, W.size, rfl, by omega, by omega, ?_⟩
      refine for_range (lo := 0) (n := W.size.toNat) (fun j σ H6 => ∃ ps y5 y6, σ = [some (.ref aw), some (.ref G.self), some (.ref D), some (.str k), some (.ref D2), y5, y6] ∧ Same H4 H6 ∧ H6 D2 = some (.lst ps) ∧ Ims H6 ps ((R.take j).map encSt))
        ⟨[], _, _, rfl, s5, upd_same, .nil⟩ ?_ ?_
      · rintro j σ H6 hj ⟨ps, y5, y6, rfl, s6, eD2, ips⟩
        have hRj : R[j]? = some (tCell M k (j : Int)) := by
          rw [← hR]
          unfold tRow
          rw [List.getElem?_map, List.getElem?_range hj]
          rfl
        generalize hC : tCell M k (j : Int) = C at hRj
        have lC : C.length = 27 := by rw [← hC]; unfold tCell; rw [List.length_map, List.length_range]
        refine ⟨.ref D2, rfl, .inl ⟨rfl, _, .of eD2⟩, 26, 1, rfl, rfl, 27, rfl, by decide, by decide, fun D3 nD3 => ?_⟩
        refine lc_it walk_range (fun l H7 => Same H6 H7 ∧ H7 D3 = some (.lst ((C.take l).map optV))) ⟨sm_new nD3, upd_same⟩ (fun _ _ _ _ => trivial) ?_ ?_
        · rintro l x7 H7 H8 hl ⟨s7, eD3⟩ ⟨rfl, rfl⟩
          have hl' : l < 27 := hl
          refine ⟨rfl, ty_yes ?_⟩
          have gs := (((g.sm s4).sm s6).sm s7).self
          rw [hGC] at gs
          refine ⟨.ref G.self, rfl, G.self, G.dx, _, rfl, gs, rfl, .str k, rfl, .int (0 + (j : Nat)), rfl, .int (0 + (l : Nat)), rfl, ?_⟩
          refine ⟨G, W, .ref aw, M, [], k, 0 + (j : Nat), 0 + (l : Nat), rfl, hGC, ((g.sm s4).sm s6).sm s7, fun H9 s9 => ?_⟩
          have hCl : C[l]? = some (tOf M k (0 + (j : Nat)) (0 + (l : Nat))) := by
            rw [← hC, Int.zero_add, Int.zero_add]
            unfold tCell
            rw [List.getElem?_map, List.getElem?_range hl']
            rfl
          refine ⟨_, s9 _ _ eD3, small_lt (by rw [List.length_map, List.length_take]; omega), sm_out (s7.trans s9) nD3, ?_⟩
          rw [upd_same, take_snoc hCl, List.map_append]
          rfl
        · rintro H7 ⟨s7, eD3⟩
          rw [List.take_of_length_le (by rw [lC]; decide)] at eD3
          refine ⟨D3, _, rfl, .inl ⟨.of eD3, fun l nl => ?_⟩⟩
          have s8 : Same H6 (upd H7 l (.tup (C.map optV))) := sm_then s7 nl
          have iC : Im (upd H7 l (.tup (C.map optV))) (.ref l) (encSt C) := im_newtup nl (ims_opts C)
          generalize upd H7 l (.tup (C.map optV)) = H8 at s8 iC ⊢
          refine ⟨D2, _, _, rfl, rfl, s8 _ _ eD2, small_lt (by rw [ips.1, List.length_map, List.length_take]; omega), ps ++ [.ref l], _, _, rfl, sm_out (s6.trans s8) nD2, upd_same, ?_⟩
          rw [take_snoc hRj, List.map_append]
          exact im_snoc (s8 _ _ eD2) (ips.sm s8) iC
      · rintro σ H6 ⟨ps, y5, y6, rfl, s6, eD2, ips⟩
        rw [List.take_of_length_le (by omega)] at ips
        refine ⟨.ref D, rfl, .inl ⟨rfl, _, .of (s6 _ _ eD)⟩, .ref D2, rfl, D2, _, rfl, .inl ⟨.of eD2, fun l nl => ?_⟩⟩
        have s7 : Same H4 (upd H6 l (.tup ps)) := sm_then s6 nl
        have iR : Im (upd H6 l (.tup ps)) (.ref l) (encR R) := im_newtup nl ips
        generalize upd H6 l (.tup ps) = H7 at s7 iR ⊢
        refine ⟨D, _, _, rfl, rfl, s7 _ _ eD, small_lt (by rw [ius.1, List.length_map, List.length_take]; omega), us ++ [.ref l], _, _, _, _, rfl, sm_out (s4.trans s7) nD, upd_same, ?_⟩
        rw [take_snoc hTi, List.map_append]
        exact im_snoc (s7 _ _ eD) (ius.sm s7) iR
    · rintro σ H4 ⟨us, y3, y4, y5, y6, rfl, s4, eD, ius⟩
      rw [List.take_of_length_le (by unfold tTab; rw [List.length_map, List.length_map]; exact Nat.le_refl _)] at ius
      refine ⟨.ref D, rfl, D, _, rfl, .inl ⟨.of eD, fun l nl => ?_⟩⟩
      refine q _ _ (tTab W M) ((s2.trans s4).trans (sm_new nl)) ?_ (tTab_ok W M) L
      rw [encT_eq]
      exact im_newtup nl ius
end
end Ra
end

section
set_option Elab.async false
set_option linter.all false
set_option maxRecDepth 100000
set_option maxHeartbeats 4000000
/-! walks: what the law draws -/
namespace Ra
open PySem PySem.Spec PyProof.Rows L2 RZ

/-- the drawn: at most n have been drawn -/
def DrAt (d c r : Addr) (n : Nat) (H : Hp) : Prop := ∃ (t : Nat) (ns rs : List Int), t ≤ n ∧ H d = some (.lst [.ref c, .int (t : Int), .ref r]) ∧ H c = some (.lst (ns.map V.int)) ∧ H r = some (.lst (rs.map V.int)) ∧
  ns.length = rs.length ∧ 1 ≤ ns.length ∧ ns.length ≤ 63 ∧ d ≠ c ∧ d ≠ r ∧ c ≠ r
/-- all else stays, new things beside -/
structure Dk (d r : Addr) (H H' : Hp) : Prop where
  k : ∀ b o, H b = some o → b ≠ d → b ≠ r → H' b = some o
  t : ∀ b, H' b = none → H b = none
theorem Dk.refl (d r : Addr) (H : Hp) : Dk d r H H := ⟨fun _ _ e _ _ => e, fun _ h => h⟩
theorem Dk.sm {d r : Addr} {H H' : Hp} (e : Same H H') : Dk d r H H' := ⟨fun b o q _ _ => e b o q, fun b h => same_none e h⟩
theorem Dk.trans {d r : Addr} {H H1 H2 : Hp} (a : Dk d r H H1) (b : Dk d r H1 H2) : Dk d r H H2 := ⟨fun c o q h1 h2 => b.k c o (a.k c o q h1 h2) h1 h2, fun c h => a.t c (b.t c h)⟩
theorem Dk.new {d r : Addr} {H H1 : Hp} (a : Dk d r H H1) {p : Addr} {o : HO} (n : H1 p = none) : Dk d r H (upd H1 p o) := a.trans (Dk.sm (sm_new n))
/-- a new thing changes -/
theorem Dk.out {d r : Addr} {H H1 : Hp} (a : Dk d r H H1) {p : Addr} {o : HO} (n : H p = none) : Dk d r H (upd H1 p o) := by
  refine ⟨fun b z q h1 h2 => ?_, fun b h => ?_⟩
  · have : b ≠ p := fun e => by
      rw [e, n] at q
      cases q
    rw [upd_ne this]
    exact a.k b z q h1 h2
  · by_cases e : b = p
    · rw [e]; exact n
    · rw [upd_ne e] at h
      exact a.t b h
section
variable {d c r : Addr} {n m : Nat} {H H' : Hp}
theorem DrAt.le (D : DrAt d c r n H) (h : n ≤ m) : DrAt d c r m H := by
  obtain ⟨t, ns, rs, h1, h2⟩ := D
  exact ⟨t, ns, rs, by omega, h2⟩
theorem DrAt.sm (D : DrAt d c r n H) (e : Same H H') : DrAt d c r n H' := by
  obtain ⟨t, ns, rs, h1, h2, h3, h4, h5⟩ := D
  exact ⟨t, ns, rs, h1, e _ _ h2, e _ _ h3, e _ _ h4, h5⟩
theorem DrAt.nd (D : DrAt d c r n H) {b : Addr} (h : H b = none) : b ≠ d ∧ b ≠ c ∧ b ≠ r := by
  obtain ⟨t, ns, rs, h1, h2, h3, h4, h5⟩ := D
  refine ⟨fun e => ?_, fun e => ?_, fun e => ?_⟩
  · rw [e, h2] at h; cases h
  · rw [e, h3] at h; cases h
  · rw [e, h4] at h; cases h
theorem DrAt.out (D : DrAt d c r n H') {b : Addr} {o : HO} (h : b ≠ d ∧ b ≠ c ∧ b ≠ r) : DrAt d c r n (upd H' b o) := by
  obtain ⟨t, ns, rs, h1, h2, h3, h4, h5⟩ := D
  exact ⟨t, ns, rs, h1, by rw [upd_ne (Ne.symm h.1)]; exact h2, by rw [upd_ne (Ne.symm h.2.1)]; exact h3, by rw [upd_ne (Ne.symm h.2.2)]; exact h4, h5⟩
theorem Dk.tz (k : Dk d r H H') (D : DrAt d c r n H) : Tz H H' := by
  obtain ⟨t, ns, rs, h1, h2, h3, h4, h5⟩ := D
  intro a u hu e
  exact k.k a u e (ne_tup e h2 (tupB_of hu) rfl) (ne_tup e h4 (tupB_of hu) rfl)
/-- a list that is neither of the two stays -/
theorem Dk.lst (k : Dk d r H H') {a : Addr} {xs : List V} (e : H a = some (.lst xs)) (h : a ≠ d ∧ a ≠ c ∧ a ≠ r) : H' a = some (.lst xs) := k.k a _ e h.1 h.2.2
end
theorem KdAt.tz {H H' : Hp} (e : Tz H H') {v : V} {ks : List Str} (h : KdAt H v ks) : KdAt H' v ks := h.tk fun a o xs q => e _ _ ⟨xs, .inr ⟨o, rfl⟩⟩ q
theorem KdAt.sm {H H' : Hp} (e : Same H H') {v : V} {ks : List Str} (h : KdAt H v ks) : KdAt H' v ks := h.tz (Tz.sm e)

theorem ixN_nat {n j : Nat} (h : j < n) : ixN n (j : Int) = some j := by
  unfold ixN
  rw [if_pos (by omega), if_pos (by omega), Int.toNat_natCast]
theorem draw1 (y : Int) {t : Nat} (h : t ≤ 100000) : (y % 2147483647 + 69621 * (t : Int) + 30269).natAbs < 2 ^ 64 := by omega
theorem draw2 (z : Int) {t : Nat} (h : t ≤ 100000) : (z % 2147483629 + 6007 * (t : Int) * (t : Int) + 17).natAbs < 2 ^ 64 := by
  have h2 : t * t ≤ 100000 * 100000 := Nat.mul_le_mul h h
  have e : 6007 * (t : Int) * (t : Int) = 6007 * ((t * t : Nat) : Int) := by rw [Int.mul_assoc, Int.natCast_mul]
  rw [e]
  omega
section
variable {P : Program} {w : World} {K : PySem.W.Frag} {mg : Str → Option Value} {base : Heap}

def spLNext : Sp := fun vs H Q _ => ∃ (d c r : Addr) (n : Nat) (b : Int), vs = [.ref d, .int b] ∧ DrAt d c r n H ∧ n ≤ 100000 ∧ 0 < b ∧ b < 1073741824 ∧
  ∀ H' x, Dk d r H H' → DrAt d c r (n + 1) H' → 0 ≤ x → x < b → Q (.int x) H'
set_option maxHeartbeats 8000000 in
theorem ok_LNext (T : TX K mg) : Cal P w K mg base 1 "_law_next" ["_law_drawn", "_law_below"] spLNext := by
  refine cal_of T.f_LNext T.g_LNext scLNext (fun vs H Q E h => ?_) (fun cdv A outer s H vs Q E hr h => ?_)
  · obtain ⟨d, c, r, n, b, rfl, _⟩ := h
    rfl
  · obtain ⟨d, c, r, n, b, rfl, ⟨t, ns, rs, htn, hd, hc, hrr, hl, l1, l63, dc, dr, cr⟩, hn, b0, b1, q⟩ := h
    refine ⟨_, (pss_cons (ps_asg (pv 0) (pg_lst rfl (pgs_cons (pg_name (i := 2) scLNext.nd rfl (.inl rfl)) (pgs_cons (pg_name (i := 3) scLNext.nd rfl (.inl rfl)) (pgs_cons (pg_name (i := 4) scLNext.nd rfl (.inl rfl)) pgs_nil))))) (pss_cons (ps_set (i := 5) scLNext.nd rfl (.inl rfl) (pe_op op_mod (pv 3) (pe_callB call_len_seq (by rfl) T.z_len (by decide +kernel) (pa_cons (pv 2) pa_nil)))) (pss_cons (ps_asg (pe_op op_add (pv 3) pe_int) (pg_sub (pv 0) pe_int set_list)) (pss_cons (ps_if (pt_cmpR op_gt (pe_ix ix_list (pv 4) (pv 5) (fun _ _ => rfl)) pe_int (nomark _)) (pss_cons (ps_set (i := 6) scLNext.nd rfl (.inl rfl) (pe_op op_mod (pe_ix ix_list (pv 4) (pv 5) (fun _ _ => rfl)) (pv 1))) (pss_cons (ps_asg (pe_op op_fdiv (pe_ix ix_list (pv 4) (pv 5) (fun _ _ => rfl)) (pv 1)) (pg_sub (pv 4) (pv 5) set_list)) (pss_one (ps_ret (pv 6))))) pss_nil) (pss_cons (ps_set (i := 7) scLNext.nd rfl (.inl rfl) (pe_op op_mod (pe_op op_pow (pe_op op_add (pe_op op_add (pe_op op_mod (pe_ix ix_list (pv 2) (pv 5) (fun _ _ => rfl)) pe_int) (pe_op op_mul pe_int (pv 3))) pe_int) pe_int) pe_int)) (pss_cons (ps_set (i := 8) scLNext.nd rfl (.inl rfl) (pe_op op_mod (pe_op op_pow (pe_op op_add (pe_op op_add (pv 7) (pe_op op_mul (pe_op op_mul pe_int (pv 3)) (pv 3))) pe_int) pe_int) pe_int)) (pss_one (ps_ret (pe_op op_mod (pe_op op_mod (pe_op op_add (pe_op op_mul (pv 8) pe_int) (pv 7)) pe_int) (pv 1)))))))))), ?_⟩
    refine ⟨.ref d, rfl, d, _, rfl, .of hd, rfl, _, _, rfl, _, _, rfl, _, _, rfl, rfl, ?_⟩
    have lm : (ns.map V.int).length = ns.length := List.length_map _
    refine ⟨.int (t : Int), rfl, .ref c, rfl, c, _, rfl, .inl (.of hc), (t : Int), _, rfl, rfl, by rw [lm]; omega, ?_⟩
    rw [lm]
    obtain ⟨at_, hat⟩ : ∃ at_ : Nat, (t : Int) % (ns.length : Int) = (at_ : Int) := ⟨t % ns.length, by simp⟩
    have hatl : at_ < ns.length := by
      have := Int.emod_lt_of_pos (t : Int) (show (0 : Int) < (ns.length : Int) by omega)
      omega
    have lr : rs.length = ns.length := hl.symm
    refine ⟨.int (t : Int), rfl, (t : Int), 1, rfl, rfl, .ref d, rfl, d, _, 1, 1, rfl, rfl, hd, rfl, ?_⟩
    have k1 : Dk d r H (upd H d (.lst (([.ref c, .int (t : Int), .ref r] : List V).set 1 (.int ((t : Int) + 1))))) := ⟨fun b o e h1 _ => by rw [upd_ne h1]; exact e, fun b h => by
      by_cases e : b = d
      · rw [e, upd_same] at h; cases h
      · rw [upd_ne e] at h; exact h⟩
    have hd1 : (upd H d (.lst (([.ref c, .int (t : Int), .ref r] : List V).set 1 (.int ((t : Int) + 1))))) d = some (.lst [.ref c, .int ((t + 1 : Nat) : Int), .ref r]) := upd_same
    have hc1 : (upd H d (.lst (([.ref c, .int (t : Int), .ref r] : List V).set 1 (.int ((t : Int) + 1))))) c = some (.lst (ns.map V.int)) := by rw [upd_ne (Ne.symm dc)]; exact hc
    have hr1 : (upd H d (.lst (([.ref c, .int (t : Int), .ref r] : List V).set 1 (.int ((t : Int) + 1))))) r = some (.lst (rs.map V.int)) := by rw [upd_ne (Ne.symm dr)]; exact hrr
    generalize upd H d (.lst (([.ref c, .int (t : Int), .ref r] : List V).set 1 (.int ((t : Int) + 1)))) = H1 at k1 hd1 hc1 hr1
    have hat' : (fun i j => V.int (i % j)) (t : Int) (ns.length : Int) = .int (at_ : Int) := by
      show V.int ((t : Int) % (ns.length : Int)) = _
      rw [hat]
    rw [hat']
    obtain ⟨x, hx⟩ : ∃ x, rs[at_]? = some x := ⟨_, List.getElem?_eq_getElem (by omega)⟩
    obtain ⟨y, hy⟩ : ∃ y, ns[at_]? = some y := ⟨_, List.getElem?_eq_getElem (by omega)⟩
    have hxv : (rs.map V.int)[at_]? = some (.int x) := by rw [List.getElem?_map, hx]; rfl
    have hyv : (ns.map V.int)[at_]? = some (.int y) := by rw [List.getElem?_map, hy]; rfl
    refine ⟨.ref r, rfl, .int (at_ : Int), rfl, r, _, (at_ : Int), .int x, rfl, rfl, .of hr1, atI_nat hxv, x, 0, rfl, rfl, _, rfl, ite2 (fun hpos => ?_) (fun hneg => ?_)⟩
    · refine ⟨.ref r, rfl, .int (at_ : Int), rfl, r, _, (at_ : Int), .int x, rfl, rfl, .of hr1, atI_nat hxv, .int b, rfl, x, b, rfl, rfl, b0, ?_⟩
      refine ⟨.ref r, rfl, .int (at_ : Int), rfl, r, _, (at_ : Int), .int x, rfl, rfl, .of hr1, atI_nat hxv, .int b, rfl, x, b, rfl, rfl, ⟨b0, b1⟩, ?_⟩
      refine ⟨.ref r, rfl, .int (at_ : Int), rfl, r, _, (at_ : Int), at_, rfl, rfl, hr1, ixN_nat (by rw [List.length_map]; omega), ?_⟩
      refine ⟨.int (x % b), rfl, q _ _ (k1.trans ⟨fun b o e _ h2 => by rw [upd_ne h2]; exact e, fun b h => ?_⟩) ⟨t + 1, ns, rs.set at_ (x / b), by omega, by rw [upd_ne dr]; exact hd1, by rw [upd_ne cr]; exact hc1, ?_, by rw [List.length_set]; exact hl, l1, l63, dc, dr, cr⟩
        (Int.emod_nonneg _ (by omega)) (Int.emod_lt_of_pos _ b0)⟩
      · by_cases e : b = r
        · rw [e, upd_same] at h; cases h
        · rw [upd_ne e] at h; exact h
      · rw [upd_same, List.map_set]
    · refine ⟨.ref c, rfl, .int (at_ : Int), rfl, c, _, (at_ : Int), .int y, rfl, rfl, .of hc1, atI_nat hyv, y, 2147483647, rfl, rfl, (show (0 : Int) < 2147483647 by decide), .int (t : Int), rfl, 69621, (t : Int), rfl, rfl, .inl ⟨by decide, by decide⟩, _, _, rfl, rfl, _, _, rfl, rfl,
        _, 3, rfl, rfl, ⟨by decide, by decide, draw1 y (by omega)⟩, _, _, rfl, rfl, (show (0 : Int) < 2147483629 by decide), ?_⟩
      refine ⟨_, rfl, .int (t : Int), rfl, 6007, (t : Int), rfl, rfl, .inl ⟨by decide, by decide⟩, .int (t : Int), rfl, 6007 * (t : Int), (t : Int), rfl, rfl, .inr ⟨by omega, by omega⟩, _, _, rfl, rfl, _, _, rfl, rfl,
        _, 3, rfl, rfl, ⟨by decide, by decide, draw2 _ (by omega)⟩, _, _, rfl, rfl, (show (0 : Int) < 2147483587 by decide), ?_⟩
      refine ⟨_, rfl, _, _, rfl, rfl, .inr ⟨by decide, by decide⟩, _, rfl, _, _, rfl, rfl, _, _, rfl, rfl, (show (0 : Int) < 4611686018427387847 by decide), .int b, rfl, _, b, rfl, rfl, b0, ?_⟩
      exact q _ _ k1 ⟨t + 1, ns, rs, by omega, hd1, hc1, hr1, hl, l1, l63, dc, dr, cr⟩ (Int.emod_nonneg _ (by omega)) (Int.emod_lt_of_pos _ b0)

/-- one of a row: a list or a tuple -/
def spLOne : Sp := fun vs H Q _ => ∃ (d c r a : Addr) (n : Nat) (xs : List V), vs = [.ref d, .ref a] ∧ DrAt d c r n H ∧ n ≤ 100000 ∧ a ≠ d ∧ a ≠ c ∧ a ≠ r ∧ (H a = some (.lst xs) ∨ Rd H a (.tup xs)) ∧ 1 ≤ xs.length ∧ xs.length ≤ 1000 ∧
  ∀ H' (j : Nat) x, Dk d r H H' → DrAt d c r (n + 1) H' → xs[j]? = some x → Q x H'
theorem ok_LOne (T : TX K mg) : Cal P w K mg base 2 "_law_one" ["_law_drawn", "_law_some"] spLOne := by
  refine cal_of T.f_LOne T.g_LOne scLOne (fun vs H Q E h => ?_) (fun cdv A outer s H vs Q E hr h => ?_)
  · obtain ⟨d, c, r, a, n, xs, rfl, _⟩ := h
    rfl
  · obtain ⟨d, c, r, a, n, xs, rfl, D, hn, a1, a2, a3, hax, l1, l2, q⟩ := h
    refine ⟨_, (pss_one (ps_ret (pe_ix ix_seq (pv 1) (pe_cal (ok_LNext T) (hr.mono (by decide)) (by rfl) (pa_cons (pv 0) (pa_cons (pe_callB call_len_seq (by rfl) T.z_len (by decide +kernel) (pa_cons (pv 1) pa_nil)) pa_nil))) (fun _ _ => rfl)))), ?_⟩
    refine ⟨.ref a, rfl, .ref d, rfl, .ref a, rfl, a, xs, rfl, ?_, d, c, r, n, _, rfl, D, hn, by omega, by omega, fun H' x k D' x0 x1 => ?_⟩
    · rcases hax with h | h
      · exact .inl (.of h)
      · exact .inr (.inl h)
    · obtain ⟨j, rfl⟩ := Int.eq_ofNat_of_zero_le x0
      have hj : j < xs.length := by omega
      have e : xs[j]? = some xs[j] := List.getElem?_eq_getElem hj
      rcases hax with h | h
      · exact .inl ⟨a, xs, (j : Int), xs[j], rfl, rfl, .of (k.k _ _ h a1 a3), atI_nat e, q _ _ _ k D' e⟩
      · exact .inr (.inl ⟨a, xs, (j : Int), xs[j], rfl, rfl, .inl ((k.tz D).tk _ _ h), atI_nat e, q _ _ _ k D' e⟩)
end
end Ra
end

section
set_option Elab.async false
set_option linter.all false
set_option maxRecDepth 100000
set_option maxHeartbeats 4000000
/-! walks: the law's drawn state, names, hours -/
namespace Ra
open PySem PySem.Spec PyProof.Rows L2 RZ

def NAMES8 : List Str := ["a", "b", "ba", "cup", "kiln", "m", "yeast", "zzzzzzzz"]
theorem ints_at {l : List Int} {j : Nat} {x : V} (h : (l.map V.int)[j]? = some x) : ∃ i, x = .int i ∧ i ∈ l := by
  rw [List.getElem?_map] at h
  cases e : l[j]? with
  | none => rw [e] at h; cases h
  | some i => rw [e] at h; cases h; exact ⟨i, rfl, List.mem_of_getElem? e⟩
theorem strs_at {l : List Str} {j : Nat} {x : V} (h : (l.map V.str)[j]? = some x) : ∃ i, x = .str i ∧ i ∈ l := by
  rw [List.getElem?_map] at h
  cases e : l[j]? with
  | none => rw [e] at h; cases h
  | some i => rw [e] at h; cases h; exact ⟨i, rfl, List.mem_of_getElem? e⟩
theorem map_erase {α β : Type} (f : α → β) : ∀ (l : List α) (j : Nat), (l.eraseIdx j).map f = (l.map f).eraseIdx j
  | [], _ => rfl
  | _ :: _, 0 => rfl
  | a :: l, j + 1 => by
    show f a :: (l.eraseIdx j).map f = f a :: (l.map f).eraseIdx j
    rw [map_erase f l j]
theorem perm_erase {α : Type} : ∀ (l : List α) (j : Nat) (h : j < l.length), (l[j] :: l.eraseIdx j).Perm l
  | [], _, h => absurd h (Nat.not_lt_zero _)
  | _ :: _, 0, _ => List.Perm.refl _
  | a :: l, j + 1, h => (List.Perm.swap a _ _).trans (List.Perm.cons a (perm_erase l j (Nat.lt_of_succ_lt_succ h)))
section
variable {d c r p : Addr} {n : Nat} {H : Hp} {Q : VK}
theorem one_i {l : List Int} (D : DrAt d c r n H) (np : H p = none) (hn : n ≤ 100000) (l1 : 1 ≤ l.length) (l2 : l.length ≤ 1000) (q : ∀ H' i, Dk d r H H' → DrAt d c r (n + 1) H' → i ∈ l → Q (.int i) H') :
    spLOne [.ref d, .ref p] (upd H p (.lst (l.map V.int))) Q (fun _ _ _ => False) := by
  obtain ⟨h1, h2, h3⟩ := D.nd np
  refine ⟨d, c, r, p, n, l.map V.int, rfl, D.sm (sm_new np), hn, h1, h2, h3, .inl upd_same, by rw [List.length_map]; exact l1, by rw [List.length_map]; exact l2, fun H' j x k D' hx => ?_⟩
  obtain ⟨i, rfl, hi⟩ := ints_at hx
  exact q H' i ((Dk.sm (sm_new np)).trans k) D' hi
theorem one_s {l : List Str} (D : DrAt d c r n H) (np : H p = none) (hn : n ≤ 100000) (l1 : 1 ≤ l.length) (l2 : l.length ≤ 1000) (q : ∀ H' i, Dk d r H H' → DrAt d c r (n + 1) H' → i ∈ l → Q (.str i) H') :
    spLOne [.ref d, .ref p] (upd H p (.lst (l.map V.str))) Q (fun _ _ _ => False) := by
  obtain ⟨h1, h2, h3⟩ := D.nd np
  refine ⟨d, c, r, p, n, l.map V.str, rfl, D.sm (sm_new np), hn, h1, h2, h3, .inl upd_same, by rw [List.length_map]; exact l1, by rw [List.length_map]; exact l2, fun H' j x k D' hx => ?_⟩
  obtain ⟨i, rfl, hi⟩ := strs_at hx
  exact q H' i ((Dk.sm (sm_new np)).trans k) D' hi
theorem DrAt.ntup {a : Addr} {u : HO} (D : DrAt d c r n H) (e : H a = some u) (hu : tupB u = true) : a ≠ d ∧ a ≠ c ∧ a ≠ r := by
  obtain ⟨t, ns, rs, h1, h2, h3, h4, h5⟩ := D
  exact ⟨ne_tup e h2 hu rfl, ne_tup e h3 hu rfl, ne_tup e h4 hu rfl⟩
theorem DrAt.ntupR {a : Addr} {xs : List V} (D : DrAt d c r n H) (e : Rd H a (.tup xs)) : a ≠ d ∧ a ≠ c ∧ a ≠ r := by
  rcases e with e | ⟨o, e⟩
  · exact D.ntup e rfl
  · exact D.ntup e rfl
/-- one of a row of told things -/
theorem one_im {a : Addr} {xs : List V} {ds : List PyData} (D : DrAt d c r n H) (rd : Rd H a (.tup xs)) (im : Ims H xs ds) (hn : n ≤ 100000) (l1 : 1 ≤ ds.length) (l2 : ds.length ≤ 1000)
    (q : ∀ H' x y, Dk d r H H' → DrAt d c r (n + 1) H' → y ∈ ds → Im H' x y → Q x H') : spLOne [.ref d, .ref a] H Q (fun _ _ _ => False) := by
  obtain ⟨h1, h2, h3⟩ := D.ntupR rd
  refine ⟨d, c, r, a, n, xs, rfl, D, hn, h1, h2, h3, .inr rd, by rw [im.1]; exact l1, by rw [im.1]; exact l2, fun H' j x k D' hx => ?_⟩
  obtain ⟨y, hy, iy⟩ := im.got hx
  exact q H' x y k D' (List.mem_of_getElem? hy) (iy.tz (k.tz D))
theorem one_k {v : V} {ks : List Str} (D : DrAt d c r n H) (hk : KdAt H v ks) (hn : n ≤ 100000) (l1 : 1 ≤ ks.length) (l2 : ks.length ≤ 1000)
    (q : ∀ H' i, Dk d r H H' → DrAt d c r (n + 1) H' → i ∈ ks → Q (.str i) H') : spLOne [.ref d, v] H Q (fun _ _ _ => False) := by
  obtain ⟨a, o, rfl, e, _⟩ := hk
  obtain ⟨h1, h2, h3⟩ := D.ntup e rfl
  refine ⟨d, c, r, a, n, ks.map V.str, rfl, D, hn, h1, h2, h3, .inr (.inr ⟨o, e⟩), by rw [List.length_map]; exact l1, by rw [List.length_map]; exact l2, fun H' j x k D' hx => ?_⟩
  obtain ⟨i, rfl, hi⟩ := strs_at hx
  exact q H' i k D' hi
end
section
variable {P : Program} {w : World} {K : PySem.W.Frag} {mg : Str → Option Value} {base : Heap}

def spLDraws (K : PySem.W.Frag) : Sp := fun vs H Q _ => ∃ (a : Addr) (ns : List Int), vs = [.ref a] ∧ SqL K H a (ns.map V.int) ∧ ns.length ≤ 63 ∧ ∀ H' d c r, Same H H' → DrAt d c r 0 H' → Q (.ref d) H'
theorem sql_sm {H H' : Hp} {a : Addr} {xs : List V} (e : Same H H') (h : SqL K H a xs) : SqL K H' a xs := by
  rcases h with h | h
  · exact .inl (rd_sm e h)
  · exact .inr h
theorem ok_LDraws (T : TX K mg) : Cal P w K mg base 1 "_law_draws" ["_law_script"] (spLDraws K) := by
  refine cal_of T.f_LDraws T.g_LDraws scLDraws (fun vs H Q E h => ?_) (fun cdv A outer s H vs Q E hr h => ?_)
  · obtain ⟨a, ns, rfl, _⟩ := h
    rfl
  · obtain ⟨a, ns, rfl, ha, hl, q⟩ := h
    refine ⟨_, (pss_cons (ps_set (i := 1) scLDraws.nd rfl (.inl rfl) (pe_op op_cat (pe_callTy call_list_of (by rfl) T.z_list (by decide +kernel) (pa_cons (pe_slice sl_list (pv 0) po_none (po_some pe_int)) pa_nil)) (pe_op op_rep (pe_lst (pa_cons pe_int pa_nil)) (pe_callTy call_int1 (by rfl) T.z_int (by decide +kernel) (pa_cons (pe_cmpR op_eq (pe_callB call_len_seq (by rfl) T.z_len (by decide +kernel) (pa_cons (pv 0) pa_nil)) pe_int (nomark _)) pa_nil))))) (pss_one (ps_ret (pe_lst (pa_cons (pv 1) (pa_cons pe_int (pa_cons (pe_lc (own := [("_law_cell", 2)]) (g := gName 2) rfl scLDraws.nd (pi_list (pv 1)) (blkOk_by (N := ["_law_script", "_law_cells", "_law_cell"]) (sc := defScope sLDraws) (by decide +kernel)) (fun _ _ _ _ _ => (pg_name (i := 2) scLDraws.nd rfl (.inl rfl))) (fun _ _ _ _ _ => pts_nil) (fun _ _ _ _ _ => (pe_op op_mul (pv 2) (pe_callTy call_int1 (by rfl) T.z_int (by decide +kernel) (pa_cons (pe_cmpR op_ge (pv 2) (pe_op op_pow pe_int pe_int) (nomark _)) pa_nil))))) pa_nil))))))), ?_⟩
    refine ⟨.ref a, rfl, 63, rfl, a, _, rfl, ha, fun b nb => ?_⟩
    have s1 : Same H (upd H b (.lst (cutV (ns.map V.int) none (some 63)))) := sm_new nb
    have hb : (upd H b (.lst (cutV (ns.map V.int) none (some 63)))) b = some (.lst (cutV (ns.map V.int) none (some 63))) := upd_same
    have ecut : cutV (ns.map V.int) none (some 63) = ns.map V.int := by
      have : ∀ (l : List V), l.length ≤ 63 → cutV l none (some 63) = l := fun l h => by
        unfold cutV
        show (l.drop 0).take (HT.sIx l.length l.length (some ((63 : Nat) : Int)) - 0) = l
        rw [HT.sIx_nat, List.drop_zero, List.take_of_length_le (by omega)]
      exact this _ (by rw [List.length_map]; exact hl)
    rw [ecut] at s1 hb ⊢
    generalize upd H b (.lst (ns.map V.int)) = H1 at s1 hb ⊢
    refine ⟨b, _, rfl, .inl (.of hb), fun l nl => ?_⟩
    have s2 : Same H1 (upd H1 l (.lst (ns.map V.int))) := sm_new nl
    have hl2 : (upd H1 l (.lst (ns.map V.int))) l = some (.lst (ns.map V.int)) := upd_same
    generalize upd H1 l (.lst (ns.map V.int)) = H2 at s2 hl2 ⊢
    refine ⟨Nat.le_of_lt (small_lt (by decide)), fun z nz => ?_⟩
    have s3 : Same H2 (upd H2 z (.lst [.int 0])) := sm_new nz
    have hz : (upd H2 z (.lst [.int 0])) z = some (.lst [.int 0]) := upd_same
    generalize upd H2 z (.lst [.int 0]) = H3 at s3 hz ⊢
    have s13 : Same H H3 := (s1.trans s2).trans s3
    have lm : (ns.map V.int).length = ns.length := List.length_map _
    refine ⟨.ref a, rfl, a, _, rfl, .inl (sql_sm s13 ha), rfl, .inr ⟨_, rfl, ?_⟩⟩
    rw [lm]
    refine ⟨z, _, _, rfl, rfl, hz, ?_, ?_, ?_, fun y ny => ?_⟩
    · split <;> decide
    · split <;> decide
    · split <;> decide
    have s4 : ∀ o, Same H3 (upd H3 y o) := fun o => sm_new ny
    obtain ⟨ms, hms, hm1, hm2⟩ : ∃ ms : List Int, ns.map V.int ++ (List.replicate (if decide (V.int (ns.length : Int) = V.int 0) = true then (1 : Int) else 0).toNat [V.int 0]).flatten = ms.map V.int ∧ 1 ≤ ms.length ∧ ms.length ≤ 63 := by
      cases ns with
      | nil => exact ⟨[0], rfl, by decide, by decide⟩
      | cons n0 nr =>
        refine ⟨n0 :: nr, ?_, Nat.succ_le_succ (Nat.zero_le _), hl⟩
        rw [decide_eq_false (fun e => by
          have := V.int.inj e
          simp only [List.length_cons] at this
          omega)]
        exact List.append_nil _
    refine ⟨l, y, _, _, rfl, rfl, s4 _ _ _ (s3 _ _ hl2), upd_same, ?_, fun e ne => ?_⟩
    · have := congrArg List.length hms
      simp only [List.length_append, List.length_map] at this
      exact small_line (by rw [List.length_map]; omega)
    rw [hms]
    have s5 := (s13.trans (s4 (.lst (List.replicate (if decide (V.int (ns.length : Int) = V.int 0) = true then (1 : Int) else 0).toNat [V.int 0]).flatten))).trans (sm_new (o := .lst (ms.map V.int)) ne)
    have he : (upd (upd H3 y (.lst (List.replicate (if decide (V.int (ns.length : Int) = V.int 0) = true then (1 : Int) else 0).toNat [V.int 0]).flatten)) e (.lst (ms.map V.int))) e = some (.lst (ms.map V.int)) := upd_same
    generalize upd (upd H3 y (.lst (List.replicate (if decide (V.int (ns.length : Int) = V.int 0) = true then (1 : Int) else 0).toNat [V.int 0]).flatten)) e (.lst (ms.map V.int)) = H5 at s5 he ⊢
    refine ⟨.ref e, rfl, .ref e, rfl, e, rfl, ⟨_, .of he⟩, fun D nD => ?_⟩
    have nDe : e ≠ D := ne_of_none he nD
    refine lc_it (walk_list (xs := ms.map V.int)) (fun i H6 => Same H5 H6 ∧ ∃ rs : List Int, H6 D = some (.lst (rs.map V.int)) ∧ rs.length = i) ⟨sm_new nD, [], upd_same, rfl⟩ (fun i H6 _ ⟨s6, _⟩ => .of (s6 _ _ he)) ?_ ?_
    · rintro i x H6 H7 hi ⟨s6, rs, eD, hrs⟩ ⟨rfl, hx⟩
      obtain ⟨v, rfl, _⟩ := ints_at hx
      rw [List.length_map] at hi
      refine ⟨rfl, ty_yes ⟨.int v, rfl, .int v, rfl, 10, 18, rfl, rfl, ⟨by decide, by decide, by decide⟩, v, _, rfl, rfl, .inr ⟨_, rfl, v, _, rfl, rfl, .inr ⟨?_, ?_⟩, ?_⟩⟩⟩
      · split <;> decide
      · split <;> decide
      · exact ⟨_, eD, small_lt (by rw [List.length_map]; omega), sm_out s6 nD, rs ++ [_], by rw [upd_same, List.map_append]; rfl, by rw [List.length_append, hrs]; rfl⟩
    · rintro H6 ⟨s6, rs, eD, hrs⟩
      rw [List.length_map] at hrs
      refine ⟨by show 3 ≤ sizeLine; decide, fun p np => ?_⟩
      refine q _ p e D ((s5.trans s6).trans (sm_new np)) ⟨0, ms, rs, Nat.le_refl _, upd_same, sm_new np _ _ (s6 _ _ he), sm_new np _ _ eD, hrs.symm, hm1, hm2, Ne.symm (ne_of_none (s6 _ _ he) np), Ne.symm (ne_of_none eD np), nDe⟩

def spLNames : Sp := fun vs H Q _ => ∃ (d c r : Addr) (n : Nat), vs = [.ref d] ∧ DrAt d c r n H ∧ n ≤ 50000 ∧
  ∀ H' v ks, Dk d r H H' → DrAt d c r (n + 5) H' → KdAt H' v ks → 1 ≤ ks.length → ks.length ≤ 4 → ks.Nodup → (∀ k ∈ ks, k ∈ NAMES8) → Q v H'
theorem ok_LNames (T : TX K mg) : Cal P w K mg base 2 "_law_names" ["_law_drawn"] spLNames := by
  refine cal_of T.f_LNames T.g_LNames scLNames (fun vs H Q E h => ?_) (fun cdv A outer s H vs Q E hr h => ?_)
  · obtain ⟨d, c, r, n, rfl, _⟩ := h
    rfl
  · obtain ⟨d, c, r, n, rfl, D, hn, q⟩ := h
    refine ⟨_, (pss_cons (ps_set (i := 1) scLNames.nd rfl (.inl rfl) (pe_lst (pa_cons pe_str (pa_cons pe_str (pa_cons pe_str (pa_cons pe_str (pa_cons pe_str (pa_cons pe_str (pa_cons pe_str (pa_cons pe_str pa_nil)))))))))) (pss_cons (ps_set (i := 2) scLNames.nd rfl (.inl rfl) (pe_lst pa_nil)) (pss_cons (ps_for PassesOwn.never rfl (pi_range1 (by rfl) T.z_range (pa_cons (pe_op op_add pe_int (pe_cal (ok_LNext T) (hr.mono (by decide)) (by rfl) (pa_cons (pv 0) (pa_cons pe_int pa_nil)))) pa_nil)) (pg_name (i := 3) scLNames.nd rfl (.inl rfl)) (pss_one (ps_expr (pe_bm PySem.F.plainAttrs_list PySem.F.slot_list_append PySem.F.type_list_append mt_append (pv 2) (pa_cons (pe_bm PySem.F.plainAttrs_list PySem.F.slot_list_pop PySem.F.type_list_pop mt_popAt (pv 1) (pa_cons (pe_cal (ok_LNext T) (hr.mono (by decide)) (by rfl) (pa_cons (pv 0) (pa_cons (pe_callB call_len_seq (by rfl) T.z_len (by decide +kernel) (pa_cons (pv 1) pa_nil)) pa_nil))) pa_nil)) pa_nil))))) (pss_one (ps_ret (pe_callTy cr_tupleZ (by rfl) T.z_tuple (by decide +kernel) (pa_cons (pe_callB cr_sortedS (by rfl) T.z_sorted (by decide +kernel) (pa_cons (pv 2) pa_nil)) pa_nil))))))), ?_⟩
    refine ⟨by show 8 ≤ sizeLine; decide, fun L nL => ?_⟩
    have s1 : Same H (upd H L (.lst (NAMES8.map V.str))) := sm_new nL
    have eL : (upd H L (.lst (NAMES8.map V.str))) L = some (.lst (NAMES8.map V.str)) := upd_same
    show (fun H1 => _) (upd H L (.lst (NAMES8.map V.str)))
    have dL := D.nd nL
    generalize upd H L (.lst (NAMES8.map V.str)) = H1 at s1 eL ⊢
    refine ⟨Nat.zero_le _, fun F nF => ?_⟩
    have dF := (D.sm s1).nd nF
    have hLF : L ≠ F := ne_of_none eL nF
    have s2 : Same H1 (upd H1 F (.lst [])) := sm_new nF
    have eF : (upd H1 F (.lst [])) F = some (.lst (([] : List Str).map V.str)) := upd_same
    generalize upd H1 F (.lst []) = H2 at s2 eF ⊢
    refine ⟨.ref d, rfl, d, c, r, n, 4, rfl, (D.sm s1).sm s2, by omega, by decide, by decide, fun H3 x k3 D3 x0 x1 => ⟨1, x, rfl, rfl, 1 + x, rfl, by omega, by omega, ?_⟩⟩
    have kk0 : Dk d r H H3 := ((Dk.sm (s1.trans s2)).trans k3)
    refine for_range (lo := 0) (n := (1 + x).toNat) (fun i σ H4 => ∃ (y3 : Option V) (left found : List Str), σ = [some (.ref d), some (.ref L), some (.ref F), y3] ∧ Dk d r H H4 ∧ DrAt d c r (n + 1 + i) H4 ∧ H4 L = some (.lst (left.map V.str)) ∧ H4 F = some (.lst (found.map V.str)) ∧
      found.length = i ∧ left.length + i = 8 ∧ (left ++ found).Perm NAMES8) ⟨none, NAMES8, [], rfl, kk0, D3, k3.lst (s2 _ _ eL) dL, k3.lst eF dF, rfl, rfl, by rw [List.append_nil]⟩ ?_ ?_
    · rintro i σ H4 hi ⟨y3, left, found, rfl, k4, D4, eL4, eF4, hf, hlf, hp⟩
      refine ⟨.ref F, rfl, .inl ⟨rfl, _, .of eF4⟩, .ref L, rfl, .inl ⟨rfl, _, .of eL4⟩, .ref d, rfl, .ref L, rfl, L, _, rfl, .inl (.of eL4), ?_⟩
      rw [List.length_map]
      refine ⟨d, c, r, _, (left.length : Int), rfl, D4, by omega, by omega, by omega, fun H5 z k5 D5 z0 z1 => ?_⟩
      obtain ⟨j, rfl⟩ := Int.eq_ofNat_of_zero_le z0
      have hj : j < left.length := by omega
      have eL5 := k5.lst eL4 dL
      have eF5 := k5.lst eF4 dF
      refine ⟨L, _, (j : Int), j, .str left[j], rfl, rfl, eL5, by omega, by omega, (ixN_seq (ixN_nat (by rw [List.length_map]; exact hj))).1, by rw [List.getElem?_map, List.getElem?_eq_getElem hj]; rfl, ?_⟩
      have u1 : (upd H5 L (.lst ((left.map V.str).eraseIdx j))) F = some (.lst (found.map V.str)) := by rw [upd_ne (Ne.symm hLF)]; exact eF5
      refine ⟨F, _, _, rfl, rfl, u1, small_lt (by rw [List.length_map]; omega), ?_⟩
      refine ⟨_, left.eraseIdx j, found ++ [left[j]], rfl, (((k4.trans k5).out (p := L) (o := .lst ((left.map V.str).eraseIdx j)) nL).out (p := F) (by
        cases q : H F with
        | none => rfl
        | some o => rw [s1 _ _ q] at nF; cases nF)), ?_, ?_, ?_, ?_, ?_, ?_⟩
      · exact ((D5.out dL).out dF).le (by omega)
      · rw [upd_ne hLF, upd_same, map_erase]
      · rw [upd_same, List.map_append]
        rfl
      · rw [List.length_append, hf]
        rfl
      · rw [List.length_eraseIdx_of_lt hj]
        omega
      · refine List.Perm.trans ?_ hp
        have e1 : (left[j] :: left.eraseIdx j).Perm left := perm_erase left j hj
        have e2 : (left.eraseIdx j ++ (found ++ [left[j]])).Perm (left[j] :: (left.eraseIdx j ++ found)) := by
          rw [← List.append_assoc]
          exact List.perm_append_singleton _ _
        exact e2.trans (e1.append_right found)
    · rintro σ H4 ⟨y3, left, found, rfl, k4, D4, eL4, eF4, hf, hlf, hp⟩
      refine ⟨.ref F, rfl, F, found, rfl, .of eF4, by omega, fun ys p hperm hs np => ?_⟩
      refine ⟨p, _, rfl, .of upd_same, fun l o nl hdn => ?_⟩
      have hnd : (left ++ found).Nodup := (hp.nodup_iff).mpr (by decide +kernel)
      refine q _ _ ys ((k4.new np).new nl) (((D4.sm (sm_new np)).sm (sm_new nl)).le (by omega)) ⟨l, o, rfl, upd_same, hdn⟩ (by rw [hperm.length_eq]; omega) (by rw [hperm.length_eq]; omega) ((hperm.nodup_iff).mpr (List.nodup_append.mp hnd).2.1) fun k hk => ?_
      exact hp.mem_iff.mp (List.mem_append_right _ (hperm.mem_iff.mp hk))
end
end Ra
end

section
set_option Elab.async false
set_option linter.all false
set_option maxRecDepth 100000
set_option maxHeartbeats 4000000
/-! walks: the law's hours, parts, sources, ways -/
namespace Ra
open PySem PySem.Spec PyProof.Rows L2 RZ

theorem Dk.tk {d c r : Addr} {n : Nat} {H H' : Hp} (k : Dk d r H H') (D : DrAt d c r n H) : Tk H H' := (k.tz D).tk
theorem im_int_of {H : Hp} (i : Int) : Im H (.int i) (.int i) := .int i
theorem im_str_of {H : Hp} (i : Str) : Im H (.str i) (.str i) := .str i
theorem ims1 {H : Hp} {x : V} {a : PyData} (h : Im H x a) : Ims H [x] [a] := .cons h .nil
section
variable {P : Program} {w : World} {K : PySem.W.Frag} {mg : Str → Option Value} {base : Heap}

def spLHours : Sp := fun vs H Q _ => ∃ (d c r : Addr) (n : Nat) (sz : Int), vs = [.ref d, .int sz] ∧ DrAt d c r n H ∧ n ≤ 50000 ∧ 1 ≤ sz ∧ sz ≤ 6 ∧
  ∀ H' v (hs : List Int), Dk d r H H' → DrAt d c r (n + 7) H' → Im H' v (.tuple (hs.map .int)) → (∀ h ∈ hs, 0 ≤ h ∧ h < sz) → hs.length ≤ 6 → Q v H'
theorem ok_LHours (T : TX K mg) : Cal P w K mg base 2 "_law_hours" ["_law_drawn", "_law_size"] spLHours := by
  refine cal_of T.f_LHours T.g_LHours scLHours (fun vs H Q E h => ?_) (fun cdv A outer s H vs Q E hr h => ?_)
  · obtain ⟨d, c, r, n, sz, rfl, _⟩ := h
    rfl
  · obtain ⟨d, c, r, n, sz, rfl, D, hn, z1, z6, q⟩ := h
    refine ⟨_, (pss_cons (ps_if (pt_cmpR op_eq (pe_cal (ok_LNext T) (hr.mono (by decide)) (by rfl) (pa_cons (pv 0) (pa_cons pe_int pa_nil))) pe_int (nomark _)) (pss_one (ps_ret (pe_tupRg rfl (by rfl) T.z_tuple (prg_1 (by rfl) T.z_range (pv 1))))) pss_nil) (pss_one (ps_ret (pe_callTy call_tuple_of (by rfl) T.z_tuple (by decide +kernel) (pa_cons (pe_lc (own := [("_law_place", 2)]) (g := gName 2) rfl scLHours.nd (pi_range1 (by rfl) T.z_range (pa_cons (pv 1) pa_nil)) (blkOk_by (N := ["_law_drawn", "_law_size", "_law_place"]) (sc := defScope sLHours) (by decide +kernel)) (fun _ _ _ _ _ => (pg_name (i := 2) scLHours.nd rfl (.inl rfl))) (fun _ _ _ _ _ => (pts_one (pt_cmpR op_gt (pe_cal (ok_LNext T) (hr.mono (by decide)) (by rfl) (pa_cons (pv 0) (pa_cons pe_int pa_nil))) pe_int (nomark _)))) (fun _ _ _ _ _ => (pv 2))) pa_nil))))), ?_⟩
    refine ⟨.ref d, rfl, d, c, r, n, 3, rfl, D, by omega, by decide, by decide, fun H1 x k1 D1 x0 x1 => ⟨rfl, _, rfl, ite2 (fun hz => ?_) (fun hz => ?_)⟩⟩
    · refine ⟨.int sz, rfl, sz, rfl, .of_le (by decide) (by omega) (by decide) (by omega), fun p np => ?_⟩
      have e : rgV 0 sz = ((List.range sz.toNat).map fun (i : Nat) => (i : Int)).map V.int := by
        unfold rgV
        rw [List.map_map, Int.sub_zero]
        refine List.map_congr_left fun i _ => ?_
        rw [Int.zero_add]
        rfl
      rw [e]
      refine q _ _ ((List.range sz.toNat).map fun (i : Nat) => (i : Int)) (k1.new np) ((D1.sm (sm_new np)).le (by omega)) (im_newtup np (Ims.of_ints _)) (fun h hh => ?_) (by rw [List.length_map, List.length_range]; omega)
      obtain ⟨i, hi, rfl⟩ := List.mem_map.mp hh
      have := List.mem_range.mp hi
      omega
    · refine ⟨.int sz, rfl, sz, rfl, by omega, by omega, fun A nA => ?_⟩
      have dA := D1.nd nA
      refine lc_it walk_range (fun i H2 => Dk d r H1 H2 ∧ DrAt d c r (n + 1 + i) H2 ∧ ∃ hs : List Int, H2 A = some (.lst (hs.map V.int)) ∧ hs.length ≤ i ∧ ∀ h ∈ hs, 0 ≤ h ∧ h < sz) ⟨Dk.sm (sm_new nA), D1.sm (sm_new nA), [], upd_same, Nat.le_refl _, fun _ h => (nomatch h)⟩ (fun _ _ _ _ => trivial) ?_ ?_
      · rintro i x2 H2 H3 hi ⟨k2, D2, hs, eA, hl, hh⟩ ⟨rfl, rfl⟩
        have hi' : i < sz.toNat := hi
        refine ⟨rfl, .ref d, rfl, d, c, r, _, 3, rfl, D2, by omega, by decide, by decide, fun H4 z k4 D4 z0 z1 => ⟨z, 0, rfl, rfl, _, rfl, ite2 (fun hp => ?_) (fun hp => ?_)⟩⟩
        · refine ⟨V.int ((0 : Int) + ((i : Nat) : Int)), rfl, _, k4.lst eA dA, small_lt (by rw [List.length_map]; omega), (k2.trans k4).out nA, (D4.out dA).le (by omega), hs ++ [(0 : Int) + ((i : Nat) : Int)], by rw [upd_same, List.map_append]; rfl, by rw [List.length_append]; simp only [List.length_singleton]; omega, fun h h2 => ?_⟩
          rcases List.mem_append.mp h2 with h2 | h2
          · exact hh h h2
          · rw [List.mem_singleton.mp h2]
            omega
        · exact ⟨k2.trans k4, D4.le (by omega), hs, k4.lst eA dA, by omega, hh⟩
      · rintro H2 ⟨k2, D2, hs, eA, hl, hh⟩
        refine ⟨A, _, rfl, .inl ⟨.of eA, fun p np => ?_⟩⟩
        exact q _ _ hs ((k1.trans k2).new np) ((D2.sm (sm_new np)).le (by omega)) (im_newtup np (Ims.of_ints _)) hh (by omega)

def spLPart : Sp := fun vs H Q _ => ∃ (d c r : Addr) (n : Nat) (vk : V) (ks : List Str) (sc : Int), vs = [.ref d, vk, .int sc] ∧ DrAt d c r n H ∧ n ≤ 50000 ∧ KdAt H vk ks ∧ 1 ≤ ks.length ∧ ks.length ≤ 4 ∧ 1 ≤ sc ∧ sc ≤ 21 ∧
  ∀ H' v p, Dk d r H H' → DrAt d c r (n + 6) H' → Im H' v (encP p) → PrtOk ks p → Q v H'
theorem ok_LPart (T : TX K mg) : Cal P w K mg base 3 "_law_part" ["_law_drawn", "_law_kinds", "_law_scale"] spLPart := by
  refine cal_of T.f_LPart T.g_LPart scLPart (fun vs H Q E h => ?_) (fun cdv A outer s H vs Q E hr h => ?_)
  · obtain ⟨d, c, r, n, vk, ks, sc, rfl, _⟩ := h
    rfl
  · obtain ⟨d, c, r, n, vk, ks, sc, rfl, D, hn, hk, k1, k4, s1, s2, q⟩ := h
    refine ⟨_, (pss_cons (ps_set (i := 3) scLPart.nd rfl (.inl rfl) (pe_cal (ok_LOne T) (hr.mono (by decide)) (by rfl) (pa_cons (pv 0) (pa_cons (pe_lst (pa_cons pe_int (pa_cons (pe_cal (ok_LNext T) (hr.mono (by decide)) (by rfl) (pa_cons (pv 0) (pa_cons (pv 2) pa_nil))) (pa_cons (pe_cal (ok_LNext T) (hr.mono (by decide)) (by rfl) (pa_cons (pv 0) (pa_cons (pv 2) pa_nil))) pa_nil)))) pa_nil)))) (pss_cons (ps_set (i := 4) scLPart.nd rfl (.inl rfl) (pe_callB (call_min2 rfl) (by rfl) T.z_min (by decide +kernel) (pa_cons pe_int (pa_cons (pe_op op_add (pv 3) (pe_cal (ok_LOne T) (hr.mono (by decide)) (by rfl) (pa_cons (pv 0) (pa_cons (pe_lst (pa_cons pe_int (pa_cons pe_int (pa_cons (pe_cal (ok_LNext T) (hr.mono (by decide)) (by rfl) (pa_cons (pv 0) (pa_cons (pv 2) pa_nil))) (pa_cons (pv 2) pa_nil))))) pa_nil)))) pa_nil)))) (pss_one (ps_ret (pe_tup (pa_cons (pe_cal (ok_LOne T) (hr.mono (by decide)) (by rfl) (pa_cons (pv 0) (pa_cons (pv 1) pa_nil))) (pa_cons (pv 3) (pa_cons (pv 4) pa_nil)))))))), ?_⟩
    refine ⟨.ref d, rfl, .ref d, rfl, .int sc, rfl, d, c, r, n, sc, rfl, D, by omega, by omega, by omega, fun H1 x e1 D1 x0 x1 => ?_⟩
    refine ⟨.ref d, rfl, .int sc, rfl, d, c, r, _, sc, rfl, D1, by omega, by omega, by omega, fun H2 y e2 D2 y0 y1 => ?_⟩
    refine ⟨by show 3 ≤ sizeLine; decide, fun p np => one_i (l := [0, x, y]) D2 np (by omega) (by simp) (by simp) fun H3 lv e3 D3 hlv => ?_⟩
    simp only [List.mem_cons, List.not_mem_nil, or_false] at hlv
    refine ⟨.int lv, rfl, .ref d, rfl, .ref d, rfl, .int sc, rfl, d, c, r, _, sc, rfl, D3, by omega, by omega, by omega, fun H4 z e4 D4 z0 z1 => ?_⟩
    refine ⟨.int sc, rfl, by show 4 ≤ sizeLine; decide, fun p2 np2 => one_i (l := [0, 1, z, sc]) D4 np2 (by omega) (by simp) (by simp) fun H5 g e5 D5 hg => ?_⟩
    simp only [List.mem_cons, List.not_mem_nil, or_false] at hg
    refine ⟨lv, g, rfl, rfl, 20, lv + g, rfl, ?_⟩
    have kk := (((e1.trans e2).trans e3).trans e4).trans e5
    refine ⟨.ref d, rfl, vk, rfl, one_k D5 (hk.tz (kk.tz D)) (by omega) k1 (by omega) fun H6 k e6 D6 hkm => ?_⟩
    refine ⟨.int lv, rfl, _, rfl, by show 3 ≤ sizeLine; decide, fun p3 np3 => ?_⟩
    refine q _ _ ⟨k, lv, if lv + g < 20 then lv + g else 20⟩ ((kk.trans e6).new np3) ((D6.sm (sm_new np3)).le (by omega)) (im_newtup np3 (.cons (.str k) (.cons (.int lv) (.cons (.int _) .nil)))) ⟨hkm, ?_, ?_, ?_⟩
    · show 0 ≤ lv
      omega
    · show lv ≤ if lv + g < 20 then lv + g else 20
      split <;> omega
    · show (if lv + g < 20 then lv + g else 20) ≤ 20
      split <;> omega

def spLSource : Sp := fun vs H Q _ => ∃ (d c r : Addr) (n : Nat) (vk : V) (ks : List Str) (sz sc : Int), vs = [.ref d, vk, .int sz, .int sc] ∧ DrAt d c r n H ∧ n ≤ 50000 ∧ KdAt H vk ks ∧ 1 ≤ ks.length ∧ ks.length ≤ 4 ∧ 1 ≤ sz ∧ sz ≤ 6 ∧ 1 ≤ sc ∧ sc ≤ 21 ∧
  ∀ H' v p, Dk d r H H' → DrAt d c r (n + 9) H' → Im H' v (encS p) → SrcOk sz ks p → Q v H'
theorem ok_LSource (T : TX K mg) : Cal P w K mg base 3 "_law_source" ["_law_drawn", "_law_kinds", "_law_size", "_law_scale"] spLSource := by
  refine cal_of T.f_LSource T.g_LSource scLSource (fun vs H Q E h => ?_) (fun cdv A outer s H vs Q E hr h => ?_)
  · obtain ⟨d, c, r, n, vk, ks, sz, sc, rfl, _⟩ := h
    rfl
  · obtain ⟨d, c, r, n, vk, ks, sz, sc, rfl, D, hn, hk, k1, k4, z1, z2, s1, s2, q⟩ := h
    refine ⟨_, (pss_cons (ps_set (i := 4) scLSource.nd rfl (.inl rfl) (pe_op op_sub (pe_op op_pow pe_int pe_int) (pe_cal (ok_LNext T) (hr.mono (by decide)) (by rfl) (pa_cons (pv 0) (pa_cons pe_int pa_nil))))) (pss_cons (ps_set (i := 5) scLSource.nd rfl (.inl rfl) (pe_cal (ok_LOne T) (hr.mono (by decide)) (by rfl) (pa_cons (pv 0) (pa_cons (pe_lst (pa_cons pe_int (pa_cons pe_int (pa_cons (pe_cal (ok_LNext T) (hr.mono (by decide)) (by rfl) (pa_cons (pv 0) (pa_cons pe_int pa_nil))) (pa_cons (pe_cal (ok_LNext T) (hr.mono (by decide)) (by rfl) (pa_cons (pv 0) (pa_cons pe_int pa_nil))) (pa_cons (pv 4) pa_nil)))))) pa_nil)))) (pss_cons (ps_set (i := 6) scLSource.nd rfl (.inl rfl) (pe_cal (ok_LOne T) (hr.mono (by decide)) (by rfl) (pa_cons (pv 0) (pa_cons (pe_lst (pa_cons pe_int (pa_cons (pe_cal (ok_LNext T) (hr.mono (by decide)) (by rfl) (pa_cons (pv 0) (pa_cons (pv 3) pa_nil))) pa_nil))) pa_nil)))) (pss_one (ps_ret (pe_tup (pa_cons (pe_cal (ok_LOne T) (hr.mono (by decide)) (by rfl) (pa_cons (pv 0) (pa_cons (pv 1) pa_nil))) (pa_cons (pv 6) (pa_cons (pe_cal (ok_LNext T) (hr.mono (by decide)) (by rfl) (pa_cons (pv 0) (pa_cons (pv 2) pa_nil))) (pa_cons (pv 5) (pa_cons (pe_op op_add pe_int (pe_cal (ok_LNext T) (hr.mono (by decide)) (by rfl) (pa_cons (pv 0) (pa_cons pe_int pa_nil)))) pa_nil))))))))))), ?_⟩
    refine ⟨10, 6, rfl, rfl, ⟨by decide, by decide, by decide⟩, .ref d, rfl, d, c, r, n, 9, rfl, D, by omega, by decide, by decide, fun H1 x e1 D1 x0 x1 => ⟨1000000, x, rfl, rfl, ?_⟩⟩
    refine ⟨.ref d, rfl, .ref d, rfl, d, c, r, _, 9, rfl, D1, by omega, by decide, by decide, fun H2 y e2 D2 y0 y1 => ?_⟩
    refine ⟨.ref d, rfl, d, c, r, _, 60, rfl, D2, by omega, by decide, by decide, fun H3 z e3 D3 z0 z1 => ?_⟩
    refine ⟨.int (1000000 - x), rfl, by show 5 ≤ sizeLine; decide, fun p np => one_i (l := [0, 0, y, z, 1000000 - x]) D3 np (by omega) (by simp) (by simp) fun H4 si e4 D4 hsi => ?_⟩
    simp only [List.mem_cons, List.not_mem_nil, or_false] at hsi
    refine ⟨.ref d, rfl, .ref d, rfl, .int sc, rfl, d, c, r, _, sc, rfl, D4, by omega, by omega, by omega, fun H5 u e5 D5 u0 u1 => ?_⟩
    refine ⟨by show 2 ≤ sizeLine; decide, fun p2 np2 => one_i (l := [0, u]) D5 np2 (by omega) (by simp) (by simp) fun H6 ag e6 D6 hag => ?_⟩
    simp only [List.mem_cons, List.not_mem_nil, or_false] at hag
    have kk := ((((e1.trans e2).trans e3).trans e4).trans e5).trans e6
    refine ⟨.ref d, rfl, vk, rfl, one_k D6 (hk.tz (kk.tz D)) (by omega) k1 (by omega) fun H7 k e7 D7 hkm => ?_⟩
    refine ⟨.int ag, rfl, .ref d, rfl, .int sz, rfl, d, c, r, _, sz, rfl, D7, by omega, by omega, by omega, fun H8 pl e8 D8 p0 p1 => ?_⟩
    refine ⟨.int si, rfl, .ref d, rfl, d, c, r, _, 9, rfl, D8, by omega, by decide, by decide, fun H9 mn e9 D9 m0 m1 => ⟨1, mn, rfl, rfl, by show 5 ≤ sizeLine; decide, fun p3 np3 => ?_⟩⟩
    refine q _ _ ⟨k, ag, pl, si, 1 + mn⟩ ((((kk.trans e7).trans e8).trans e9).new np3) ((D9.sm (sm_new np3)).le (by omega)) (im_newtup np3 (.cons (.str k) (.cons (.int ag) (.cons (.int pl) (.cons (.int si) (.cons (.int _) .nil)))))) ⟨hkm, ?_, ?_, p0, p1, ?_, ?_⟩
    · show 0 ≤ ag
      omega
    · show ag ≤ 20
      omega
    · show 0 ≤ si
      omega
    · show si ≤ 1000000
      omega

theorem keeps_of {z : Str} (h : z ∈ (["oldest", "youngest"] : List Str)) : ∃ old, z = keepS old := by
  simp only [List.mem_cons, List.not_mem_nil, or_false] at h
  rcases h with h | h
  · exact ⟨true, h⟩
  · exact ⟨false, h⟩
def spLWay : Sp := fun vs H Q _ => ∃ (d c r : Addr) (n : Nat) (vk : V) (ks : List Str) (sz sc : Int), vs = [.ref d, vk, .int sz, .int sc] ∧ DrAt d c r n H ∧ n ≤ 40000 ∧ KdAt H vk ks ∧ 1 ≤ ks.length ∧ ks.length ≤ 4 ∧ 1 ≤ sz ∧ sz ≤ 6 ∧ 1 ≤ sc ∧ sc ≤ 21 ∧
  ∀ H' v p, Dk d r H H' → DrAt d c r (n + 30) H' → Im H' v (encY p) → WyOk sz ks p → Q v H'
set_option maxHeartbeats 8000000 in
theorem ok_LWay (T : TX K mg) : Cal P w K mg base 4 "_law_way" ["_law_drawn", "_law_kinds", "_law_size", "_law_scale"] spLWay := by
  refine cal_of T.f_LWay T.g_LWay scLWay (fun vs H Q E h => ?_) (fun cdv A outer s H vs Q E hr h => ?_)
  · obtain ⟨d, c, r, n, vk, ks, sz, sc, rfl, _⟩ := h
    rfl
  · obtain ⟨d, c, r, n, vk, ks, sz, sc, rfl, D, hn, hk, k1, k4, z1, z2, s1, s2, q⟩ := h
    refine ⟨_, (pss_cons (ps_set (i := 4) scLWay.nd rfl (.inl rfl) (pe_callTy call_tuple_of (by rfl) T.z_tuple (by decide +kernel) (pa_cons (pe_lc (own := [("_law_k", 8)]) (g := gName 8) rfl scLWay.nd (pi_range1 (by rfl) T.z_range (pa_cons (pe_cal (ok_LOne T) (hr.mono (by decide)) (by rfl) (pa_cons (pv 0) (pa_cons (pe_lst (pa_cons pe_int (pa_cons pe_int (pa_cons pe_int (pa_cons pe_int pa_nil))))) pa_nil))) pa_nil)) (blkOk_by (N := ["_law_drawn", "_law_kinds", "_law_size", "_law_scale", "_law_parts", "_law_hours_here", "_law_keeps", "_law_wait", "_law_k"]) (sc := defScope sLWay) (by decide +kernel)) (fun _ _ _ _ _ => (pg_name (i := 8) scLWay.nd rfl (.inl rfl))) (fun _ _ _ _ _ => pts_nil) (fun _ _ _ _ _ => (pe_cal (ok_LPart T) (hr.mono (by decide)) (by rfl) (pa_cons (pv 0) (pa_cons (pv 1) (pa_cons (pv 3) pa_nil)))))) pa_nil))) (pss_cons (ps_set (i := 5) scLWay.nd rfl (.inl rfl) (pe_cal (ok_LHours T) (hr.mono (by decide)) (by rfl) (pa_cons (pv 0) (pa_cons (pv 2) pa_nil)))) (pss_cons (ps_set (i := 6) scLWay.nd rfl (.inl rfl) (pe_cal (ok_LOne T) (hr.mono (by decide)) (by rfl) (pa_cons (pv 0) (pa_cons (pe_lst (pa_cons pe_str (pa_cons pe_str pa_nil))) pa_nil)))) (pss_cons (ps_set (i := 7) scLWay.nd rfl (.inl rfl) (pe_cal (ok_LOne T) (hr.mono (by decide)) (by rfl) (pa_cons (pv 0) (pa_cons (pe_lst (pa_cons pe_int (pa_cons pe_int (pa_cons pe_int (pa_cons (pe_op op_add pe_int (pe_cal (ok_LNext T) (hr.mono (by decide)) (by rfl) (pa_cons (pv 0) (pa_cons pe_int pa_nil)))) pa_nil))))) pa_nil)))) (pss_one (ps_ret (pe_tup (pa_cons (pe_cal (ok_LOne T) (hr.mono (by decide)) (by rfl) (pa_cons (pv 0) (pa_cons (pv 1) pa_nil))) (pa_cons (pv 4) (pa_cons (pv 6) (pa_cons (pv 5) (pa_cons (pv 7) pa_nil)))))))))))), ?_⟩
    refine ⟨.ref d, rfl, by show 4 ≤ sizeLine; decide, fun p np => one_i (l := [1, 2, 2, 3]) D np (by omega) (by simp) (by simp) fun H1 m e1 D1 hm => ?_⟩
    simp only [List.mem_cons, List.not_mem_nil, or_false] at hm
    refine ⟨m, rfl, by omega, by omega, fun A nA => ?_⟩
    have dA := D1.nd nA
    refine lc_it walk_range (fun i H2 => Dk d r H1 H2 ∧ DrAt d c r (n + 1 + 6 * i) H2 ∧ ∃ (ps : List (Prt Str)) (us : List V), H2 A = some (.lst us) ∧ Ims H2 us (ps.map encP) ∧ ps.length = i ∧ ∀ p ∈ ps, PrtOk ks p)
      ⟨Dk.sm (sm_new nA), (D1.sm (sm_new nA)).le (by omega), [], [], upd_same, .nil, rfl, fun _ h => (nomatch h)⟩ (fun _ _ _ _ => trivial) ?_ ?_
    · rintro i x2 H2 H3 hi ⟨k2, D2, ps, us, eA, ius, hl, hp⟩ ⟨rfl, rfl⟩
      have hi' : i < m.toNat := hi
      have kk := e1.trans k2
      refine ⟨rfl, ty_yes ⟨.ref d, rfl, vk, rfl, .int sc, rfl, d, c, r, _, vk, ks, sc, rfl, D2, by omega, hk.tz (kk.tz D), k1, k4, s1, s2, fun H4 v pt e4 D4 iv hpt => ?_⟩⟩
      have eA4 := e4.lst eA dA
      refine ⟨us, eA4, small_lt (by rw [ius.1, List.length_map]; omega), (k2.trans e4).out nA, (D4.out dA).le (by omega), ps ++ [pt], us ++ [v], upd_same, ?_, by rw [List.length_append, hl]; rfl, fun p' hp' => ?_⟩
      · rw [List.map_append]
        exact im_snoc eA4 (ius.tk (e4.tk D2)) iv
      · rcases List.mem_append.mp hp' with h | h
        · exact hp p' h
        · rw [List.mem_singleton.mp h]
          exact hpt
    · rintro H2 ⟨k2, D2, ps, us, eA, ius, hl, hp⟩
      refine ⟨A, _, rfl, .inl ⟨.of eA, fun t nt => ?_⟩⟩
      have ip : Im (upd H2 t (.tup us)) (.ref t) (.tuple (ps.map encP)) := im_newtup nt ius
      have e3 : Dk d r H (upd H2 t (.tup us)) := (e1.trans k2).new nt
      have D3 := D2.sm (sm_new (o := .tup us) nt)
      generalize upd H2 t (.tup us) = H3 at ip e3 D3 ⊢
      refine ⟨.ref d, rfl, .int sz, rfl, d, c, r, _, sz, rfl, D3, by omega, z1, z2, fun H4 vh hs e4 D4 ih hh hl6 => ?_⟩
      refine ⟨.ref d, rfl, by show 2 ≤ sizeLine; decide, fun p2 np2 => one_s (l := ["oldest", "youngest"]) D4 np2 (by omega) (by decide) (by decide) fun H5 kp e5 D5 hkp => ?_⟩
      obtain ⟨old, rfl⟩ := keeps_of hkp
      refine ⟨.ref d, rfl, .ref d, rfl, d, c, r, _, 6, rfl, D5, by omega, by decide, by decide, fun H6 x e6 D6 x0 x1 => ⟨1, x, rfl, rfl, ?_⟩⟩
      refine ⟨by show 4 ≤ sizeLine; decide, fun p4 np4 => one_i (l := [1, 1, 2, 1 + x]) D6 np4 (by omega) (by simp) (by simp) fun H7 wt e7 D7 hwt => ?_⟩
      simp only [List.mem_cons, List.not_mem_nil, or_false] at hwt
      have e47 := (((e4.trans e5).trans e6).trans e7)
      have kk := e3.trans e47
      refine ⟨.ref d, rfl, vk, rfl, one_k D7 (hk.tz (kk.tz D)) (by omega) k1 (by omega) fun H8 k e8 D8 hkm => ?_⟩
      refine ⟨.ref t, rfl, .str (keepS old), rfl, vh, rfl, .int wt, rfl, by show 5 ≤ sizeLine; decide, fun p3 np3 => ?_⟩
      refine q _ _ ⟨k, ps, old, hs, wt⟩ ((kk.trans e8).new np3) ((D8.sm (sm_new np3)).le (by omega)) (im_newtup np3 (.cons (.str k) (.cons (ip.tk ((e47.trans e8).tk D3)) (.cons (.str _) (.cons (ih.tk ((((e5.trans e6).trans e7).trans e8).tk D4)) (.cons (.int wt) .nil)))))) ⟨hkm, ?_, ?_, hp, hh, hl6, ?_, ?_⟩
      · show 1 ≤ ps.length
        omega
      · show ps.length ≤ 3
        omega
      · show 1 ≤ wt
        omega
      · show wt ≤ 6
        omega
end
end Ra
end

section
set_option Elab.async false
set_option linter.all false
set_option maxRecDepth 100000
set_option maxHeartbeats 4000000
/-! walks: the law's world; rows cut and put together -/
namespace Ra
open PySem PySem.Spec PyProof.Rows L2 RZ

theorem cut_rd {K : PySem.W.Frag} {H : Hp} {a : Addr} {xs : List V} {lo hi : Option Int} {Q : VK} (rd : Rd H a (.tup xs)) (q : ∀ H' b, Same H H' → Rd H' b (.tup (cutV xs lo hi)) → Q (.ref b) H') : rSlA K (.ref a) lo hi H Q := by
  refine ⟨a, xs, rfl, .inl rd, fun h => q H a (fun _ _ e => e) ?_, fun _ p np => q _ p (sm_new np) (.inl upd_same)⟩
  have e : cutV xs lo hi = xs := by
    unfold cutV
    rw [h.1, h.2, List.drop_zero, Nat.sub_zero, List.take_of_length_le (Nat.le_refl _)]
  rw [e]
  exact rd
theorem cat_rd {K : PySem.W.Frag} {H : Hp} {a b : Addr} {xs ys : List V} {Q : VK} (ra : Rd H a (.tup xs)) (rb : Rd H b (.tup ys)) (hz : xs.length + ys.length ≤ 1000) (q : ∀ H' c, Same H H' → Rd H' c (.tup (xs ++ ys)) → Q (.ref c) H') :
    rCatA K (.ref a) (.ref b) H Q := by
  refine ⟨a, b, xs, ys, rfl, rfl, .inl ra, .inl rb, small_line hz, fun h => q H b (fun _ _ e => e) (by rw [h]; exact rb), fun _ h => q H a (fun _ _ e => e) (by rw [h, List.append_nil]; exact ra), fun _ _ p np => q _ p (sm_new np) (.inl upd_same)⟩
theorem ims_set {H : Hp} {xs : List V} {ds : List PyData} {i : Nat} {x : V} {d : PyData} (h : Ims H xs ds) (hx : Im H x d) : Ims H (xs.set i x) (ds.set i d) := by
  refine ⟨by rw [List.length_set, List.length_set]; exact h.1, fun j y e hy he => ?_⟩
  rw [List.getElem?_set] at hy he
  by_cases q : i = j
  · rw [if_pos q] at hy he
    by_cases l : j < xs.length
    · rw [if_pos (by omega)] at hy
      rw [if_pos (by rw [← h.1]; omega)] at he
      cases hy; cases he
      exact hx
    · rw [if_neg (by omega)] at hy
      cases hy
  · rw [if_neg q] at hy he
    exact h.2 j y e hy he
section
variable {P : Program} {w : World} {K : PySem.W.Frag} {mg : Str → Option Value} {base : Heap}

def spLWith : Sp := fun vs H Q _ => ∃ (vr vt : V) (i : Nat) (ds : List PyData) (d : PyData), vs = [vr, .int (i : Int), vt] ∧ Im H vr (.tuple ds) ∧ i < ds.length ∧ ds.length ≤ 100 ∧ Im H vt d ∧ ∀ H' v, Same H H' → Im H' v (.tuple (ds.set i d)) → Q v H'
theorem ok_LWith (T : TX K mg) : Cal P w K mg base 1 "_law_with" ["_law_row", "_law_at", "_law_thing"] spLWith := by
  refine cal_of T.f_LWith T.g_LWith scLWith (fun vs H Q E h => ?_) (fun cdv A outer s H vs Q E hr h => ?_)
  · obtain ⟨vr, vt, i, ds, d, rfl, _⟩ := h
    rfl
  · obtain ⟨vr, vt, i, ds, d, rfl, ir, hi, hl, it, q⟩ := h
    obtain ⟨a, xs, rfl, ra, ixs⟩ := im_tup ir
    have hxl := ixs.1
    refine ⟨_, (pss_one (ps_ret (pe_op op_catA (pe_op op_catA (pe_slice sl_tupA (pv 0) po_none (po_some (pv 1))) (pe_tup (pa_cons (pv 2) pa_nil))) (pe_slice sl_tupA (pv 0) (po_some (pe_op op_add (pv 1) pe_int)) po_none)))), ?_⟩
    refine ⟨.ref a, rfl, .int (i : Int), rfl, (i : Int), rfl, cut_rd ra fun H1 b s1 rb => ?_⟩
    rw [cut_to _ i (by omega)] at rb
    refine ⟨vt, rfl, by show 1 ≤ sizeLine; decide, fun c nc => ?_⟩
    have s2 : Same H1 (upd H1 c (.tup [vt])) := sm_new nc
    have rc : Rd (upd H1 c (.tup [vt])) c (.tup [vt]) := .inl upd_same
    generalize upd H1 c (.tup [vt]) = H2 at s2 rc ⊢
    refine cat_rd (rd_sm s2 rb) rc (by rw [List.length_take]; simp only [List.length_singleton]; omega) fun H3 e s3 re => ?_
    have s13 := (s1.trans s2).trans s3
    refine ⟨.ref a, rfl, .int (i : Int), rfl, (i : Int), 1, rfl, rfl, ((i + 1 : Nat) : Int), rfl, ?_⟩
    unfold tNoPart
    refine cut_rd (rd_sm s13 ra) fun H4 f s4 rf => ?_
    rw [cut_from _ (i + 1) (by omega)] at rf
    refine cat_rd (rd_sm s4 re) rf (by simp only [List.length_append, List.length_take, List.length_drop, List.length_singleton]; omega) fun H5 g s5 rg => ?_
    rw [set_parts _ i vt (by omega)] at rg
    have s15 := (s13.trans s4).trans s5
    exact q _ _ s15 (Ims.im rg (ims_set (ixs.sm s15) (it.sm s15)))

def spLWorld : Sp := fun vs H Q _ => ∃ (d c r : Addr) (n : Nat), vs = [.ref d] ∧ DrAt d c r n H ∧ n ≤ 10000 ∧
  ∀ H' v W, Dk d r H H' → DrAt d c r (n + 200) H' → WdAt H' v W → WdOk W → (∀ k ∈ W.kinds, k ∈ NAMES8) → W.sources.length ≤ 4 → W.ways.length ≤ 4 → Q v H'
set_option maxHeartbeats 8000000 in
theorem ok_LWorld (T : TX K mg) : Cal P w K mg base 5 "_law_world" ["_law_drawn"] spLWorld := by
  refine cal_of T.f_LWorld T.g_LWorld scLWorld (fun vs H Q E h => ?_) (fun cdv A outer s H vs Q E hr h => ?_)
  · obtain ⟨d, c, r, n, rfl, _⟩ := h
    rfl
  · obtain ⟨d, c, r, n, rfl, D, hn, q⟩ := h
    refine ⟨_, (pss_cons (ps_asg (pe_cal (ok_LOne T) (hr.mono (by decide)) (by rfl) (pa_cons (pv 0) (pa_cons (pe_lst (pa_cons (pe_tup (pa_cons pe_int (pa_cons pe_int (pa_cons pe_int pa_nil)))) (pa_cons (pe_tup (pa_cons pe_int (pa_cons pe_int (pa_cons pe_int pa_nil)))) (pa_cons (pe_tup (pa_cons pe_int (pa_cons pe_int (pa_cons pe_int pa_nil)))) (pa_cons (pe_tup (pa_cons pe_int (pa_cons pe_int (pa_cons pe_int pa_nil)))) (pa_cons (pe_tup (pa_cons pe_int (pa_cons pe_int (pa_cons pe_int pa_nil)))) pa_nil)))))) pa_nil))) (pg_tup rfl (pgs_cons (pg_name (i := 1) scLWorld.nd rfl (.inr rfl)) (pgs_cons (pg_name (i := 2) scLWorld.nd rfl (.inl rfl)) (pgs_cons (pg_name (i := 3) scLWorld.nd rfl (.inr rfl)) pgs_nil))))) (pss_cons (ps_set (i := 4) scLWorld.nd rfl (.inr rfl) (pe_cal (ok_LNames T) (hr.mono (by decide)) (by rfl) (pa_cons (pv 0) pa_nil))) (pss_cons (ps_setLc (i := 5) (own := [("_law_k", 7)]) (g := gName 7) rfl scLWorld.nd rfl rfl (sw_true rfl rfl rfl (by decide +kernel)) (pi_range1 (by rfl) T.z_range (pa_cons (pe_op op_add pe_int (pe_cal (ok_LNext T) (hr.mono (by decide)) (by rfl) (pa_cons (pv 0) (pa_cons pe_int pa_nil)))) pa_nil)) (blkOk_by (N := ["_law_drawn", "_law_size", "_law_many", "_law_scale", "_law_kinds", "_law_sources", "_law_ways", "_law_k"]) (sc := defScope sLWorld) (by decide +kernel)) (fun _ _ _ _ _ => (pg_name (i := 7) scLWorld.nd rfl (.inl rfl))) (fun _ _ _ _ _ => pts_nil) (fun _ _ _ _ _ => (pe_cal (ok_LSource T) (hr.mono (by decide)) (by rfl) (pa_cons (pv 0) (pa_cons (pv 4) (pa_cons (pv 1) (pa_cons (pv 3) pa_nil))))))) (pss_cons (ps_setLc (i := 6) (own := [("_law_k", 7)]) (g := gName 7) rfl scLWorld.nd rfl rfl (sw_true rfl rfl rfl (by decide +kernel)) (pi_range1 (by rfl) T.z_range (pa_cons (pe_cal (ok_LNext T) (hr.mono (by decide)) (by rfl) (pa_cons (pv 0) (pa_cons (pe_op op_add (pv 2) pe_int) pa_nil))) pa_nil)) (blkOk_by (N := ["_law_drawn", "_law_size", "_law_many", "_law_scale", "_law_kinds", "_law_sources", "_law_ways", "_law_k"]) (sc := defScope sLWorld) (by decide +kernel)) (fun _ _ _ _ _ => (pg_name (i := 7) scLWorld.nd rfl (.inl rfl))) (fun _ _ _ _ _ => pts_nil) (fun _ _ _ _ _ => (pe_cal (ok_LWay T) (hr.mono (by decide)) (by rfl) (pa_cons (pv 0) (pa_cons (pv 4) (pa_cons (pv 1) (pa_cons (pv 3) pa_nil))))))) (pss_one (ps_ret (pe_tup (pa_cons (pv 1) (pa_cons (pv 4) (pa_cons (pe_callTy call_tuple_of (by rfl) T.z_tuple (by decide +kernel) (pa_cons (pv 5) pa_nil)) (pa_cons (pe_callTy call_tuple_of (by rfl) T.z_tuple (by decide +kernel) (pa_cons (pv 6) pa_nil)) pa_nil))))))))))), ?_⟩
    have line3 : 3 ≤ sizeLine := by decide
    refine ⟨.ref d, rfl, line3, fun p1 n1 => ⟨line3, fun p2 n2 => ⟨line3, fun p3 n3 => ⟨line3, fun p4 n4 => ⟨line3, fun p5 n5 => ⟨by show 5 ≤ sizeLine; decide, fun L nL => ?_⟩⟩⟩⟩⟩⟩
    have t1 := sm_new (o := .tup [.int 1, .int 4, .int 5]) n1
    have t2 := sm_new (o := .tup [.int 2, .int 4, .int 5]) n2
    have t3 := sm_new (o := .tup [.int 3, .int 4, .int 7]) n3
    have t4 := sm_new (o := .tup [.int 2, .int 2, .int 21]) n4
    have t5 := sm_new (o := .tup [.int 6, .int 3, .int 6]) n5
    have e5 : (upd (upd (upd (upd (upd H p1 (.tup [.int 1, .int 4, .int 5])) p2 (.tup [.int 2, .int 4, .int 5])) p3 (.tup [.int 3, .int 4, .int 7])) p4 (.tup [.int 2, .int 2, .int 21])) p5 (.tup [.int 6, .int 3, .int 6])) p5 = some (.tup [.int 6, .int 3, .int 6]) := upd_same
    have e4 := t5 _ _ (show (upd (upd (upd (upd H p1 (.tup [.int 1, .int 4, .int 5])) p2 (.tup [.int 2, .int 4, .int 5])) p3 (.tup [.int 3, .int 4, .int 7])) p4 (.tup [.int 2, .int 2, .int 21])) p4 = some (.tup [.int 2, .int 2, .int 21]) from upd_same)
    have e3 := t5 _ _ (t4 _ _ (show (upd (upd (upd H p1 (.tup [.int 1, .int 4, .int 5])) p2 (.tup [.int 2, .int 4, .int 5])) p3 (.tup [.int 3, .int 4, .int 7])) p3 = some (.tup [.int 3, .int 4, .int 7]) from upd_same))
    have e2 := t5 _ _ (t4 _ _ (t3 _ _ (show (upd (upd H p1 (.tup [.int 1, .int 4, .int 5])) p2 (.tup [.int 2, .int 4, .int 5])) p2 = some (.tup [.int 2, .int 4, .int 5]) from upd_same)))
    have e1 := t5 _ _ (t4 _ _ (t3 _ _ (t2 _ _ (show (upd H p1 (.tup [.int 1, .int 4, .int 5])) p1 = some (.tup [.int 1, .int 4, .int 5]) from upd_same))))
    have tt := (((t1.trans t2).trans t3).trans t4).trans t5
    generalize upd (upd (upd (upd (upd H p1 (.tup [.int 1, .int 4, .int 5])) p2 (.tup [.int 2, .int 4, .int 5])) p3 (.tup [.int 3, .int 4, .int 7])) p4 (.tup [.int 2, .int 2, .int 21])) p5 (.tup [.int 6, .int 3, .int 6]) = H1 at nL e1 e2 e3 e4 e5 tt ⊢
    have D1 := D.sm tt
    obtain ⟨m1, m2, m3⟩ := D1.nd nL
    have t6 := sm_new (o := .lst [.ref p1, .ref p2, .ref p3, .ref p4, .ref p5]) nL
    refine ⟨d, c, r, L, n, [.ref p1, .ref p2, .ref p3, .ref p4, .ref p5], rfl, D1.sm t6, by omega, m1, m2, m3, .inl upd_same, by simp, by simp, fun H2 j x k2 D2 hx => ?_⟩
    have kk2 : Dk d r H H2 := (Dk.sm (tt.trans t6)).trans k2
    have z6 : Tz H1 H2 := (Tz.sm t6).trans (k2.tz (D1.sm t6))
    obtain ⟨a, sz, m, sc, rfl, ea, sz1, sz6, m0, m4, sc1, sc21⟩ : ∃ (a : Addr) (sz m sc : Int), x = .ref a ∧ H2 a = some (.tup [.int sz, .int m, .int sc]) ∧ 1 ≤ sz ∧ sz ≤ 6 ∧ 0 ≤ m ∧ m ≤ 4 ∧ 1 ≤ sc ∧ sc ≤ 21 := by
      have hm := List.mem_of_getElem? hx
      simp only [List.mem_cons, List.not_mem_nil, or_false] at hm
      rcases hm with rfl | rfl | rfl | rfl | rfl
      · exact ⟨_, _, _, _, rfl, z6 _ _ ⟨_, .inl rfl⟩ e1, by decide, by decide, by decide, by decide, by decide, by decide⟩
      · exact ⟨_, _, _, _, rfl, z6 _ _ ⟨_, .inl rfl⟩ e2, by decide, by decide, by decide, by decide, by decide, by decide⟩
      · exact ⟨_, _, _, _, rfl, z6 _ _ ⟨_, .inl rfl⟩ e3, by decide, by decide, by decide, by decide, by decide, by decide⟩
      · exact ⟨_, _, _, _, rfl, z6 _ _ ⟨_, .inl rfl⟩ e4, by decide, by decide, by decide, by decide, by decide, by decide⟩
      · exact ⟨_, _, _, _, rfl, z6 _ _ ⟨_, .inl rfl⟩ e5, by decide, by decide, by decide, by decide, by decide, by decide⟩
    refine ⟨a, _, rfl, .inl (.inl ea), rfl, _, _, rfl, _, _, rfl, _, _, rfl, rfl, ?_⟩
    refine ⟨.ref d, rfl, d, c, r, _, rfl, D2, by omega, fun H3 vk ks k3 D3 hk l1 l4 nd nm => ?_⟩
    have kk3 := kk2.trans k3
    refine ⟨.ref d, rfl, d, c, r, _, 4, rfl, D3, by omega, by decide, by decide, fun H4 x k4 D4 x0 x1 => ⟨1, x, rfl, rfl, 1 + x, rfl, by omega, by omega, fun A nA => ?_⟩⟩
    have kk4 := kk3.trans k4
    have dA := D4.nd nA
    have hk4 := hk.tz (k4.tz D3)
    refine lc_it walk_range (fun i H5 => Dk d r H4 H5 ∧ DrAt d c r (n + 7 + 9 * i) H5 ∧ ∃ (ss : List (Src Str)) (us : List V), H5 A = some (.lst us) ∧ Ims H5 us (ss.map encS) ∧ ss.length = i ∧ ∀ s ∈ ss, SrcOk sz ks s)
      ⟨Dk.sm (sm_new nA), (D4.sm (sm_new nA)).le (by omega), [], [], upd_same, .nil, rfl, fun _ h => (nomatch h)⟩ (fun _ _ _ _ => trivial) ?_ ?_
    · rintro i x2 H5 H6 hi ⟨k5, D5, ss, us, eA, ius, hl, hp⟩ ⟨rfl, rfl⟩
      have hi' : i < (1 + x).toNat := hi
      refine ⟨rfl, ty_yes ⟨.ref d, rfl, vk, rfl, .int sz, rfl, .int sc, rfl, d, c, r, _, vk, ks, sz, sc, rfl, D5, by omega, hk4.tz (k5.tz D4), l1, l4, sz1, sz6, sc1, sc21, fun H7 v pt k7 D7 iv hpt => ?_⟩⟩
      have eA7 := k7.lst eA dA
      refine ⟨us, eA7, small_lt (by rw [ius.1, List.length_map]; omega), (k5.trans k7).out nA, (D7.out dA).le (by omega), ss ++ [pt], us ++ [v], upd_same, ?_, by rw [List.length_append, hl]; rfl, fun p' hp' => ?_⟩
      · rw [List.map_append]
        exact im_snoc eA7 (ius.tk (k7.tk D5)) iv
      · rcases List.mem_append.mp hp' with h | h
        · exact hp p' h
        · rw [List.mem_singleton.mp h]
          exact hpt
    · rintro H5 ⟨k5, D5, ss, us, eA, ius, hsl, hss⟩
      have kk5 := kk4.trans k5
      refine ⟨.ref d, rfl, .int m, rfl, m, 1, rfl, rfl, d, c, r, _, m + 1, rfl, D5, by omega, by omega, by omega, fun H6 y k6 D6 y0 y1 => ⟨y, rfl, by omega, by omega, fun B nB => ?_⟩⟩
      have kk6 := kk5.trans k6
      have dB := D6.nd nB
      have eA6 := k6.lst eA dA
      have ius6 := ius.tk (k6.tk D5)
      have hAB : A ≠ B := ne_of_none eA6 nB
      have hk6 := hk4.tz ((k5.trans k6).tz D4)
      refine lc_it walk_range (fun i H7 => Dk d r H6 H7 ∧ DrAt d c r (n + 50 + 30 * i) H7 ∧ ∃ (ys : List (Wy Str)) (vs : List V), H7 B = some (.lst vs) ∧ Ims H7 vs (ys.map encY) ∧ ys.length = i ∧ ∀ s ∈ ys, WyOk sz ks s)
        ⟨Dk.sm (sm_new nB), (D6.sm (sm_new nB)).le (by omega), [], [], upd_same, .nil, rfl, fun _ h => (nomatch h)⟩ (fun _ _ _ _ => trivial) ?_ ?_
      · rintro i x2 H7 H8 hi ⟨k7, D7, ys, vs, eB, ivs, hl, hp⟩ ⟨rfl, rfl⟩
        have hi' : i < y.toNat := hi
        refine ⟨rfl, ty_yes ⟨.ref d, rfl, vk, rfl, .int sz, rfl, .int sc, rfl, d, c, r, _, vk, ks, sz, sc, rfl, D7, by omega, hk6.tz (k7.tz D6), l1, l4, sz1, sz6, sc1, sc21, fun H9 v pt k9 D9 iv hpt => ?_⟩⟩
        have eB9 := k9.lst eB dB
        refine ⟨vs, eB9, small_lt (by rw [ivs.1, List.length_map]; omega), (k7.trans k9).out nB, (D9.out dB).le (by omega), ys ++ [pt], vs ++ [v], upd_same, ?_, by rw [List.length_append, hl]; rfl, fun p' hp' => ?_⟩
        · rw [List.map_append]
          exact im_snoc eB9 (ivs.tk (k9.tk D7)) iv
        · rcases List.mem_append.mp hp' with h | h
          · exact hp p' h
          · rw [List.mem_singleton.mp h]
            exact hpt
      · rintro H7 ⟨k7, D7, ys, vs, eB, ivs, hyl, hys⟩
        have eA7 := k7.lst eA6 dA
        have ius7 := ius6.tk (k7.tk D6)
        refine ⟨.int sz, rfl, vk, rfl, .ref A, rfl, A, _, rfl, .inl ⟨.of eA7, fun t1 nt1 => ?_⟩⟩
        have s1 := sm_new (o := .tup us) nt1
        refine ⟨.ref B, rfl, B, _, rfl, .inl ⟨.of (s1 _ _ eB), fun t2 nt2 => ?_⟩⟩
        have s2 := sm_new (o := .tup vs) nt2
        refine ⟨by show 4 ≤ sizeLine; decide, fun t3 nt3 => ?_⟩
        have s3 := sm_new (o := .tup [.int sz, vk, .ref t1, .ref t2]) nt3
        have s13 := (s1.trans s2).trans s3
        refine q _ _ ⟨sz, ks, ss, ys⟩ ((kk6.trans k7).trans (Dk.sm s13)) ((D7.sm s13).le (by omega)) ⟨t3, vk, .ref t1, .ref t2, rfl, .inl upd_same, (hk6.tz (k7.tz D6)).sm s13, (im_newtup nt1 ius7).sm (s2.trans s3), (im_newtup nt2 (ivs.sm s1)).sm s3⟩
          ⟨sz1, sz6, l1, l4, nd, by show 1 ≤ ss.length; omega, by show ss.length ≤ 8; omega, by show ys.length ≤ 10; omega, hss, hys⟩ nm (by show ss.length ≤ 4; omega) (by show ys.length ≤ 4; omega)
end
end Ra
end

section
/-! the plain law of more: what takes nothing away; no program in sight -/
set_option autoImplicit false
set_option linter.all false
namespace Ra
section
variable {κ : Type}
/-- a source that brings no later -/
def SrcLe (s s' : Src κ) : Prop := s'.kind = s.kind ∧ s'.age = s.age ∧ s'.place = s.place ∧ s'.since ≤ s.since
def PrtLe (p p' : Prt κ) : Prop := p'.kind = p.kind ∧ p'.lo ≤ p.lo ∧ p.hi ≤ p'.hi
/-- a way that does all that the other does, no later -/
def WayLe (y y' : Wy κ) : Prop := y'.kind = y.kind ∧ y'.old = y.old ∧ y'.wait ≤ y.wait ∧ (∀ h ∈ y.hours, h ∈ y'.hours) ∧ All2 PrtLe y.parts y'.parts
theorem SrcLe.refl (s : Src κ) : SrcLe s s := ⟨rfl, rfl, rfl, Int.le_refl _⟩
theorem PrtLe.refl (p : Prt κ) : PrtLe p p := ⟨rfl, Int.le_refl _, Int.le_refl _⟩
theorem all2_refl {α : Type} {R : α → α → Prop} (h : ∀ a, R a a) (l : List α) : All2 R l l := ⟨rfl, fun i x y hx hy => by
  rw [hx] at hy
  cases hy
  exact h x⟩
theorem WayLe.refl (y : Wy κ) : WayLe y y := ⟨rfl, rfl, Int.le_refl _, fun _ h => h, all2_refl PrtLe.refl _⟩
theorem all2_set {α : Type} {R : α → α → Prop} (hr : ∀ a, R a a) {l : List α} {i : Nat} {x x' : α} (hx : l[i]? = some x) (h : R x x') : All2 R l (l.set i x') := by
  refine ⟨by rw [List.length_set], fun j a b ha hb => ?_⟩
  rw [List.getElem?_set] at hb
  by_cases e : i = j
  · subst e
    rw [if_pos rfl, if_pos (List.getElem?_eq_some_iff.mp hx).1] at hb
    cases hb
    rw [hx] at ha
    cases ha
    exact h
  · rw [if_neg e, ha] at hb
    cases hb
    exact hr a
theorem closed_wait {w : Wd κ} {S : κ → Int → Int → Prop} (c : Closed w S) {k : κ} {o m m' : Int} (h : S k o m) (le : m ≤ m') : S k o m' := by
  obtain ⟨j, rfl⟩ : ∃ j : Nat, m' = m + j := ⟨(m' - m).toNat, by omega⟩
  induction j with
  | zero => simpa using h
  | succ j ih =>
    have := c.2.1 k o (m + j) (ih (by omega))
    rw [show m + ((j + 1 : Nat) : Int) = m + (j : Int) + 1 by omega]
    exact this
theorem more_of {w w' : Wd κ} (hs : w'.size = w.size) (hk : w'.kinds = w.kinds) (src : ∀ s ∈ w.sources, ∃ s' ∈ w'.sources, SrcLe s s')
    (way : ∀ y ∈ w.ways, y.hours = [] ∨ ∃ y' ∈ w'.ways, WayLe y y') : More w w' := by
  refine ⟨hs, hk, fun S c => ⟨fun s h m h1 h2 => ?_, c.2.1, fun y hy m h1 h2 as g ha hg => ?_⟩⟩
  · obtain ⟨s', h', e1, e2, e3, e4⟩ := src s h
    have := c.1 s' h' m (by omega) (by rw [hs, e3]; exact h2)
    rw [e1, e2] at this
    exact this
  · rcases way y hy with e | ⟨y', hy', e1, e2, e3, e4, e5⟩
    · rw [e] at h2
      cases h2
    · have := c.2.2 y' hy' m h1 (by rw [hs]; exact e4 _ h2) as g ⟨e5.1.symm.trans ha.1, fun i p a hp ha' => ?_⟩ (by rw [e2]; exact hg)
      · rw [e1] at this
        exact closed_wait c this (by omega)
      · obtain ⟨q, hq⟩ : ∃ q, y.parts[i]? = some q := ⟨_, List.getElem?_eq_getElem (by rw [e5.1]; exact (List.getElem?_eq_some_iff.mp hp).1)⟩
        obtain ⟨z1, z2, z3⟩ := e5.2 i q p hq hp
        obtain ⟨v1, v2, v3⟩ := ha.2 i q a hq ha'
        refine ⟨by omega, by omega, ?_⟩
        rw [z1]
        exact v3
theorem mem_set_of {α : Type} {R : α → α → Prop} (hr : ∀ a, R a a) {l : List α} {i : Nat} {x x' : α} (hx : l[i]? = some x) (h : R x x') : ∀ a ∈ l, ∃ a' ∈ l.set i x', R a a' := fun a ha => by
  obtain ⟨j, hj⟩ := List.mem_iff_getElem?.mp ha
  have A := all2_set hr hx h
  obtain ⟨b, hb⟩ : ∃ b, (l.set i x')[j]? = some b := ⟨_, List.getElem?_eq_getElem (by rw [List.length_set]; exact (List.getElem?_eq_some_iff.mp hj).1)⟩
  exact ⟨b, List.mem_of_getElem? hb, A.2 j a b hj hb⟩
theorem mem_set_cases {α : Type} {l : List α} {i : Nat} {x a : α} (h : a ∈ l.set i x) : a = x ∨ a ∈ l := by
  rcases List.mem_or_eq_of_mem_set h with h | h
  · exact .inr h
  · exact .inl h
/-- worlds with the same closed sets -/
structure Alike (w w' : Wd κ) : Prop where
  to : More w w'
  fro : More w' w
theorem Alike.can {w w' : Wd κ} (a : Alike w w') (k : κ) (o m : Int) : Can w k o m ↔ Can w' k o m := ⟨a.to.can, a.fro.can⟩
end
end Ra
end

section
set_option Elab.async false
set_option linter.all false
set_option maxRecDepth 100000
set_option maxHeartbeats 4000000
/-! walks: a way made wider, a world made more -/
namespace Ra
open PySem PySem.Spec PyProof.Rows L2 RZ

theorem rising_nodup : ∀ {l : List Int}, l.Pairwise (· < ·) → l.Nodup
  | _, .nil => List.nodup_nil
  | _, .cons h t => List.nodup_cons.mpr ⟨fun m => by have := h _ m; omega, rising_nodup t⟩
theorem rising_len {l : List Int} {n : Nat} (h : l.Pairwise (· < ·)) (r : ∀ x ∈ l, 0 ≤ x ∧ x < (n : Int)) : l.length ≤ n := by
  have := nodup_le l ((List.range n).map fun (i : Nat) => (i : Int)) (rising_nodup h) fun x hx => by
    obtain ⟨h0, h1⟩ := r x hx
    exact List.mem_map.mpr ⟨x.toNat, List.mem_range.mpr (by omega), by omega⟩
  rw [List.length_map, List.length_range] at this
  exact this
theorem map_set_enc {α : Type} (f : α → PyData) (l : List α) (i : Nat) (x : α) : (l.map f).set i (f x) = (l.set i x).map f := (List.map_set).symm
section
variable {P : Program} {w : World} {K : PySem.W.Frag} {mg : Str → Option Value} {base : Heap}

def spLWider : Sp := fun vs H Q _ => ∃ (d c r : Addr) (n : Nat) (vy : V) (ks : List Str) (y : Wy Str) (sz : Int), vs = [.ref d, vy, .int sz] ∧ DrAt d c r n H ∧ n ≤ 50000 ∧ Im H vy (encY y) ∧ WyOk sz ks y ∧ 1 ≤ sz ∧ sz ≤ 6 ∧
  ∀ H' v y', Dk d r H H' → DrAt d c r (n + 4) H' → Im H' v (encY y') → WyOk sz ks y' → WayLe y y' → Q v H'
set_option maxHeartbeats 8000000 in
theorem ok_LWider (T : TX K mg) : Cal P w K mg base 2 "_law_wider" ["_law_drawn", "_law_way_here", "_law_size"] spLWider := by
  refine cal_of T.f_LWider T.g_LWider scLWider (fun vs H Q E h => ?_) (fun cdv A outer s H vs Q E hr h => ?_)
  · obtain ⟨d, c, r, n, vy, ks, y, sz, rfl, _⟩ := h
    rfl
  · obtain ⟨d, c, r, n, vy, ks, y, sz, rfl, D, hn, iy, Y, z1, z6, q⟩ := h
    obtain ⟨b, vp, vh, rfl, rb, hvp, hvh⟩ := way_at iy
    obtain ⟨ap, ps, rfl, rap, hps⟩ := list_at hvp
    obtain ⟨ah, hs, rfl, rah, ihs⟩ := im_tup hvh
    have ehs := ihs.ints
    subst ehs
    have p1 := Y.p0
    have p3 := Y.p1
    have hl6 := Y.hlen
    have w0 := Y.w0
    have w6 := Y.w1
    have hpl : ps.length = y.parts.length := by rw [hps.1, List.length_map]
    refine ⟨_, (pss_cons (ps_asg (pv 1) (pg_tup rfl (pgs_cons (pg_name (i := 3) scLWider.nd rfl (.inl rfl)) (pgs_cons (pg_name (i := 4) scLWider.nd rfl (.inl rfl)) (pgs_cons (pg_name (i := 5) scLWider.nd rfl (.inl rfl)) (pgs_cons (pg_name (i := 6) scLWider.nd rfl (.inl rfl)) (pgs_cons (pg_name (i := 7) scLWider.nd rfl (.inl rfl)) pgs_nil))))))) (pss_cons (ps_par (i := 8) (j := 9) rfl scLWider.nd rfl rfl (by decide) rfl rfl (pa_cons (pe_cal (ok_LNext T) (hr.mono (by decide)) (by rfl) (pa_cons (pv 0) (pa_cons (pe_callB call_len_seq (by rfl) T.z_len (by decide +kernel) (pa_cons (pv 4) pa_nil)) pa_nil))) (pa_cons (pe_cal (ok_LNext T) (hr.mono (by decide)) (by rfl) (pa_cons (pv 0) (pa_cons pe_int pa_nil))) pa_nil)) (by rfl)) (pss_cons (ps_asg (pe_ix ix_tup (pv 4) (pv 8) (fun _ _ => rfl)) (pg_tup rfl (pgs_cons (pg_name (i := 10) scLWider.nd rfl (.inl rfl)) (pgs_cons (pg_name (i := 11) scLWider.nd rfl (.inl rfl)) (pgs_cons (pg_name (i := 12) scLWider.nd rfl (.inl rfl)) pgs_nil))))) (pss_cons (ps_if (pt_cmpR op_eq (pv 9) pe_int (nomark _)) (pss_one (ps_ret (pe_tup (pa_cons (pv 3) (pa_cons (pv 4) (pa_cons (pv 5) (pa_cons (pe_callTy call_tuple_of (by rfl) T.z_tuple (by decide +kernel) (pa_cons (pe_callB (cr_sortedSet rfl) (by rfl) T.z_sorted (by decide +kernel) (pa_cons (pe_callTy (cr_setTI rfl) (by rfl) T.z_set (by decide +kernel) (pa_cons (pe_op op_catA (pv 6) (pe_tup (pa_cons (pe_cal (ok_LNext T) (hr.mono (by decide)) (by rfl) (pa_cons (pv 0) (pa_cons (pv 2) pa_nil))) pa_nil))) pa_nil)) pa_nil)) pa_nil)) (pa_cons (pv 7) pa_nil)))))))) pss_nil) (pss_cons (ps_if (pt_cmpR op_eq (pv 9) pe_int (nomark _)) (pss_one (ps_ret (pe_tup (pa_cons (pv 3) (pa_cons (pv 4) (pa_cons (pv 5) (pa_cons (pv 6) (pa_cons (pe_callB (call_max2 rfl) (by rfl) T.z_max (by decide +kernel) (pa_cons pe_int (pa_cons (pe_op op_sub (pv 7) pe_int) pa_nil))) pa_nil)))))))) pss_nil) (pss_cons (ps_set (i := 13) scLWider.nd rfl (.inl rfl) (pe_tup (pa_cons (pv 10) (pa_cons (pv 11) (pa_cons (pe_callB (call_min2 rfl) (by rfl) T.z_min (by decide +kernel) (pa_cons pe_int (pa_cons (pe_op op_add (pe_op op_add (pv 12) pe_int) (pe_cal (ok_LNext T) (hr.mono (by decide)) (by rfl) (pa_cons (pv 0) (pa_cons pe_int pa_nil)))) pa_nil))) pa_nil))))) (pss_cons (ps_if (pt_cmpR op_eq (pv 9) pe_int (nomark _)) (pss_one (ps_set (i := 13) scLWider.nd rfl (.inl rfl) (pe_tup (pa_cons (pv 10) (pa_cons (pe_callB (call_max2 rfl) (by rfl) T.z_max (by decide +kernel) (pa_cons pe_int (pa_cons (pe_op op_sub (pe_op op_sub (pv 11) pe_int) (pe_cal (ok_LNext T) (hr.mono (by decide)) (by rfl) (pa_cons (pv 0) (pa_cons pe_int pa_nil)))) pa_nil))) (pa_cons (pv 12) pa_nil)))))) pss_nil) (pss_one (ps_ret (pe_tup (pa_cons (pv 3) (pa_cons (pe_cal (ok_LWith T) (hr.mono (by decide)) (by rfl) (pa_cons (pv 4) (pa_cons (pv 8) (pa_cons (pv 13) pa_nil)))) (pa_cons (pv 5) (pa_cons (pv 6) (pa_cons (pv 7) pa_nil))))))))))))))), ?_⟩
    generalize hσ : L2.start _ _ = σ0
    have eσ : σ0 = [some (.ref d), some (.ref b), some (.int sz), none, none, none, none, none, none, none, none, none, none, none] := hσ.symm
    subst eσ
    clear hσ
    refine ⟨.ref b, rfl, b, _, rfl, .inl rb, rfl, _, _, rfl, _, _, rfl, _, _, rfl, _, _, rfl, _, _, rfl, rfl, ?_⟩
    refine ⟨.ref d, rfl, .ref ap, rfl, ap, _, rfl, .inr (.inl rap), d, c, r, n, _, rfl, D, by omega, by omega, by omega, fun H1 at_ k1 D1 a0 a1 => ?_⟩
    refine ⟨.ref d, rfl, d, c, r, _, 4, rfl, D1, by omega, by decide, by decide, fun H2 pick k2 D2 pk0 pk1 => ⟨_, _, rfl, ?_⟩⟩
    have kk := k1.trans k2
    have tk2 := kk.tk D
    obtain ⟨i, rfl⟩ := Int.eq_ofNat_of_zero_le a0
    have hi : i < y.parts.length := by omega
    obtain ⟨pt, hpt⟩ : ∃ pt, y.parts[i]? = some pt := ⟨_, List.getElem?_eq_getElem hi⟩
    have PT := Y.parts pt (List.mem_of_getElem? hpt)
    obtain ⟨x, hx, ix⟩ := ims_at hps hpt
    obtain ⟨e, rfl, re⟩ := prt_at ix
    refine ⟨.ref ap, rfl, .int (i : Int), rfl, ap, ps, (i : Int), .ref e, rfl, rfl, .inl (tk2 _ _ rap), atI_nat hx, e, _, rfl, .inl (tk2 _ _ re), rfl, _, _, rfl, _, _, rfl, _, _, rfl, rfl, ?_⟩
    refine ⟨.int pick, rfl, rfl, _, rfl, ite2 (fun h0 => ?_) (fun h0 => ?_)⟩
    · refine ⟨.str y.kind, rfl, .ref ap, rfl, .str (keepS y.old), rfl, .ref ah, rfl, .ref d, rfl, .int sz, rfl, d, c, r, _, sz, rfl, D2, by omega, by omega, by omega, fun H3 x k3 D3 x0 x1 => ?_⟩
      refine ⟨by show 1 ≤ sizeLine; decide, fun t nt => ?_⟩
      have s4 := sm_new (o := .tup [.int x]) nt
      have kk3 := kk.trans k3
      have tk3 := kk3.tk D
      refine cat_rd (ys := [.int x]) (rd_sm s4 (tk3 _ _ rah)) (.inl upd_same) (by rw [List.length_map]; simp only [List.length_singleton]; omega) fun H5 g s5 rg => ?_
      refine ⟨g, y.hours ++ [x], rfl, .inl (by rw [List.map_append]; exact rg), by rw [List.length_append]; simp only [List.length_singleton]; omega, fun a m na hm => ?_⟩
      rw [List.length_append, List.length_singleton] at hm
      refine ⟨a, _, m, rfl, upd_same, by omega, fun ns p hns hmem hlen np => ?_⟩
      refine ⟨p, _, rfl, .inl ⟨.of upd_same, fun l nl => ?_⟩⟩
      refine ⟨.int y.wait, rfl, by show 5 ≤ sizeLine; decide, fun z nz => ?_⟩
      have hin : ∀ h ∈ ns, 0 ≤ h ∧ h < sz := fun h hh => by
        have := of_decide_eq_true ((hmem h).mp hh)
        rcases List.mem_append.mp this with h1 | h1
        · exact Y.hours h h1
        · rw [List.mem_singleton.mp h1]
          exact ⟨x0, x1⟩
      have hlen6 : ns.length ≤ sz.toNat := rising_len hns fun h hh => by
        have := hin h hh
        omega
      have sA := sm_new (o := SetO w a (fun k => decide (k ∈ y.hours ++ [x])) m) na
      have sB := sm_new (o := .lst (ns.map V.int)) np
      have sC := sm_new (o := .tup (ns.map V.int)) nl
      have sD := sm_new (o := .tup [.str y.kind, .ref ap, .str (keepS y.old), .ref l, .int y.wait]) nz
      have s45 := s4.trans s5
      have kEnd := (kk3.trans (Dk.sm (((s45.trans sA).trans sB).trans sC))).trans (Dk.sm sD)
      refine q _ _ ⟨y.kind, y.parts, y.old, ns, y.wait⟩ kEnd (((D3.sm (((s45.trans sA).trans sB).trans sC)).sm sD).le (by omega)) ?_ ⟨Y.kin, Y.p0, Y.p1, Y.parts, hin, by show ns.length ≤ 6; omega, Y.w0, Y.w1⟩
        ⟨rfl, rfl, Int.le_refl _, fun h hh => (hmem h).mpr (decide_eq_true (List.mem_append_left _ hh)), all2_refl PrtLe.refl _⟩
      exact Ims.im (.inl upd_same) (.cons (.str _) (.cons (hvp.tk (kEnd.tk D)) (.cons (.str _) (.cons ((im_newtup nl (Ims.of_ints ns)).sm sD) (.cons (.int _) .nil)))))
    · refine ⟨.int pick, rfl, rfl, _, rfl, ite2 (fun h1 => ?_) (fun h1 => ?_)⟩
      · refine ⟨.str y.kind, rfl, .ref ap, rfl, .str (keepS y.old), rfl, .ref ah, rfl, .int y.wait, rfl, y.wait, 1, rfl, rfl, 1, y.wait - 1, rfl, by show 5 ≤ sizeLine; decide, fun z nz => ?_⟩
        have kEnd := kk.new (o := .tup [.str y.kind, .ref ap, .str (keepS y.old), .ref ah, .int (if y.wait - 1 > 1 then y.wait - 1 else 1)]) nz
        refine q _ _ ⟨y.kind, y.parts, y.old, y.hours, if y.wait - 1 > 1 then y.wait - 1 else 1⟩ kEnd ((D2.sm (sm_new nz)).le (by omega)) ?_ ⟨Y.kin, Y.p0, Y.p1, Y.parts, Y.hours, Y.hlen, ?_, ?_⟩
          ⟨rfl, rfl, ?_, fun h hh => hh, all2_refl PrtLe.refl _⟩
        · exact Ims.im (.inl upd_same) (.cons (.str _) (.cons (hvp.tk (kEnd.tk D)) (.cons (.str _) (.cons (hvh.tk (kEnd.tk D)) (.cons (.int _) .nil)))))
        · show 1 ≤ if y.wait - 1 > 1 then y.wait - 1 else 1
          split <;> omega
        · show (if y.wait - 1 > 1 then y.wait - 1 else 1) ≤ 6
          split <;> omega
        · show (if y.wait - 1 > 1 then y.wait - 1 else 1) ≤ y.wait
          split <;> omega
      · have fin : ∀ H5 H6 v pt', Dk d r H H5 → DrAt d c r (n + 4) H5 → Same H5 H6 → Im H6 v (.tuple ((y.parts.map encP).set i (encP pt'))) → PrtOk ks pt' → PrtLe pt pt' →
            ∀ z, H6 z = none → Q (.ref z) (upd H6 z (.tup [.str y.kind, v, .str (keepS y.old), .ref ah, .int y.wait])) := fun H5 H6 v pt' k5 D5 s6 iv PT' le z nz => by
          have kEnd := (k5.trans (Dk.sm s6)).new (o := .tup [.str y.kind, v, .str (keepS y.old), .ref ah, .int y.wait]) nz
          refine q _ _ ⟨y.kind, y.parts.set i pt', y.old, y.hours, y.wait⟩ kEnd ((D5.sm s6).sm (sm_new nz)) ?_ ⟨Y.kin, by show 1 ≤ (y.parts.set i pt').length; rw [List.length_set]; exact p1, by show (y.parts.set i pt').length ≤ 3; rw [List.length_set]; exact p3, fun p' hp' => ?_, Y.hours, Y.hlen, Y.w0, Y.w1⟩
            ⟨rfl, rfl, Int.le_refl _, fun h hh => hh, all2_set PrtLe.refl hpt le⟩
          · rw [map_set_enc] at iv
            exact Ims.im (.inl upd_same) (.cons (.str _) (.cons (iv.sm (sm_new nz)) (.cons (.str _) (.cons (hvh.tk (kEnd.tk D)) (.cons (.int _) .nil)))))
          · rcases mem_set_cases hp' with h | h
            · rw [h]
              exact PT'
            · exact Y.parts p' h
        have l0 := PT.l0
        have lh := PT.lh
        have h20 := PT.h1
        refine ⟨.str pt.kind, rfl, .int pt.lo, rfl, .int pt.hi, rfl, pt.hi, 1, rfl, rfl, .ref d, rfl, d, c, r, _, 5, rfl, D2, by omega, by decide, by decide, fun H3 x k3 D3 x0 x1 => ⟨_, x, rfl, rfl, 20, _, rfl, by show 3 ≤ sizeLine; decide, fun t nt => ?_⟩⟩
        have kk3 := kk.trans k3
        have s4 := sm_new (o := .tup [.str pt.kind, .int pt.lo, .int (if pt.hi + 1 + x < 20 then pt.hi + 1 + x else 20)]) nt
        have it : Im (upd H3 t (.tup [.str pt.kind, .int pt.lo, .int (if pt.hi + 1 + x < 20 then pt.hi + 1 + x else 20)])) (.ref t) (encP ⟨pt.kind, pt.lo, if pt.hi + 1 + x < 20 then pt.hi + 1 + x else 20⟩) :=
          Ims.im (.inl upd_same) (.cons (.str _) (.cons (.int _) (.cons (.int _) .nil)))
        have D4 := D3.sm s4
        have k4 := kk3.trans (Dk.sm s4)
        refine ⟨.int pick, rfl, rfl, _, rfl, ite2 (fun h2 => ?_) (fun h2 => ?_)⟩
        · refine ⟨.str pt.kind, rfl, .int pt.lo, rfl, pt.lo, 1, rfl, rfl, .ref d, rfl, d, c, r, _, 5, rfl, D4, by omega, by decide, by decide, fun H5 x' k5 D5 x0' x1' => ⟨_, x', rfl, rfl, 0, _, rfl, .int pt.hi, rfl, by show 3 ≤ sizeLine; decide, fun t' nt' => ?_⟩⟩
          have kk5 := k4.trans k5
          have s6 := sm_new (o := .tup [.str pt.kind, .int (if pt.lo - 1 - x' > 0 then pt.lo - 1 - x' else 0), .int pt.hi]) nt'
          have it' : Im (upd H5 t' (.tup [.str pt.kind, .int (if pt.lo - 1 - x' > 0 then pt.lo - 1 - x' else 0), .int pt.hi])) (.ref t') (encP ⟨pt.kind, if pt.lo - 1 - x' > 0 then pt.lo - 1 - x' else 0, pt.hi⟩) :=
            Ims.im (.inl upd_same) (.cons (.str _) (.cons (.int _) (.cons (.int _) .nil)))
          have k6 := kk5.trans (Dk.sm s6)
          refine ⟨.str y.kind, rfl, .ref ap, rfl, .int (i : Int), rfl, .ref t', rfl, .ref ap, .ref t', i, y.parts.map encP, _, rfl, hvp.tk (k6.tk D), by rw [List.length_map]; exact hi, by rw [List.length_map]; omega, it', fun H7 v s7 iv => ?_⟩
          refine ⟨.str (keepS y.old), rfl, .ref ah, rfl, .int y.wait, rfl, by show 5 ≤ sizeLine; decide, fun z nz => ?_⟩
          refine fin _ _ _ _ k6 ((D5.sm s6).le (by omega)) s7 iv ⟨PT.kin, ?_, ?_, h20⟩ ⟨rfl, ?_, Int.le_refl _⟩ z nz
          · show 0 ≤ if pt.lo - 1 - x' > 0 then pt.lo - 1 - x' else 0
            split <;> omega
          · show (if pt.lo - 1 - x' > 0 then pt.lo - 1 - x' else 0) ≤ pt.hi
            split <;> omega
          · show (if pt.lo - 1 - x' > 0 then pt.lo - 1 - x' else 0) ≤ pt.lo
            split <;> omega
        · refine ⟨.str y.kind, rfl, .ref ap, rfl, .int (i : Int), rfl, .ref t, rfl, .ref ap, .ref t, i, y.parts.map encP, _, rfl, hvp.tk (k4.tk D), by rw [List.length_map]; exact hi, by rw [List.length_map]; omega, it, fun H7 v s7 iv => ?_⟩
          refine ⟨.str (keepS y.old), rfl, .ref ah, rfl, .int y.wait, rfl, by show 5 ≤ sizeLine; decide, fun z nz => ?_⟩
          refine fin _ _ _ _ k4 (D4.le (by omega)) s7 iv ⟨PT.kin, l0, ?_, ?_⟩ ⟨rfl, Int.le_refl _, ?_⟩ z nz
          · show pt.lo ≤ if pt.hi + 1 + x < 20 then pt.hi + 1 + x else 20
            split <;> omega
          · show (if pt.hi + 1 + x < 20 then pt.hi + 1 + x else 20) ≤ 20
            split <;> omega
          · show pt.hi ≤ if pt.hi + 1 + x < 20 then pt.hi + 1 + x else 20
            split <;> omega
end
end Ra
end

section
set_option Elab.async false
set_option linter.all false
set_option maxRecDepth 100000
set_option maxHeartbeats 4000000
/-! walks: a world made more -/
namespace Ra
open PySem PySem.Spec PyProof.Rows L2 RZ

/-- a test whose outcome is told by a word -/
theorem if_ex {c : TT} {t u : TS} {D : Ends} {σ : L2.St} {H : Hp} (R : Bool → Hp → Prop) (hc : ∀ Q : Bool → Hp → Prop, (∀ b H1, R b H1 → Q b H1) → c σ H Q) (ht : ∀ H1, R true H1 → t D σ H1) (hf : ∀ H1, R false H1 → u D σ H1) : tIfS c t u D σ H := by
  refine hc _ fun b H1 hb => ?_
  cases b with
  | true => exact iteT (ht H1 hb)
  | false => exact iteF (hf H1 hb)
theorem if_exG {i : Nat} {x : V} {c : TT} {t u rest : TS} {D : Ends} {rt : VK} {bk ct : L2.St → Hp → Prop} {σ : L2.St} {H : Hp} (R : Bool → Hp → Prop) (hc : ∀ Q : Bool → Hp → Prop, (∀ b H1, R b H1 → Q b H1) → c (σ.set i (some x)) H Q)
    (ht : ∀ H1, R true H1 → t { D with nx := rest D } (σ.set i (some x)) H1) (hf : ∀ H1, R false H1 → u { D with nx := rest D } (σ.set i (some x)) H1) : gName i x σ H ({ nx := tSeq (tIfS c t u) rest D, rt := rt, bk := bk, ct := ct } : Ends).nx := if_ex R hc ht hf
theorem if_exN {c : TT} {t u rest : TS} {D : Ends} {rt : VK} {bk ct : L2.St → Hp → Prop} {σ : L2.St} {H : Hp} (R : Bool → Hp → Prop) (hc : ∀ Q : Bool → Hp → Prop, (∀ b H1, R b H1 → Q b H1) → c σ H Q)
    (ht : ∀ H1, R true H1 → t { D with nx := rest D } σ H1) (hf : ∀ H1, R false H1 → u { D with nx := rest D } σ H1) : tNext { nx := tSeq (tIfS c t u) rest D, rt := rt, bk := bk, ct := ct } σ H := if_ex R hc ht hf
theorem lay_tup2 {α : Type} {f : α → PyData} {l : List α} (h : ∀ a ∈ l, (f a).canLay0 = true) : (PyData.tuple (l.map f)).canLay0 = true := by
  rw [PyData.canLay0]
  exact layAll fun d hd => by
    obtain ⟨a, ha, rfl⟩ := List.mem_map.mp hd
    exact h a ha
theorem dep_tup2 {α : Type} {f : α → PyData} {l : List α} {n : Nat} (h : ∀ a ∈ l, (f a).depth ≤ n) : (PyData.tuple (l.map f)).depth ≤ n + 1 := by
  rw [PyData.depth]
  exact Nat.succ_le_succ (depAll fun d hd => by
    obtain ⟨a, ha, rfl⟩ := List.mem_map.mp hd
    exact h a ha)
theorem lay_of {ds : List PyData} (h : ∀ d ∈ ds, d.canLay0 = true) : (PyData.tuple ds).canLay0 = true := by
  rw [PyData.canLay0]
  exact layAll h
theorem dep_of {ds : List PyData} {n : Nat} (h : ∀ d ∈ ds, d.depth ≤ n) : (PyData.tuple ds).depth ≤ n + 1 := by
  rw [PyData.depth]
  exact Nat.succ_le_succ (depAll h)
theorem lay_name {k : Str} (h : k ∈ NAMES8) : (PyData.str k).canLay0 = true := by
  have : ∀ k ∈ NAMES8, (PyData.str k).canLay0 = true := by decide +kernel
  exact this k h
theorem lay_keep (b : Bool) : (PyData.str (keepS b)).canLay0 = true := by
  cases b
  · decide +kernel
  · decide +kernel
theorem dep_str (k : Str) : (PyData.str k).depth ≤ 0 := Nat.le_refl _
theorem src_lay {s : Src Str} (h : s.kind ∈ NAMES8) : (encS s).canLay0 = true ∧ (encS s).depth ≤ 1 := by
  refine ⟨lay_of fun d hd => ?_, dep_of (n := 0) fun d hd => ?_⟩
  · simp only [List.mem_cons, List.not_mem_nil, or_false] at hd
    rcases hd with rfl | rfl | rfl | rfl | rfl
    · exact lay_name h
    · rfl
    · rfl
    · rfl
    · rfl
  · simp only [List.mem_cons, List.not_mem_nil, or_false] at hd
    rcases hd with rfl | rfl | rfl | rfl | rfl <;> exact Nat.le_refl 0
theorem prt_lay {p : Prt Str} (h : p.kind ∈ NAMES8) : (encP p).canLay0 = true ∧ (encP p).depth ≤ 1 := by
  refine ⟨lay_of fun d hd => ?_, dep_of (n := 0) fun d hd => ?_⟩
  · simp only [List.mem_cons, List.not_mem_nil, or_false] at hd
    rcases hd with rfl | rfl | rfl
    · exact lay_name h
    · rfl
    · rfl
  · simp only [List.mem_cons, List.not_mem_nil, or_false] at hd
    rcases hd with rfl | rfl | rfl <;> exact Nat.le_refl 0
theorem way_lay {y : Wy Str} (h : y.kind ∈ NAMES8) (hp : ∀ p ∈ y.parts, p.kind ∈ NAMES8) : (encY y).canLay0 = true ∧ (encY y).depth ≤ 3 := by
  refine ⟨lay_of fun d hd => ?_, dep_of (n := 2) fun d hd => ?_⟩
  · simp only [List.mem_cons, List.not_mem_nil, or_false] at hd
    rcases hd with rfl | rfl | rfl | rfl | rfl
    · exact lay_name h
    · exact lay_tup2 fun p h => (prt_lay (hp p h)).1
    · exact lay_keep _
    · exact lay_tup (fun _ => rfl) _
    · rfl
  · simp only [List.mem_cons, List.not_mem_nil, or_false] at hd
    rcases hd with rfl | rfl | rfl | rfl | rfl
    · exact Nat.zero_le _
    · exact dep_tup2 (n := 1) fun p h => (prt_lay (hp p h)).2
    · exact Nat.zero_le _
    · exact Nat.le_trans (dep_tup (f := PyData.int) (n := 0) (fun _ => Nat.le_refl 0) _) (by decide)
    · exact Nat.zero_le _
theorem shaped_of {d : PyData} {n : Nat} (h : d.canLay0 = true) (h2 : d.depth ≤ n) (hn : n ≤ 64) : SeqAt.shaped d = true := by
  unfold SeqAt.shaped
  rw [Bool.and_eq_true_iff]
  exact ⟨h, decide_eq_true (Nat.le_trans h2 hn)⟩
theorem wy_names {n : Int} {ks : List Str} {y : Wy Str} (Y : WyOk n ks y) (nm : ∀ k ∈ ks, k ∈ NAMES8) : y.kind ∈ NAMES8 ∧ ∀ p ∈ y.parts, p.kind ∈ NAMES8 := ⟨nm _ Y.kin, fun p hp => nm _ (Y.parts p hp).kin⟩
theorem shaped_ways {n : Int} {ks : List Str} {ys : List (Wy Str)} (h : ∀ y ∈ ys, WyOk n ks y) (nm : ∀ k ∈ ks, k ∈ NAMES8) : SeqAt.shaped (.tuple (ys.map encY)) = true :=
  shaped_of (lay_tup2 fun y hy => (way_lay (wy_names (h y hy) nm).1 (wy_names (h y hy) nm).2).1) (dep_tup2 (n := 3) fun y hy => (way_lay (wy_names (h y hy) nm).1 (wy_names (h y hy) nm).2).2) (by decide)

section
variable {P : Program} {w : World} {K : PySem.W.Frag} {mg : Str → Option Value} {base : Heap}

def spLMore : Sp := fun vs H Q _ => ∃ (d c r : Addr) (n : Nat) (vw : V) (W : WdS), vs = [.ref d, vw] ∧ DrAt d c r n H ∧ n ≤ 30000 ∧ WdAt H vw W ∧ WdOk W ∧ (∀ k ∈ W.kinds, k ∈ NAMES8) ∧ W.sources.length ≤ 6 ∧ W.ways.length ≤ 9 ∧
  ∀ H' v W', Dk d r H H' → DrAt d c r (n + 40) H' → WdAt H' v W' → WdOk W' → More W W' → W'.sources.length ≤ 6 → W'.ways.length ≤ W.ways.length + 1 → Q v H'
set_option maxHeartbeats 8000000 in
theorem ok_LMore (T : TX K mg) : Cal P w K mg base 5 "_law_more" ["_law_drawn", "_law_world_here"] spLMore := by
  refine cal_of T.f_LMore T.g_LMore scLMore (fun vs H Q E h => ?_) (fun cdv A outer s H vs Q E hr h => ?_)
  · obtain ⟨d, c, r, n, vw, W, rfl, _⟩ := h
    rfl
  · obtain ⟨d, c, r, n, vw, W, rfl, D, hn, hW, ok, nm, hs6, hy9, q⟩ := h
    have n0 := ok.n0
    have n6 := ok.n1
    have l1 := ok.k0
    have l4 := ok.k1
    have s0 := ok.s0
    obtain ⟨aw, vk, vs, vy, rfl, raw, hk, his, hiy⟩ := hW.ex
    obtain ⟨as, xs, rfl, ras, hxs⟩ := list_at his
    obtain ⟨ay, ys, rfl, ray, hys⟩ := list_at hiy
    have hxl : xs.length = W.sources.length := by rw [hxs.1, List.length_map]
    have hyl : ys.length = W.ways.length := by rw [hys.1, List.length_map]
    have fin : ∀ H5 z v1 v2 ss yy, Dk d r H H5 → DrAt d c r (n + 40) H5 → H5 z = none → Im H5 v1 (.tuple (ss.map encS)) → Im H5 v2 (.tuple (yy.map encY)) → (∀ s ∈ ss, SrcOk W.size W.kinds s) → (∀ y ∈ yy, WyOk W.size W.kinds y) → 1 ≤ ss.length →
        ss.length ≤ 6 → yy.length ≤ W.ways.length + 1 → More W ⟨W.size, W.kinds, ss, yy⟩ → Q (.ref z) (upd H5 z (.tup [.int W.size, vk, v1, v2])) := fun H5 z v1 v2 ss yy k5 D5 nz i1 i2 h1 h2 h3 h4 h5 mo => by
      have sz := sm_new (o := .tup [.int W.size, vk, v1, v2]) nz
      exact q _ _ ⟨W.size, W.kinds, ss, yy⟩ (k5.new nz) (D5.sm sz) ⟨z, vk, v1, v2, rfl, .inl upd_same, (hk.tz (k5.tz D)).sm sz, i1.sm sz, i2.sm sz⟩
        ⟨n0, n6, l1, l4, ok.kn, h3, by show ss.length ≤ 8; omega, by show yy.length ≤ 10; omega, h1, h2⟩ mo h4 h5
    refine ⟨_, (pss_cons (ps_asg (pv 1) (pg_tup rfl (pgs_cons (pg_name (i := 2) scLMore.nd rfl (.inl rfl)) (pgs_cons (pg_name (i := 3) scLMore.nd rfl (.inl rfl)) (pgs_cons (pg_name (i := 4) scLMore.nd rfl (.inl rfl)) (pgs_cons (pg_name (i := 5) scLMore.nd rfl (.inl rfl)) pgs_nil)))))) (pss_cons (ps_set (i := 6) scLMore.nd rfl (.inl rfl) (pe_cal (ok_LNext T) (hr.mono (by decide)) (by rfl) (pa_cons (pv 0) (pa_cons pe_int pa_nil)))) (pss_cons (ps_if (PW.pt (pw_and (pt_cmpR op_eq (pv 6) pe_int (nomark _)) (pw_and1 (pt_cmpR op_lt (pe_callB call_len_seq (by rfl) T.z_len (by decide +kernel) (pa_cons (pv 4) pa_nil)) pe_int (nomark _))))) (pss_one (ps_ret (pe_tup (pa_cons (pv 2) (pa_cons (pv 3) (pa_cons (pe_op op_catA (pv 4) (pe_tup (pa_cons (pe_cal (ok_LSource T) (hr.mono (by decide)) (by rfl) (pa_cons (pv 0) (pa_cons (pv 3) (pa_cons (pv 2) (pa_cons pe_int pa_nil))))) pa_nil))) (pa_cons (pv 5) pa_nil))))))) pss_nil) (pss_cons (ps_if (PW.pt (pw_or (pt_cmpR op_eq (pv 6) pe_int (nomark _)) (pw_or1 (pt_cmpR (op_eqD hr.units) (pv 5) (pe_tup pa_nil) (nomark _))))) (pss_one (ps_ret (pe_tup (pa_cons (pv 2) (pa_cons (pv 3) (pa_cons (pv 4) (pa_cons (pe_op op_catA (pv 5) (pe_tup (pa_cons (pe_cal (ok_LWay T) (hr.mono (by decide)) (by rfl) (pa_cons (pv 0) (pa_cons (pv 3) (pa_cons (pv 2) (pa_cons pe_int pa_nil))))) pa_nil))) pa_nil))))))) pss_nil) (pss_cons (ps_if (pt_cmpR op_eq (pv 6) pe_int (nomark _)) (pss_cons (ps_set (i := 7) scLMore.nd rfl (.inl rfl) (pe_cal (ok_LNext T) (hr.mono (by decide)) (by rfl) (pa_cons (pv 0) (pa_cons (pe_callB call_len_seq (by rfl) T.z_len (by decide +kernel) (pa_cons (pv 4) pa_nil)) pa_nil)))) (pss_cons (ps_asg (pe_ix ix_tup (pv 4) (pv 7) (fun _ _ => rfl)) (pg_tup rfl (pgs_cons (pg_name (i := 8) scLMore.nd rfl (.inl rfl)) (pgs_cons (pg_name (i := 9) scLMore.nd rfl (.inl rfl)) (pgs_cons (pg_name (i := 10) scLMore.nd rfl (.inl rfl)) (pgs_cons (pg_name (i := 11) scLMore.nd rfl (.inl rfl)) (pgs_cons (pg_name (i := 12) scLMore.nd rfl (.inl rfl)) pgs_nil))))))) (pss_cons (ps_set (i := 13) scLMore.nd rfl (.inl rfl) (pe_tup (pa_cons (pv 8) (pa_cons (pv 9) (pa_cons (pv 10) (pa_cons (pe_op op_fdiv (pv 11) pe_int) (pa_cons (pv 12) pa_nil))))))) (pss_one (ps_ret (pe_tup (pa_cons (pv 2) (pa_cons (pv 3) (pa_cons (pe_cal (ok_LWith T) (hr.mono (by decide)) (by rfl) (pa_cons (pv 4) (pa_cons (pv 7) (pa_cons (pv 13) pa_nil)))) (pa_cons (pv 5) pa_nil)))))))))) pss_nil) (pss_cons (ps_set (i := 7) scLMore.nd rfl (.inl rfl) (pe_cal (ok_LNext T) (hr.mono (by decide)) (by rfl) (pa_cons (pv 0) (pa_cons (pe_callB call_len_seq (by rfl) T.z_len (by decide +kernel) (pa_cons (pv 5) pa_nil)) pa_nil)))) (pss_one (ps_ret (pe_tup (pa_cons (pv 2) (pa_cons (pv 3) (pa_cons (pv 4) (pa_cons (pe_cal (ok_LWith T) (hr.mono (by decide)) (by rfl) (pa_cons (pv 5) (pa_cons (pv 7) (pa_cons (pe_cal (ok_LWider T) (hr.mono (by decide)) (by rfl) (pa_cons (pv 0) (pa_cons (pe_ix ix_tup (pv 5) (pv 7) (fun _ _ => rfl)) (pa_cons (pv 2) pa_nil)))) pa_nil)))) pa_nil))))))))))))), ?_⟩
    generalize hσ : L2.start _ _ = σ0
    have eσ : σ0 = [some (.ref d), some (.ref aw), none, none, none, none, none, none, none, none, none, none, none, none] := hσ.symm
    subst eσ
    clear hσ
    refine ⟨.ref aw, rfl, aw, _, rfl, .inl raw, rfl, ?_⟩
    refine ⟨_, _, rfl, ?_⟩
    refine ⟨_, _, rfl, ?_⟩
    refine ⟨_, _, rfl, ?_⟩
    refine ⟨_, _, rfl, rfl, ?_⟩
    refine ⟨.ref d, rfl, d, c, r, n, 5, rfl, D, by omega, by decide, by decide, fun H1 pk k1 D1 p0 p1 => ?_⟩
    have tk1 := k1.tk D
    have hk1 := hk.tz (k1.tz D)
    refine if_exG (fun b H2 => H1 = H2 ∧ (b = true → W.sources.length < 6)) (fun Q' q' => ?_) (fun _ ⟨e, R⟩ => ?_) (fun _ ⟨e, _⟩ => ?_)
    · refine ⟨.int pk, rfl, rfl, _, rfl, ite2 (fun h => ?_) (fun h => q' _ _ ⟨rfl, fun e => (nomatch e)⟩)⟩
      refine ⟨.ref as, rfl, as, _, rfl, .inr (.inl (tk1 _ _ ras)), _, 6, rfl, rfl, _, rfl, q' _ _ ⟨rfl, fun e => ?_⟩⟩
      have := of_decide_eq_true e
      omega
    all_goals subst e
    · have hlt := R rfl
      refine ⟨.int W.size, rfl, ?_⟩
      refine ⟨vk, rfl, ?_⟩
      refine ⟨.ref as, rfl, ?_⟩
      refine ⟨.ref d, rfl, vk, rfl, ?_⟩
      refine ⟨.int W.size, rfl, ?_⟩
      refine ⟨d, c, r, _, vk, W.kinds, W.size, 5, rfl, D1, by omega, hk1, l1, l4, n0, n6, by decide, by decide, fun H2 v sr k2 D2 iv S => ?_⟩
      have k12 := k1.trans k2
      refine ⟨by show 1 ≤ sizeLine; decide, fun t nt => ?_⟩
      have st := sm_new (o := .tup [v]) nt
      refine cat_rd (ys := [v]) (rd_sm st (k12.tk D _ _ ras)) (.inl upd_same) (by rw [hxl]; simp only [List.length_singleton]; omega) fun H3 e s3 re => ?_
      refine ⟨.ref ay, rfl, ?_⟩
      refine ⟨by show 4 ≤ sizeLine; decide, fun z nz => ?_⟩
      have k3 := (k12.trans (Dk.sm st)).trans (Dk.sm s3)
      refine fin _ z _ _ (W.sources ++ [sr]) W.ways k3 (((D2.sm st).sm s3).le (by omega)) nz ?_ (hiy.tk (k3.tk D)) (fun s hs => ?_) ok.ways (by rw [List.length_append]; simp only [List.length_singleton]; omega) (by rw [List.length_append]; simp only [List.length_singleton]; omega) (by omega)
        (more_of rfl rfl (fun s hs => ⟨s, List.mem_append_left _ hs, .refl s⟩) fun y hy => .inr ⟨y, hy, .refl y⟩)
      · rw [List.map_append]
        exact Ims.im re ((hxs.tk (k3.tk D)).append (ims1 ((iv.sm st).sm s3)))
      · rcases List.mem_append.mp hs with h | h
        · exact ok.srcs s h
        · rw [List.mem_singleton.mp h]
          exact S
    refine if_exN (fun b H2 => Same H1 H2 ∧ (b = false → W.ways ≠ [])) (fun Q' q' => ?_) (fun H2 ⟨s2, _⟩ => ?_) (fun H2 ⟨s2, R⟩ => ?_)
    · refine ⟨.int pk, rfl, rfl, _, rfl, ite2 (fun h => q' _ _ ⟨fun _ _ e => e, fun e => (nomatch e)⟩) (fun h => ?_)⟩
      refine ⟨.ref ay, rfl, Nat.zero_le _, fun t nt => ?_⟩
      have st := sm_new (o := .tup []) nt
      refine ⟨.tuple (W.ways.map encY), .tuple [], ((hiy.tk tk1).sm st).dp, (Ims.im (.inl upd_same) .nil).dp, shaped_ways ok.ways nm, by decide +kernel, _, rfl, q' _ _ ⟨st, fun e h0 => ?_⟩⟩
      rw [h0] at e
      exact absurd e (by decide +kernel)
    all_goals have k2 := k1.trans (Dk.sm s2)
    all_goals have D2 := D1.sm s2
    all_goals have tk2 := k2.tk D
    all_goals have hk2 := hk1.sm s2
    · refine ⟨.int W.size, rfl, ?_⟩
      refine ⟨vk, rfl, ?_⟩
      refine ⟨.ref as, rfl, ?_⟩
      refine ⟨.ref ay, rfl, ?_⟩
      refine ⟨.ref d, rfl, vk, rfl, ?_⟩
      refine ⟨.int W.size, rfl, ?_⟩
      refine ⟨d, c, r, _, vk, W.kinds, W.size, 5, rfl, D2, by omega, hk2, l1, l4, n0, n6, by decide, by decide, fun H3 v y k3 D3 iv Y => ?_⟩
      have k13 := k2.trans k3
      refine ⟨by show 1 ≤ sizeLine; decide, fun t nt => ?_⟩
      have st := sm_new (o := .tup [v]) nt
      refine cat_rd (ys := [v]) (rd_sm st (k13.tk D _ _ ray)) (.inl upd_same) (by rw [hyl]; simp only [List.length_singleton]; omega) fun H4 e s4 re => ?_
      refine ⟨by show 4 ≤ sizeLine; decide, fun z nz => ?_⟩
      have k4 := (k13.trans (Dk.sm st)).trans (Dk.sm s4)
      refine fin _ z _ _ W.sources (W.ways ++ [y]) k4 (((D3.sm st).sm s4).le (by omega)) nz (his.tk (k4.tk D)) ?_ ok.srcs (fun y' hy' => ?_) s0 hs6 (by rw [List.length_append]; simp only [List.length_singleton]; omega)
        (more_of rfl rfl (fun s hs => ⟨s, hs, .refl s⟩) fun y hy => .inr ⟨y, List.mem_append_left _ hy, .refl y⟩)
      · rw [List.map_append]
        exact Ims.im re ((hys.tk (k4.tk D)).append (ims1 ((iv.sm st).sm s4)))
      · rcases List.mem_append.mp hy' with h | h
        · exact ok.ways y' h
        · rw [List.mem_singleton.mp h]
          exact Y
    have hne := R rfl
    have hyp : 0 < W.ways.length := List.length_pos_iff.mpr hne
    refine if_exN (fun b H3 => H2 = H3) (fun Q' q' => ⟨.int pk, rfl, rfl, _, rfl, q' _ _ rfl⟩) (fun _ e => ?_) (fun _ e => ?_)
    all_goals subst e
    · refine ⟨.ref d, rfl, ?_⟩
      refine ⟨.ref as, rfl, ?_⟩
      refine ⟨as, _, rfl, .inr (.inl (tk2 _ _ ras)), d, c, r, _, _, rfl, D2, by omega, by omega, by omega, fun H3 i k3 D3 i0 i1 => ?_⟩
      have k13 := k2.trans k3
      have tk3 := k13.tk D
      obtain ⟨j, rfl⟩ := Int.eq_ofNat_of_zero_le i0
      have hj : j < W.sources.length := by omega
      obtain ⟨sr, hsr⟩ : ∃ sr, W.sources[j]? = some sr := ⟨_, List.getElem?_eq_getElem hj⟩
      have S := ok.srcs sr (List.mem_of_getElem? hsr)
      obtain ⟨x, hx, ix⟩ := ims_at hxs hsr
      obtain ⟨b, rfl, rb⟩ := src_at ix
      refine ⟨.ref as, rfl, ?_⟩
      refine ⟨.int (j : Int), rfl, ?_⟩
      refine ⟨as, xs, (j : Int), .ref b, rfl, rfl, .inl (tk3 _ _ ras), atI_nat hx, ?_⟩
      refine ⟨b, _, rfl, .inl (tk3 _ _ rb), rfl, ?_⟩
      refine ⟨_, _, rfl, ?_⟩
      refine ⟨_, _, rfl, ?_⟩
      refine ⟨_, _, rfl, ?_⟩
      refine ⟨_, _, rfl, ?_⟩
      refine ⟨_, _, rfl, rfl, ?_⟩
      refine ⟨.str sr.kind, rfl, ?_⟩
      refine ⟨.int sr.age, rfl, ?_⟩
      refine ⟨.int sr.place, rfl, ?_⟩
      refine ⟨.int sr.since, rfl, sr.since, 2, rfl, rfl, ⟨by decide, by decide⟩, ?_⟩
      refine ⟨.int sr.many, rfl, by show 5 ≤ sizeLine; decide, fun t nt => ?_⟩
      have st := sm_new (o := .tup [.str sr.kind, .int sr.age, .int sr.place, .int (sr.since / 2), .int sr.many]) nt
      have it : Im (upd H3 t (.tup [.str sr.kind, .int sr.age, .int sr.place, .int (sr.since / 2), .int sr.many])) (.ref t) (encS ⟨sr.kind, sr.age, sr.place, sr.since / 2, sr.many⟩) :=
        Ims.im (.inl upd_same) (.cons (.str _) (.cons (.int _) (.cons (.int _) (.cons (.int _) (.cons (.int _) .nil)))))
      have k4 := k13.trans (Dk.sm st)
      refine ⟨.int W.size, rfl, ?_⟩
      refine ⟨vk, rfl, ?_⟩
      refine ⟨.ref as, rfl, ?_⟩
      refine ⟨.int (j : Int), rfl, ?_⟩
      refine ⟨.ref t, rfl, ?_⟩
      refine ⟨.ref as, .ref t, j, W.sources.map encS, _, rfl, his.tk (k4.tk D), by rw [List.length_map]; exact hj, by rw [List.length_map]; omega, it, fun H5 v s5 iv => ?_⟩
      refine ⟨.ref ay, rfl, ?_⟩
      refine ⟨by show 4 ≤ sizeLine; decide, fun z nz => ?_⟩
      have k5 := k4.trans (Dk.sm s5)
      rw [map_set_enc] at iv
      have h2 := S.s0
      have h3 := S.s1
      refine fin _ z _ _ _ W.ways k5 (((D3.sm st).sm s5).le (by omega)) nz iv (hiy.tk (k5.tk D)) (fun s hs => ?_) ok.ways (by rw [List.length_set]; exact s0) (by rw [List.length_set]; exact hs6) (by omega)
        (more_of rfl rfl (mem_set_of SrcLe.refl hsr ⟨rfl, rfl, rfl, by show sr.since / 2 ≤ sr.since; omega⟩) fun y hy => .inr ⟨y, hy, .refl y⟩)
      rcases mem_set_cases hs with h | h
      · rw [h]
        exact ⟨S.kin, S.a0, S.a1, S.p0, S.p1, by show 0 ≤ sr.since / 2; omega, by show sr.since / 2 ≤ 1000000; omega⟩
      · exact ok.srcs s h
    · refine ⟨.ref d, rfl, ?_⟩
      refine ⟨.ref ay, rfl, ?_⟩
      refine ⟨ay, _, rfl, .inr (.inl (tk2 _ _ ray)), d, c, r, _, _, rfl, D2, by omega, by omega, by omega, fun H3 i k3 D3 i0 i1 => ?_⟩
      have k13 := k2.trans k3
      have tk3 := k13.tk D
      obtain ⟨j, rfl⟩ := Int.eq_ofNat_of_zero_le i0
      have hj : j < W.ways.length := by omega
      obtain ⟨y, hy⟩ : ∃ y, W.ways[j]? = some y := ⟨_, List.getElem?_eq_getElem hj⟩
      have Y := ok.ways y (List.mem_of_getElem? hy)
      obtain ⟨x, hx, ix⟩ := ims_at hys hy
      refine ⟨.int W.size, rfl, ?_⟩
      refine ⟨vk, rfl, ?_⟩
      refine ⟨.ref as, rfl, ?_⟩
      refine ⟨.ref ay, rfl, ?_⟩
      refine ⟨.int (j : Int), rfl, ?_⟩
      refine ⟨.ref d, rfl, ?_⟩
      refine ⟨.ref ay, rfl, ?_⟩
      refine ⟨.int (j : Int), rfl, ?_⟩
      refine ⟨ay, ys, (j : Int), x, rfl, rfl, .inl (tk3 _ _ ray), atI_nat hx, ?_⟩
      refine ⟨.int W.size, rfl, ?_⟩
      refine ⟨d, c, r, _, x, W.kinds, y, W.size, rfl, D3, by omega, ix.tk tk3, Y, n0, n6, fun H4 v y' k4 D4 iv Y' le => ?_⟩
      have k14 := k13.trans k4
      refine ⟨.ref ay, v, j, W.ways.map encY, _, rfl, hiy.tk (k14.tk D), by rw [List.length_map]; exact hj, by rw [List.length_map]; omega, iv, fun H5 v2 s5 iv2 => ?_⟩
      refine ⟨by show 4 ≤ sizeLine; decide, fun z nz => ?_⟩
      have k5 := k14.trans (Dk.sm s5)
      rw [map_set_enc] at iv2
      refine fin _ z _ _ W.sources _ k5 ((D4.sm s5).le (by omega)) nz (his.tk (k5.tk D)) iv2 ok.srcs (fun y2 hy2 => ?_) s0 hs6 (by rw [List.length_set]; omega)
        (more_of rfl rfl (fun s hs => ⟨s, hs, .refl s⟩) fun y2 hy2 => .inr (mem_set_of WayLe.refl hy le y2 hy2))
      rcases mem_set_cases hy2 with h | h
      · rw [h]
        exact Y'
      · exact ok.ways y2 h
end
end Ra
end

section
set_option Elab.async false
set_option linter.all false
set_option maxRecDepth 100000
set_option maxHeartbeats 4000000
/-! walks: a world told otherwise -/
namespace Ra
open PySem PySem.Spec PyProof.Rows L2 RZ

theorem perm_of_map {α β : Type} (f : α → β) {es ms : List β} (h : es.Perm ms) : ∀ l : List α, ms = l.map f → ∃ l' : List α, l'.Perm l ∧ es = l'.map f := by
  induction h with
  | nil =>
    intro l e
    cases l with
    | nil => exact ⟨[], .refl _, rfl⟩
    | cons a l => cases e
  | cons x _ ih =>
    intro l e
    cases l with
    | nil => cases e
    | cons a l =>
      rw [List.map_cons] at e
      cases e
      obtain ⟨l', p, e'⟩ := ih l rfl
      exact ⟨a :: l', p.cons a, by rw [List.map_cons, e']⟩
  | swap x y _ =>
    intro l e
    cases l with
    | nil => cases e
    | cons a l =>
      cases l with
      | nil => cases e
      | cons b l =>
        rw [List.map_cons, List.map_cons] at e
        cases e
        exact ⟨b :: a :: l, .swap .., rfl⟩
  | trans _ _ ih1 ih2 =>
    intro l e
    obtain ⟨l2, p2, e2⟩ := ih2 l e
    obtain ⟨l1, p1, e1⟩ := ih1 l2 e2
    exact ⟨l1, p1.trans p2, e1⟩
theorem tk_lst {H : Hp} {a : Addr} {us us' : List V} (e : H a = some (.lst us)) : Tk H (upd H a (.lst us')) := Tk.wr (Tk.refl _) fun zs hz => by
  rcases hz with hz | ⟨o, hz⟩
  · rw [e] at hz; cases hz
  · rw [e] at hz; cases hz
theorem cut_take (l : List V) (i : Nat) : cutV l none (some (i : Int)) = l.take i := by
  unfold cutV
  rw [HT.sIx_none, HT.sIx_nat, List.drop_zero, Nat.sub_zero]
  by_cases h : i ≤ l.length
  · rw [Nat.min_eq_left h]
  · rw [Nat.min_eq_right (by omega), List.take_of_length_le (Nat.le_refl _), List.take_of_length_le (by omega)]
theorem eras_ims {H : Hp} {us : List V} {ds : List PyData} (h : Ims H us ds) (j : Nat) : Ims H (us.eraseIdx j) (ds.eraseIdx j) := by
  induction us generalizing ds j with
  | nil =>
    cases ds with
    | nil => exact .nil
    | cons d ds => cases h.1
  | cons u us ih =>
    cases ds with
    | nil => cases h.1
    | cons d ds =>
      obtain ⟨x, r, e, h1, h2⟩ := ims_cons h
      cases e
      cases j with
      | zero => exact h2
      | succ j => exact .cons h1 (ih h2 j)
section
variable {P : Program} {w : World} {K : PySem.W.Frag} {mg : Str → Option Value} {base : Heap}

def spLTurned : Sp := fun vs H Q _ => ∃ (d c r : Addr) (n : Nat) (vr : V) (ds : List PyData), vs = [.ref d, vr] ∧ DrAt d c r n H ∧ n ≤ 30000 ∧ Im H vr (.tuple ds) ∧ ds.length ≤ 30 ∧ (∀ e ∈ ds, e.canLay0 = true ∧ e.depth ≤ 10) ∧
  ∀ H' v es, Dk d r H H' → DrAt d c r (n + 30) H' → es.Perm ds → Im H' v (.tuple es) → Q v H'
theorem ok_LTurned (T : TX K mg) : Cal P w K mg base 2 "_law_turned" ["_law_drawn", "_law_row"] spLTurned := by
  refine cal_of T.f_LTurned T.g_LTurned scLTurned (fun vs H Q E h => ?_) (fun cdv A outer s H vs Q E hr h => ?_)
  · obtain ⟨d, c, r, n, vr, ds, rfl, _⟩ := h
    rfl
  · obtain ⟨d, c, r, n, vr, ds, rfl, D, hn, ir, hl, hsh, q⟩ := h
    obtain ⟨a, xs, rfl, ra, ixs⟩ := im_tup ir
    refine ⟨_, (pss_cons (ps_par (i := 2) (j := 3) rfl scLTurned.nd rfl rfl (by decide) rfl rfl (pa_cons (pe_callTy call_list_of (by rfl) T.z_list (by decide +kernel) (pa_cons (pv 1) pa_nil)) (pa_cons (pe_lst pa_nil) pa_nil)) (by rfl)) (pss_cons (ps_while PassesOwn.never (pt_cmpR (op_neD hr.units) (pv 2) (pe_lst pa_nil) (nomark _)) (pss_one (ps_expr (pe_bm PySem.F.plainAttrs_list PySem.F.slot_list_append PySem.F.type_list_append mt_append (pv 3) (pa_cons (pe_bm PySem.F.plainAttrs_list PySem.F.slot_list_pop PySem.F.type_list_pop mt_popAt (pv 2) (pa_cons (pe_cal (ok_LNext T) (hr.mono (by decide)) (by rfl) (pa_cons (pv 0) (pa_cons (pe_callB call_len_seq (by rfl) T.z_len (by decide +kernel) (pa_cons (pv 2) pa_nil)) pa_nil))) pa_nil)) pa_nil))))) (pss_one (ps_ret (pe_callTy call_tuple_of (by rfl) T.z_tuple (by decide +kernel) (pa_cons (pv 3) pa_nil)))))), ?_⟩
    refine ⟨.ref a, rfl, a, xs, rfl, .inr (.inl ra), fun L nL => ?_⟩
    have s1 : Same H (upd H L (.lst xs)) := sm_new nL
    have eL : (upd H L (.lst xs)) L = some (.lst xs) := upd_same
    have dL := D.nd nL
    generalize upd H L (.lst xs) = H1 at s1 eL ⊢
    refine ⟨Nat.zero_le _, fun F nF => ?_⟩
    have dF := (D.sm s1).nd nF
    have nF0 : H F = none := same_none s1 nF
    have hLF : L ≠ F := ne_of_none eL nF
    have s2 : Same H1 (upd H1 F (.lst [])) := sm_new nF
    have eF : (upd H1 F (.lst [])) F = some (.lst []) := upd_same
    generalize upd H1 F (.lst []) = H2 at s2 eF ⊢
    refine ⟨_, _, rfl, ?_⟩
    refine ⟨fun m σ H' => ∃ (us vs : List V) (ds1 ds2 : List PyData), σ = [some (.ref d), some (.ref a), some (.ref L), some (.ref F)] ∧ Dk d r H H' ∧ DrAt d c r (n + ds2.length) H' ∧ H' L = some (.lst us) ∧ H' F = some (.lst vs) ∧ Ims H' us ds1 ∧ Ims H' vs ds2 ∧ (ds1 ++ ds2).Perm ds ∧ m = ds1.length,
      ⟨_, xs, [], ds, [], rfl, Dk.sm (s1.trans s2), D.sm (s1.trans s2), s2 _ _ eL, eF, ixs.sm (s1.trans s2), .nil, by rw [List.append_nil], rfl⟩, ?_⟩
    rintro m σ H3 ⟨us, vs, ds1, ds2, rfl, k3, D3, eL3, eF3, iu, iv, hp, rfl⟩
    have hlen : ds1.length + ds2.length = ds.length := by rw [← List.length_append, hp.length_eq]
    refine ⟨.ref L, rfl, Nat.zero_le _, fun t nt => ?_⟩
    have st := sm_new (o := .lst []) nt
    have et : (upd H3 t (.lst [])) t = some (.lst []) := upd_same
    generalize upd H3 t (.lst []) = H4 at st et ⊢
    have k4 := k3.trans (Dk.sm st)
    have D4 := D3.sm st
    have eL4 := st _ _ eL3
    have eF4 := st _ _ eF3
    have sh1 : SeqAt.shaped (.list ds1) = true := by
      have hm : ∀ e ∈ ds1, e.canLay0 = true ∧ e.depth ≤ 10 := fun e he => hsh e (hp.mem_iff.mp (List.mem_append_left _ he))
      refine shaped_of (n := 10 + 1) ?_ ?_ (by decide)
      · rw [PyData.canLay0]
        exact layAll fun d hd => (hm d hd).1
      · rw [PyData.depth]
        exact Nat.succ_le_succ (depAll fun d hd => (hm d hd).2)
    refine ⟨.list ds1, .list [], .lst (.of eL4) (iu.sm st).dp, .lst (.of et) .nil, sh1, by decide +kernel, _, rfl, ite2 (fun hne => ?_) (fun he => ?_)⟩
    · have hpos : 0 < ds1.length := by
        cases ds1 with
        | nil => exact absurd hne (by decide +kernel)
        | cons _ _ => exact Nat.succ_pos _
      have lu : us.length = ds1.length := iu.1
      refine ⟨fun σ H' => ∃ (us vs : List V) (es1 ds2 : List PyData), σ = [some (.ref d), some (.ref a), some (.ref L), some (.ref F)] ∧ Dk d r H H' ∧ DrAt d c r (n + ds2.length) H' ∧ H' L = some (.lst us) ∧ H' F = some (.lst vs) ∧ Ims H' us es1 ∧ Ims H' vs ds2 ∧ (es1 ++ ds2).Perm ds ∧ es1.length < ds1.length,
        fun σ' H' ⟨us, vs, es1, ds2, h1, h2, h3, h4, h5, h6, h7, h8, h9⟩ => ⟨_, h9, us, vs, es1, ds2, h1, h2, h3, h4, h5, h6, h7, h8, rfl⟩, ?_⟩
      refine ⟨.ref F, rfl, .inl ⟨rfl, _, .of eF4⟩, .ref L, rfl, .inl ⟨rfl, _, .of eL4⟩, .ref d, rfl, .ref L, rfl, L, _, rfl, .inl (.of eL4), ?_⟩
      refine ⟨d, c, r, _, (us.length : Int), rfl, D4, by omega, by omega, by omega, fun H5 z k5 D5 z0 z1 => ?_⟩
      obtain ⟨j, rfl⟩ := Int.eq_ofNat_of_zero_le z0
      have hj : j < us.length := by omega
      have hj2 : j < ds1.length := by omega
      have eL5 := k5.lst eL4 dL
      have eF5 := k5.lst eF4 dF
      have tk5 := k5.tk D4
      have iu5 := (iu.sm st).tk tk5
      have iv5 := (iv.sm st).tk tk5
      refine ⟨L, us, (j : Int), j, us[j], rfl, rfl, eL5, by omega, by omega, (ixN_seq (ixN_nat hj)).1, List.getElem?_eq_getElem hj, ?_⟩
      have u1 : (upd H5 L (.lst (us.eraseIdx j))) F = some (.lst vs) := by rw [upd_ne (Ne.symm hLF)]; exact eF5
      have t6 : Tk H5 (upd H5 L (.lst (us.eraseIdx j))) := tk_lst eL5
      have t7 : Tk (upd H5 L (.lst (us.eraseIdx j))) (upd (upd H5 L (.lst (us.eraseIdx j))) F (.lst (vs ++ [us[j]]))) := tk_lst u1
      refine ⟨F, vs, us[j], rfl, rfl, u1, small_lt (by rw [iv.1]; omega), us.eraseIdx j, vs ++ [us[j]], ds1.eraseIdx j, ds2 ++ [ds1[j]], rfl, ((k4.trans k5).out (p := L) (o := .lst (us.eraseIdx j)) nL).out (p := F) nF0, ?_, ?_, upd_same, ?_, ?_, ?_, ?_⟩
      · rw [List.length_append]
        exact ((D5.out dL).out dF).le (by simp only [List.length_singleton]; omega)
      · rw [upd_ne hLF, upd_same]
      · exact (eras_ims iu5 j).tk (t6.trans t7)
      · exact Ims.snoc (iv5.tk (t6.trans t7)) ((iu5.2 j _ _ (List.getElem?_eq_getElem hj) (List.getElem?_eq_getElem hj2)).tk (t6.trans t7))
      · refine List.Perm.trans ?_ hp
        have e1 : (ds1[j] :: ds1.eraseIdx j).Perm ds1 := perm_erase ds1 j hj2
        have e2 : (ds1.eraseIdx j ++ (ds2 ++ [ds1[j]])).Perm (ds1[j] :: (ds1.eraseIdx j ++ ds2)) := by
          rw [← List.append_assoc]
          exact List.perm_append_singleton _ _
        exact e2.trans (e1.append_right ds2)
      · rw [List.length_eraseIdx_of_lt hj2]
        omega
    · have h0 : ds1 = [] := by
        cases ds1 with
        | nil => rfl
        | cons x l =>
          refine absurd ?_ he
          show (!PyData.eqv (.list (x :: l)) (.list [])) = true
          rw [PyData.eqv]
          rfl
      subst h0
      refine ⟨.ref F, rfl, F, vs, rfl, .inl ⟨.of eF4, fun l nl => ?_⟩⟩
      exact q _ _ ds2 (k4.new nl) ((D4.sm (sm_new nl)).le (by simp only [List.length_nil] at hlen; omega)) hp (im_newtup nl (iv.sm st))
end
end Ra
end

section
set_option Elab.async false
set_option linter.all false
set_option maxRecDepth 100000
set_option maxHeartbeats 4000000
/-! walks: a world told otherwise -/
namespace Ra
open PySem PySem.Spec PyProof.Rows L2 RZ

def SrcSame (s s' : Src Str) : Prop := s'.kind = s.kind ∧ s'.age = s.age ∧ s'.place = s.place ∧ s'.since = s.since
section
variable {P : Program} {w : World} {K : PySem.W.Frag} {mg : Str → Option Value} {base : Heap}

def spLOtherwise : Sp := fun vs H Q _ => ∃ (d c r : Addr) (n : Nat) (vw : V) (W : WdS), vs = [.ref d, vw] ∧ DrAt d c r n H ∧ n ≤ 20000 ∧ WdAt H vw W ∧ WdOk W ∧ (∀ k ∈ W.kinds, k ∈ NAMES8) ∧ W.sources.length ≤ 6 ∧ W.ways.length ≤ 7 ∧
  ∀ H' v W', Dk d r H H' → DrAt d c r (n + 100) H' → WdAt H' v W' → WdOk W' → Alike W W' → Q v H'
set_option maxHeartbeats 8000000 in
theorem ok_LOtherwise (T : TX K mg) : Cal P w K mg base 3 "_law_otherwise" ["_law_drawn", "_law_world_here"] spLOtherwise := by
  refine cal_of T.f_LOtherwise T.g_LOtherwise scLOtherwise (fun vs H Q E h => ?_) (fun cdv A outer s H vs Q E hr h => ?_)
  · obtain ⟨d, c, r, n, vw, W, rfl, _⟩ := h
    rfl
  · obtain ⟨d, c, r, n, vw, W, rfl, D, hn, hW, ok, nm, hs6, hy9, q⟩ := h
    have n0 := ok.n0
    have n6 := ok.n1
    have l1 := ok.k0
    have l4 := ok.k1
    have s0 := ok.s0
    obtain ⟨aw, vk, vs, vy, rfl, raw, hk, his, hiy⟩ := hW.ex
    obtain ⟨as, xs, rfl, ras, hxs⟩ := list_at his
    obtain ⟨ay, ys, rfl, ray, hys⟩ := list_at hiy
    have hxl : xs.length = W.sources.length := by rw [hxs.1, List.length_map]
    have hyl : ys.length = W.ways.length := by rw [hys.1, List.length_map]
    refine ⟨_, (pss_cons (ps_asg (pv 1) (pg_tup rfl (pgs_cons (pg_name (i := 2) scLOtherwise.nd rfl (.inl rfl)) (pgs_cons (pg_name (i := 3) scLOtherwise.nd rfl (.inl rfl)) (pgs_cons (pg_name (i := 4) scLOtherwise.nd rfl (.inl rfl)) (pgs_cons (pg_name (i := 5) scLOtherwise.nd rfl (.inl rfl)) pgs_nil)))))) (pss_cons (ps_set (i := 6) scLOtherwise.nd rfl (.inl rfl) (pe_callTy call_tuple_of (by rfl) T.z_tuple (by decide +kernel) (pa_cons (pe_lc (own := [("_law_one_here", 10)]) (g := gName 10) rfl scLOtherwise.nd (pi_tup (pv 4)) (blkOk_by (N := ["_law_drawn", "_law_world_here", "_law_size", "_law_kinds", "_law_sources", "_law_ways", "_law_some", "_law_late", "_law_more_here", "_law_idle", "_law_one_here"]) (sc := defScope sLOtherwise) (by decide +kernel)) (fun _ _ _ _ _ => (pg_name (i := 10) scLOtherwise.nd rfl (.inl rfl))) (fun _ _ _ _ _ => pts_nil) (fun _ _ _ _ _ => (pe_op (op_catAK (K := K) rfl) (pe_slice (sl_tupAK (K := K) rfl) (pv 10) po_none (po_some pe_int)) (pe_tup (pa_cons (pe_op op_add pe_int (pe_cal (ok_LNext T) (hr.mono (by decide)) (by rfl) (pa_cons (pv 0) (pa_cons pe_int pa_nil)))) pa_nil))))) pa_nil))) (pss_cons (ps_set (i := 7) scLOtherwise.nd rfl (.inl rfl) (pe_cal (ok_LOne T) (hr.mono (by decide)) (by rfl) (pa_cons (pv 0) (pa_cons (pv 4) pa_nil)))) (pss_cons (ps_set (i := 6) scLOtherwise.nd rfl (.inl rfl) (pe_op op_catA (pv 6) (pe_tup (pa_cons (pe_tup (pa_cons (pe_ix ix_tup (pv 7) pe_int (fun _ _ => rfl)) (pa_cons (pe_ix ix_tup (pv 7) pe_int (fun _ _ => rfl)) (pa_cons (pe_ix ix_tup (pv 7) pe_int (fun _ _ => rfl)) (pa_cons (pe_callB (call_min2 rfl) (by rfl) T.z_min (by decide +kernel) (pa_cons (pe_op op_pow pe_int pe_int) (pa_cons (pe_op op_add (pe_ix ix_tup (pv 7) pe_int (fun _ _ => rfl)) (pe_cal (ok_LNext T) (hr.mono (by decide)) (by rfl) (pa_cons (pv 0) (pa_cons pe_int pa_nil)))) pa_nil))) (pa_cons pe_int pa_nil)))))) pa_nil)))) (pss_cons (ps_set (i := 8) scLOtherwise.nd rfl (.inl rfl) (pe_op op_catA (pv 5) (pe_slice sl_tupA (pv 5) po_none (po_some pe_int)))) (pss_cons (ps_set (i := 9) scLOtherwise.nd rfl (.inl rfl) (pe_tup (pa_cons (pe_cal (ok_LOne T) (hr.mono (by decide)) (by rfl) (pa_cons (pv 0) (pa_cons (pv 3) pa_nil))) (pa_cons (pe_tup (pa_cons (pe_tup (pa_cons (pe_ix ix_tup (pv 3) pe_int (fun _ _ => rfl)) (pa_cons pe_int (pa_cons pe_int pa_nil)))) pa_nil)) (pa_cons pe_str (pa_cons (pe_tup pa_nil) (pa_cons pe_int pa_nil))))))) (pss_one (ps_ret (pe_tup (pa_cons (pv 2) (pa_cons (pv 3) (pa_cons (pe_cal (ok_LTurned T) (hr.mono (by decide)) (by rfl) (pa_cons (pv 0) (pa_cons (pv 6) pa_nil))) (pa_cons (pe_cal (ok_LTurned T) (hr.mono (by decide)) (by rfl) (pa_cons (pv 0) (pa_cons (pe_op op_catA (pv 8) (pe_tup (pa_cons (pv 9) pa_nil))) pa_nil))) pa_nil))))))))))))), ?_⟩
    generalize hσ : L2.start _ _ = σ0
    have eσ : σ0 = [some (.ref d), some (.ref aw), none, none, none, none, none, none, none, none, none] := hσ.symm
    subst eσ
    clear hσ
    refine ⟨.ref aw, rfl, aw, _, rfl, .inl raw, rfl, ?_⟩
    refine ⟨_, _, rfl, ?_⟩
    refine ⟨_, _, rfl, ?_⟩
    refine ⟨_, _, rfl, ?_⟩
    refine ⟨_, _, rfl, rfl, ?_⟩
    refine ⟨.ref as, rfl, as, rfl, ⟨_, .inl ras⟩, fun A nA => ?_⟩
    have dA := D.nd nA
    refine lc_it (walk_tup (xs := xs)) (fun i H1 => Dk d r H H1 ∧ DrAt d c r (n + i) H1 ∧ ∃ (us : List V) (ss : List (Src Str)), H1 A = some (.lst us) ∧ Ims H1 us (ss.map encS) ∧ ss.length = i ∧ ∀ (j : Nat) s s', W.sources[j]? = some s → ss[j]? = some s' → SrcSame s s')
      ⟨Dk.sm (sm_new nA), D.sm (sm_new nA), [], [], upd_same, .nil, rfl, fun j s s' _ e => by cases e⟩ (fun i H1 _ ⟨k1, _⟩ => .inl (k1.tk D _ _ ras)) ?_ ?_
    · rintro i x0 H1 H2 hi ⟨k1, D1, us, ss, eA, iu, hsl, hss⟩ ⟨rfl, hx⟩
      obtain ⟨sr, hsr, ix⟩ := ims_of hxs hx
      have tk1 := k1.tk D
      obtain ⟨b, rfl, rb⟩ := src_at ix
      refine ⟨rfl, ty_yes ?_⟩
      refine ⟨.ref b, rfl, 4, rfl, ?_⟩
      refine cut_rd (tk1 _ _ rb) fun H3 e s3 re => ?_
      have k3 := k1.trans (Dk.sm s3)
      have D3 := D1.sm s3
      refine ⟨.ref d, rfl, d, c, r, _, 9, rfl, D3, by omega, by decide, by decide, fun H4 x k4 D4 x0 x1 => ⟨1, x, rfl, rfl, by show 1 ≤ sizeLine; decide, fun t nt => ?_⟩⟩
      have st := sm_new (o := .tup [.int (1 + x)]) nt
      refine cat_rd (ys := [.int (1 + x)]) (rd_sm st (k4.tk D3 _ _ re)) (.inl upd_same) (by show (cutV _ none (some ((4 : Nat) : Int))).length + 1 ≤ 1000; rw [cut_take]; simp) fun H5 f s5 rf => ?_
      have k5 := ((k3.trans k4).trans (Dk.sm st)).trans (Dk.sm s5)
      have k15 := (((Dk.sm s3).trans k4).trans (Dk.sm (d := d) (r := r) st)).trans (Dk.sm s5)
      have eA5 := k15.lst eA dA
      have iv : Im H5 (.ref f) (encS ⟨sr.kind, sr.age, sr.place, sr.since, 1 + x⟩) := Ims.im (xs := [.str sr.kind, .int sr.age, .int sr.place, .int sr.since, .int (1 + x)]) rf (.cons (.str _) (.cons (.int _) (.cons (.int _) (.cons (.int _) (.cons (.int _) .nil)))))
      refine ⟨us, eA5, small_lt (by rw [iu.1, List.length_map]; omega), k5.out nA, ((((D4.sm st).sm s5)).out dA).le (by omega), us ++ [.ref f], ss ++ [⟨sr.kind, sr.age, sr.place, sr.since, 1 + x⟩], upd_same, ?_, by rw [List.length_append, hsl]; rfl, fun j s s' h1 h2 => ?_⟩
      · rw [List.map_append]
        exact im_snoc eA5 (iu.tk (k15.tk D1)) iv
      · by_cases hj : j < ss.length
        · rw [List.getElem?_append_left hj] at h2
          exact hss j s s' h1 h2
        · have hle := (List.getElem?_eq_some_iff.mp h2).1
          rw [List.length_append, List.length_singleton] at hle
          have ej : j = i := by omega
          subst ej
          rw [List.getElem?_append_right (by omega), hsl, Nat.sub_self] at h2
          cases h2
          rw [hsr] at h1
          cases h1
          exact ⟨rfl, rfl, rfl, rfl⟩
    · rintro H1 ⟨k1, D1, us, ss, eA, iu, hsl, hss⟩
      rw [hxl] at hsl D1
      refine ⟨A, us, rfl, .inl ⟨.of eA, fun T6 n6' => ?_⟩⟩
      have s2 := sm_new (o := .tup us) n6'
      have r6 : Rd (upd H1 T6 (.tup us)) T6 (.tup us) := .inl upd_same
      have i6 := iu.sm s2
      generalize upd H1 T6 (.tup us) = H2 at s2 r6 i6 ⊢
      have k2 := k1.trans (Dk.sm s2)
      have D2 := D1.sm s2
      refine ⟨.ref d, rfl, ?_⟩
      refine ⟨.ref as, rfl, ?_⟩
      refine one_im D2 (k2.tk D _ _ ras) (hxs.tk (k2.tk D)) (by omega) (by rw [List.length_map]; exact s0) (by rw [List.length_map]; omega) fun H3 v y k3 D3 hy iv => ?_
      obtain ⟨s1, hs1, rfl⟩ := List.mem_map.mp hy
      have S1 := ok.srcs s1 hs1
      obtain ⟨b, rfl, rb⟩ := src_at iv
      have k13 := k2.trans k3
      refine ⟨.ref T6, rfl, ?_⟩
      refine ⟨.ref b, rfl, b, _, 0, .str s1.kind, rfl, rfl, .inl rb, atI_nat (j := 0) rfl, ?_⟩
      refine ⟨.ref b, rfl, b, _, 1, .int s1.age, rfl, rfl, .inl rb, atI_nat (j := 1) rfl, ?_⟩
      refine ⟨.ref b, rfl, b, _, 2, .int s1.place, rfl, rfl, .inl rb, atI_nat (j := 2) rfl, ?_⟩
      refine ⟨10, 6, rfl, rfl, ⟨by decide, by decide, by decide⟩, ?_⟩
      refine ⟨.ref b, rfl, b, _, 3, .int s1.since, rfl, rfl, .inl rb, atI_nat (j := 3) rfl, ?_⟩
      refine ⟨.ref d, rfl, d, c, r, _, 30, rfl, D3, by omega, by decide, by decide, fun H4 x k4 D4 x0 x1 => ⟨s1.since, x, rfl, rfl, 1000000, s1.since + x, rfl, ?_⟩⟩
      refine ⟨by show 5 ≤ sizeLine; decide, fun t1 nt1 => ?_⟩
      have sa := sm_new (o := .tup [.str s1.kind, .int s1.age, .int s1.place, .int (if s1.since + x < 1000000 then s1.since + x else 1000000), .int 1]) nt1
      have ila : Im (upd H4 t1 (.tup [.str s1.kind, .int s1.age, .int s1.place, .int (if s1.since + x < 1000000 then s1.since + x else 1000000), .int 1])) (.ref t1) (encS ⟨s1.kind, s1.age, s1.place, if s1.since + x < 1000000 then s1.since + x else 1000000, 1⟩) :=
        Ims.im (.inl upd_same) (.cons (.str _) (.cons (.int _) (.cons (.int _) (.cons (.int _) (.cons (.int _) .nil)))))
      refine ⟨by show 1 ≤ sizeLine; decide, fun t2 nt2 => ?_⟩
      generalize hla : (⟨s1.kind, s1.age, s1.place, if s1.since + x < 1000000 then s1.since + x else 1000000, 1⟩ : Src Str) = late at ila
      have hlate : SrcLe late s1 ∧ SrcOk W.size W.kinds late := by
        rw [← hla]
        have z0 := S1.s0
        have z1 := S1.s1
        refine ⟨⟨rfl, rfl, rfl, ?_⟩, S1.kin, S1.a0, S1.a1, S1.p0, S1.p1, ?_, ?_⟩
        · show s1.since ≤ if s1.since + x < 1000000 then s1.since + x else 1000000
          split <;> omega
        · show 0 ≤ if s1.since + x < 1000000 then s1.since + x else 1000000
          split <;> omega
        · show (if s1.since + x < 1000000 then s1.since + x else 1000000) ≤ 1000000
          split <;> omega
      have sb := sm_new (o := .tup [.ref t1]) nt2
      have rb2 : Rd (upd (upd H4 t1 (.tup [.str s1.kind, .int s1.age, .int s1.place, .int (if s1.since + x < 1000000 then s1.since + x else 1000000), .int 1])) t2 (.tup [.ref t1])) t2 (.tup [.ref t1]) := .inl upd_same
      have ila2 := ila.sm sb
      have sab := sa.trans sb
      generalize upd (upd H4 t1 (.tup [.str s1.kind, .int s1.age, .int s1.place, .int (if s1.since + x < 1000000 then s1.since + x else 1000000), .int 1])) t2 (.tup [.ref t1]) = H5 at sab rb2 ila2 ⊢
      have k25 := (k3.trans k4).trans (Dk.sm (d := d) (r := r) sab)
      have tk25 := k25.tk D2
      refine cat_rd (tk25 _ _ r6) rb2 (by rw [iu.1, List.length_map]; simp only [List.length_singleton]; omega) fun H6 T6' s6 r6' => ?_
      have ilate : Ims H6 (us ++ [.ref t1]) ((ss ++ [late]).map encS) := by
        rw [List.map_append]
        exact ((i6.tk tk25).append (ims1 ila2)).sm s6
      have k6 := (k2.trans k25).trans (Dk.sm s6)
      have D6 := (D4.sm sab).sm s6
      have tk6 := k6.tk D
      -- the ways
      refine ⟨.ref ay, rfl, ?_⟩
      refine ⟨.ref ay, rfl, 1, rfl, ?_⟩
      refine cut_rd (tk6 _ _ ray) fun H7 e s7 re => ?_
      rw [show cutV ys none (some 1) = ys.take 1 from cut_take ys 1] at re
      refine cat_rd (rd_sm s7 (tk6 _ _ ray)) re (by rw [List.length_take]; omega) fun H8 T8 s8 r8 => ?_
      have s78 := s7.trans s8
      have k8 := k6.trans (Dk.sm s78)
      have D8 := D6.sm s78
      have tk8 := k8.tk D
      have i8 : Ims H8 (ys ++ ys.take 1) ((W.ways ++ W.ways.take 1).map encY) := by
        rw [List.map_append, List.map_take]
        exact (hys.tk tk8).append ((hys.tk tk8).take 1)
      -- the idle one
      have hk8 := hk.tz (k8.tz D)
      refine ⟨.ref d, rfl, ?_⟩
      refine ⟨vk, rfl, ?_⟩
      refine one_k D8 hk8 (by omega) l1 (by omega) fun H9 ik k9 D9 hik => ?_
      have k9' := k8.trans k9
      obtain ⟨ak, ko, rfl, hko, _⟩ := hk.tz (k9'.tz D)
      obtain ⟨k0, hk0⟩ : ∃ k0, W.kinds[0]? = some k0 := ⟨_, List.getElem?_eq_getElem (by omega)⟩
      refine ⟨.ref ak, rfl, ak, _, 0, .str k0, rfl, rfl, .inl (.inr ⟨ko, hko⟩), atI_nat (j := 0) (by rw [List.getElem?_map, hk0]; rfl), ?_⟩
      refine ⟨by show 3 ≤ sizeLine; decide, fun p1 np1 => ?_⟩
      have sp1 := sm_new (o := .tup [.str k0, .int 0, .int 20]) np1
      have ip1 : Im (upd H9 p1 (.tup [.str k0, .int 0, .int 20])) (.ref p1) (encP ⟨k0, 0, 20⟩) := Ims.im (.inl upd_same) (.cons (.str _) (.cons (.int _) (.cons (.int _) .nil)))
      generalize upd H9 p1 (.tup [.str k0, .int 0, .int 20]) = H10 at sp1 ip1 ⊢
      refine ⟨by show 1 ≤ sizeLine; decide, fun p2 np2 => ?_⟩
      have sp2 := sm_new (o := .tup [.ref p1]) np2
      have ip2 : Im (upd H10 p2 (.tup [.ref p1])) (.ref p2) (.tuple ([⟨k0, 0, 20⟩].map encP)) := Ims.im (.inl upd_same) (ims1 (ip1.sm sp2))
      generalize upd H10 p2 (.tup [.ref p1]) = H11 at sp2 ip2 ⊢
      refine ⟨Nat.zero_le _, fun p3 np3 => ?_⟩
      have sp3 := sm_new (o := .tup []) np3
      have ip3 : Im (upd H11 p3 (.tup [])) (.ref p3) (.tuple (([] : List Int).map .int)) := Ims.im (.inl upd_same) .nil
      generalize upd H11 p3 (.tup []) = H12 at sp3 ip3 ⊢
      refine ⟨by show 5 ≤ sizeLine; decide, fun p4 np4 => ?_⟩
      have sp4 := sm_new (o := .tup [.str ik, .ref p2, .str "oldest", .ref p3, .int 1]) np4
      have ip4 : Im (upd H12 p4 (.tup [.str ik, .ref p2, .str "oldest", .ref p3, .int 1])) (.ref p4) (encY ⟨ik, [⟨k0, 0, 20⟩], true, [], 1⟩) :=
        Ims.im (.inl upd_same) (.cons (.str _) (.cons ((ip2.sm sp3).sm sp4) (.cons (.str _) (.cons (ip3.sm sp4) (.cons (.int _) .nil)))))
      generalize upd H12 p4 (.tup [.str ik, .ref p2, .str "oldest", .ref p3, .int 1]) = H13 at sp4 ip4 ⊢
      have hk0m := List.mem_of_getElem? hk0
      have sp := ((sp1.trans sp2).trans sp3).trans sp4
      generalize hid : (⟨ik, [⟨k0, 0, 20⟩], true, [], 1⟩ : Wy Str) = idle at ip4
      have hidle : idle.hours = [] ∧ WyOk W.size W.kinds idle := by
        rw [← hid]
        exact ⟨rfl, hik, Nat.le_refl 1, (show 1 ≤ 3 by decide), fun p hp => by
          rw [List.mem_singleton.mp hp]
          exact ⟨hk0m, Int.le_refl 0, (show (0 : Int) ≤ 20 by decide), Int.le_refl 20⟩, fun h hh => (nomatch hh), (show 0 ≤ 6 by decide), Int.le_refl 1, (show (1 : Int) ≤ 6 by decide)⟩
      have k13' := k9'.trans (Dk.sm sp)
      have D13 := D9.sm sp
      have k813 := k9.trans (Dk.sm (d := d) (r := r) sp)
      have tk813 := k813.tk D8
      have tk613 := tk813
      have iss13 : Ims H13 (us ++ [.ref t1]) ((ss ++ [late]).map encS) := (ilate.sm s78).tk tk813
      have r613 : Rd H13 T6' (.tup (us ++ [.ref t1])) := tk813 _ _ (rd_sm s78 r6')
      have hssok : ∀ s' ∈ ss, ∃ s ∈ W.sources, SrcSame s s' := fun s' hs' => by
        obtain ⟨j, hj⟩ := List.mem_iff_getElem?.mp hs'
        obtain ⟨s, hs⟩ : ∃ s, W.sources[j]? = some s := ⟨_, List.getElem?_eq_getElem (by rw [← hsl]; exact (List.getElem?_eq_some_iff.mp hj).1)⟩
        exact ⟨s, List.mem_of_getElem? hs, hss j s s' hs hj⟩
      have hssok2 : ∀ s ∈ W.sources, ∃ s' ∈ ss, SrcSame s s' := fun s hs => by
        obtain ⟨j, hj⟩ := List.mem_iff_getElem?.mp hs
        obtain ⟨s', hs'⟩ : ∃ s', ss[j]? = some s' := ⟨_, List.getElem?_eq_getElem (by rw [hsl]; exact (List.getElem?_eq_some_iff.mp hj).1)⟩
        exact ⟨s', List.mem_of_getElem? hs', hss j s s' hj hs'⟩
      have okS : ∀ s' ∈ ss ++ [late], SrcOk W.size W.kinds s' := fun s' hs' => by
        rcases List.mem_append.mp hs' with h | h
        · obtain ⟨s, hs, e1, e2, e3, e4⟩ := hssok s' h
          have S := ok.srcs s hs
          exact ⟨by rw [e1]; exact S.kin, by rw [e2]; exact S.a0, by rw [e2]; exact S.a1, by rw [e3]; exact S.p0, by rw [e3]; exact S.p1, by rw [e4]; exact S.s0, by rw [e4]; exact S.s1⟩
        · rw [List.mem_singleton.mp h]
          exact hlate.2
      have okY : ∀ y ∈ W.ways ++ W.ways.take 1 ++ [idle], WyOk W.size W.kinds y := fun y hy => by
        rcases List.mem_append.mp hy with h | h
        · rcases List.mem_append.mp h with h | h
          · exact ok.ways y h
          · exact ok.ways y (List.mem_of_mem_take h)
        · rw [List.mem_singleton.mp h]
          exact hidle.2
      have hak : KdAt H13 (.ref ak) W.kinds := ⟨ak, ko, rfl, sp _ _ hko, by assumption⟩
      refine ⟨.int W.size, rfl, ?_⟩
      refine ⟨.ref ak, rfl, ?_⟩
      refine ⟨.ref d, rfl, ?_⟩
      refine ⟨.ref T6', rfl, ?_⟩
      refine ⟨d, c, r, _, .ref T6', (ss ++ [late]).map encS, rfl, D13, by omega, Ims.im r613 iss13, by rw [List.length_map, List.length_append]; simp only [List.length_singleton]; omega, fun e he => ?_, fun H14 v1 es k14 D14 pe iv1 => ?_⟩
      · obtain ⟨s', hs', rfl⟩ := List.mem_map.mp he
        have := src_lay (nm _ (okS s' hs').kin)
        exact ⟨this.1, Nat.le_trans this.2 (by decide)⟩
      obtain ⟨ss', pss, rfl⟩ := perm_of_map encS pe _ rfl
      have tk14 := k14.tk D13
      refine ⟨.ref d, rfl, ?_⟩
      refine ⟨.ref T8, rfl, ?_⟩
      refine ⟨.ref p4, rfl, ?_⟩
      refine ⟨by show 1 ≤ sizeLine; decide, fun t5 nt5 => ?_⟩
      have s15 := sm_new (o := .tup [.ref p4]) nt5
      refine cat_rd (ys := [.ref p4]) (rd_sm s15 (tk14 _ _ (tk813 _ _ r8))) (.inl upd_same) (by rw [List.length_append, List.length_take]; simp only [List.length_singleton]; omega) fun H16 T9 s16 r9 => ?_
      have s1516 := s15.trans s16
      have iy16 : Ims H16 (ys ++ ys.take 1 ++ [.ref p4]) ((W.ways ++ W.ways.take 1 ++ [idle]).map encY) := by
        rw [List.map_append]
        exact (((i8.tk tk813).append (ims1 ip4)).tk tk14).sm s1516
      have D16 := D14.sm s1516
      refine ⟨d, c, r, _, .ref T9, (W.ways ++ W.ways.take 1 ++ [idle]).map encY, rfl, D16, by omega, Ims.im r9 iy16, by simp only [List.length_map, List.length_append, List.length_take, List.length_singleton]; omega, fun e he => ?_, fun H17 v2 es2 k17 D17 pe2 iv2 => ?_⟩
      · obtain ⟨y', hy', rfl⟩ := List.mem_map.mp he
        have w2 := wy_names (okY y' hy') nm
        have := way_lay w2.1 w2.2
        exact ⟨this.1, Nat.le_trans this.2 (by decide)⟩
      obtain ⟨yy', pyy, rfl⟩ := perm_of_map encY pe2 _ rfl
      refine ⟨by show 4 ≤ sizeLine; decide, fun z nz => ?_⟩
      have sz := sm_new (o := .tup [.int W.size, .ref ak, v1, v2]) nz
      have kE := (((k13'.trans k14).trans (Dk.sm s1516)).trans k17).trans (Dk.sm sz)
      have k14E := ((Dk.sm (d := d) (r := r) s1516).trans k17).trans (Dk.sm sz)
      have hly : yy'.length = W.ways.length + min 1 W.ways.length + 1 := by
        rw [pyy.length_eq]
        simp only [List.length_append, List.length_take, List.length_singleton]
      have hls : ss'.length = W.sources.length + 1 := by
        rw [pss.length_eq, List.length_append, hsl, List.length_singleton]
      refine q _ _ ⟨W.size, W.kinds, ss', yy'⟩ kE ((D17.sm sz).le (by omega)) ⟨z, .ref ak, v1, v2, rfl, .inl upd_same, (hak.tz ((k14.trans k14E).tz D13)), iv1.tk (k14E.tk D14), iv2.sm sz⟩
        ⟨n0, n6, l1, l4, ok.kn, by show 1 ≤ ss'.length; omega, by show ss'.length ≤ 8; omega, by show yy'.length ≤ 10; omega, fun s hs => okS s (pss.mem_iff.mp hs), fun y hy => okY y (pyy.mem_iff.mp hy)⟩
        ⟨more_of rfl rfl (fun s hs => ?_) (fun y hy => .inr ⟨y, pyy.mem_iff.mpr (List.mem_append_left _ (List.mem_append_left _ hy)), .refl y⟩), more_of rfl rfl (fun s' hs' => ?_) (fun y hy => ?_)⟩
      · obtain ⟨s', hs', e1, e2, e3, e4⟩ := hssok2 s hs
        exact ⟨s', pss.mem_iff.mpr (List.mem_append_left _ hs'), e1, e2, e3, by omega⟩
      · rcases List.mem_append.mp (pss.mem_iff.mp hs') with h | h
        · obtain ⟨s, hs, e1, e2, e3, e4⟩ := hssok s' h
          exact ⟨s, hs, e1.symm, e2.symm, e3.symm, by omega⟩
        · rw [List.mem_singleton.mp h]
          exact ⟨s1, hs1, hlate.1⟩
      · rcases List.mem_append.mp (pyy.mem_iff.mp hy) with h | h
        · rcases List.mem_append.mp h with h | h
          · exact .inr ⟨y, h, .refl y⟩
          · exact .inr ⟨y, List.mem_of_mem_take h, .refl y⟩
        · rw [List.mem_singleton.mp h]
          exact .inl hidle.1
end
end Ra
end

section
set_option Elab.async false
set_option linter.all false
set_option maxRecDepth 100000
set_option maxHeartbeats 4000000
/-! the law -/
namespace Ra
open PySem PySem.Spec PyProof.Rows L2 RZ

theorem list_ext2 {α : Type} {l m : List α} (hl : l.length = m.length) (h : ∀ (i : Nat) x y, l[i]? = some x → m[i]? = some y → x = y) : l = m := by
  refine List.ext_getElem? fun i => ?_
  by_cases hi : i < l.length
  · rw [List.getElem?_eq_getElem hi, List.getElem?_eq_getElem (by omega)]
    exact congrArg some (h i _ _ (List.getElem?_eq_getElem hi) (List.getElem?_eq_getElem (by omega)))
  · rw [List.getElem?_eq_none (by omega), List.getElem?_eq_none (by omega)]
theorem tb_ext {n s : Nat} {A B : Tb} (a1 : A.length = n) (b1 : B.length = n) (a2 : ∀ r ∈ A, r.length = s) (b2 : ∀ r ∈ B, r.length = s) (a3 : ∀ r ∈ A, ∀ s ∈ r, s.length = 27) (b3 : ∀ r ∈ B, ∀ s ∈ r, s.length = 27)
    (h : ∀ (i p a : Nat) ra rb sa sb x y, A[i]? = some ra → B[i]? = some rb → ra[p]? = some sa → rb[p]? = some sb → sa[a]? = some x → sb[a]? = some y → x = y) : A = B :=
  list_ext2 (by omega) fun i ra rb h1 h2 => list_ext2 (by rw [a2 ra (List.mem_of_getElem? h1), b2 rb (List.mem_of_getElem? h2)]) fun p sa sb h3 h4 =>
    list_ext2 (by rw [a3 ra (List.mem_of_getElem? h1) sa (List.mem_of_getElem? h3), b3 rb (List.mem_of_getElem? h2) sb (List.mem_of_getElem? h4)]) fun a x y h5 h6 => h i p a ra rb sa sb x y h1 h2 h3 h4 h5 h6
/-- a cell of a table, by its kind -/
theorem tv_cell {W : WdS} (ok : WdOk W) {T : Tb} (tb : TbOk W T) {i p a : Nat} {r : List (List (Option Int))} {s : List (Option Int)} {x : Option Int} (hr : T[i]? = some r) (hs : r[p]? = some s) (hx : s[a]? = some x) :
    ∃ k, W.kinds[i]? = some k ∧ p < W.size.toNat ∧ a < 27 ∧ tv W T k (p : Int) (a : Int) = x := by
  have hi := (List.getElem?_eq_some_iff.mp hr).1
  have hp := (List.getElem?_eq_some_iff.mp hs).1
  have ha := (List.getElem?_eq_some_iff.mp hx).1
  rw [tb.r r (List.mem_of_getElem? hr)] at hp
  rw [tb.s r (List.mem_of_getElem? hr) s (List.mem_of_getElem? hs)] at ha
  obtain ⟨k, hk⟩ : ∃ k, W.kinds[i]? = some k := ⟨_, List.getElem?_eq_getElem (by rw [← tb.n]; exact hi)⟩
  refine ⟨k, hk, hp, ha, ?_⟩
  unfold tv
  rw [idx_nodup ok.kn hk, hr]
  show (r[(p : Int).toNat]?.getD [])[(a : Int).toNat]?.getD none = x
  rw [Int.toNat_natCast, Int.toNat_natCast, hs]
  show s[a]?.getD none = x
  rw [hx]
  rfl
theorem tv_same {W : WdS} (ok : WdOk W) {A B : Tb} (ta : TbOk W A) (tb : TbOk W B) : (∀ k p a, k ∈ W.kinds → 0 ≤ p → p < W.size → 0 ≤ a → a ≤ 26 → tv W A k p a = tv W B k p a) ↔ A = B := by
  constructor
  · intro h
    refine tb_ext ta.n tb.n ta.r tb.r ta.s tb.s fun i p a ra rb sa sb x y h1 h2 h3 h4 h5 h6 => ?_
    obtain ⟨k, hk, hp, ha, e1⟩ := tv_cell ok ta h1 h3 h5
    obtain ⟨k', hk', _, _, e2⟩ := tv_cell ok tb h2 h4 h6
    rw [hk] at hk'
    cases hk'
    rw [← e1, ← e2]
    exact h k p a (List.mem_of_getElem? hk) (by omega) (by omega) (by omega) (by omega)
  · rintro rfl k p a _ _ _ _ _
    rfl
theorem tv_kinds {W W' : WdS} (h : W'.kinds = W.kinds) (T : Tb) : tv W' T = tv W T := by
  unfold tv
  rw [h]
theorem tb_to {W W' : WdS} (hs : W'.size = W.size) (hk : W'.kinds = W.kinds) {T : Tb} (t : TbOk W' T) : TbOk W T := ⟨by rw [t.n, hk], fun r hr => by rw [t.r r hr, hs], t.s⟩
theorem tabOk_to {W W' : WdS} (hs : W'.size = W.size) (hk : W'.kinds = W.kinds) {t : Tv Str} (T : TabOk W' t) : TabOk W t :=
  ⟨fun k p a x h1 h2 h3 h4 h5 e => by
    have := T.md k p a x (by rw [hk]; exact h1) h2 (by rw [hs]; exact h3) h4 h5 e
    rw [hs] at this
    exact this, fun k p a x h1 h2 h3 h4 h5 e => T.mono k p a x (by rw [hk]; exact h1) h2 (by rw [hs]; exact h3) h4 h5 e⟩
theorem within_of {W : WdS} (ok : WdOk W) {A B : Tb} (ta : TbOk W A) (tb : TbOk W B) (h : ∀ k p a x, k ∈ W.kinds → 0 ≤ p → p < W.size → 0 ≤ a → a ≤ 26 → tv W A k p a = some x → ∃ y, tv W B k p a = some y ∧ y ≤ x) : lesserT A B = B := by
  have hA : (lesserT A B).length = W.kinds.length := by
    unfold lesserT
    rw [List.length_zipWith, ta.n, tb.n, Nat.min_self]
  have hAr : ∀ i r, (lesserT A B)[i]? = some r → ∃ ra rb, A[i]? = some ra ∧ B[i]? = some rb ∧ r = List.zipWith (List.zipWith lesserO) ra rb := fun i r e => by
    have hi := (List.getElem?_eq_some_iff.mp e).1
    rw [hA] at hi
    obtain ⟨ra, h1⟩ : ∃ ra, A[i]? = some ra := ⟨_, List.getElem?_eq_getElem (by rw [ta.n]; exact hi)⟩
    obtain ⟨rb, h2⟩ : ∃ rb, B[i]? = some rb := ⟨_, List.getElem?_eq_getElem (by rw [tb.n]; exact hi)⟩
    have := zw_at (f := List.zipWith (List.zipWith lesserO)) h1 h2
    refine ⟨ra, rb, h1, h2, ?_⟩
    rw [show (lesserT A B)[i]? = (List.zipWith (List.zipWith (List.zipWith lesserO)) A B)[i]? from rfl, this] at e
    exact (Option.some.inj e).symm
  refine list_ext2 (by rw [hA, tb.n]) fun i r rb h1 h2 => ?_
  obtain ⟨ra, rb', e1, e2, rfl⟩ := hAr i r h1
  rw [h2] at e2
  cases e2
  have la := ta.r ra (List.mem_of_getElem? e1)
  have lb := tb.r rb (List.mem_of_getElem? h2)
  refine list_ext2 (by rw [List.length_zipWith]; omega) fun p s sb h3 h4 => ?_
  have hp := (List.getElem?_eq_some_iff.mp h4).1
  obtain ⟨sa, h5⟩ : ∃ sa, ra[p]? = some sa := ⟨_, List.getElem?_eq_getElem (by omega)⟩
  rw [zw_at h5 h4] at h3
  cases h3
  have lsa := ta.s ra (List.mem_of_getElem? e1) sa (List.mem_of_getElem? h5)
  have lsb := tb.s rb (List.mem_of_getElem? h2) sb (List.mem_of_getElem? h4)
  refine list_ext2 (by rw [List.length_zipWith]; omega) fun a x y h6 h7 => ?_
  have ha := (List.getElem?_eq_some_iff.mp h7).1
  obtain ⟨z, h8⟩ : ∃ z, sa[a]? = some z := ⟨_, List.getElem?_eq_getElem (by omega)⟩
  rw [zw_at h8 h7] at h6
  cases h6
  obtain ⟨k, hk, hp2, ha2, v1⟩ := tv_cell ok ta e1 h5 h8
  obtain ⟨k', hk', _, _, v2⟩ := tv_cell ok tb h2 h4 h7
  rw [hk] at hk'
  cases hk'
  cases z with
  | none => rfl
  | some z =>
    obtain ⟨u, hu, hle⟩ := h k p a z (List.mem_of_getElem? hk) (by omega) (by omega) (by omega) (by omega) v1
    rw [v2] at hu
    subst hu
    show some (if u < z then u else z) = some u
    by_cases q : u < z
    · rw [if_pos q]
    · rw [if_neg q]
      congr 1
      omega
section
variable {P : Program} {w : World} {K : PySem.W.Frag} {mg : Str → Option Value} {base : Heap}

def spLaw (K : PySem.W.Frag) : Sp := fun vs H Q _ => ∃ (a : Addr) (ns : List Int), vs = [.ref a] ∧ SqL K H a (ns.map V.int) ∧ ns.length ≤ 63 ∧ ∀ H', Q (.bl true) H'
set_option maxHeartbeats 8000000 in
theorem ok_Law (T : TX K mg) {fd : FuncData} (F : Fn0 K "law" "law" ["_law_script"] sLaw (He.ga K "law") fd) : FnOk P w K mg base CX0 9 (He.ga K "law") fd ["_law_script"] (spLaw K) := by
  refine fnok_of F scLaw (fun vs H Q E h => ?_) (fun cdv A outer s H vs Q E hr h => ?_)
  · obtain ⟨a, ns, rfl, _⟩ := h
    rfl
  · obtain ⟨a, ns, rfl, ha, hl, q⟩ := h
    refine ⟨_, (pss_cons (ps_set (i := 1) scLaw.nd rfl (.inl rfl) (pe_cal (ok_LDraws T) (hr.mono (by decide)) (by rfl) (pa_cons (pv 0) pa_nil))) (pss_cons (ps_set (i := 2) scLaw.nd rfl (.inl rfl) (pe_cal (ok_LWorld T) (hr.mono (by decide)) (by rfl) (pa_cons (pv 1) pa_nil))) (pss_cons (ps_set (i := 3) scLaw.nd rfl (.inl rfl) (pe_cal (ok_Table T) (hr.mono (by decide)) (by rfl) (pa_cons (pv 2) pa_nil))) (pss_cons (ps_if (pt_cmpR (op_neD hr.units) (pe_cal (ok_Table T) (hr.mono (by decide)) (by rfl) (pa_cons (pe_cal (ok_LOtherwise T) (hr.mono (by decide)) (by rfl) (pa_cons (pv 1) (pa_cons (pv 2) pa_nil))) pa_nil)) (pv 3) (nomark _)) (pss_one (ps_ret pe_bl)) pss_nil) (pss_cons (ps_for PassesOwn.never rfl (pi_range1 (by rfl) T.z_range (pa_cons pe_int pa_nil)) (pg_name (i := 4) scLaw.nd rfl (.inl rfl)) (pss_cons (ps_set (i := 5) scLaw.nd rfl (.inl rfl) (pe_cal (ok_LMore T) (hr.mono (by decide)) (by rfl) (pa_cons (pv 1) (pa_cons (pv 2) pa_nil)))) (pss_cons (ps_set (i := 6) scLaw.nd rfl (.inl rfl) (pe_cal (ok_Table T) (hr.mono (by decide)) (by rfl) (pa_cons (pv 5) pa_nil))) (pss_cons (ps_if (PW.pt (pw_or (pt_cmpR op_isnot_bl (pe_cal (ok_Within T) (hr.mono (by decide)) (by rfl) (pa_cons (pv 3) (pa_cons (pv 6) pa_nil))) pe_bl (nomark _)) (pw_or1 (pt_cmpR op_isnot_bl (pe_cal (ok_IsShut T) (hr.mono (by decide)) (by rfl) (pa_cons (pv 2) (pa_cons (pv 6) pa_nil))) pe_bl (nomark _))))) (pss_one (ps_ret pe_bl)) pss_nil) (pss_cons (ps_if (pt_cmpR op_ne (pe_cal (ok_IsShut T) (hr.mono (by decide)) (by rfl) (pa_cons (pv 5) (pa_cons (pv 3) pa_nil))) (pe_cmpR (op_eqD hr.units) (pv 6) (pv 3) (nomark _)) (nomark _)) (pss_one (ps_ret pe_bl)) pss_nil) (pss_one (ps_par (i := 2) (j := 3) rfl scLaw.nd rfl rfl (by decide) rfl rfl (pa_cons (pv 5) (pa_cons (pv 6) pa_nil)) (by rfl)))))))) (pss_one (ps_ret pe_bl))))))), ?_⟩
    generalize hσ : L2.start _ _ = σ0
    have eσ : σ0 = [some (.ref a), none, none, none, none, none, none] := hσ.symm
    subst eσ
    clear hσ
    refine ⟨.ref a, rfl, a, ns, rfl, ha, hl, fun H1 d c r s1 D1 => ?_⟩
    refine ⟨.ref d, rfl, d, c, r, 0, rfl, D1, by decide, fun H2 vw W k2 D2 hW ok nm hs4 hy4 => ?_⟩
    refine ⟨vw, rfl, vw, W, rfl, hW, ok, fun H3 vt Tt s3 it tb L => ?_⟩
    have D3 := D2.sm s3
    have hW3 := hW.sm s3
    refine ⟨.ref d, rfl, ?_⟩
    refine ⟨vw, rfl, d, c, r, _, vw, W, rfl, D3, by omega, hW3, ok, nm, by omega, by omega, fun H4 v4 W4 k4 D4 hW4 ok4 al => ?_⟩
    refine ⟨v4, W4, rfl, hW4, ok4, fun H5 v5 T5 s5 it5 tb5 L5 => ?_⟩
    have it' : Im H5 vt (encT Tt) := (it.tk (k4.tk D3)).sm s5
    have hsz := al.to.size
    have hkn := al.to.kinds
    have e5 : T5 = Tt := by
      refine ((tv_same ok tb (tb_to hsz hkn tb5)).mp fun k p a hk p0 p1 a0 a1 => ?_).symm
      have := Least.same ok ok4 L L5 hsz hkn al.can hk p0 p1 a0 a1
      rw [tv_kinds hkn] at this
      exact this
    subst e5
    refine ⟨vt, rfl, encT T5, encT T5, it5.dp, it'.dp, shaped_tb _, shaped_tb _, false, ?_, iteF ?_⟩
    · rw [eqv_tb, decide_eq_true rfl]
      rfl
    refine ⟨3, rfl, by decide, by decide, ?_⟩
    have kk5 : Dk d r H3 H5 := k4.trans (Dk.sm s5)
    refine for_range (lo := 0) (n := (3 : Int).toNat) (fun i σ H6 => ∃ vw W vt Tt y4 y5 y6, σ = [some (.ref a), some (.ref d), some vw, some vt, y4, y5, y6] ∧ DrAt d c r (500 + 40 * i) H6 ∧ WdAt H6 vw W ∧ WdOk W ∧ (∀ k ∈ W.kinds, k ∈ NAMES8) ∧ W.sources.length ≤ 6 ∧ W.ways.length ≤ 4 + i ∧
      Im H6 vt (encT Tt) ∧ TbOk W Tt ∧ Least W (tv W Tt)) ⟨vw, W, vt, T5, none, none, none, rfl, (D4.sm s5).le (by omega), hW3.tz (kk5.tz D3), ok, nm, by omega, by omega, it', tb, L⟩ ?_ ?_
    · clear hW hW3 it it' L L5 tb tb5 ok ok4 al it5 hW4 hsz hkn nm hs4 hy4 s3 s5 kk5 k4 D3 D4 k2 D2 D1 s1
      rintro i σ H6 hi ⟨vw, W, vt, Tt, y4, y5, y6, rfl, D6, hW, ok, nm, hs6, hy, it, tb, L⟩
      have hi3 : i < 3 := hi
      refine ⟨.ref d, rfl, ?_⟩
      refine ⟨vw, rfl, d, c, r, _, vw, W, rfl, D6, by omega, hW, ok, nm, hs6, by omega, fun H7 v7 W7 k7 D7 hW7 ok7 mo hs7 hy7 => ?_⟩
      refine ⟨v7, rfl, v7, W7, rfl, hW7, ok7, fun H8 v8 T8 s8 it8 tb8 L8 => ?_⟩
      have hsz := mo.size
      have hkn := mo.kinds
      have k8 := k7.trans (Dk.sm (d := d) (r := r) s8)
      have it' : Im H8 vt (encT Tt) := it.tk (k8.tk D6)
      have hW' : WdAt H8 vw W := hW.tz (k8.tz D6)
      have tb8' := tb_to hsz hkn tb8
      have etv : tv W7 T8 = tv W T8 := tv_kinds hkn T8
      have etv2 : tv W7 Tt = tv W Tt := tv_kinds hkn Tt
      have L8' : Least W7 (tv W T8) := etv ▸ L8
      have hwi : lesserT Tt T8 = T8 := within_of ok tb tb8' fun k p a x hk p0 p1 a0 a1 e => Least.le ok L L8' hsz (fun k o m c => mo.can c) hk p0 p1 a0 a1 e
      refine ⟨vt, rfl, ?_⟩
      refine ⟨v8, rfl, vt, v8, W, Tt, T8, rfl, ok, tb, tb8', it', it8, fun H9 s9 => ?_⟩
      rw [decide_eq_true hwi]
      refine ⟨true, true, rfl, rfl, false, rfl, iteF ?_⟩
      have s89 := s8.trans s9
      refine ⟨vw, rfl, ?_⟩
      refine ⟨v8, rfl, vw, v8, W, T8, rfl, ⟨hW'.sm s9, it8.sm s9, ok, tb8'⟩, tabOk_to hsz hkn (Least.tabOk ok7 L8'), fun H10 b s10 hb => ?_⟩
      have hbt : b = true := hb.mpr (Least.shut_more ok ok7 L8' mo)
      subst hbt
      refine ⟨true, true, rfl, rfl, false, rfl, iteF ?_⟩
      have s810 := s9.trans s10
      have hW10 : WdAt H10 v7 W7 := (hW7.sm s8).sm s810
      refine ⟨v7, rfl, ?_⟩
      refine ⟨vt, rfl, v7, vt, W7, Tt, rfl, ⟨hW10, it'.sm s810, ok7, tb_to hsz.symm hkn.symm tb⟩, ?_, fun H11 b s11 hb => ?_⟩
      · rw [etv2]
        exact tabOk_to hsz.symm hkn.symm (Least.tabOk ok L)
      rw [etv2] at hb
      have s811 := s810.trans s11
      have hbe : b = decide (T8 = Tt) := by
        rw [Bool.eq_iff_iff, hb, decide_eq_true_eq, Least.shut_back ok ok7 L L8' mo]
        exact tv_same ok tb8' tb
      refine ⟨v8, rfl, ?_⟩
      refine ⟨vt, rfl, encT T8, encT Tt, (it8.sm s811).dp, (it'.sm s811).dp, shaped_tb _, shaped_tb _, rfl, false, ?_, iteF ?_⟩
      · rw [eqv_tb, hbe, decide_eq_true rfl]
        rfl
      refine ⟨v7, rfl, ?_⟩
      refine ⟨v8, rfl, _, _, rfl, ?_⟩
      exact ⟨v7, W7, v8, T8, _, _, _, rfl, ((D7.sm s8).sm s811).le (by omega), hW10.sm s11, ok7, fun k hk => nm k (by rw [← hkn]; exact hk), hs7, by omega, it8.sm s811, tb8, L8⟩
    · rintro σ H6 ⟨vw, W, vt, Tt, y4, y5, y6, rfl, _⟩
      exact q H6
end
end Ra
end

section
set_option Elab.async false
set_option linter.all false
set_option maxRecDepth 100000
set_option maxHeartbeats 0
/-! the head and the walk, joined -/
namespace Ra
open PySem PySem.Spec PyProof.Rows L2
theorem txOf {K : PySem.W.Frag} {h : Heap} {mg : Str → Option Value} (X : K.In h) (G : h.Ns mainGlobals mg) (c : He.SaysD faL fnL K) : TX K mg where
  f_IsNumber := by
    obtain ⟨fd, F⟩ := c.def_ 0 (d := dIsNumber) rfl
    exact ⟨fd, F, FunD.bindsN F fun _ _ _ _ _ _ us hl => match us, hl with | [_, _, _], _ => rfl⟩
  g_IsNumber := He.glo_ok X G (c.fact 0 (f := .glo "is_number") rfl)
  f_IsRow := by
    obtain ⟨fd, F⟩ := c.def_ 1 (d := dIsRow) rfl
    exact ⟨fd, F, FunD.bindsN F fun _ _ _ _ _ _ us hl => match us, hl with | [_, _, _], _ => rfl⟩
  g_IsRow := He.glo_ok X G (c.fact 1 (f := .glo "is_row") rfl)
  f_FirstAt := by
    obtain ⟨fd, F⟩ := c.def_ 2 (d := dFirstAt) rfl
    exact ⟨fd, F, FunD.bindsN F fun _ _ _ _ _ _ us hl => match us, hl with | [_, _, _], _ => rfl⟩
  g_FirstAt := He.glo_ok X G (c.fact 2 (f := .glo "first_at") rfl)
  f_FirstOf := by
    obtain ⟨fd, F⟩ := c.def_ 3 (d := dFirstOf) rfl
    exact ⟨fd, F, FunD.bindsN F fun _ _ _ _ _ _ us hl => match us, hl with | [_, _], _ => rfl⟩
  g_FirstOf := He.glo_ok X G (c.fact 3 (f := .glo "first_of") rfl)
  f_HandedOn := by
    obtain ⟨fd, F⟩ := c.def_ 4 (d := dHandedOn) rfl
    exact ⟨fd, F, FunD.bindsN F fun _ _ _ _ _ _ us hl => match us, hl with | [_, _], _ => rfl⟩
  g_HandedOn := He.glo_ok X G (c.fact 4 (f := .glo "handed_on") rfl)
  f_Bears := by
    obtain ⟨fd, F⟩ := c.def_ 5 (d := dBears) rfl
    exact ⟨fd, F, FunD.bindsN F fun _ _ _ _ _ _ us hl => match us, hl with | [_, _, _, _], _ => rfl⟩
  g_Bears := He.glo_ok X G (c.fact 5 (f := .glo "bears") rfl)
  f_Nearest := by
    obtain ⟨fd, F⟩ := c.def_ 6 (d := dNearest) rfl
    exact ⟨fd, F, FunD.bindsN F fun _ _ _ _ _ _ us hl => match us, hl with | [_, _, _], _ => rfl⟩
  g_Nearest := He.glo_ok X G (c.fact 6 (f := .glo "nearest") rfl)
  f_Chosen := by
    obtain ⟨fd, F⟩ := c.def_ 7 (d := dChosen) rfl
    exact ⟨fd, F, FunD.bindsN F fun _ _ _ _ _ _ us hl => match us, hl with | [_, _, _], _ => rfl⟩
  g_Chosen := He.glo_ok X G (c.fact 7 (f := .glo "chosen") rfl)
  f_Init := by
    obtain ⟨fd, F⟩ := c.def_ 8 (d := dInit) rfl
    exact ⟨fd, F, FunD.bindsN F fun _ _ _ _ _ _ us hl => match us, hl with | [_, _], _ => rfl⟩
  f_Expect := by
    obtain ⟨fd, F⟩ := c.def_ 9 (d := dExpect) rfl
    exact ⟨fd, F, FunD.bindsN F fun _ _ _ _ _ _ us hl => match us, hl with | [_, _, _, _, _], _ => rfl⟩
  m_Expect := He.meth_ok (c.fact 70 (f := .meth "Growth" "expect") rfl)
  f_Settle := by
    obtain ⟨fd, F⟩ := c.def_ 10 (d := dSettle) rfl
    exact ⟨fd, F, FunD.bindsN F fun _ _ _ _ _ _ us hl => match us, hl with | [_, _, _, _], _ => rfl⟩
  m_Settle := He.meth_ok (c.fact 71 (f := .meth "Growth" "settle") rfl)
  f_AgesAt := by
    obtain ⟨fd, F⟩ := c.def_ 11 (d := dAgesAt) rfl
    exact ⟨fd, F, FunD.bindsN F fun _ _ _ _ _ _ us hl => match us, hl with | [_, _, _], _ => rfl⟩
  m_AgesAt := He.meth_ok (c.fact 72 (f := .meth "Growth" "ages_at") rfl)
  f_TryWay := by
    obtain ⟨fd, F⟩ := c.def_ 12 (d := dTryWay) rfl
    exact ⟨fd, F, FunD.bindsN F fun _ _ _ _ _ _ us hl => match us, hl with | [_, _, _, _, _], _ => rfl⟩
  m_TryWay := He.meth_ok (c.fact 73 (f := .meth "Growth" "try_way") rfl)
  f_MakeAll := by
    obtain ⟨fd, F⟩ := c.def_ 13 (d := dMakeAll) rfl
    exact ⟨fd, F, FunD.bindsN F fun _ _ _ _ _ _ us hl => match us, hl with | [_, _, _, _], _ => rfl⟩
  m_MakeAll := He.meth_ok (c.fact 74 (f := .meth "Growth" "make_all") rfl)
  f_NumberOf := by
    obtain ⟨fd, F⟩ := c.def_ 14 (d := dNumberOf) rfl
    exact ⟨fd, F, FunD.bindsN F fun _ _ _ _ _ _ us hl => match us, hl with | [_, _, _, _], _ => rfl⟩
  m_NumberOf := He.meth_ok (c.fact 75 (f := .meth "Growth" "number_of") rfl)
  f_Table := by
    obtain ⟨fd, F⟩ := c.def_ 15 (d := dTable) rfl
    exact ⟨fd, F, FunD.bindsN F fun _ _ _ _ _ _ us hl => match us, hl with | [_], _ => rfl⟩
  g_Table := He.glo_ok X G (c.fact 8 (f := .glo "table") rfl)
  f_IsStair := by
    obtain ⟨fd, F⟩ := c.def_ 16 (d := dIsStair) rfl
    exact ⟨fd, F, FunD.bindsN F fun _ _ _ _ _ _ us hl => match us, hl with | [_, _, _], _ => rfl⟩
  g_IsStair := He.glo_ok X G (c.fact 9 (f := .glo "is_stair") rfl)
  f_IsTable := by
    obtain ⟨fd, F⟩ := c.def_ 17 (d := dIsTable) rfl
    exact ⟨fd, F, FunD.bindsN F fun _ _ _ _ _ _ us hl => match us, hl with | [_, _], _ => rfl⟩
  g_IsTable := He.glo_ok X G (c.fact 10 (f := .glo "is_table") rfl)
  f_Stands := by
    obtain ⟨fd, F⟩ := c.def_ 18 (d := dStands) rfl
    exact ⟨fd, F, FunD.bindsN F fun _ _ _ _ _ _ us hl => match us, hl with | [_, _, _, _, _], _ => rfl⟩
  g_Stands := He.glo_ok X G (c.fact 11 (f := .glo "stands") rfl)
  f_Has := by
    obtain ⟨fd, F⟩ := c.def_ 19 (d := dHas) rfl
    exact ⟨fd, F, FunD.bindsN F fun _ _ _ _ _ _ us hl => match us, hl with | [_, _, _, _, _], _ => rfl⟩
  g_Has := He.glo_ok X G (c.fact 12 (f := .glo "has") rfl)
  f_Lesser := by
    obtain ⟨fd, F⟩ := c.def_ 20 (d := dLesser) rfl
    exact ⟨fd, F, FunD.bindsN F fun _ _ _ _ _ _ us hl => match us, hl with | [_, _], _ => rfl⟩
  g_Lesser := He.glo_ok X G (c.fact 13 (f := .glo "lesser") rfl)
  f_PutTogether := by
    obtain ⟨fd, F⟩ := c.def_ 21 (d := dPutTogether) rfl
    exact ⟨fd, F, FunD.bindsN F fun _ _ _ _ _ _ us hl => match us, hl with | [_, _, _], _ => rfl⟩
  g_PutTogether := He.glo_ok X G (c.fact 14 (f := .glo "put_together") rfl)
  f_Within := by
    obtain ⟨fd, F⟩ := c.def_ 22 (d := dWithin) rfl
    exact ⟨fd, F, FunD.bindsN F fun _ _ _ _ _ _ us hl => match us, hl with | [_, _], _ => rfl⟩
  g_Within := He.glo_ok X G (c.fact 15 (f := .glo "within") rfl)
  f_IsLacked := by
    obtain ⟨fd, F⟩ := c.def_ 23 (d := dIsLacked) rfl
    exact ⟨fd, F, FunD.bindsN F fun _ _ _ _ _ _ us hl => match us, hl with | [_, _, _], _ => rfl⟩
  g_IsLacked := He.glo_ok X G (c.fact 16 (f := .glo "is_lacked") rfl)
  f_ThereAt := by
    obtain ⟨fd, F⟩ := c.def_ 24 (d := dThereAt) rfl
    exact ⟨fd, F, FunD.bindsN F fun _ _ _ _ _ _ us hl => match us, hl with | [_, _, _, _, _], _ => rfl⟩
  g_ThereAt := He.glo_ok X G (c.fact 17 (f := .glo "there_at") rfl)
  f_LeastMoment := by
    obtain ⟨fd, F⟩ := c.def_ 25 (d := dLeastMoment) rfl
    exact ⟨fd, F, FunD.bindsN F fun _ _ _ _ _ _ us hl => match us, hl with | [_, _, _, _, _], _ => rfl⟩
  g_LeastMoment := He.glo_ok X G (c.fact 18 (f := .glo "least_moment") rfl)
  f_IsUnmade := by
    obtain ⟨fd, F⟩ := c.def_ 26 (d := dIsUnmade) rfl
    exact ⟨fd, F, FunD.bindsN F fun _ _ _ _ _ _ us hl => match us, hl with | [_, _, _, _, _], _ => rfl⟩
  g_IsUnmade := He.glo_ok X G (c.fact 19 (f := .glo "is_unmade") rfl)
  f_Soonest := by
    obtain ⟨fd, F⟩ := c.def_ 27 (d := dSoonest) rfl
    exact ⟨fd, F, FunD.bindsN F fun _ _ _ _ _ _ us hl => match us, hl with | [_, _, _, _, _, _], _ => rfl⟩
  g_Soonest := He.glo_ok X G (c.fact 20 (f := .glo "soonest") rfl)
  f_Partners := by
    obtain ⟨fd, F⟩ := c.def_ 28 (d := dPartners) rfl
    exact ⟨fd, F, FunD.bindsN F fun _ _ _ _ _ _ us hl => match us, hl with | [_, _, _, _, _, _], _ => rfl⟩
  g_Partners := He.glo_ok X G (c.fact 21 (f := .glo "partners") rfl)
  f_WayLeak := by
    obtain ⟨fd, F⟩ := c.def_ 29 (d := dWayLeak) rfl
    exact ⟨fd, F, FunD.bindsN F fun _ _ _ _ _ _ us hl => match us, hl with | [_, _, _, _], _ => rfl⟩
  g_WayLeak := He.glo_ok X G (c.fact 22 (f := .glo "way_leak") rfl)
  f_Leak := by
    obtain ⟨fd, F⟩ := c.def_ 30 (d := dLeak) rfl
    exact ⟨fd, F, FunD.bindsN F fun _ _ _ _ _ _ us hl => match us, hl with | [_, _], _ => rfl⟩
  g_Leak := He.glo_ok X G (c.fact 23 (f := .glo "leak") rfl)
  f_IsShut := by
    obtain ⟨fd, F⟩ := c.def_ 31 (d := dIsShut) rfl
    exact ⟨fd, F, FunD.bindsN F fun _ _ _ _ _ _ us hl => match us, hl with | [_, _], _ => rfl⟩
  g_IsShut := He.glo_ok X G (c.fact 24 (f := .glo "is_shut") rfl)
  f_LDraws := by
    obtain ⟨fd, F⟩ := c.def_ 32 (d := dLDraws) rfl
    exact ⟨fd, F, FunD.bindsN F fun _ _ _ _ _ _ us hl => match us, hl with | [_], _ => rfl⟩
  g_LDraws := He.glo_ok X G (c.fact 25 (f := .glo "_law_draws") rfl)
  f_LNext := by
    obtain ⟨fd, F⟩ := c.def_ 33 (d := dLNext) rfl
    exact ⟨fd, F, FunD.bindsN F fun _ _ _ _ _ _ us hl => match us, hl with | [_, _], _ => rfl⟩
  g_LNext := He.glo_ok X G (c.fact 26 (f := .glo "_law_next") rfl)
  f_LOne := by
    obtain ⟨fd, F⟩ := c.def_ 34 (d := dLOne) rfl
    exact ⟨fd, F, FunD.bindsN F fun _ _ _ _ _ _ us hl => match us, hl with | [_, _], _ => rfl⟩
  g_LOne := He.glo_ok X G (c.fact 27 (f := .glo "_law_one") rfl)
  f_LNames := by
    obtain ⟨fd, F⟩ := c.def_ 35 (d := dLNames) rfl
    exact ⟨fd, F, FunD.bindsN F fun _ _ _ _ _ _ us hl => match us, hl with | [_], _ => rfl⟩
  g_LNames := He.glo_ok X G (c.fact 28 (f := .glo "_law_names") rfl)
  f_LHours := by
    obtain ⟨fd, F⟩ := c.def_ 36 (d := dLHours) rfl
    exact ⟨fd, F, FunD.bindsN F fun _ _ _ _ _ _ us hl => match us, hl with | [_, _], _ => rfl⟩
  g_LHours := He.glo_ok X G (c.fact 29 (f := .glo "_law_hours") rfl)
  f_LPart := by
    obtain ⟨fd, F⟩ := c.def_ 37 (d := dLPart) rfl
    exact ⟨fd, F, FunD.bindsN F fun _ _ _ _ _ _ us hl => match us, hl with | [_, _, _], _ => rfl⟩
  g_LPart := He.glo_ok X G (c.fact 30 (f := .glo "_law_part") rfl)
  f_LSource := by
    obtain ⟨fd, F⟩ := c.def_ 38 (d := dLSource) rfl
    exact ⟨fd, F, FunD.bindsN F fun _ _ _ _ _ _ us hl => match us, hl with | [_, _, _, _], _ => rfl⟩
  g_LSource := He.glo_ok X G (c.fact 31 (f := .glo "_law_source") rfl)
  f_LWay := by
    obtain ⟨fd, F⟩ := c.def_ 39 (d := dLWay) rfl
    exact ⟨fd, F, FunD.bindsN F fun _ _ _ _ _ _ us hl => match us, hl with | [_, _, _, _], _ => rfl⟩
  g_LWay := He.glo_ok X G (c.fact 32 (f := .glo "_law_way") rfl)
  f_LWorld := by
    obtain ⟨fd, F⟩ := c.def_ 40 (d := dLWorld) rfl
    exact ⟨fd, F, FunD.bindsN F fun _ _ _ _ _ _ us hl => match us, hl with | [_], _ => rfl⟩
  g_LWorld := He.glo_ok X G (c.fact 33 (f := .glo "_law_world") rfl)
  f_LWith := by
    obtain ⟨fd, F⟩ := c.def_ 41 (d := dLWith) rfl
    exact ⟨fd, F, FunD.bindsN F fun _ _ _ _ _ _ us hl => match us, hl with | [_, _, _], _ => rfl⟩
  g_LWith := He.glo_ok X G (c.fact 34 (f := .glo "_law_with") rfl)
  f_LWider := by
    obtain ⟨fd, F⟩ := c.def_ 42 (d := dLWider) rfl
    exact ⟨fd, F, FunD.bindsN F fun _ _ _ _ _ _ us hl => match us, hl with | [_, _, _], _ => rfl⟩
  g_LWider := He.glo_ok X G (c.fact 35 (f := .glo "_law_wider") rfl)
  f_LMore := by
    obtain ⟨fd, F⟩ := c.def_ 43 (d := dLMore) rfl
    exact ⟨fd, F, FunD.bindsN F fun _ _ _ _ _ _ us hl => match us, hl with | [_, _], _ => rfl⟩
  g_LMore := He.glo_ok X G (c.fact 36 (f := .glo "_law_more") rfl)
  f_LTurned := by
    obtain ⟨fd, F⟩ := c.def_ 44 (d := dLTurned) rfl
    exact ⟨fd, F, FunD.bindsN F fun _ _ _ _ _ _ us hl => match us, hl with | [_, _], _ => rfl⟩
  g_LTurned := He.glo_ok X G (c.fact 37 (f := .glo "_law_turned") rfl)
  f_LOtherwise := by
    obtain ⟨fd, F⟩ := c.def_ 45 (d := dLOtherwise) rfl
    exact ⟨fd, F, FunD.bindsN F fun _ _ _ _ _ _ us hl => match us, hl with | [_, _], _ => rfl⟩
  g_LOtherwise := He.glo_ok X G (c.fact 38 (f := .glo "_law_otherwise") rfl)
  f_Law := by
    obtain ⟨fd, F⟩ := c.def_ 46 (d := dLaw) rfl
    exact ⟨fd, F, FunD.bindsN F fun _ _ _ _ _ _ us hl => match us, hl with | [_], _ => rfl⟩
  g_Law := He.glo_ok X G (c.fact 39 (f := .glo "law") rfl)
  gC := He.glo_ok X G (c.fact 40 (f := .glo "Growth") rfl)
  cl := He.cls_ok (c.fact 62 (f := .cls "Growth") rfl)
  mkG := He.mkr_ok (c.fact 63 (f := .mkr "Growth") rfl)
  n_here := He.noat_ok (c.fact 64 (f := .noat "Growth" "here") rfl)
  n_size := He.noat_ok (c.fact 65 (f := .noat "Growth" "size") rfl)
  n_moments := He.noat_ok (c.fact 66 (f := .noat "Growth" "moments") rfl)
  n_reasons := He.noat_ok (c.fact 67 (f := .noat "Growth" "reasons") rfl)
  n_pending := He.noat_ok (c.fact 68 (f := .noat "Growth" "pending") rfl)
  n_ages := He.noat_ok (c.fact 69 (f := .noat "Growth" "ages") rfl)
  i_OLD := He.int_ok X G (c.fact 41 (f := .int "OLD" 20) rfl)
  i_READY := He.int_ok X G (c.fact 42 (f := .int "READY" 26) rfl)
  i_LAST := He.int_ok X G (c.fact 43 (f := .int "LAST" 3000000000000000) rfl)
  s_OLDEST := He.str_ok X G (c.fact 44 (f := .str "OLDEST" "oldest") rfl)
  s_BROUGHT := He.str_ok X G (c.fact 45 (f := .str "BROUGHT" "brought") rfl)
  s_MADE := He.str_ok X G (c.fact 46 (f := .str "MADE" "made") rfl)
  s_WAITED := He.str_ok X G (c.fact 47 (f := .str "WAITED" "waited") rfl)
  z_isinstance := He.free_ok X G (c.fact 48 (f := .free "isinstance") rfl)
  z_int := He.free_ok X G (c.fact 49 (f := .free "int") rfl)
  z_bool := He.free_ok X G (c.fact 50 (f := .free "bool") rfl)
  z_tuple := He.free_ok X G (c.fact 51 (f := .free "tuple") rfl)
  z_len := He.free_ok X G (c.fact 52 (f := .free "len") rfl)
  z_min := He.free_ok X G (c.fact 53 (f := .free "min") rfl)
  z_max := He.free_ok X G (c.fact 54 (f := .free "max") rfl)
  z_enumerate := He.free_ok X G (c.fact 55 (f := .free "enumerate") rfl)
  z_range := He.free_ok X G (c.fact 56 (f := .free "range") rfl)
  z_all := He.free_ok X G (c.fact 57 (f := .free "all") rfl)
  z_zip := He.free_ok X G (c.fact 58 (f := .free "zip") rfl)
  z_list := He.free_ok X G (c.fact 59 (f := .free "list") rfl)
  z_set := He.free_ok X G (c.fact 60 (f := .free "set") rfl)
  z_sorted := He.free_ok X G (c.fact 61 (f := .free "sorted") rfl)
theorem factsR {P : Program} {w : World} {K : PySem.W.Frag} {h : Heap} {mg : Str → Option Value} {f : Addr} (X : K.In h) (G : h.Ns mainGlobals mg) (hfa : mg ("law" : Str) = some (.ref f)) (c : He.SaysD faL fnL K) :
    ∃ fd : FuncData, (∀ (s : Shared) (v : Value), BindsTo s fd ⟨[v], []⟩ [("_law_script", v)]) ∧ ∀ base : Heap, K.In base → base.Ns mainGlobals mg → FnOk P w K mg base CX0 9 f fd ["_law_script"] (spLaw K) := by
  have T := txOf X G c
  obtain ⟨fd, F⟩ := c.def_ 46 (d := dLaw) rfl
  have e := hfa.symm.trans T.g_Law
  cases e
  have b := FunD.bindsA (ps := ["_law_script"]) F fun _ _ _ _ _ _ us hl => match us, hl with | [_], _ => rfl
  have bn := FunD.bindsN F (ps := ["_law_script"]) fun _ _ _ _ _ _ us hl => match us, hl with | [_], _ => rfl
  exact ⟨fd, fun s v => b s [v] rfl, fun base _ _ => ok_Law T ⟨F, bn⟩⟩
end Ra
open PySem PySem.W PySem.Calls PyProof.Rows
theorem PySem.Challenge.cw_rightage_k26_whole_more_takes_nothing_aw_holds : PySem.Challenge.rw_rightage_k26_whole_more_takes_nothing_aw.Holds := by
  w_on; o_law
  refine HandSHeadRun.head_any (r := OpenLaw.row PySem.Challenge.rw_rightage_k26_whole_more_takes_nothing_aw) (q := view (OpenLaw.row PySem.Challenge.rw_rightage_k26_whole_more_takes_nothing_aw).prog [54]) (H := Ra.hkR) (ob := Ra.obR) (M := 4000) (loose := Ra.loR) (d := HandSHeadRun.topDef (OpenLaw.row PySem.Challenge.rw_rightage_k26_whole_more_takes_nothing_aw).prog 54) (kwd := []) Ra.obR_eq
    (by kernel_rfl) (fun s => by kernel_rfl) Ra.runR (by kernel_rfl) (by kernel_rfl) (by kernel_rfl) (by rfl) (by first | assumption | decide +kernel) (by decide +kernel) ⟨rfl, rfl, rfl, rfl, rfl, by decide +kernel⟩ ?hw ?hc
  case hw => w_witness2
  case hc =>
    refine L2.walk_ofE (l := PySem.Challenge.rw_rightage_k26_whole_more_takes_nothing_aw) (n := 63) (k := 9) (x := "_law_script") (CX := L2.CX0) rfl (by decide) (by kernel_rfl) ⟨rfl, by decide, by decide⟩ ?F (fun _ _ _ _ z => z)
    intro w mg fa h Y G hmg0
    obtain ⟨K, KX, c⟩ := Y
    have hmg : mg ("law" : PySem.Str) = some (.ref fa) := by
      have e : (HandSHeadRun.topDef (OpenLaw.row PySem.Challenge.rw_rightage_k26_whole_more_takes_nothing_aw).prog 54).name = ("law" : PySem.Str) := by kernel_rfl
      rw [← e]
      exact hmg0
    obtain ⟨fd, hb, hF⟩ := Ra.factsR (P := (PySem.Challenge.rw_rightage_k26_whole_more_takes_nothing_aw).prog) (w := w) KX G hmg c
    exact ⟨K, fd, Ra.spLaw K, KX, hb, fun H a ns hl _ hS => ⟨a, ns, rfl, hS, hl, fun _ => rfl⟩, hF⟩
end

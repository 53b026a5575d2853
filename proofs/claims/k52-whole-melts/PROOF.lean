import PyProof.Rows.All
import Wide.All
import OpenK.AllK
import Wide.FinOn
import HandS.ForMost
import HandS.ForExc
import HandS.Defaults
import HandS.Head0
import HandS.Head1
import HandS.Head2
import HandS.HeadEnd
import HandS.HeadHook1
import HandS.HeadHook2
import HandS.HeadHook3
import HandS.HeadHook4
import HandS.HeadWalk
import KE.KExcInit
import KE.KExcSuper
import KE.KExcMake
import KE.KSuper
import KE.KSuperObj
import HandS.Evl
import HandS.Walk
import HandS.Deep
import HandS.TupAny
import HandS.Star
import HandS.Words
import HandS.WordsExc
import HandS.Style
import HandS.IsInst
import HandS.Wide
import HandS.WideBits
import HandS.Replace
import HandS.Zip
import HandS.Iter
import HandS.Codes
import HandS.Exc
import HandS.Lambda
import HandS.Call
import KE.GoesZip
import KE.GoesMore
import KE.GoesEnum
import HandS.TupMul
import HandS.Dict
import HandS.Flow
import HandS.Text
import PyProof.Rows.StrCountLaw
import HandS.Set
import HandS.SetBool
import HandS.SetFor
import HandS.More
import PyProof.EqLayable
import PyProof.ReprRoads
import PyProof.StrLawsRepr
import PyProof.FitsInt
import KE.KTupSum
import HandS.EndBits
import HandS.EndTab
import PySem.Challenge.RW_stairpay_k52_whole_melts
/-! ## StText -/
set_option Elab.async false
set_option maxRecDepth 100000
namespace Stair
open PySem L2

def top (i : Nat) : Stmt := PySem.Challenge.pw_stairpay_k52_whole_melts.main.body.getD i (.Pass ⟨0, 0, 0, 0⟩)
abbrev sIsWhole : Stmt := top 19
abbrev sIsWord : Stmt := top 20
abbrev sAreNames : Stmt := top 21
abbrev sAreFigures : Stmt := top 22
abbrev sIsRun : Stmt := top 23
abbrev sNeedDeal : Stmt := top 24
abbrev sNeedNumber : Stmt := top 25
abbrev sCountIn : Stmt := top 26
abbrev sPartsOf : Stmt := top 27
abbrev sCountBy : Stmt := top 28
abbrev sHasIn : Stmt := top 29
abbrev sPlaceIn : Stmt := top 30
abbrev sNameIn : Stmt := top 31
abbrev sRowPart : Stmt := top 32
abbrev sHas : Stmt := top 33
abbrev sNamesOf : Stmt := top 36
abbrev sSignedRuns : Stmt := top 37
abbrev sTurnedFigures : Stmt := top 38
abbrev sRoundPart : Stmt := top 39
abbrev sLeastRoot : Stmt := top 40
abbrev sIsHouse : Stmt := top 44
abbrev sNeedNet : Stmt := top 45
abbrev sHousesOf : Stmt := top 46
abbrev sPeopleIn : Stmt := top 47
abbrev sLeadsOut : Stmt := top 48
abbrev sShutIn : Stmt := top 49
abbrev sShutHouses : Stmt := top 50
abbrev sNeedOpen : Stmt := top 51
abbrev sNeedAmounts : Stmt := top 52
abbrev sHandedParts : Stmt := top 53
abbrev sRoundBehind : Stmt := top 54
abbrev sTotalsIn : Stmt := top 55
abbrev sPaidIn : Stmt := top 56
abbrev sPaidOut : Stmt := top 57
abbrev sNeedHouse : Stmt := top 58
abbrev sMeltedPart : Stmt := top 62
abbrev sFateIn : Stmt := top 63
abbrev sMeltedFate : Stmt := top 64
abbrev sMelt : Stmt := top 65
abbrev sLastUnlike : Stmt := top 67
abbrev sGoesRound : Stmt := top 68
abbrev sLawBegun : Stmt := top 70
abbrev sLawDraw : Stmt := top 71
abbrev sLawOf : Stmt := top 72
abbrev sLawPeople : Stmt := top 73
abbrev sLawFigures : Stmt := top 74
abbrev sLawNet : Stmt := top 75
abbrev sLawStanding : Stmt := top 76
abbrev sLawNext : Stmt := top 77
abbrev sLawFilm : Stmt := top 78
abbrev sLawOutcome : Stmt := top 79
abbrev sLawLeast : Stmt := top 80
abbrev sLawRight : Stmt := top 81
abbrev sLawWide : Stmt := top 82
abbrev sLaw : Stmt := top 83
abbrev sWInit : Stmt := inClass (top 61) 0
abbrev sWDealtBy : Stmt := inClass (top 61) 1
abbrev sWPaidOne : Stmt := inClass (top 61) 2
end Stair
/-! ## StHd1 -/
set_option Elab.async false
set_option linter.all false
set_option maxRecDepth 100000
set_option maxHeartbeats 0
namespace Stair
open PySem L2
def dIsWhole : He.DefD := ⟨("is_whole", none), "is_whole", "is_whole", defArgs sIsWhole, defBody sIsWhole, defScope sIsWhole, [], []⟩
def dIsWord : He.DefD := ⟨("is_word", none), "is_word", "is_word", defArgs sIsWord, defBody sIsWord, defScope sIsWord, [], []⟩
def dAreNames : He.DefD := ⟨("are_names", none), "are_names", "are_names", defArgs sAreNames, defBody sAreNames, defScope sAreNames, [], []⟩
def dAreFigures : He.DefD := ⟨("are_figures", none), "are_figures", "are_figures", defArgs sAreFigures, defBody sAreFigures, defScope sAreFigures, [], []⟩
def dIsRun : He.DefD := ⟨("is_run", none), "is_run", "is_run", defArgs sIsRun, defBody sIsRun, defScope sIsRun, [], []⟩
def dNeedDeal : He.DefD := ⟨("need_deal", none), "need_deal", "need_deal", defArgs sNeedDeal, defBody sNeedDeal, defScope sNeedDeal, [], []⟩
def dNeedNumber : He.DefD := ⟨("need_number", none), "need_number", "need_number", defArgs sNeedNumber, defBody sNeedNumber, defScope sNeedNumber, [], []⟩
def dCountIn : He.DefD := ⟨("count_in", none), "count_in", "count_in", defArgs sCountIn, defBody sCountIn, defScope sCountIn, [], []⟩
def dPartsOf : He.DefD := ⟨("parts_of", none), "parts_of", "parts_of", defArgs sPartsOf, defBody sPartsOf, defScope sPartsOf, [], []⟩
def dCountBy : He.DefD := ⟨("count_by", none), "count_by", "count_by", defArgs sCountBy, defBody sCountBy, defScope sCountBy, [], []⟩
def dHasIn : He.DefD := ⟨("has_in", none), "has_in", "has_in", defArgs sHasIn, defBody sHasIn, defScope sHasIn, [], []⟩
def dPlaceIn : He.DefD := ⟨("place_in", none), "place_in", "place_in", defArgs sPlaceIn, defBody sPlaceIn, defScope sPlaceIn, [], []⟩
def dNameIn : He.DefD := ⟨("name_in", none), "name_in", "name_in", defArgs sNameIn, defBody sNameIn, defScope sNameIn, [], []⟩
def dRowPart : He.DefD := ⟨("row_part", none), "row_part", "row_part", defArgs sRowPart, defBody sRowPart, defScope sRowPart, [], []⟩
def dHas : He.DefD := ⟨("has", none), "has", "has", defArgs sHas, defBody sHas, defScope sHas, [], []⟩
def dNamesOf : He.DefD := ⟨("names_of", none), "names_of", "names_of", defArgs sNamesOf, defBody sNamesOf, defScope sNamesOf, [], []⟩
def dSignedRuns : He.DefD := ⟨("signed_runs", none), "signed_runs", "signed_runs", defArgs sSignedRuns, defBody sSignedRuns, defScope sSignedRuns, [], []⟩
def dTurnedFigures : He.DefD := ⟨("turned_figures", none), "turned_figures", "turned_figures", defArgs sTurnedFigures, defBody sTurnedFigures, defScope sTurnedFigures, [], []⟩
def dRoundPart : He.DefD := ⟨("round_part", none), "round_part", "round_part", defArgs sRoundPart, defBody sRoundPart, defScope sRoundPart, [], []⟩
def dLeastRoot : He.DefD := ⟨("least_root", none), "least_root", "least_root", defArgs sLeastRoot, defBody sLeastRoot, defScope sLeastRoot, [], []⟩
def dIsHouse : He.DefD := ⟨("is_house", none), "is_house", "is_house", defArgs sIsHouse, defBody sIsHouse, defScope sIsHouse, [], []⟩
def dNeedNet : He.DefD := ⟨("need_net", none), "need_net", "need_net", defArgs sNeedNet, defBody sNeedNet, defScope sNeedNet, [], []⟩
def dHousesOf : He.DefD := ⟨("houses_of", none), "houses_of", "houses_of", defArgs sHousesOf, defBody sHousesOf, defScope sHousesOf, [], []⟩
def dPeopleIn : He.DefD := ⟨("people_in", none), "people_in", "people_in", defArgs sPeopleIn, defBody sPeopleIn, defScope sPeopleIn, [], []⟩
def dLeadsOut : He.DefD := ⟨("leads_out", none), "leads_out", "leads_out", defArgs sLeadsOut, defBody sLeadsOut, defScope sLeadsOut, [], []⟩
def dShutIn : He.DefD := ⟨("shut_in", none), "shut_in", "shut_in", defArgs sShutIn, defBody sShutIn, defScope sShutIn, [], []⟩
def dShutHouses : He.DefD := ⟨("shut_houses", none), "shut_houses", "shut_houses", defArgs sShutHouses, defBody sShutHouses, defScope sShutHouses, [], []⟩
def dNeedOpen : He.DefD := ⟨("need_open", none), "need_open", "need_open", defArgs sNeedOpen, defBody sNeedOpen, defScope sNeedOpen, [], []⟩
def dNeedAmounts : He.DefD := ⟨("need_amounts", none), "need_amounts", "need_amounts", defArgs sNeedAmounts, defBody sNeedAmounts, defScope sNeedAmounts, [], []⟩
def dHandedParts : He.DefD := ⟨("handed_parts", none), "handed_parts", "handed_parts", defArgs sHandedParts, defBody sHandedParts, defScope sHandedParts, [], []⟩
def dRoundBehind : He.DefD := ⟨("round_behind", none), "round_behind", "round_behind", defArgs sRoundBehind, defBody sRoundBehind, defScope sRoundBehind, [], []⟩
def dTotalsIn : He.DefD := ⟨("totals_in", none), "totals_in", "totals_in", defArgs sTotalsIn, defBody sTotalsIn, defScope sTotalsIn, [], []⟩
def dPaidIn : He.DefD := ⟨("paid_in", none), "paid_in", "paid_in", defArgs sPaidIn, defBody sPaidIn, defScope sPaidIn, [], []⟩
def dPaidOut : He.DefD := ⟨("paid_out", none), "paid_out", "paid_out", defArgs sPaidOut, defBody sPaidOut, defScope sPaidOut, [], []⟩
def dNeedHouse : He.DefD := ⟨("need_house", none), "need_house", "need_house", defArgs sNeedHouse, defBody sNeedHouse, defScope sNeedHouse, [], []⟩
def dMeltedPart : He.DefD := ⟨("melted_part", none), "melted_part", "melted_part", defArgs sMeltedPart, defBody sMeltedPart, defScope sMeltedPart, [], []⟩
def dFateIn : He.DefD := ⟨("fate_in", none), "fate_in", "fate_in", defArgs sFateIn, defBody sFateIn, defScope sFateIn, [], []⟩
def dMeltedFate : He.DefD := ⟨("melted_fate", none), "melted_fate", "melted_fate", defArgs sMeltedFate, defBody sMeltedFate, defScope sMeltedFate, [], []⟩
def dMelt : He.DefD := ⟨("melt", none), "melt", "melt", defArgs sMelt, defBody sMelt, defScope sMelt, [], []⟩
def dLastUnlike : He.DefD := ⟨("last_unlike", none), "last_unlike", "last_unlike", defArgs sLastUnlike, defBody sLastUnlike, defScope sLastUnlike, [], []⟩
def dGoesRound : He.DefD := ⟨("goes_round", none), "goes_round", "goes_round", defArgs sGoesRound, defBody sGoesRound, defScope sGoesRound, [], []⟩
def dLawBegun : He.DefD := ⟨("_law_begun", none), "_law_begun", "_law_begun", defArgs sLawBegun, defBody sLawBegun, defScope sLawBegun, [], []⟩
def dLawDraw : He.DefD := ⟨("_law_draw", none), "_law_draw", "_law_draw", defArgs sLawDraw, defBody sLawDraw, defScope sLawDraw, [], []⟩
def dLawOf : He.DefD := ⟨("_law_of", none), "_law_of", "_law_of", defArgs sLawOf, defBody sLawOf, defScope sLawOf, [], []⟩
def dLawPeople : He.DefD := ⟨("_law_people", none), "_law_people", "_law_people", defArgs sLawPeople, defBody sLawPeople, defScope sLawPeople, [], []⟩
def dLawFigures : He.DefD := ⟨("_law_figures", none), "_law_figures", "_law_figures", defArgs sLawFigures, defBody sLawFigures, defScope sLawFigures, [], []⟩
def dLawNet : He.DefD := ⟨("_law_net", none), "_law_net", "_law_net", defArgs sLawNet, defBody sLawNet, defScope sLawNet, [], []⟩
def dLawStanding : He.DefD := ⟨("_law_standing", none), "_law_standing", "_law_standing", defArgs sLawStanding, defBody sLawStanding, defScope sLawStanding, [], []⟩
def dLawNext : He.DefD := ⟨("_law_next", none), "_law_next", "_law_next", defArgs sLawNext, defBody sLawNext, defScope sLawNext, [], []⟩
def dLawFilm : He.DefD := ⟨("_law_film", none), "_law_film", "_law_film", defArgs sLawFilm, defBody sLawFilm, defScope sLawFilm, [], []⟩
def dLawOutcome : He.DefD := ⟨("_law_outcome", none), "_law_outcome", "_law_outcome", defArgs sLawOutcome, defBody sLawOutcome, defScope sLawOutcome, [], []⟩
def dLawLeast : He.DefD := ⟨("_law_least", none), "_law_least", "_law_least", defArgs sLawLeast, defBody sLawLeast, defScope sLawLeast, [], []⟩
def dLawRight : He.DefD := ⟨("_law_right", none), "_law_right", "_law_right", defArgs sLawRight, defBody sLawRight, defScope sLawRight, [], []⟩
def dLawWide : He.DefD := ⟨("_law_wide", none), "_law_wide", "_law_wide", defArgs sLawWide, defBody sLawWide, defScope sLawWide, [], []⟩
def dLaw : He.DefD := ⟨("law", none), "law", "law", defArgs sLaw, defBody sLaw, defScope sLaw, [], []⟩
def dWInit : He.DefD := ⟨("Walk", some "__init__"), "__init__", "Walk.__init__", defArgs sWInit, defBody sWInit, defScope sWInit, [], []⟩
def dWDealtBy : He.DefD := ⟨("Walk", some "dealt_by"), "dealt_by", "Walk.dealt_by", defArgs sWDealtBy, defBody sWDealtBy, defScope sWDealtBy, [], []⟩
def dWPaidOne : He.DefD := ⟨("Walk", some "paid_one"), "paid_one", "Walk.paid_one", defArgs sWPaidOne, defBody sWPaidOne, defScope sWPaidOne, [], []⟩
def fn1 : List He.DefD := [dIsWhole, dIsWord, dAreNames, dAreFigures, dIsRun, dNeedDeal, dNeedNumber, dCountIn, dPartsOf, dCountBy, dHasIn, dPlaceIn, dNameIn, dRowPart, dHas, dNamesOf, dSignedRuns, dTurnedFigures, dRoundPart, dLeastRoot, dIsHouse, dNeedNet, dHousesOf, dPeopleIn, dLeadsOut, dShutIn, dShutHouses, dNeedOpen, dNeedAmounts]
def fn2 : List He.DefD := [dHandedParts, dRoundBehind, dTotalsIn, dPaidIn, dPaidOut, dNeedHouse, dMeltedPart, dFateIn, dMeltedFate, dMelt, dLastUnlike, dGoesRound, dLawBegun, dLawDraw, dLawOf, dLawPeople, dLawFigures, dLawNet, dLawStanding, dLawNext, dLawFilm, dLawOutcome, dLawLeast, dLawRight, dLawWide, dLaw, dWInit, dWDealtBy, dWPaidOne]
def fn : List He.DefD := fn1 ++ fn2
def fa1 : List He.Fa := [.glo "is_whole", .glo "is_word", .glo "are_names", .glo "are_figures", .glo "is_run", .glo "need_deal", .glo "need_number", .glo "count_in", .glo "parts_of", .glo "count_by", .glo "has_in", .glo "place_in", .glo "name_in", .glo "row_part", .glo "has", .glo "names_of", .glo "signed_runs", .glo "turned_figures", .glo "round_part", .glo "least_root", .glo "is_house", .glo "need_net", .glo "houses_of", .glo "people_in", .glo "leads_out", .glo "shut_in", .glo "shut_houses", .glo "need_open", .glo "need_amounts", .glo "handed_parts"]
def fa2 : List He.Fa := [.glo "round_behind", .glo "totals_in", .glo "paid_in", .glo "paid_out", .glo "need_house", .glo "melted_part", .glo "fate_in", .glo "melted_fate", .glo "melt", .glo "last_unlike", .glo "goes_round", .glo "_law_begun", .glo "_law_draw", .glo "_law_of", .glo "_law_people", .glo "_law_figures", .glo "_law_net", .glo "_law_standing", .glo "_law_next", .glo "_law_film", .glo "_law_outcome", .glo "_law_least", .glo "_law_right", .glo "_law_wide", .glo "law", .glo "StairError", .glo "BadDeal", .glo "BadName", .glo "BadNumber", .glo "BadAmounts"]
def fa3 : List He.Fa := [.glo "BadNet", .glo "Shut", .glo "TooGreat", .glo "Walk", .free "len", .free "isinstance", .free "zip", .free "enumerate", .free "range", .free "sum", .free "min", .free "tuple", .free "list", .free "sorted", .free "set", .free "all", .free "any", .free "int", .free "divmod", .free "repr", .free "super", .free "str", .free "bool", .int "MOST_NAMES" 6, .int "MOST_SIGNS" 6, .int "MOST_COINS" 1000000000000, .int "MOST_FIGURES_deals" 400, .int "MOST_RUNS" 60, .int "MOST_NUMBER" 1000000000000000000000000000000, .int "MOST_ROW" 1000]
def fa4 : List He.Fa := [.str "LETTERS" "abcdefghijklmnopqrstuvwxyz", .str "DIGITS" "0123456789", .str "SIGNS" "0123456789abcdefghijklmnopqrstuvwxyz", .int "MOST_HOUSES" 4, .int "MOST_FIGURES_nets" 6, .int "MOST_STANDINGS" 2000, .cls "Walk", .mkr "Walk", .meth "Walk" "dealt_by", .meth "Walk" "paid_one", .noat "Walk" "houses", .noat "Walk" "deals", .noat "Walk" "begin", .noat "Walk" "firsts", .noat "Walk" "standing"]
def fa : List He.Fa := fa1 ++ (fa2 ++ (fa3 ++ (fa4)))
def nm1 : List Str := ["is_whole", "is_word", "are_names", "are_figures", "is_run", "need_deal", "need_number", "count_in", "parts_of", "count_by", "has_in", "place_in", "name_in", "row_part", "has", "names_of", "signed_runs", "turned_figures", "round_part", "least_root", "is_house", "need_net", "houses_of", "people_in", "leads_out", "shut_in", "shut_houses", "need_open", "need_amounts", "handed_parts"]
def nm2 : List Str := ["round_behind", "totals_in", "paid_in", "paid_out", "need_house", "melted_part", "fate_in", "melted_fate", "melt", "last_unlike", "goes_round", "_law_begun", "_law_draw", "_law_of", "_law_people", "_law_figures", "_law_net", "_law_standing", "_law_next", "_law_film", "_law_outcome", "_law_least", "_law_right", "_law_wide", "StairError", "BadDeal", "BadName", "BadNumber", "BadAmounts", "BadNet"]
def nm3 : List Str := ["Shut", "TooGreat", "Walk", "MOST_NAMES", "MOST_SIGNS", "MOST_COINS", "MOST_FIGURES_deals", "MOST_RUNS", "MOST_NUMBER", "MOST_ROW", "LETTERS", "DIGITS", "SIGNS", "MOST_HOUSES", "MOST_FIGURES_nets", "MOST_STANDINGS"]
def nms : List Str := nm1 ++ (nm2 ++ (nm3))
end Stair
/-! ## StTg -/
set_option Elab.async false
set_option linter.all false
set_option maxRecDepth 100000
set_option maxHeartbeats 4000000
namespace PySem
namespace TgX
open PySem.W PySem.Calls PyProof.Rows PySem.HandSPX
/-! ### the text of TooGreat.__init__ -/
def iA (p1 p2 : Pos) : Arguments := { posonlyargs := [], args := [{ arg := "self", annotation := none, pos := p1 }, { arg := "most", annotation := none, pos := p2 }], vararg := none, kwonlyargs := [], kw_defaults := [], kwarg := none, defaults := [] }
def iB (q1 q2 q3 q4 q5 q6 q7 q8 q9 q10 : Pos) (j : Nat) : List Stmt := [
  .Expr (.Call (.Attribute (.Call (.Name "super" q1) [] [] q2) "__init__" q3) [.Constant (.str "too great") j q4] [] q5) q6,
  .Assign [.Attribute (.Name "self" q7) "most" q8] (.Name "most" q9) q10]
def iS : Scope := { kind := .function, names := [(PySem.Str.ofString "self", .local), (PySem.Str.ofString "most", .local), (PySem.Str.ofString "__class__", .free), (PySem.Str.ofString "super", .globalImplicit)], isGenerator := false, isCoroutine := false, more := [] }
abbrev bmO : List Value := [.type "OverflowError", .type "ArithmeticError", .type "Exception", .type "BaseException", .type "object"]
/-- what the written part says of TooGreat, at C, and of its __init__, at fI -/
structure TgTxt (P : Program) (K : Frag) (mg : Str → Option Value) (C fI : Addr) : Prop where
  gC : mg "TooGreat" = some (.ref C)
  gS : mg "super" = none
  xI : excInitIn K C bmO "OverflowError.__new__" = true
  xO : excOver K C bmO = true
  sa : findIn K (.ref C) "__setattr__" = some (some (.builtin "object.__setattr__"))
  ga : findIn K (.ref C) "__getattribute__" = some (some (.builtin "BaseException.__getattribute__"))
  gg : findIn K (.ref C) "__getattr__" = some none
  noN : findIn K (.ref C) "most" = some none
  iC : findIn K (.ref C) "__init__" = some (some (.ref fI))
  tC : typeIn K (.ref fI) = some (.type "function")
  kC : keepIn K (.ref C) = true
  exC : subIn K (.ref C) (.type "BaseException") = some true
  ovC : subIn K (.ref C) (.type "OverflowError") = some true
  tyC : typeIn K (.ref C) = some (.type "type")
  hdC : hasDictIn K C = true
  te : exmOne K (.ref C) (.ref C) = some true
  mr : mroIn K C (.ref C) = some true
  al : ks_superIn K C C "__init__" = some (some (.builtin "OverflowError.__init__"))
  op : nsIn K cStatics "thirdparty.any" = some none
  tp : (P.main.scope.names.lookup ("super" : Str)).isSome = false
  fn : ∃ (oc : Value) (od : Option Addr) (doc pm : Value) (an : Option Addr) (cda : Addr) (ct : Value) (osl : Array (Option Value)) (cc : Addr) (p1 p2 q1 q2 q3 q4 q5 q6 q7 q8 q9 q10 : Pos) (j : Nat),
    K.lookup fI = some ⟨oc, od, .func (ksFn "__init__" "TooGreat.__init__" (iA p1 p2) (iB q1 q2 q3 q4 q5 q6 q7 q8 q9 q10 j) iS .none .none doc pm an (.ref cda) ct cc), osl⟩ ∧ codeIn K (.ref cda) "TooGreat.__init__" = true ∧
    (q3.endLine == q5.line) = true ∧
    (∃ (ccl : Value) (cdd : Option Addr) (vs : Array Value) (ccs : Array (Option Value)) (file : Str) (tf : Tok), K.lookup cda = some ⟨ccl, cdd, .fields vs, ccs⟩ ∧ vs[2]? = some (.str file tf) ∧ ((P.main.file : Str) == file) = true) ∧
    (∃ (cl : Value) (cld : Option Addr) (csl : Array (Option Value)), K.lookup cc = some ⟨cl, cld, .cell (some (.ref C)), csl⟩)
theorem one_sz (v : Value) : [v].length ≤ sizeLine := by
  rw [sizeLine_eq]
  exact (by decide : 1 ≤ 16777216)
theorem ldC {M : Model} {A : Around} {E : Value → Shared → Prop} {s : Shared} {env : Env} {m : Str → Option Value} {x : Str} {pos : Pos} {v : Value} {Q : Value → Shared → Prop} (hn : s.heap.Ns env.locals m) (hv : m x = some v) (h : Q v s)
    (hk : env.scope.kind = .function := by rfl) (hl : env.kindOf x = some .local := by rfl) (hd : (x == ("__debug__" : Str)) = false := by decide) : wpAny M A (eval (.Name x pos) env) Q E s := wpAny_Name (wpAny_loadName_local hk hl hn hv h) hd
/-- what __init__ leaves of a fresh exception at x -/
structure InitEnd (h h' : Heap) (x C dx t1 : Addr) (v : Value) : Prop where
  keep : ∀ b o, b ≠ x → h.get? b = some o → h'.get? b = some o
  obj : h'.get? x = some { cls := .ref C, dict := some dx, data := .fields #[.ref t1, .none, .none, .none, .bool false, .none] }
  dbig : h.objs.size ≤ dx
  dne : dx ≠ x
  ns : h'.Ns1 dx (fun y => if y = "most" then some v else none)
/-- a made TooGreat -/
structure OwnMade (h h' : Heap) (e C d : Addr) (v : Value) : Prop where
  keep : ∀ b o, h.get? b = some o → h'.get? b = some o
  new : h.objs.size ≤ e
  obj : ∃ oe vs, h'.get? e = some oe ∧ oe.cls = .ref C ∧ oe.dict = some d ∧ oe.data = .fields vs ∧ vs[1]? = some .none
  dbig : h.objs.size ≤ d
  dne : d ≠ e
  ns : h'.Ns1 d (fun y => if y = "most" then some v else none)
section
variable {prog : Program} {w : World} {A : Around} {E : Value → Shared → Prop} {R : Result → Shared → Prop} {s : Shared} {K : Frag} {mg mb : Str → Option Value} {C fI : Addr}
open Builtin Builtin.ObjectAttr in
/-- self.most = v on a fresh exception -/
theorem tg_osa (T : TgTxt prog K mg C fI) {hp : Heap} {g : Array GenState} {d : Drawn} {t : Nat} {os : OsState} {x t0 : Addr} {tk : Tok} {v : Value}
    (X : K.In hp) (hx : hp.get? x = some (excO C t0))
    (hq : ∀ h' tk' dx, (∀ b o, b ≠ x → hp.get? b = some o → h'.get? b = some o) → hp.objs.size ≤ dx → dx ≠ x → h'.get? x = some { cls := .ref C, dict := some dx, data := .fields #[.ref t0, .none, .none, .none, .bool false, .none] } →
      h'.Ns1 dx (fun y => if y = "most" then some v else none) → R (.ok (.ret .none)) ⟨h', g, d, tk', os⟩) :
    codeAny (model prog w) A (.call (.builtin "object.__setattr__") ⟨[.ref x, .str "most" tk, v], []⟩) R ⟨hp, g, d, t, os⟩ := by
  have I : InstAt hp x (excO C t0) C none := ⟨hx, rfl, rfl, trivial⟩
  have hxs : x ≠ hp.objs.size := Nat.ne_of_lt (Heap.lt_size hx)
  have ht : takerIn K C "most" = some none := by
    unfold takerIn
    rw [T.noN]
    rfl
  refine osa_openX PySem.F.store_OverflowError X I T.xO ht fun b => ?_
  show wpAny _ _ (storeInOwnDict (.ref x) (.ref C) (.str "most" tk) "most" v b) _ _ _
  cases hcd : clsIn K C with
  | none =>
    have q := T.hdC
    unfold hasDictIn at q
    rw [hcd] at q
    cases q
  | some cd =>
    have hcls : Looks (model prog w) hp (classData C) cd := looks_clsIn X hcd
    have hh : cd.hasDict = true := by
      have q := T.hdC
      unfold hasDictIn at q
      rw [hcd] at q
      exact q
    obtain ⟨nm, bs, mro, ns, qn, hd, sn, sb, ab, col, del⟩ := cd
    dsimp only at hh
    subst hh
    unfold storeInOwnDict ownDictForStores
    repeat (first | with_reducible refine store_in_new ?_ ?_ | with_reducible refine wpAny_loadPart_at hx ?_ | with_reducible refine hcls.at ?_ | wp_step)
    · exact ⟨_, #[], _, (Heap.get?_update_ne _ _ _ _ hxs.symm).trans (Heap.get?_push_at rfl rfl), rfl, fun e he => absurd he (by simp), fun _ => rfl⟩
    · intro h' tk' hn' hs
      have hx₁ : (hp.push { cls := .type "dict", data := .dict #[] }).get? x = some (excO C t0) := Heap.get?_push_of_some _ hx
      refine hq h' tk' hp.objs.size (fun b o hb ho => ?_) (Nat.le_refl _) hxs.symm ?_ hn'
      · exact (hs.2 b (Nat.ne_of_lt (Heap.lt_size ho))).trans ((Heap.get?_update_ne _ _ _ _ hb).trans (Heap.get?_push_of_some _ ho))
      · exact (hs.2 x hxs).trans (Heap.get?_update_self _ hx₁ rfl)
/-- the bound OverflowError.__init__ called -/
theorem tg_bound (T : TgTxt prog K mg C fI) {h : Heap} {g : Array GenState} {d : Drawn} {t : Nat} {os : OsState} {u x t0 : Addr} {rest : List Value} {Q : Value → Shared → Prop}
    (X : K.In h) (hx : h.get? x = some (excO C t0)) (hu : h.get? u = some (kxs_mw "OverflowError.__init__" x)) (hz : rest.length ≤ sizeLine)
    (hq : ∀ h' t1, (∀ b o, b ≠ x → h.get? b = some o → h'.get? b = some o) → h'.get? x = some (excO C t1) → Q .none ⟨h', g, d, t, os⟩) :
    wpAny (model prog w) A (call (.ref u) rest) Q E ⟨h, g, d, t, os⟩ := by
  obtain ⟨nm, N', qn, bs, bm, hdct, sn, sub, ab, col, dd, k0, k1, k2, k3, k5, hC, hT⟩ := excInit_of X T.xI
  have FB := F.excBase_OverflowError
  refine wpAny_call (codeAny_of_tree ?_)
  show wpAny _ A.in1 (callAny (.ref u) ⟨rest, []⟩) _ _ _
  simp only [callAny]
  refine wpAny_bind (wpAny_load hu ?_)
  simp only [kxs_mw, show (Value.type "method-wrapper" == Value.type "method" || Value.type "method-wrapper" == Value.type "builtin_function_or_method" || Value.type "method-wrapper" == Value.type "method-wrapper") = true by decide, if_true]
  refine KFB.if_so (by decide) ?_
  refine wpAny_bind (check_bound_init FB.toExcCallFacts hC hx rfl ?_)
  refine wpAny_bind (wpAny_pure (wpAny_pure ?_))
  refine ⟨plainId_quiet FB.init.plain _, codeAny_builtin FB.initEntry ?_⟩
  exact exc_init_tree (cls := .ref C) (t0 := t0) (dv := none) (c2 := .none) (c3 := .none) (b4 := .bool false) hx hz fun h' k e' _ => hq h' _ k e'
theorem tg_init (T : TgTxt prog K mg C fI) {x t0 : Addr} {v : Value} (X : K.In s.heap) (hg : s.heap.Ns mainGlobals mg) (hb : s.heap.Ns builtinsNs mb) (hbb : mb "super" = bootBuiltins "super") (hlim : s.heap.NoLimit) (hx : s.heap.get? x = some (excO C t0)) (hnx : K.lookup x = none)
    (hroom : A.depth < recursionLimit)
    (hq : ∀ h' tk dx t1, InitEnd s.heap h' x C dx t1 v → R (.ok (.ret .none)) { s with heap := h', toks := tk }) :
    codeAny (model prog w) A (.call (.ref fI) ⟨[.ref x, v], []⟩) R s := by
  obtain ⟨oc, od, doc, pm, an, cda, ct, osl, cc, p1, p2, q1, q2, q3, q4, q5, q6, q7, q8, q9, q10, j, hf, hcd, hline, ⟨ccl, cdd, vs, ccs, file, tf, hcode, hvs, hfile⟩, ⟨cl, cld, csl, hcell⟩⟩ := T.fn
  obtain ⟨hp, g, d, t, os⟩ := s
  have hxc : x ≠ C := fun z => by
    have q := T.hdC
    unfold hasDictIn clsIn at q
    rw [← z, hnx] at q
    cases q
  refine ks_codeAny_call_defAt (fd := ksFn "__init__" "TooGreat.__init__" (iA p1 p2) (iB q1 q2 q3 q4 q5 q6 q7 q8 q9 q10 j) iS .none .none doc pm an (.ref cda) ct cc) (binds := [("self", .ref x), ("most", v)]) hroom (X _ _ hf) rfl hlim (codeRec_of X hcd) rfl
    (BindsTo.of_eq (by first | rfl | with_unfolding_all rfl)) (show ∀ q ∈ iS.names, q.2 ≠ NameKind.cell by decide) (fun q hq' => by
      rcases List.mem_cons.mp hq' with rfl | hq'
      · exact (by decide : List.lookup ("self" : Str) iS.names = some .local)
      · rcases List.mem_cons.mp hq' with rfl | hq'
        · exact (by decide : List.lookup ("most" : Str) iS.names = some .local)
        · cases hq') (fun h₁ hn k => ?_) rfl rfl rfl
  have X₁ : K.In h₁ := X.keeps k
  have hx₁ := k _ _ hx
  have hg₁ : h₁.Ns mainGlobals mg := hg.keeps k
  have hb₁ : h₁.Ns builtinsNs mb := hb.keeps k
  obtain ⟨cd, hcl⟩ : ∃ cd, clsIn K C = some cd := by
    cases q : clsIn K C with
    | none =>
      have z := T.hdC
      unfold hasDictIn at z
      rw [q] at z
      cases z
    | some cd => exact ⟨cd, rfl⟩
  obtain ⟨oD, hD1, hD2⟩ : ∃ oD, h₁.get? C = some oD ∧ oD.data = .cls cd := by
    unfold clsIn at hcl
    split at hcl
    · rename_i c dd cd' sl ho
      cases hcl
      exact ⟨_, X₁ _ _ ho, rfl⟩
    · cases hcl
  -- super().__init__("too great")
  show wpAt _ _ _ (execs (iB q1 q2 q3 q4 q5 q6 q7 q8 q9 q10 j) (ksEnv "TooGreat.__init__" iS hp.objs.size fI (.ref cda) cc)) _ _ _
  unfold iB
  refine ks_wpAt_execs_cons (ks_wpAt_Expr_any (ks_wpAt_MethodCall (pl := L2.plainOf (.Call (.Name "super" q1) [] [] q2) (ksEnv "TooGreat.__init__" iS hp.objs.size fI (.ref cda) cc)) ?_ ?_))
  · refine ks_wpAt_super_base rfl rfl (by decide) rfl (X₁ _ _ hf) rfl (ar := { arg := "self", annotation := none, pos := p1 }) rfl rfl (X₁ _ _ hcode) rfl hvs hfile T.tp ?_
    refine ks_loadName_global rfl rfl (loadGlobal_builtin hg₁ T.gS hb₁ (hbb.trans (by decide +kernel)) ⟨rfl, ?_⟩)
    refine wpAny_loadName_free rfl rfl rfl ⟨_, X₁ _ _ hcell, rfl⟩ ?_
    refine wpAny_loadName_local rfl rfl hn (v := .ref x) (by first | rfl | with_unfolding_all rfl | kernel_rfl) ?_
    refine ks_wpAny_isType_cls hD1 hD2 ⟨rfl, ?_⟩
    refine ks_wpAny_call_super hD1 hD2 hx₁ rfl (fun c q => by cases q) (looks_mroIn X₁ T.mr) fun h' e k' => ?_
    have X₂ : K.In h' := X₁.keeps k'
    have hx₂ := k' _ _ hx₁
    have I₂ : InstAt h' x (excO C t0) C none := ⟨hx₂, rfl, rfl, trivial⟩
    have hal := T.al
    unfold ks_superIn at hal
    rw [hcl] at hal
    have hI : Looks (model prog w) h' (isInstance (.ref x) (.type "OverflowError")) true := I₂.type.andThen (looks_subIn X₂ T.ovC)
    refine kxs_getMethod kxs_OverflowError e (looks_opaque X₂ T.op) (l₀ := cd.mro) ((looks_clsIn X₂ hcl).andThen .now) rfl X₂ hal hI hxc (by decide) ?_
    have hmw : (h'.push (kxs_mw "OverflowError.__init__" x)).get? h'.objs.size = some (kxs_mw "OverflowError.__init__" x) := Heap.get?_push_at rfl rfl
    have k3 : ∀ b o, h'.get? b = some o → (h'.push (kxs_mw "OverflowError.__init__" x)).get? b = some o := fun b o e => Heap.get?_push_of_some _ e
    refine kxs_callWith (i := "OverflowError.__init__") (x := x) rfl (evalArgs_plain ?_)
    refine spliced_cons (Constant_str (k := j) (pos := q4) (spliced_nil ⟨hmw, ?_⟩))
    refine tg_bound (x := x) (t0 := t0) T (X₂.keeps k3) (k3 _ _ hx₂) hmw (one_sz _) fun h₃ t1 k4 hx₃ => ?_
    have X₃ : K.In h₃ := fun a o e => k4 a o (fun z => by rw [z, hnx] at e; cases e) (k3 _ _ (X₂ _ _ e))
    have hxL : hp.objs.size ≠ x := Nat.ne_of_gt (Heap.lt_size hx)
    have hn₃ := hn.at (fun o e => (k4 _ o hxL (k3 _ _ (k' _ _ e))))
    refine wpAt_of_wpAny ?_
    refine wpAny_execs_cons (plainObj_wpAny_Assign_Attribute ?_)
    refine ldC (v := v) hn₃ (by first | rfl | with_unfolding_all rfl | kernel_rfl) (ldC (v := .ref x) hn₃ (by first | rfl | with_unfolding_all rfl | kernel_rfl) ?_)
    refine set_plain X₃ (ox := excO C t1) (od := none) ⟨hx₃, rfl, rfl, trivial⟩ T.sa ?_
    refine tg_osa T X₃ hx₃ (fun h₄ tk₄ dx k₅ dn dne hx₄ hn₄ => ?_)
    have z : hp.objs.size < h₃.objs.size := by
      obtain ⟨o, es, ep, e, _⟩ := hn₃
      exact Heap.lt_size e
    refine wpAny_execs_nil (hq h₄ tk₄ dx t1 ⟨fun b o hb e => k₅ b o hb (k4 b o hb (k3 _ _ (k' _ _ (k b o e)))), hx₄, Nat.le_of_lt (Nat.lt_of_lt_of_le z dn), dne, hn₄⟩)
  · rw [arm_eval_Call]
    refine congrArg _ (funext fun ov => congrArg _ (funext fun _ => ?_))
    exact L2.mcall_line rfl hline
theorem tg_made (T : TgTxt prog K mg C fI) {v : Value} (X : K.In s.heap) (hg : s.heap.Ns mainGlobals mg) (hb : s.heap.Ns builtinsNs mb) (hbb : mb "super" = bootBuiltins "super") (hlim : s.heap.NoLimit) (hroom : A.depth + 1 < recursionLimit)
    (hq : ∀ h' tk e d, OwnMade s.heap h' e C d v → R (.ok (.ret (.ref e))) { s with heap := h', toks := tk }) :
    codeAny (model prog w) A (.call (.ref C) ⟨[v], []⟩) R s := by
  obtain ⟨nm, N', qn, bs, bm, hdct, sn, sub, ab, col, dd, k0, k1, k2, k3, k5, hC, hT⟩ := excInit_of X T.xI
  obtain ⟨hp, g, dr, tk, os⟩ := s
  have k : ∀ b o, hp.get? b = some o → ((hp.push (kdv_tup [v])).push (excO C hp.objs.size)).get? b = some o := fun b o e => Heap.get?_push_of_some _ (Heap.get?_push_of_some _ e)
  have hget : ((hp.push (kdv_tup [v])).push (excO C hp.objs.size)).get? (hp.objs.size + 1) = some (excO C hp.objs.size) := by heap_get
  have hnx : K.lookup (hp.objs.size + 1) = none := by
    cases e : K.lookup (hp.objs.size + 1) with
    | none => rfl
    | some o =>
      have z : hp.get? (hp.objs.size + 1) = some o := X _ _ e
      exact absurd (Nat.lt_of_succ_lt (Heap.lt_size z)) (Nat.lt_irrefl _)
  refine PX.call_own F.excBase_OverflowError hT hC (looks_findIn X T.iC) (fun self => bind_fn X self T.tC) (one_sz v) ?_
  refine tg_init (s := ⟨(hp.push (kdv_tup [v])).push (excO C hp.objs.size), g, dr, tk, os⟩) T (X.keeps k) (hg.keeps k) (hb.keeps k) hbb (hlim.keeps k) hget hnx ?_ fun h' tk' dx t1 ⟨k', hx, dn, dne, hns⟩ => ?_
  · show A.depth + 1 < recursionLimit
    exact hroom
  · have old : ∀ b o, hp.get? b = some o → h'.get? b = some o := fun b o e => k' b o (Nat.ne_of_lt (Nat.lt_succ_of_lt (Heap.lt_size e))) (k b o e)
    have z : hp.objs.size + 1 + 1 ≤ dx := by
      first
        | (simpa only [Heap.size_push] using dn)
        | exact dn
        | (have q := dn; rw [Heap.size_push, Heap.size_push] at q; exact q)
    exact ⟨rfl, hq h' tk' (hp.objs.size + 1) dx ⟨old, Nat.le_succ _, ⟨_, _, hx, rfl, rfl, rfl, rfl⟩, Nat.le_trans (Nat.le_trans (Nat.le_succ _) (Nat.le_succ _)) z, dne, hns⟩⟩
end
end TgX
end PySem
namespace L2
open PySem PySem.Spec PyProof.Rows
theorem relO_most {v : V} {v' : Value} (r : RelV v v') (f : Str) : RelO (List.lookup f [(("most" : Str), v)]) (if f = "most" then some v' else none) := by
  by_cases hw : f = "most"
  · subst hw
    rw [if_pos rfl]
    have q : List.lookup ("most" : Str) [(("most" : Str), v)] = some v := by simp [List.lookup]
    rw [q]
    exact r
  · rw [if_neg hw]
    have qw : (f == ("most" : Str)) = false := by simpa using hw
    have q2 : List.lookup f [(("most" : Str), v)] = none := by simp [List.lookup, qw]
    rw [q2]
    trivial
section
variable {X : Cx} {C fI : Addr}
/-- TooGreat(e) -/
def tMkTg (C : Addr) (ta : TA) : St → Hp → XK → Prop := fun σ H Q => ta σ H fun vs H1 => ∃ v, vs = [v] ∧ ∀ d, H1 d = none → Q (.ref C) (some d) (upd H1 d (.xd [(("most" : Str), v)]))
theorem pmk_tg {a : Expr} {ta : TA} {p pos : Pos} {k : Nat} (T : PySem.TgX.TgTxt X.prog X.K X.mg C fI) (hr : Room k X.A) (ha : PA X [a] ta) (hg : Gl X "TooGreat" := by rfl)
    (he : starEach (a :: []) X.env = (false, eval a X.env) :: starEach [] X.env := by rfl) (hpl : (backTo pos (starEach [] X.env)).any (·.1) = false := by rfl) :
    PMk X (.Call (.Name "TooGreat" p) [a] [] pos) (tMkTg C ta) := by
  intro pins s σ H Q I h
  refine wpAny_Call_Name_kw (ld_glob I hg T.gC ?_)
  refine PySem.W.callWith_K (h₀ := X.base) I.ok.mod.kin T.kC (thn (ha.run pos pins s σ H _ I h) fun us s1 hh => ?_) he hpl
  obtain ⟨vs, H1, I1, r1, v, ev, q1⟩ := hh
  subst ev
  refine ⟨I1.kIn, ?_⟩
  cases r1 with
  | cons rv rn =>
    rename_i v' us'
    cases rn
    show wpAny _ _ (call (.ref C) [v']) _ _ _
    have hlim := I1.nolimit
    obtain ⟨mb, hmb, hbl⟩ := I1.mod.blt
    have hG := I1.mod.glob.keeps I1.bk
    have hB := hmb.keeps I1.bk
    obtain ⟨hp, g, dr, tk, os⟩ := s1
    refine wpAny_call (PySem.TgX.tg_made T I1.kIn hG hB (hbl _ (by decide)) hlim (by have := hr.dp; omega) fun h' tk' e d M => ?_)
    show MkP X pins σ Q (.ref e) ⟨h', g, dr, tk', os⟩
    obtain ⟨oe, fv, hoe, hc, hd, hdat, h1⟩ := M.obj
    have hns := M.ns
    obtain ⟨G', g1, g2⟩ := restrict h' fun b => decide (b ≠ e)
    have gk : ∀ b, b ≠ e → G'.get? b = h'.get? b := fun b hb => g1 b (decide_eq_true hb)
    have ge : G'.get? e = none := g2 e (by simp)
    have old : ∀ b o, hp.get? b = some o → G'.get? b = some o := fun b o q => (gk b (Nat.ne_of_lt (Nat.lt_of_lt_of_le (Heap.lt_size q) M.new))).trans (M.keep b o q)
    have ob : ObjOk X.prog X.w (upd H1 d (.xd [(("most" : Str), v)])) G' d (.xd [(("most" : Str), v)]) :=
      ⟨_, hns.at (fun o q => (gk d M.dne).trans q), fun f => relO_most rv f⟩
    have J : Inv X pins σ (upd H1 d (.xd [(("most" : Str), v)])) ⟨G', g, dr, tk', os⟩ := I1.laid (t' := tk') old M.dbig ob
    refine ⟨e, oe, fv, ⟨G', g, dr, tk', os⟩, _, .ref C, some d, rfl, J, fun b o q => ?_, ge, hoe, ⟨hc, hd⟩, hdat, h1, ?_, rfl, I1.bare, raises_own T.exC T.tyC, q1 d (I1.hok.fresh M.dbig)⟩
    · by_cases hb : b = e
      · have q' : G'.get? b = some o := q
        rw [hb, ge] at q'; cases q'
      · exact (gk b hb).symm.trans q
    · rw [upd_ne (Ne.symm M.dne)]
      exact I1.hok.fresh M.new
/-- raise TooGreat(e) -/
def tRaiseTg (C : Addr) (W : WX) (ta : TA) : TS := fun _ σ H => tMkTg C ta σ H fun cls d H' => W cls d σ H'
theorem ps_raiseTg {a : Expr} {ta : TA} {W : WX} {p pos pos2 : Pos} {k : Nat} (hc : X.calm = true) (T : PySem.TgX.TgTxt X.prog X.K X.mg C fI) (hr : Room k X.A) (tk : Takes X W) (ha : PA X [a] ta) (hg : Gl X "TooGreat" := by rfl)
    (he : starEach (a :: []) X.env = (false, eval a X.env) :: starEach [] X.env := by rfl) (hpl : (backTo pos (starEach [] X.env)).any (·.1) = false := by rfl) :
    PS X (.Raise (some (.Call (.Name "TooGreat" p) [a] [] pos)) none pos2) (tRaiseTg C W ta) := ps_raise hc tk (pmk_tg T hr ha hg he hpl)
/-- e.most, e the exception that the suite holds (at a; its class cls, its dict d) -/
def tMost (C : Addr) (a : Addr) (cls : Value) (d : Option Addr) (te : TE) : TE := fun σ H Q => te σ H fun x H1 => x = .ref a ∧ cls = .ref C ∧ ∃ (dd : Addr) (v : V), d = some dd ∧ H1 dd = some (.xd [(("most" : Str), v)]) ∧ Q v H1
theorem pe_most {a : Addr} {oe : Obj} {cls : Value} {d : Option Addr} {pn : List (Addr × Obj)} {e : Expr} {te : TE} {pos : Pos} (T : PySem.TgX.TgTxt X.prog X.K X.mg C fI) (hz : Zc cls d oe) (hf : ∃ vs, oe.data = .fields vs) (he : PE (X.suite a ((a, oe) :: pn)) e te)
    (hb : attributeBase e "most" X.env (eval e X.env) = eval e X.env := by rfl) :
    PE (X.suite a ((a, oe) :: pn)) (.Attribute e "most" pos) (tMost C a cls d te) := by
  refine ⟨fun pins s σ H Q I h => ?_⟩
  refine attr_of hb (thn (he.run pins s σ H _ I h) fun u s1 hh => ?_)
  obtain ⟨x, H1, I1, rx, ex, ec, dd, v, ed, ea, q⟩ := hh
  subst ex
  obtain rfl : u = Value.ref a := rx
  subst ec
  subst ed
  obtain ⟨ha, _⟩ := I1.pin (a, oe) (List.mem_append_left _ List.mem_cons_self)
  obtain ⟨vs, hd⟩ := hf
  have hx : ObjOk X.prog X.w H1 s1.heap dd (.xd [(("most" : Str), v)]) := I1.hok dd _ ea
  obtain ⟨mA, hns, hr⟩ := hx
  obtain ⟨od, ho, hl⟩ := lookIn_ns hns
  have l : List.lookup ("most" : Str) [(("most" : Str), v)] = some v := by simp [List.lookup]
  obtain ⟨u, hu, ru⟩ := RelO.some_of (v := v) (o := mA "most") (by rw [← l]; exact hr "most")
  have J : PySem.W.InstAt s1.heap a oe C (some od) := ⟨ha, hz.1, by unfold PySem.W.notCls; rw [hd] <;> rfl, by rw [hz.2]; exact ho⟩
  exact HandSPX.exc_get I1.kIn J T.ga T.gg T.exC (PySem.W.findObj_own T.hdC T.noN rfl (by rw [hl, hu])) (handed_of ru) ⟨v, H1, I1.tok _, ru, q⟩
end
end L2
/-! ## StHd2 -/
set_option Elab.async false
set_option linter.all false
set_option maxRecDepth 100000
set_option maxHeartbeats 0
namespace Stair
open PySem PySem.Spec PyProof.Rows L2
abbrev R : PySem.W.OpenRow := PySem.W.OpenLaw.row PySem.Challenge.rw_stairpay_k52_whole_melts
def tf : List He.Defn := [("law", none), ("_law_right", none)]
/-! ### TooGreat -/
abbrev sTgI : Stmt := inClass (top 8) 0
def tgC (K : PySem.W.Frag) : Addr := He.ga K "TooGreat"
def tgF (K : PySem.W.Frag) : Addr := He.ma K (tgC K) "__init__"
abbrev TgV : Type := Option (Str × Str × Arguments × FuncBody × Scope × Addr × List Str × Value × Value × Addr)
def tgObs (K : PySem.W.Frag) : TgV := match K.lookup (tgF K) with
  | some ⟨_, _, .func fd, _⟩ => some (fd.name, fd.qualname, fd.params, fd.body, fd.scope, fd.globals, fd.closure.map (·.1), fd.defaults, fd.kwdefaults, fd.builtins)
  | _ => none
def tgVal : TgV := some ("__init__", "TooGreat.__init__", defArgs sTgI, .stmts (defBody sTgI), defScope sTgI, mainGlobals, ["__class__"], .none, .none, builtinsNs)
def fldB (file : Str) (vs : Array Value) : Bool := match (vs[2]? : Option Value) with
  | some (.str f _) => file == f
  | _ => false
def fileB (K : PySem.W.Frag) (file : Str) (v : Value) : Bool := match v with
  | .ref c => (match K.lookup c with
    | some ⟨_, _, .fields vs, _⟩ => fldB file vs
    | _ => false)
  | _ => false
def cellB (K : PySem.W.Frag) (C : Addr) (cl : List (Str × Addr)) : Bool := match cl with
  | [(_, cc)] => (match K.lookup cc with
    | some ⟨_, _, .cell (some (.ref C')), _⟩ => C' == C
    | _ => false)
  | _ => false
def tgFn (K : PySem.W.Frag) (file : Str) : Bool := match K.lookup (tgF K) with
  | some ⟨_, _, .func fd, _⟩ => PySem.W.codeIn K fd.code "TooGreat.__init__" && (fileB K file fd.code && cellB K (tgC K) fd.closure)
  | _ => false
def tg1 (K : PySem.W.Frag) : Bool := PySem.W.excInitIn K (tgC K) PySem.TgX.bmO "OverflowError.__new__" && (PySem.W.excOver K (tgC K) PySem.TgX.bmO && (He.eqO (PySem.W.findIn K (.ref (tgC K)) "__setattr__") (some (some (.builtin "object.__setattr__"))) &&
  (He.eqO (PySem.W.findIn K (.ref (tgC K)) "__getattribute__") (some (some (.builtin "BaseException.__getattribute__"))) && (He.eqO (PySem.W.findIn K (.ref (tgC K)) "__getattr__") (some none) && (He.eqO (PySem.W.findIn K (.ref (tgC K)) "most") (some none) && He.eqO (PySem.W.findIn K (.ref (tgC K)) "__init__") (some (some (.ref (tgF K)))))))))
def tg2 (K : PySem.W.Frag) : Bool := decide (PySem.W.typeIn K (.ref (tgF K)) = some (.type "function")) && (PySem.W.keepIn K (.ref (tgC K)) && (decide (PySem.W.subIn K (.ref (tgC K)) (.type "BaseException") = some true) && (decide (PySem.W.subIn K (.ref (tgC K)) (.type "OverflowError") = some true) &&
  (decide (PySem.W.typeIn K (.ref (tgC K)) = some (.type "type")) && (PySem.W.hasDictIn K (tgC K) && (decide (PySem.W.exmOne K (.ref (tgC K)) (.ref (tgC K)) = some true) && decide (PySem.W.mroIn K (tgC K) (.ref (tgC K)) = some true)))))))
def tg3 (K : PySem.W.Frag) : Bool := He.eqO (PySem.W.ks_superIn K (tgC K) (tgC K) "__init__") (some (some (.builtin "OverflowError.__init__"))) && He.eqO (PySem.W.nsIn K cStatics "thirdparty.any") (some none)
def tg4 (K : PySem.W.Frag) : Bool := decide ((He.cT K ("law", none)).2 ≠ (He.cT K ("_law_right", none)).2)
def tgB (K : PySem.W.Frag) : Bool := tg1 K && (tg2 K && (tg3 K && (tgFn K R.prog.main.file && tg4 K)))
/-! ### what the head tells -/
def kG (g : Addr → Option Obj) : PySem.W.Frag := He.frT g (He.asD g 6 ++ [cStatics])
abbrev AlG : Type := (He.AlT × Bool) × TgV
def obsG (g : Addr → Option Obj) : AlG := ((He.obsT fa fn [] (kG g), tgB (kG g) && He.tabsB g tf (kG g)), tgObs (kG g))
def valG (w : World) : AlG := ((He.valT fn [] w, true), tgVal)
theorem saysG_of {w : World} {h : Heap} (e : obsG h.get? = valG w) : He.SaysX fa fn [] tf tgB w h (kG h.get?) ∧ tgObs (kG h.get?) = tgVal := by
  unfold obsG valG at e
  obtain ⟨e12, e3⟩ := Prod.mk.inj e
  obtain ⟨e1, e2⟩ := Prod.mk.inj e12
  clear e e12
  obtain ⟨b1, b2⟩ := Bool.and_eq_true_iff.mp e2
  have tab : ∀ p ∈ tf, PySem.W.codeHdIn (kG h.get?) (He.cT (kG h.get?) p).1 (He.cT (kG h.get?) p).2 = true ∧ h.get? (He.cT (kG h.get?) p).2 = some { cls := .none, data := .fields #[] } ∧ (kG h.get?).lookup (He.cT (kG h.get?) p).2 = none := fun p hp => by
    obtain ⟨c1, c2⟩ := Bool.and_eq_true_iff.mp (List.all_eq_true.mp b2 p hp)
    refine ⟨c1, ?_⟩
    split at c2
    · rename_i o ho
      exact ⟨by rw [ho, He.emptyTab_eq c2], He.frT_none ho c2⟩
    · cases c2
  exact ⟨⟨e1, b1, fun p hp => (tab p hp).1, fun p hp => (tab p hp).2.2, fun p hp => (tab p hp).2.1⟩, e3⟩
def hkG : PySem.W.Hook where
  α := AlG
  obs := fun s => obsG s.heap.get?
  val := valG
  says := fun w h => ∃ K : PySem.W.Frag, K.In h ∧ He.SaysX fa fn [] tf tgB w h K ∧ tgObs K = tgVal
  of := fun _ _ e => ⟨_, He.frT_in, saysG_of e⟩
  keeps := fun _ _ _ ⟨K, hK, c, d⟩ k => ⟨K, PySem.W.Frag.In.keeps hK k, ⟨c.t, c.more, c.hd, c.out, fun p hp => k _ _ (c.empty p hp)⟩, d⟩
def ob (s : PySem.W.SharedT) : AlG := obsG (HandSHeadRun.getT s)
theorem ob_eq (s : PySem.W.SharedT) : ob s = hkG.obs s.abs := by
  have e : HandSHeadRun.getT s = s.abs.heap.get? := funext fun a => HandSHeadRun.getT_eq s a
  show obsG (HandSHeadRun.getT s) = obsG s.abs.heap.get?
  rw [e]
end Stair
/-! ## StHdR -/
set_option Elab.async false
set_option linter.all false
set_option maxRecDepth 100000
set_option maxHeartbeats 0
namespace Stair
open PySem PySem.Spec PyProof.Rows L2
theorem run (w : World) : HandSHeadRun.RunEq R (PySem.W.view R.prog [83]) hkG ob 6000 nms w := by
  intro os
  kernel_rfl
end Stair
/-! ## StDat -/
set_option Elab.async false
set_option linter.all false
set_option maxRecDepth 100000
set_option maxHeartbeats 1000000
namespace Stair
open PySem PySem.Spec PyProof.Rows L2 Evl
abbrev PD := PyData
abbrev En := List (Option PD)
abbrev Kx := PySem.W.Frag
mutual
/-- v stands for the datum d in the heap H -/
inductive Dt (H : Hp) : V → PD → Prop
  | non : Dt H .non .none
  | bl (b : Bool) : Dt H (.bl b) (.bool b)
  | int (i : Int) : Dt H (.int i) (.int i)
  | str (x : Str) : Dt H (.str x) (.str x)
  | lst {a : Addr} {xs : List V} {ds : List PD} : H a = some (.lst xs) → Dts H xs ds → Dt H (.ref a) (.list ds)
  | tup {a : Addr} {xs : List V} {ds : List PD} : H a = some (.tup xs) → Dts H xs ds → Dt H (.ref a) (.tuple ds)
inductive Dts (H : Hp) : List V → List PD → Prop
  | nil : Dts H [] []
  | cons {v : V} {vs : List V} {d : PD} {ds : List PD} : Dt H v d → Dts H vs ds → Dts H (v :: vs) (d :: ds)
end
mutual
theorem Dt.mono {H H' : Hp} (e : Ex H H') : ∀ (d : PD) {v : V}, Dt H v d → Dt H' v d
  | .none, _, h => by cases h; exact .non
  | .bool b, _, h => by cases h; exact .bl b
  | .int i, _, h => by cases h; exact .int i
  | .str x, _, h => by cases h; exact .str x
  | .list ds, _, h => by cases h with | lst a b => exact .lst (e _ _ a) (Dts.mono e ds b)
  | .tuple ds, _, h => by cases h with | tup a b => exact .tup (e _ _ a) (Dts.mono e ds b)
  | .dict kvs, _, h => by cases h
theorem Dts.mono {H H' : Hp} (e : Ex H H') : ∀ (ds : List PD) {vs : List V}, Dts H vs ds → Dts H' vs ds
  | [], _, h => by cases h; exact .nil
  | d :: ds, _, h => by cases h with | cons a b => exact .cons (Dt.mono e d a) (Dts.mono e ds b)
end
mutual
theorem Dt.dp {K : Kx} {H : Hp} : ∀ (d : PD) {v : V}, Dt H v d → Dp K H v d
  | .none, _, h => by cases h; exact .non
  | .bool b, _, h => by cases h; exact .bl b
  | .int i, _, h => by cases h; exact .int i
  | .str x, _, h => by cases h; exact .str x
  | .list ds, _, h => by cases h with | lst a b => exact .lst (sq_of a) (Dts.dp ds b)
  | .tuple ds, _, h => by cases h with | tup a b => exact .tup (st_of a) (Dts.dp ds b)
  | .dict kvs, _, h => by cases h
theorem Dts.dp {K : Kx} {H : Hp} : ∀ (ds : List PD) {vs : List V}, Dts H vs ds → DpAll K H vs ds
  | [], _, h => by cases h; exact .nil
  | d :: ds, _, h => by cases h with | cons a b => exact .cons (Dt.dp d a) (Dts.dp ds b)
end
theorem Dts.length {H : Hp} : ∀ {vs : List V} {ds : List PD}, Dts H vs ds → vs.length = ds.length
  | _, _, .nil => rfl
  | _, _, .cons _ t => by rw [List.length_cons, List.length_cons, Dts.length t]
theorem Dts.get {H : Hp} : ∀ {vs : List V} {ds : List PD} {i : Nat} {d : PD}, Dts H vs ds → ds[i]? = some d → ∃ v, vs[i]? = some v ∧ Dt H v d
  | _, _, _, _, .nil, e => by simp at e
  | _, _, 0, _, .cons r _, e => by simp at e; subst e; exact ⟨_, rfl, r⟩
  | _, _, i + 1, x, .cons _ t, e => by
    obtain ⟨u, h1, h2⟩ := Dts.get (i := i) (d := x) t (by simpa using e)
    exact ⟨u, by simpa using h1, h2⟩
theorem Dts.getV {H : Hp} : ∀ {vs : List V} {ds : List PD} {i : Nat} {v : V}, Dts H vs ds → vs[i]? = some v → ∃ d, ds[i]? = some d ∧ Dt H v d
  | _, _, _, _, .nil, e => by simp at e
  | _, _, 0, _, .cons r _, e => by simp at e; subst e; exact ⟨_, rfl, r⟩
  | _, _, i + 1, x, .cons _ t, e => by
    obtain ⟨u, h1, h2⟩ := Dts.getV (i := i) (v := x) t (by simpa using e)
    exact ⟨u, by simpa using h1, h2⟩
theorem Dts.append {H : Hp} : ∀ {vs ws : List V} {ds es : List PD}, Dts H vs ds → Dts H ws es → Dts H (vs ++ ws) (ds ++ es)
  | _, _, _, _, .nil, h => h
  | _, _, _, _, .cons a t, h => .cons a (Dts.append t h)
theorem Dts.drop {H : Hp} : ∀ (n : Nat) {vs : List V} {ds : List PD}, Dts H vs ds → Dts H (vs.drop n) (ds.drop n)
  | 0, _, _, h => h
  | n + 1, _, _, .nil => .nil
  | n + 1, _, _, .cons _ t => Dts.drop n t
theorem Dts.take {H : Hp} : ∀ (n : Nat) {vs : List V} {ds : List PD}, Dts H vs ds → Dts H (vs.take n) (ds.take n)
  | 0, _, _, _ => .nil
  | n + 1, _, _, .nil => .nil
  | n + 1, _, _, .cons a t => .cons a (Dts.take n t)
theorem Dts.reverse {H : Hp} : ∀ {vs : List V} {ds : List PD}, Dts H vs ds → Dts H vs.reverse ds.reverse
  | _, _, .nil => .nil
  | _, _, .cons a t => by
    rw [List.reverse_cons, List.reverse_cons]
    exact (Dts.reverse t).append (.cons a .nil)
theorem Dts.replicate {H : Hp} {vs : List V} {ds : List PD} (h : Dts H vs ds) : ∀ n : Nat, Dts H (List.replicate n vs).flatten (List.replicate n ds).flatten
  | 0 => .nil
  | n + 1 => by
    rw [List.replicate_succ, List.replicate_succ, List.flatten_cons, List.flatten_cons]
    exact h.append (Dts.replicate h n)
/-- ints, texts, truths -/
theorem Dts.ints {H : Hp} : ∀ {vs : List V} {ns : List Int}, Dts H vs (ns.map PyData.int) → vs = ns.map V.int
  | _, [], h => by cases h; rfl
  | _, n :: r, h => by
    cases h with
    | cons a t => cases a; rw [Dts.ints t]; rfl
theorem Dts.strs {H : Hp} : ∀ {vs : List V} {ns : List Str}, Dts H vs (ns.map PyData.str) → vs = ns.map V.str
  | _, [], h => by cases h; rfl
  | _, n :: r, h => by
    cases h with
    | cons a t => cases a; rw [Dts.strs t]; rfl
theorem Dts.bls {H : Hp} : ∀ {vs : List V} {ns : List Bool}, Dts H vs (ns.map PyData.bool) → vs = ns.map V.bl
  | _, [], h => by cases h; rfl
  | _, n :: r, h => by
    cases h with
    | cons a t => cases a; rw [Dts.bls t]; rfl
theorem dts_ints {H : Hp} : ∀ (ns : List Int), Dts H (ns.map V.int) (ns.map PyData.int)
  | [] => .nil
  | n :: r => .cons (.int n) (dts_ints r)
theorem dts_strs {H : Hp} : ∀ (ns : List Str), Dts H (ns.map V.str) (ns.map PyData.str)
  | [] => .nil
  | n :: r => .cons (.str n) (dts_strs r)
/-! ### data without lists: they stand whatever happens to lists -/
mutual
def td : PD → Bool
  | .list _ => false
  | .dict _ => false
  | .tuple ds => tds ds
  | _ => true
def tds : List PD → Bool
  | [] => true
  | d :: ds => td d && tds ds
end
/-- tuples are kept -/
def Tx (H H' : Hp) : Prop := ∀ a xs, H a = some (.tup xs) → H' a = some (.tup xs)
theorem Tx.refl (H : Hp) : Tx H H := fun _ _ h => h
theorem Tx.trans {H H1 H2 : Hp} (a : Tx H H1) (b : Tx H1 H2) : Tx H H2 := fun x o h => b x o (a x o h)
theorem Ex.tx {H H' : Hp} (e : Ex H H') : Tx H H' := fun a xs h => e a _ h
theorem tx_upd {H : Hp} {p : Addr} {o : HO} (h : ∀ xs, H p ≠ some (.tup xs)) : Tx H (upd H p o) := fun a xs e => by
  rw [upd_ne (fun z => h xs (by rw [← z]; exact e))]
  exact e
mutual
theorem Dt.tx {H H' : Hp} (e : Tx H H') : ∀ (d : PD) {v : V}, td d = true → Dt H v d → Dt H' v d
  | .none, _, _, h => by cases h; exact .non
  | .bool b, _, _, h => by cases h; exact .bl b
  | .int i, _, _, h => by cases h; exact .int i
  | .str x, _, _, h => by cases h; exact .str x
  | .list ds, _, t, h => by cases t
  | .tuple ds, _, t, h => by cases h with | tup a b => exact .tup (e _ _ a) (Dts.tx e ds t b)
  | .dict kvs, _, t, h => by cases h
theorem Dts.tx {H H' : Hp} (e : Tx H H') : ∀ (ds : List PD) {vs : List V}, tds ds = true → Dts H vs ds → Dts H' vs ds
  | [], _, _, h => by cases h; exact .nil
  | d :: ds, _, t, h => by
    have t' : (td d && tds ds) = true := t
    rw [Bool.and_eq_true] at t'
    cases h with | cons a b => exact .cons (Dt.tx e d t'.1 a) (Dts.tx e ds t'.2 b)
end
theorem td_all : ∀ {ds : List PD}, (∀ d ∈ ds, td d = true) → tds ds = true
  | [], _ => rfl
  | d :: ds, h => by
    show (td d && tds ds) = true
    rw [h d List.mem_cons_self, td_all fun x hx => h x (List.mem_cons_of_mem _ hx)]
    rfl
/-! ### environments -/
inductive EOk (H : Hp) : L2.St → En → Prop
  | nil : EOk H [] []
  | non {o : Option V} {σ : L2.St} {Γ : En} : EOk H σ Γ → EOk H (o :: σ) (none :: Γ)
  | som {v : V} {d : PD} {σ : L2.St} {Γ : En} : Dt H v d → EOk H σ Γ → EOk H (some v :: σ) (some d :: Γ)
theorem EOk.mono {H H' : Hp} (e : Ex H H') : ∀ {σ : L2.St} {Γ : En}, EOk H σ Γ → EOk H' σ Γ
  | _, _, .nil => .nil
  | _, _, .non t => .non (EOk.mono e t)
  | _, _, .som a t => .som (a.mono e) (EOk.mono e t)
theorem EOk.get {H : Hp} : ∀ {σ : L2.St} {Γ : En} {i : Nat} {d : PD}, EOk H σ Γ → Γ[i]? = some (some d) → ∃ v, σ[i]? = some (some v) ∧ Dt H v d
  | _, _, _, _, .nil, e => by simp at e
  | _, _, 0, _, .non _, e => by simp at e
  | _, _, 0, _, .som a _, e => by simp at e; subst e; exact ⟨_, rfl, a⟩
  | _, _, i + 1, _, .non t, e => by
    obtain ⟨v, h1, h2⟩ := EOk.get t (show _ = _ by simpa using e)
    exact ⟨v, by simpa using h1, h2⟩
  | _, _, i + 1, _, .som _ t, e => by
    obtain ⟨v, h1, h2⟩ := EOk.get t (show _ = _ by simpa using e)
    exact ⟨v, by simpa using h1, h2⟩
theorem EOk.set {H : Hp} {v : V} {d : PD} (h : Dt H v d) : ∀ {σ : L2.St} {Γ : En} (i : Nat), EOk H σ Γ → EOk H (σ.set i (some v)) (Γ.set i (some d))
  | _, _, _, .nil => .nil
  | _, _, 0, .non t => .som h t
  | _, _, 0, .som a t => .som h t
  | _, _, i + 1, .non t => .non (EOk.set h i t)
  | _, _, i + 1, .som a t => .som a (EOk.set h i t)
theorem EOk.drop {H : Hp} {o : Option V} : ∀ {σ : L2.St} {Γ : En} (i : Nat), EOk H σ Γ → EOk H (σ.set i o) (Γ.set i none)
  | _, _, _, .nil => .nil
  | _, _, 0, .non t => .non t
  | _, _, 0, .som a t => .non t
  | _, _, i + 1, .non t => .non (EOk.drop i t)
  | _, _, i + 1, .som a t => .som a (EOk.drop i t)
theorem EOk.start {H : Hp} {N : List Str} : ∀ {vs : List V} {ds : List PD}, Dts H vs ds → EOk H (L2.start N vs) (ds.map some ++ List.replicate (N.length - vs.length) none) := by
  intro vs ds h
  unfold L2.start
  have fill : ∀ n, EOk H (List.replicate n none) (List.replicate n none) := fun n => by
    induction n with
    | zero => exact .nil
    | succ n ih => exact .non ih
  have go : ∀ {vs : List V} {ds : List PD} {m : Nat}, Dts H vs ds → EOk H (vs.map some ++ List.replicate m none) (ds.map some ++ List.replicate m none) := by
    intro vs
    induction vs with
    | nil => intro ds m h; cases h; exact fill m
    | cons v r ih => intro ds m h; cases h with | cons a t => exact .som a (ih t)
  exact go h
def wipeE (Γ : En) : List Nat → En
  | [] => Γ
  | v :: vs => (wipeE Γ vs).set v none
theorem EOk.wipe {H : Hp} {σ : L2.St} {Γ : En} (h : EOk H σ Γ) : ∀ vs : List Nat, EOk H (L2.wipe σ vs) (wipeE Γ vs)
  | [] => h
  | v :: vs => (EOk.wipe h vs).drop v
/-- Γ' knows no more than Γ -/
inductive Le : En → En → Prop
  | nil : Le [] []
  | non {o : Option PD} {Γ' Γ : En} : Le Γ' Γ → Le (none :: Γ') (o :: Γ)
  | keep {o : Option PD} {Γ' Γ : En} : Le Γ' Γ → Le (o :: Γ') (o :: Γ)
theorem Le.refl : ∀ Γ : En, Le Γ Γ
  | [] => .nil
  | _ :: r => .keep (Le.refl r)
theorem EOk.le {H : Hp} : ∀ {σ : L2.St} {Γ Γ' : En}, Le Γ' Γ → EOk H σ Γ → EOk H σ Γ'
  | _, _, _, .nil, h => h
  | _, _, _, .non l, .non t => .non (EOk.le l t)
  | _, _, _, .non l, .som _ t => .non (EOk.le l t)
  | _, _, _, .keep l, .non t => .non (EOk.le l t)
  | _, _, _, .keep l, .som a t => .som a (EOk.le l t)
theorem wipe_set {σ : L2.St} {i : Nat} {x : Option V} : ∀ {vs : List Nat}, i ∈ vs → L2.wipe (σ.set i x) vs = L2.wipe σ vs
  | [], h => by simp at h
  | v :: vs, h => by
    show (L2.wipe (σ.set i x) vs).set v none = (L2.wipe σ vs).set v none
    by_cases hv : i ∈ vs
    · rw [wipe_set hv]
    · have e : i = v := by simpa [hv] using h
      subst e
      have z : ∀ ws : List Nat, i ∉ ws → L2.wipe (σ.set i x) ws = (L2.wipe σ ws).set i x := by
        intro ws
        induction ws with
        | nil => intro _; rfl
        | cons w ws ih =>
          intro hw
          have h1 : i ≠ w := fun z => hw (by simp [z])
          have h2 : i ∉ ws := fun z => hw (by simp [z])
          show (L2.wipe (σ.set i x) ws).set w none = ((L2.wipe σ ws).set w none).set i x
          rw [ih h2, List.set_comm _ _ h1]
      rw [z vs hv, List.set_set]
/-! ### what evaluates to what: Γ ⊢ te ⇓ d -/
def EvG (te : TE) (Γ : En) (d : PD) : Prop := ∀ σ H, EOk H σ Γ → ∀ Q : VK, (∀ v H', Ex H H' → Dt H' v d → Q v H') → te σ H Q
def EtG (t : TT) (Γ : En) (b : Bool) : Prop := ∀ σ H, EOk H σ Γ → ∀ Q : Bool → Hp → Prop, (∀ H', Ex H H' → Q b H') → t σ H Q
def EaG (t : TA) (Γ : En) (ds : List PD) : Prop := ∀ σ H, EOk H σ Γ → ∀ Q : List V → Hp → Prop, (∀ vs H', Ex H H' → Dts H' vs ds → Q vs H') → t σ H Q
def EoG (t : TO) (Γ : En) (o : Option Int) : Prop := ∀ σ H, EOk H σ Γ → ∀ Q : Option Int → Hp → Prop, (∀ H', Ex H H' → Q o H') → t σ H Q
def RG (r : R2) (d e f : PD) : Prop := ∀ x y H, Dt H x d → Dt H y e → ∀ Q : VK, (∀ v H', Ex H H' → Dt H' v f → Q v H') → r x y H Q
def UG (r : V → Hp → VK → Prop) (d f : PD) : Prop := ∀ x H, Dt H x d → ∀ Q : VK, (∀ v H', Ex H H' → Dt H' v f → Q v H') → r x H Q
def CG (r : List V → Hp → VK → Prop) (ds : List PD) (f : PD) : Prop := ∀ vs H, Dts H vs ds → ∀ Q : VK, (∀ v H', Ex H H' → Dt H' v f → Q v H') → r vs H Q
def MG (K : Kx) (T : String) (r : V → List V → Hp → VK → Prop) (d : PD) (ds : List PD) (f : PD) : Prop := ∀ x H, Dt H x d → tyV K T x H ∧ ∀ vs H', Ex H H' → Dts H' vs ds → ∀ Q : VK, (∀ v H'', Ex H' H'' → Dt H'' v f → Q v H'') → r x vs H' Q
/-- a promise that is a function of data -/
def SpG (sp : Sp) (ds : List PD) (f : PD) : Prop := ∀ vs H Q (E : XK), Dts H vs ds → (∀ v H', Ex H H' → Dt H' v f → Q v H') → sp vs H Q E
def spF (R : List PD → PD → Prop) : Sp := fun vs H Q _ => ∃ ds f, Dts H vs ds ∧ R ds f ∧ ∀ v H', Ex H H' → Dt H' v f → Q v H'
theorem spF_g {R : List PD → PD → Prop} {ds : List PD} {f : PD} (h : R ds f) : SpG (spF R) ds f := fun vs H Q _ a k => ⟨ds, f, a, h, k⟩
section
variable {K : Kx} {Γ : En} {ta tb te tc : TE} {t u : TT} {d e f : PD} {r : R2}
theorem eg_var {i : Nat} (h : Γ[i]? = some (some d)) : EvG (tVar i) Γ d := fun σ H e Q q => by
  obtain ⟨v, h1, h2⟩ := e.get h
  exact ⟨v, h1, q v H (Ex.refl H) h2⟩
theorem eg_int {i : Int} : EvG (tC (.int i)) Γ (.int i) := fun σ H e Q q => q _ H (Ex.refl H) (.int i)
theorem eg_str {i : Str} : EvG (tC (.str i)) Γ (.str i) := fun σ H e Q q => q _ H (Ex.refl H) (.str i)
theorem eg_bl {i : Bool} : EvG (tC (.bl i)) Γ (.bool i) := fun σ H e Q q => q _ H (Ex.refl H) (.bl i)
theorem eg_non : EvG (tC .non) Γ .none := fun σ H e Q q => q _ H (Ex.refl H) .non
theorem eg_op (hr : RG r d e f) (ha : EvG ta Γ d) (hb : EvG tb Γ e) : EvG (tOp r ta tb) Γ f := fun σ H ok Q q =>
  ha σ H ok _ fun x H1 x1 d1 => hb σ H1 (ok.mono x1) _ fun y H2 x2 d2 => hr x y H2 (d1.mono x2) d2 Q fun v H3 x3 d3 => q v H3 ((x1.trans x2).trans x3) d3
theorem eg_un {r : V → Hp → VK → Prop} (hr : UG r d f) (ha : EvG ta Γ d) : EvG (tUn r ta) Γ f := fun σ H ok Q q =>
  ha σ H ok _ fun x H1 x1 d1 => hr x H1 d1 Q fun v H3 x3 d3 => q v H3 (x1.trans x3) d3
theorem ea_nil : EaG tNil Γ [] := fun σ H ok Q q => q [] H (Ex.refl H) .nil
theorem ea_cons {tr : TA} {ds : List PD} (ha : EvG ta Γ d) (hr : EaG tr Γ ds) : EaG (tCons ta tr) Γ (d :: ds) := fun σ H ok Q q =>
  ha σ H ok _ fun x H1 x1 d1 => hr σ H1 (ok.mono x1) _ fun xs H2 x2 d2 => q (x :: xs) H2 (x1.trans x2) (.cons (d1.mono x2) d2)
theorem ea_star {tr : TA} {ds es : List PD} (ha : EvG ta Γ (.list es)) (hr : EaG tr Γ ds) : EaG (StX.tStar K ta tr) Γ (es ++ ds) := fun σ H ok Q q =>
  ha σ H ok _ fun x H1 x1 d1 => by
    cases d1 with
    | lst a b => exact ⟨_, _, rfl, .inr (sq_of a), hr σ H1 (ok.mono x1) _ fun xs H2 x2 d2 => q _ H2 (x1.trans x2) ((b.mono x2).append d2)⟩
theorem eg_tup {ta : TA} {ds : List PD} (h : EaG ta Γ ds) (hl : ds.length ≤ 100000) : EvG (tTup ta) Γ (.tuple ds) := fun σ H ok Q q =>
  h σ H ok _ fun xs H1 x1 d1 => ⟨sz_of (by rw [d1.length]; exact hl), fun p hp => q _ _ (x1.trans (Ex.new hp)) (.tup upd_same (d1.mono (Ex.new hp)))⟩
theorem eg_lst {ta : TA} {ds : List PD} (h : EaG ta Γ ds) (hl : ds.length ≤ 100000) : EvG (tLst ta) Γ (.list ds) := fun σ H ok Q q =>
  h σ H ok _ fun xs H1 x1 d1 => ⟨sz_of (by rw [d1.length]; exact hl), fun p hp => q _ _ (x1.trans (Ex.new hp)) (.lst upd_same (d1.mono (Ex.new hp)))⟩
theorem eg_cb {r : List V → Hp → VK → Prop} {ta : TA} {ds : List PD} (hr : CG r ds f) (h : EaG ta Γ ds) : EvG (tCB r ta) Γ f := fun σ H ok Q q =>
  h σ H ok _ fun xs H1 x1 d1 => hr xs H1 d1 Q fun v H2 x2 d2 => q v H2 (x1.trans x2) d2
theorem eg_bm {T : String} {r : V → List V → Hp → VK → Prop} {to : TE} {ta : TA} {ds : List PD} (hr : MG K T r d ds f) (ho : EvG to Γ d) (h : EaG ta Γ ds) : EvG (tBM K T r to ta) Γ f := fun σ H ok Q q =>
  ho σ H ok _ fun x H1 x1 d1 => by
    obtain ⟨h1, h2⟩ := hr x H1 d1
    exact ⟨h1, h σ H1 (ok.mono x1) _ fun xs H2 x2 d2 => h2 xs H2 x2 d2 Q fun v H3 x3 d3 => q v H3 ((x1.trans x2).trans x3) d3⟩
theorem eg_call {sp : Sp} {E : XK} {ta : TA} {ds : List PD} (hs : SpG sp ds f) (h : EaG ta Γ ds) : EvG (tCall sp [] E ta) Γ f := fun σ H ok Q q =>
  h σ H ok _ fun xs H1 x1 d1 => by
    rw [List.append_nil]
    exact hs xs H1 Q E d1 fun v H2 x2 d2 => q v H2 (x1.trans x2) d2
theorem eo_none : EoG tNoPart Γ none := fun σ H ok Q q => q H (Ex.refl H)
theorem eo_some {i : Int} (h : EvG te Γ (.int i)) : EoG (tPart te) Γ (some i) := fun σ H ok Q q =>
  h σ H ok _ fun x H1 x1 d1 => by cases d1; exact ⟨i, rfl, q H1 x1⟩
theorem eg_sl {r : V → Option Int → Option Int → Hp → VK → Prop} {tl th : TO} {lo hi : Option Int} (hr : ∀ x H, Dt H x d → ∀ Q : VK, (∀ v H', Ex H H' → Dt H' v f → Q v H') → r x lo hi H Q) (h : EvG te Γ d) (h1 : EoG tl Γ lo) (h2 : EoG th Γ hi) :
    EvG (tSl r te tl th) Γ f := fun σ H ok Q q =>
  h σ H ok _ fun x H1 x1 d1 => h1 σ H1 (ok.mono x1) _ fun H2 x2 => h2 σ H2 (ok.mono (x1.trans x2)) _ fun H3 x3 => hr x H3 (d1.mono (x2.trans x3)) Q fun v H4 x4 d4 => q v H4 (((x1.trans x2).trans x3).trans x4) d4
theorem eg_if {b : Bool} (h : EtG t Γ b) (h1 : b = true → EvG ta Γ f) (h2 : b = false → EvG tb Γ f) : EvG (tIf t ta tb) Γ f := fun σ H ok Q q =>
  h σ H ok _ fun H1 x1 => by
    cases b with
    | true => exact h1 rfl σ H1 (ok.mono x1) Q fun v H2 x2 d2 => q v H2 (x1.trans x2) d2
    | false => exact h2 rfl σ H1 (ok.mono x1) Q fun v H2 x2 d2 => q v H2 (x1.trans x2) d2
theorem eg_andV {a b : Bool} (h1 : EvG ta Γ (.bool a)) (h2 : a = true → EvG tb Γ (.bool b)) : EvG (tAndV ta tb) Γ (.bool (a && b)) := fun σ H ok Q q =>
  h1 σ H ok _ fun x H1 x1 d1 => by
    cases d1
    refine ⟨a, rfl, ?_⟩
    cases a with
    | true => exact h2 rfl σ H1 (ok.mono x1) Q fun v H2 x2 d2 => q v H2 (x1.trans x2) d2
    | false => exact q _ H1 x1 (.bl false)
theorem eg_orV {a b : Bool} (h1 : EvG ta Γ (.bool a)) (h2 : a = false → EvG tb Γ (.bool b)) : EvG (tOrV ta tb) Γ (.bool (a || b)) := fun σ H ok Q q =>
  h1 σ H ok _ fun x H1 x1 d1 => by
    cases d1
    refine ⟨a, rfl, ?_⟩
    cases a with
    | false => exact h2 rfl σ H1 (ok.mono x1) Q fun v H2 x2 d2 => q v H2 (x1.trans x2) d2
    | true => exact q _ H1 x1 (.bl true)
theorem eg_notV {a : Bool} (h1 : EvG ta Γ (.bool a)) : EvG (tNotV ta) Γ (.bool (!a)) := fun σ H ok Q q =>
  h1 σ H ok _ fun x H1 x1 d1 => by
    cases d1
    exact ⟨a, rfl, q _ H1 x1 (.bl _)⟩
theorem et_test {b : Bool} (h : EvG te Γ (.bool b)) : EtG (tTest te) Γ b := fun σ H ok Q q => h σ H ok _ fun x H1 x1 d1 => by
  cases d1
  exact ⟨b, rfl, q H1 x1⟩
theorem et_B {b : Bool} (h : EvG te Γ (.bool b)) : EtG (tB te) Γ b := fun σ H ok Q q => h σ H ok _ fun x H1 x1 d1 => by
  cases d1
  exact ⟨b, rfl, q H1 x1⟩
theorem et_and {a b : Bool} (h1 : EtG t Γ a) (h2 : a = true → EtG u Γ b) : EtG (tAnd t u) Γ (a && b) := fun σ H ok Q q => h1 σ H ok _ fun H1 x1 => by
  cases a with
  | true => exact h2 rfl σ H1 (ok.mono x1) Q fun H2 x2 => q H2 (x1.trans x2)
  | false => exact q H1 x1
theorem et_or {a b : Bool} (h1 : EtG t Γ a) (h2 : a = false → EtG u Γ b) : EtG (tOr t u) Γ (a || b) := fun σ H ok Q q => h1 σ H ok _ fun H1 x1 => by
  cases a with
  | false => exact h2 rfl σ H1 (ok.mono x1) Q fun H2 x2 => q H2 (x1.trans x2)
  | true => exact q H1 x1
theorem et_not {a : Bool} (h1 : EtG t Γ a) : EtG (tNot t) Γ (!a) := fun σ H ok Q q => h1 σ H ok _ fun H1 x1 => q H1 x1
theorem et_yes : EtG tYes Γ true := fun σ H ok Q q => q H (Ex.refl H)
theorem EvG.is {d' : PD} (h : EvG te Γ d) (e : d = d') : EvG te Γ d' := e ▸ h
theorem EtG.is {b b' : Bool} (h : EtG t Γ b) (e : b = b') : EtG t Γ b' := e ▸ h
theorem EaG.is {ta : TA} {ds ds' : List PD} (h : EaG ta Γ ds) (e : ds = ds') : EaG ta Γ ds' := e ▸ h
theorem et_isN {b : Bool} (h : EvG ta Γ d) : EvG (tIsN ta) Γ (.bool (match d with | .none => true | _ => false)) := fun σ H ok Q q => h σ H ok _ fun x H1 x1 d1 => by
  cases d1 <;> exact q _ H1 x1 (.bl _)
end
end Stair
/-! ## StDat2 -/
set_option Elab.async false
set_option linter.all false
set_option maxRecDepth 100000
set_option maxHeartbeats 1000000
namespace Stair
open PySem PySem.Spec PyProof.Rows L2 Evl
/-! ### iteration -/
/-- J hands out the data ds, one by one -/
def Gives (J : It) (ds : List PD) (H1 : Hp) : Prop := ∃ (G : Hp → Prop) (Y : Nat → Hp → V → Hp → Prop), Walk J ds.length G Y ∧ G H1 ∧ (∀ H H', Ex H H' → G H → G H') ∧
  ∀ i H x H', i < ds.length → G H → Ex H1 H → Y i H x H' → Ex H H' ∧ ∃ d, ds[i]? = some d ∧ Dt H' x d
def ItG (wi : TI) (Γ : En) (ds : List PD) : Prop := ∀ σ H, EOk H σ Γ → ∀ R : It → Hp → Prop, (∀ J H1, Ex H H1 → Gives J ds H1 → R J H1) → wi σ H R
section
variable {K : Kx} {Γ : En}
theorem gives_list {H : Hp} {a : Addr} {xs : List V} {ds : List PD} (h : H a = some (.lst xs)) (r : Dts H xs ds) : Gives (Itl K a) ds H := by
  have hl := r.length
  refine ⟨fun H' => H' a = some (.lst xs), YAt xs, hl ▸ (walk_list (K := K) (a := a) (xs := xs)).mono (fun _ q => sq_of q) (fun _ _ _ _ _ _ y => y), h, fun _ _ e q => e _ _ q, ?_⟩
  rintro i H1 x H' hi g x1 ⟨rfl, hx⟩
  obtain ⟨d, h1, h2⟩ := r.getV hx
  exact ⟨Ex.refl _, d, h1, h2.mono x1⟩
theorem gives_tup {H : Hp} {a : Addr} {xs : List V} {ds : List PD} (h : H a = some (.tup xs)) (r : Dts H xs ds) : Gives (Itt K a) ds H := by
  have hl := r.length
  refine ⟨fun H' => H' a = some (.tup xs), YAt xs, hl ▸ (walk_tup (K := K) (a := a) (xs := xs)).mono (fun _ q => st_of q) (fun _ _ _ _ _ _ y => y), h, fun _ _ e q => e _ _ q, ?_⟩
  rintro i H1 x H' hi g x1 ⟨rfl, hx⟩
  obtain ⟨d, h1, h2⟩ := r.getV hx
  exact ⟨Ex.refl _, d, h1, h2.mono x1⟩
theorem it_list {te : TE} {ds : List PD} (h : EvG te Γ (.list ds)) : ItG (iList K te) Γ ds := fun σ H ok R q => h σ H ok _ fun v H1 x1 d1 => by
  cases d1 with
  | lst a b => exact ⟨_, rfl, ⟨_, sq_of a⟩, q _ H1 x1 (gives_list a b)⟩
theorem it_tup {te : TE} {ds : List PD} (h : EvG te Γ (.tuple ds)) : ItG (iTup K te) Γ ds := fun σ H ok R q => h σ H ok _ fun v H1 x1 d1 => by
  cases d1 with
  | tup a b => exact ⟨_, rfl, ⟨_, st_of a⟩, q _ H1 x1 (gives_tup a b)⟩
def signs (z : Str) : List PD := z.cps.toList.map fun c => PyData.str ⟨#[c]⟩
theorem gives_str {H : Hp} {z : Str} : Gives (Its z) (signs z) H := by
  have hl : (signs z).length = z.cps.size := by unfold signs; rw [List.length_map, Array.length_toList]
  refine ⟨fun _ => True, _, hl ▸ walk_str (z := z), trivial, fun _ _ _ _ => trivial, ?_⟩
  rintro i H1 x H' hi g x1 ⟨rfl, c, hc, rfl⟩
  refine ⟨Ex.refl _, .str ⟨#[c]⟩, ?_, .str _⟩
  unfold signs
  rw [List.getElem?_map, Array.getElem?_toList, hc]
  rfl
theorem it_str {te : TE} {z : Str} (h : EvG te Γ (.str z)) : ItG (iStr te) Γ (signs z) := fun σ H ok R q => h σ H ok _ fun v H1 x1 d1 => by
  cases d1
  exact ⟨z, rfl, q _ H1 x1 gives_str⟩
def upto (lo : Int) (n : Nat) : List PD := (List.range n).map fun i => PyData.int (lo + (i : Nat))
theorem gives_range {H : Hp} {lo : Int} {n : Nat} : Gives (Itr lo n) (upto lo n) H := by
  have hl : (upto lo n).length = n := by unfold upto; rw [List.length_map, List.length_range]
  refine ⟨fun _ => True, _, by rw [hl]; exact walk_range (lo := lo) (n := n), trivial, fun _ _ _ _ => trivial, ?_⟩
  rintro i H1 x H' hi g x1 ⟨rfl, rfl⟩
  refine ⟨Ex.refl _, .int (lo + (i : Nat)), ?_, .int _⟩
  rw [hl] at hi
  unfold upto
  rw [List.getElem?_map, List.getElem?_range hi]
  rfl
theorem it_range1 {ta : TA} {j : Int} (h : EaG ta Γ [.int j]) (h1 : -(2 ^ 62) ≤ j) (h2 : j < 2 ^ 62) : ItG (iRng1 ta) Γ (upto 0 j.toNat) := fun σ H ok R q => h σ H ok _ fun vs H1 x1 d1 => by
  cases d1 with
  | cons a t => cases a; cases t; exact ⟨j, rfl, h1, h2, q _ H1 x1 gives_range⟩
theorem it_range2 {ta : TA} {i j : Int} (h : EaG ta Γ [.int i, .int j]) (h1 : -(2 ^ 62) ≤ i ∧ i < 2 ^ 62 ∧ -(2 ^ 62) ≤ j ∧ j < 2 ^ 62) : ItG (iRng2 ta) Γ (upto i (j - i).toNat) := fun σ H ok R q => h σ H ok _ fun vs H1 x1 d1 => by
  cases d1 with
  | cons a t => cases a; cases t with | cons b u => cases b; cases u; exact ⟨i, j, rfl, h1, q _ H1 x1 gives_range⟩
def steps (lo c : Int) (n : Nat) : List PD := (List.range n).map fun i => PyData.int (lo + (i : Nat) * c)
theorem gives_rangeC {H : Hp} {lo c : Int} {n : Nat} : Gives (Itc lo c n) (steps lo c n) H := by
  have hl : (steps lo c n).length = n := by unfold steps; rw [List.length_map, List.length_range]
  refine ⟨fun _ => True, _, by rw [hl]; exact walk_rangeC (lo := lo) (c := c) (n := n), trivial, fun _ _ _ _ => trivial, ?_⟩
  rintro i H1 x H' hi g x1 ⟨rfl, rfl⟩
  refine ⟨Ex.refl _, .int (lo + (i : Nat) * c), ?_, .int _⟩
  rw [hl] at hi
  unfold steps
  rw [List.getElem?_map, List.getElem?_range hi]
  rfl
theorem it_range3 {ta : TA} {i j c : Int} {n : Nat} (h : EaG ta Γ [.int i, .int j, .int c]) (h1 : RgC i j c n) : ItG (iRng3 ta) Γ (steps i c n) := fun σ H ok R q => h σ H ok _ fun vs H1 x1 d1 => by
  cases d1 with
  | cons a t => cases a; cases t with | cons b u => cases b; cases u with | cons c' w => cases c'; cases w; exact ⟨i, j, c, n, rfl, h1, q _ H1 x1 gives_rangeC⟩
/-- pairs -/
def pairUp (xs ys : List PD) : List PD := List.zipWith (fun x y => PyData.tuple [x, y]) xs ys
theorem pairUp_length (xs ys : List PD) : (pairUp xs ys).length = min xs.length ys.length := List.length_zipWith ..
theorem pairUp_get {xs ys : List PD} {i : Nat} {x y : PD} (h1 : xs[i]? = some x) (h2 : ys[i]? = some y) : (pairUp xs ys)[i]? = some (.tuple [x, y]) := by
  unfold pairUp
  rw [List.getElem?_zipWith, h1, h2]
theorem gives_pairs {H : Hp} {J : It} {xs ys : List V} {ds es : List PD} {n : Nat} (hn : n = min xs.length ys.length) (G : Hp → Prop) (w : Walk J n G (YPair (fun i => xs[i]?) (fun i => ys[i]?))) (hG : G H) (hs : ∀ H H', Ex H H' → G H → G H') (r1 : Dts H xs ds) (r2 : Dts H ys es) : Gives J (pairUp ds es) H := by
  have hl : (pairUp ds es).length = n := by rw [pairUp_length, hn, r1.length, r2.length]
  refine ⟨G, _, hl ▸ w, hG, hs, ?_⟩
  rintro i H1 x H' hi g x1 ⟨T, a, b, rfl, hT, rfl, ha, hb⟩
  obtain ⟨d, h1, h2⟩ := r1.getV ha
  obtain ⟨e, h3, h4⟩ := r2.getV hb
  have q := Ex.new (o := .tup [a, b]) hT
  exact ⟨q, _, pairUp_get h1 h3, .tup upd_same (.cons (h2.mono (x1.trans q)) (.cons (h4.mono (x1.trans q)) .nil))⟩
theorem gives_zipL {H : Hp} {a b : Addr} {xs ys : List V} {ds es : List PD} (h1 : H a = some (.lst xs)) (h2 : H b = some (.lst ys)) (r1 : Dts H xs ds) (r2 : Dts H ys es) : Gives (Itz K a b) (pairUp ds es) H :=
  gives_pairs rfl (fun H' => H' a = some (.lst xs) ∧ H' b = some (.lst ys)) ((walk_zip (K := K) (a := a) (b := b) (xs := xs) (ys := ys) rfl).mono (fun _ q => ⟨sq_of q.1, sq_of q.2⟩) (fun _ _ _ _ _ _ y => y)) ⟨h1, h2⟩ (fun _ _ e q => ⟨e _ _ q.1, e _ _ q.2⟩) r1 r2
end
/-! ### patterns -/
def setsV (σ : L2.St) : List (Nat × V) → L2.St
  | [] => σ
  | p :: ps => setsV (σ.set p.1 (some p.2)) ps
def setsE (Γ : En) : List (Nat × PD) → En
  | [] => Γ
  | p :: ps => setsE (Γ.set p.1 (some p.2)) ps
inductive Prs (H : Hp) : List (Nat × V) → List (Nat × PD) → Prop
  | nil : Prs H [] []
  | cons {i : Nat} {v : V} {d : PD} {xs : List (Nat × V)} {ps : List (Nat × PD)} : Dt H v d → Prs H xs ps → Prs H ((i, v) :: xs) ((i, d) :: ps)
theorem Prs.append {H : Hp} : ∀ {xs ys : List (Nat × V)} {ps qs : List (Nat × PD)}, Prs H xs ps → Prs H ys qs → Prs H (xs ++ ys) (ps ++ qs)
  | _, _, _, _, .nil, h => h
  | _, _, _, _, .cons a t, h => .cons a (t.append h)
theorem setsV_append (σ : L2.St) : ∀ (xs ys : List (Nat × V)), setsV σ (xs ++ ys) = setsV (setsV σ xs) ys
  | [], ys => rfl
  | p :: xs, ys => setsV_append (σ.set p.1 (some p.2)) xs ys
theorem setsE_append (Γ : En) : ∀ (xs ys : List (Nat × PD)), setsE Γ (xs ++ ys) = setsE (setsE Γ xs) ys
  | [], ys => rfl
  | p :: xs, ys => setsE_append (Γ.set p.1 (some p.2)) xs ys
theorem Prs.ok {H : Hp} : ∀ {xs : List (Nat × V)} {ps : List (Nat × PD)} {σ : L2.St} {Γ : En}, Prs H xs ps → EOk H σ Γ → EOk H (setsV σ xs) (setsE Γ ps)
  | _, _, _, _, .nil, ok => ok
  | _, _, _, _, .cons a t, ok => t.ok (ok.set a _)
theorem Prs.wipe {H : Hp} {vs : List Nat} : ∀ {xs : List (Nat × V)} {ps : List (Nat × PD)} {σ : L2.St}, Prs H xs ps → (∀ p ∈ ps, p.1 ∈ vs) → L2.wipe (setsV σ xs) vs = L2.wipe σ vs
  | _, _, _, .nil, _ => rfl
  | _, _, σ, .cons (i := i) (v := v) (xs := xs) a t, h => by
    show L2.wipe (setsV (σ.set i (some v)) xs) vs = _
    rw [t.wipe fun p hp => h p (List.mem_cons_of_mem _ hp), wipe_set (h _ List.mem_cons_self)]
/-- the pattern g takes d apart into ps -/
def GpG (g : TG) (d : PD) (ps : List (Nat × PD)) : Prop := ∀ v σ H, Dt H v d → ∀ N : L2.St → Hp → Prop, (∀ xs, Prs H xs ps → N (setsV σ xs) H) → g v σ H N
def GsG (g : TGs) (ds : List PD) (ps : List (Nat × PD)) : Prop := ∀ vs σ H, Dts H vs ds → ∀ N : L2.St → Hp → Prop, (∀ xs, Prs H xs ps → N (setsV σ xs) H) → g vs σ H N
theorem gp_name {i : Nat} {d : PD} : GpG (gName i) d [(i, d)] := fun v σ H h N q => q [(i, v)] (.cons h .nil)
theorem gs_nil : GsG gNil [] [] := fun vs σ H h N q => by
  cases h
  exact ⟨rfl, q [] .nil⟩
theorem gs_cons {g : TG} {gs : TGs} {d : PD} {ds : List PD} {ps qs : List (Nat × PD)} (h : GpG g d ps) (hr : GsG gs ds qs) : GsG (gCons g gs) (d :: ds) (ps ++ qs) := fun vs σ H hd N q => by
  cases hd with
  | cons a t =>
    refine ⟨_, _, rfl, h _ σ H a _ fun xs px => hr _ _ H t _ fun ys py => ?_⟩
    rw [← setsV_append]
    exact q _ (px.append py)
theorem gp_tup {K : Kx} {n : Nat} {gs : TGs} {ds : List PD} {ps : List (Nat × PD)} (h : GsG gs ds ps) (hn : ds.length = n) : GpG (gTup K n gs) (.tuple ds) ps := fun v σ H hd N q => by
  cases hd with
  | tup a b => exact ⟨_, _, rfl, st_of a, b.length.trans hn, h _ σ H b N q⟩
theorem GpG.is {g : TG} {d : PD} {ps qs : List (Nat × PD)} (h : GpG g d ps) (e : ps = qs) : GpG g d qs := e ▸ h
theorem wipe_get (σ : L2.St) (i : Nat) : ∀ vs : List Nat, (L2.wipe σ vs)[i]? = if i ∈ vs then σ[i]?.map (fun _ => none) else σ[i]?
  | [] => by simp [L2.wipe]
  | v :: vs => by
    show ((L2.wipe σ vs).set v none)[i]? = _
    have ih := wipe_get σ i vs
    by_cases h : v = i
    · subst h
      rw [List.getElem?_set_self', ih]
      by_cases hv : v ∈ vs <;> simp [hv] <;> cases σ[v]? <;> rfl
    · rw [List.getElem?_set_ne h, ih]
      have : (i ∈ v :: vs) ↔ i ∈ vs := by simp [Ne.symm h]
      simp only [this]
theorem wipe_two (σ : L2.St) (vs : List Nat) : L2.wipe (L2.wipe σ vs) vs = L2.wipe σ vs := by
  apply List.ext_getElem?
  intro i
  rw [wipe_get (L2.wipe σ vs), wipe_get σ]
  by_cases h : i ∈ vs
  · simp [h]; cases σ[i]? <;> rfl
  · simp [h]
theorem ifT {A B : Prop} (h : A) : if true = true then A else B := h
theorem ifF {A B : Prop} (h : B) : if false = true then A else B := h
/-! ### comprehensions -/
theorem eg_lcF {α : Type} {K : Kx} {Γ : En} {wi : TI} {g : TG} {tt : TT} {te : TE} {vs : List Nat} {l : List α} {q f : α → PD} {b : α → Bool} (hi : ItG wi Γ (l.map q)) (hl : l.length ≤ 16000000)
    (h : ∀ x, x ∈ l → ∃ ps, GpG g (q x) ps ∧ (∀ p ∈ ps, p.1 ∈ vs) ∧ EtG tt (setsE (wipeE Γ vs) ps) (b x) ∧ (b x = true → EvG te (setsE (wipeE Γ vs) ps) (f x) ∧ td (f x) = true)) :
    EvG (tLc wi g tt te vs) Γ (.list ((l.filter b).map f)) := fun σ H ok Q k => hi σ H ok _ fun J H1 x1 gv D hD => by
  obtain ⟨G, Y, w, g1, gs, gy⟩ := gv
  rw [List.length_map] at w
  have x2 := x1.trans (Ex.new (o := .lst []) hD)
  refine lc_it w (Pv := fun i H2 => Ex H1 H2 ∧ ∃ acc, H2 D = some (.lst acc) ∧ Dts H2 acc (((l.take i).filter b).map f) ∧ i ≤ l.length) ⟨Ex.new hD, [], upd_same, by exact .nil, Nat.zero_le _⟩ (fun i H2 _ p => gs _ _ p.1 g1) ?_ ?_
  · rintro i x H2 H3 hi ⟨e2, acc, ha, hacc, _⟩ y
    obtain ⟨e3, d, hd, dx⟩ := gy i H2 x H3 (by rw [List.length_map]; exact hi) (gs _ _ e2 g1) e2 y
    rw [List.getElem?_map] at hd
    obtain ⟨z, hz, rfl⟩ := Option.map_eq_some_iff.mp hd
    obtain ⟨ps, hp, hv, ht, he⟩ := h z (List.mem_of_getElem? hz)
    have ok3 : EOk H3 (L2.wipe σ vs) (wipeE Γ vs) := (ok.mono (x1.trans (e2.trans e3))).wipe vs
    have hlt : acc.length < sizeLine := by
      have z1 : acc.length ≤ l.length := by
        rw [hacc.length, List.length_map]
        exact Nat.le_trans (List.length_filter_le _ _) (by rw [List.length_take]; exact Nat.min_le_right _ _)
      have z2 : sizeLine = 16777216 := sizeLine_eq
      omega
    have htk : l.take (i + 1) = l.take i ++ [z] := by rw [List.take_add_one, hz]; rfl
    refine hp x _ H3 dx _ fun xs px => ⟨?_, ht _ H3 (px.ok ok3) _ fun H4 e4 => ?_⟩
    · rw [px.wipe hv, wipe_two]
    · have d3 : H3 D = some (.lst acc) := e3 _ _ ha
      cases hb : b z with
      | false =>
        refine ifF ⟨(e2.trans e3).trans e4, acc, e4 _ _ d3, ?_, hi⟩
        rw [htk, List.filter_append, List.map_append]
        have zz : List.filter b [z] = [] := by simp [hb]
        rw [zz, List.map_nil, List.append_nil]
        exact hacc.mono (e3.trans e4)
      | true =>
        refine ifT ((he hb).1 _ H4 ((px.ok ok3).mono e4) _ fun v H5 e5 dv => ?_)
        have d5 : H5 D = some (.lst acc) := e5 _ _ (e4 _ _ d3)
        have tx : Tx H5 (upd H5 D (.lst (acc ++ [v]))) := tx_upd fun zs z => by rw [d5] at z; cases z
        have ht : tds (((l.take i).filter b).map f) = true := td_all fun z hz => by
          obtain ⟨y, hy, rfl⟩ := List.mem_map.mp hz
          obtain ⟨hy1, hy2⟩ := List.mem_filter.mp hy
          obtain ⟨_, _, _, _, k⟩ := h y (List.mem_of_mem_take hy1)
          exact (k hy2).2
        refine ⟨acc, d5, hlt, Ex.mut (((e2.trans e3).trans e4).trans e5) hD, acc ++ [v], upd_same, ?_, hi⟩
        rw [htk, List.filter_append, List.map_append]
        have zz : List.filter b [z] = [z] := by simp [hb]
        rw [zz]
        exact (Dts.tx tx _ ht (hacc.mono ((e3.trans e4).trans e5))).append (.cons (Dt.tx tx _ (he hb).2 dv) .nil)
  · rintro H2 ⟨e2, acc, ha, hacc, _⟩
    rw [List.take_length] at hacc
    exact k _ H2 (x1.trans e2) (.lst ha hacc)
theorem eg_lc {K : Kx} {Γ : En} {wi : TI} {g : TG} {tt : TT} {te : TE} {vs : List Nat} {ds : List PD} {b : PD → Bool} {f : PD → PD} (hi : ItG wi Γ ds) (hl : ds.length ≤ 16000000)
    (h : ∀ d, d ∈ ds → ∃ ps, GpG g d ps ∧ (∀ p ∈ ps, p.1 ∈ vs) ∧ EtG tt (setsE (wipeE Γ vs) ps) (b d) ∧ (b d = true → EvG te (setsE (wipeE Γ vs) ps) (f d) ∧ td (f d) = true)) :
    EvG (tLc wi g tt te vs) Γ (.list ((ds.filter b).map f)) := eg_lcF (K := K) (q := id) (by rw [List.map_id]; exact hi) hl h
/-- without a test -/
theorem eg_lcM {α : Type} {K : Kx} {Γ : En} {wi : TI} {g : TG} {te : TE} {vs : List Nat} {l : List α} {q f : α → PD} (hi : ItG wi Γ (l.map q)) (hl : l.length ≤ 16000000)
    (h : ∀ x, x ∈ l → ∃ ps, GpG g (q x) ps ∧ (∀ p ∈ ps, p.1 ∈ vs) ∧ EvG te (setsE (wipeE Γ vs) ps) (f x) ∧ td (f x) = true) : EvG (tLc wi g tYes te vs) Γ (.list (l.map f)) := by
  have z := eg_lcF (K := K) (b := fun _ => true) (f := f) hi hl fun d hd => by
    obtain ⟨ps, a, b, c, e⟩ := h d hd
    exact ⟨ps, a, b, et_yes, fun _ => ⟨c, e⟩⟩
  rw [List.filter_eq_self.mpr fun _ _ => rfl] at z
  exact z
end Stair
/-! ## StDat3 -/
set_option Elab.async false
set_option linter.all false
set_option maxRecDepth 100000
set_option maxHeartbeats 1000000
namespace Stair
open PySem PySem.Spec PyProof.Rows L2 Evl
/-! ### statements: Γ ⊢ ts → o -/
inductive Out where
  | nx (Γ : En) | rt (d : PD) | bk (Γ : En)
def Acc (D : Ends) (H : Hp) : Out → Prop
  | .nx Γ => ∀ σ' H', Ex H H' → EOk H' σ' Γ → D.nx σ' H'
  | .rt d => ∀ v H', Ex H H' → Dt H' v d → D.rt v H'
  | .bk Γ => ∀ σ' H', Ex H H' → EOk H' σ' Γ → D.bk σ' H'
def SG (ts : TS) (Γ : En) (o : Out) : Prop := ∀ D σ H, EOk H σ Γ → Acc D H o → ts D σ H
theorem Acc.mono {D : Ends} {H H' : Hp} (e : Ex H H') : ∀ {o : Out}, Acc D H o → Acc D H' o
  | .nx _, a => fun σ' H'' e' => a σ' H'' (e.trans e')
  | .rt _, a => fun v H'' e' => a v H'' (e.trans e')
  | .bk _, a => fun σ' H'' e' => a σ' H'' (e.trans e')
section
variable {K : Kx} {Γ Γ1 Γ2 : En} {t u : TS} {te : TE} {o : Out} {d : PD}
theorem sg_seq (h : SG t Γ (.nx Γ1)) (h2 : SG u Γ1 o) : SG (tSeq t u) Γ o := fun D σ H ok a =>
  h { D with nx := u D } σ H ok fun σ' H' e ok' => h2 D σ' H' ok' (a.mono e)
theorem sg_seqR (h : SG t Γ (.rt d)) : SG (tSeq t u) Γ (.rt d) := fun D σ H ok a => h { D with nx := u D } σ H ok a
theorem sg_seqB (h : SG t Γ (.bk Γ1)) : SG (tSeq t u) Γ (.bk Γ1) := fun D σ H ok a => h { D with nx := u D } σ H ok a
theorem sg_next : SG tNext Γ (.nx Γ) := fun D σ H ok a => a σ H (Ex.refl H) ok
theorem sg_asg {i : Nat} (h : EvG te Γ d) : SG (tAsg te (gName i)) Γ (.nx (Γ.set i (some d))) := fun D σ H ok a =>
  h σ H ok _ fun v H1 e1 d1 => a _ H1 e1 ((ok.mono e1).set d1 i)
theorem sg_asgP {g : TG} {ps : List (Nat × PD)} (h : EvG te Γ d) (hg : GpG g d ps) : SG (tAsg te g) Γ (.nx (setsE Γ ps)) := fun D σ H ok a =>
  h σ H ok _ fun v H1 e1 d1 => hg v σ H1 d1 _ fun xs px => a _ H1 e1 (px.ok (ok.mono e1))
theorem sg_par {i j : Nat} {ta : TA} {d1 d2 : PD} (h : EaG ta Γ [d1, d2]) : SG (tPar i j ta) Γ (.nx ((Γ.set i (some d1)).set j (some d2))) := fun D σ H ok a =>
  h σ H ok _ fun vs H1 e1 r => by
    cases r with | cons a1 t => cases t with | cons a2 t2 => cases t2; exact ⟨_, _, rfl, a _ H1 e1 (((ok.mono e1).set a1 i).set a2 j)⟩
theorem sg_drop (h : EvG te Γ d) : SG (tDrop te) Γ (.nx Γ) := fun D σ H ok a => h σ H ok _ fun v H1 e1 _ => a σ H1 e1 (ok.mono e1)
theorem sg_ret (h : EvG te Γ d) : SG (tRet te) Γ (.rt d) := fun D σ H ok a => h σ H ok _ a
theorem sg_retN : SG tRetN Γ (.rt .none) := fun D σ H ok a => a .non H (Ex.refl H) .non
theorem sg_brk : SG tBreak Γ (.bk Γ) := fun D σ H ok a => a σ H (Ex.refl H) ok
theorem sg_if {c : TT} {b : Bool} (h : EtG c Γ b) (h1 : b = true → SG t Γ o) (h2 : b = false → SG u Γ o) : SG (tIfS c t u) Γ o := fun D σ H ok a =>
  h σ H ok _ fun H1 e1 => by
    cases b with
    | true => exact h1 rfl D σ H1 (ok.mono e1) (a.mono e1)
    | false => exact h2 rfl D σ H1 (ok.mono e1) (a.mono e1)
theorem sg_ifF {c : TT} (h : EtG c Γ false) (h2 : SG u Γ o) : SG (tIfS c t u) Γ o := sg_if h (fun z => by cases z) fun _ => h2
theorem sg_ifT {c : TT} (h : EtG c Γ true) (h2 : SG t Γ o) : SG (tIfS c t u) Γ o := sg_if h (fun _ => h2) fun z => by cases z
theorem SG.le (h : SG t Γ1 o) (l : Le Γ1 Γ) : SG t Γ o := fun D σ H ok a => h D σ H (ok.le l) a
theorem SG.weak (h : SG t Γ (.nx Γ1)) (l : Le Γ2 Γ1) : SG t Γ (.nx Γ2) := fun D σ H ok a => h D σ H ok fun σ' H' e ok' => a σ' H' e (ok'.le l)
theorem SG.is (h : SG t Γ (.rt d)) {d' : PD} (e : d = d') : SG t Γ (.rt d') := e ▸ h
/-- x op= e -/
theorem sg_aug {i : Nat} {ti : TIp} {x y z : PD} (hx : Γ[i]? = some (some x)) (h : EvG te Γ y) (hr : RG (fun a b => ti a b) x y z) : SG (tAug i te ti) Γ (.nx (Γ.set i (some z))) := fun D σ H ok a => by
  obtain ⟨v, h1, h2⟩ := ok.get hx
  exact ⟨v, h1, h σ H ok _ fun w H1 e1 d1 => hr v w H1 (h2.mono e1) d1 _ fun r H2 e2 d2 => a _ H2 (e1.trans e2) ((ok.mono (e1.trans e2)).set d2 i)⟩
/-- a for, each turn running through -/
theorem sg_for {wi : TI} {g : TG} {ds : List PD} (Γs : Nat → En) (hi : ItG wi Γ ds) (h0 : Le (Γs 0) Γ)
    (h : ∀ i d, ds[i]? = some d → ∃ ps Γ', GpG g d ps ∧ SG t (setsE (Γs i) ps) (.nx Γ') ∧ Le (Γs (i + 1)) Γ') : SG (tFor wi g t) Γ (.nx (Γs ds.length)) := fun D σ H ok a =>
  hi σ H ok _ fun J H1 x1 gv => by
    obtain ⟨G, Y, w, g1, gs, gy⟩ := gv
    refine for_it w (fun i σ' H' => Ex H1 H' ∧ EOk H' σ' (Γs i)) ⟨Ex.refl _, (ok.mono x1).le h0⟩ (fun i σ' H' _ p => gs _ _ p.1 g1) ?_ (fun σ' H' p => a σ' H' (x1.trans p.1) p.2)
    rintro i x σ2 H2 H3 hi ⟨e2, ok2⟩ y
    obtain ⟨e3, d, hd, dx⟩ := gy i H2 x H3 hi (gs _ _ e2 g1) e2 y
    obtain ⟨ps, Γ', hp, hs, hl⟩ := h i d hd
    exact hp x σ2 H3 dx _ fun xs px => hs _ _ H3 (px.ok (ok2.mono e3)) fun σ' H' e' ok' => ⟨(e2.trans e3).trans e', ok'.le hl⟩
/-- a for that is left by a return at turn n -/
theorem sg_forR {wi : TI} {g : TG} {ds : List PD} {r dn : PD} (Γs : Nat → En) (n : Nat) (hn : ds[n]? = some dn) (hi : ItG wi Γ ds) (h0 : Le (Γs 0) Γ)
    (h : ∀ i d, i < n → ds[i]? = some d → ∃ ps Γ', GpG g d ps ∧ SG t (setsE (Γs i) ps) (.nx Γ') ∧ Le (Γs (i + 1)) Γ') (hr : ∃ ps, GpG g dn ps ∧ SG t (setsE (Γs n) ps) (.rt r)) : SG (tFor wi g t) Γ (.rt r) := fun D σ H ok a =>
  hi σ H ok _ fun J H1 x1 gv => by
    obtain ⟨G, Y, w, g1, gs, gy⟩ := gv
    have hlt : n < ds.length := by
      rcases Nat.lt_or_ge n ds.length with z | z
      · exact z
      · rw [List.getElem?_eq_none z] at hn; cases hn
    refine for_it w (fun i σ' H' => i ≤ n ∧ Ex H1 H' ∧ EOk H' σ' (Γs i)) ⟨Nat.zero_le _, Ex.refl _, (ok.mono x1).le h0⟩ (fun i σ' H' _ p => gs _ _ p.2.1 g1) ?_ (fun σ' H' p => absurd p.1 (Nat.not_le_of_lt hlt))
    rintro i x σ2 H2 H3 hi ⟨hin, e2, ok2⟩ y
    obtain ⟨e3, d, hd, dx⟩ := gy i H2 x H3 hi (gs _ _ e2 g1) e2 y
    by_cases hlt' : i < n
    · obtain ⟨ps, Γ', hp, hs, hl⟩ := h i d hlt' hd
      exact hp x σ2 H3 dx _ fun xs px => hs _ _ H3 (px.ok (ok2.mono e3)) fun σ' H' e' ok' => ⟨hlt', (e2.trans e3).trans e', ok'.le hl⟩
    · have e : i = n := by omega
      subst e
      rw [hn] at hd
      cases hd
      obtain ⟨ps, hp, hs⟩ := hr
      exact hp x σ2 H3 dx _ fun xs px => hs _ _ H3 (px.ok (ok2.mono e3)) fun v H' e' dv => a v H' (x1.trans ((e2.trans e3).trans e')) dv
/-- a for that is left by a break at turn n -/
theorem sg_forB {wi : TI} {g : TG} {ds : List PD} {dn : PD} (Γs : Nat → En) (n : Nat) (hn : ds[n]? = some dn) (hi : ItG wi Γ ds) (h0 : Le (Γs 0) Γ)
    (h : ∀ i d, i < n → ds[i]? = some d → ∃ ps Γ', GpG g d ps ∧ SG t (setsE (Γs i) ps) (.nx Γ') ∧ Le (Γs (i + 1)) Γ') (hr : ∃ ps, GpG g dn ps ∧ SG t (setsE (Γs n) ps) (.bk Γ1)) : SG (tFor wi g t) Γ (.nx Γ1) := fun D σ H ok a =>
  hi σ H ok _ fun J H1 x1 gv => by
    obtain ⟨G, Y, w, g1, gs, gy⟩ := gv
    have hlt : n < ds.length := by
      rcases Nat.lt_or_ge n ds.length with z | z
      · exact z
      · rw [List.getElem?_eq_none z] at hn; cases hn
    refine for_it w (fun i σ' H' => i ≤ n ∧ Ex H1 H' ∧ EOk H' σ' (Γs i)) ⟨Nat.zero_le _, Ex.refl _, (ok.mono x1).le h0⟩ (fun i σ' H' _ p => gs _ _ p.2.1 g1) ?_ (fun σ' H' p => absurd p.1 (Nat.not_le_of_lt hlt))
    rintro i x σ2 H2 H3 hi ⟨hin, e2, ok2⟩ y
    obtain ⟨e3, d, hd, dx⟩ := gy i H2 x H3 hi (gs _ _ e2 g1) e2 y
    by_cases hlt' : i < n
    · obtain ⟨ps, Γ', hp, hs, hl⟩ := h i d hlt' hd
      exact hp x σ2 H3 dx _ fun xs px => hs _ _ H3 (px.ok (ok2.mono e3)) fun σ' H' e' ok' => ⟨hlt', (e2.trans e3).trans e', ok'.le hl⟩
    · have e : i = n := by omega
      subst e
      rw [hn] at hd
      cases hd
      obtain ⟨ps, hp, hs⟩ := hr
      exact hp x σ2 H3 dx _ fun xs px => hs _ _ H3 (px.ok (ok2.mono e3)) fun σ' H' e' ok' => a σ' H' (x1.trans ((e2.trans e3).trans e')) ok'
/-- a while of n turns -/
theorem sg_while {c : TT} (Γs : Nat → En) (n : Nat) (h0 : Le (Γs 0) Γ) (hc : ∀ i, i < n → EtG c (Γs i) true) (hb : ∀ i, i < n → ∃ Γ', SG t (Γs i) (.nx Γ') ∧ Le (Γs (i + 1)) Γ') (hn : EtG c (Γs n) false) : SG (tWhile c t) Γ (.nx (Γs n)) := fun D σ H ok a => by
  refine ⟨fun m σ' H' => ∃ i, i + m = n ∧ Ex H H' ∧ EOk H' σ' (Γs i), ⟨n, 0, Nat.zero_add _, Ex.refl _, ok.le h0⟩, ?_⟩
  rintro m σ' H' ⟨i, hi, e, ok'⟩
  rcases Nat.eq_zero_or_pos m with z | z
  · have hin : i = n := by omega
    subst hin
    exact hn σ' H' ok' _ fun H1 e1 => ifF (a σ' H1 (e.trans e1) (ok'.mono e1))
  · have hlt : i < n := by omega
    refine hc i hlt σ' H' ok' _ fun H1 e1 => ifT ⟨fun σ2 H2 => Ex H H2 ∧ EOk H2 σ2 (Γs (i + 1)), fun σ2 H2 q => ⟨n - (i + 1), by omega, i + 1, by omega, q.1, q.2⟩, ?_⟩
    obtain ⟨Γ', hs, hl⟩ := hb i hlt
    exact hs _ σ' H1 (ok'.mono e1) fun σ2 H2 e2 ok2 => ⟨(e.trans e1).trans e2, ok2.le hl⟩
/-- a whole body that returns d -/
theorem SG.body {N : List Str} {vs : List V} {ds : List PD} {H : Hp} {Q : VK} (h : SG t (ds.map some ++ List.replicate (N.length - ds.length) none) (.rt d)) (r : Dts H vs ds) (k : ∀ v H', Ex H H' → Dt H' v d → Q v H') :
    t { nx := fun _ H' => Q .non H', rt := Q } (L2.start N vs) H := h _ _ H (by have z := EOk.start (N := N) r; rw [r.length] at z; exact z) k
theorem SG.bodyN {N : List Str} {vs : List V} {ds : List PD} {H : Hp} {Q : VK} (h : SG t (ds.map some ++ List.replicate (N.length - ds.length) none) (.nx Γ1)) (r : Dts H vs ds) (k : ∀ H', Ex H H' → Q .non H') :
    t { nx := fun _ H' => Q .non H', rt := Q } (L2.start N vs) H := h _ _ H (by have z := EOk.start (N := N) r; rw [r.length] at z; exact z) fun σ' H' e _ => k H' e
end
end Stair
/-! ## StOps -/
set_option Elab.async false
set_option linter.all false
set_option maxRecDepth 100000
set_option maxHeartbeats 1000000
namespace Stair
open PySem PySem.Spec PyProof.Rows L2 Evl
section
variable {K : Kx} {Γ : En} {i j : Int} {d e f : PD} {a b : Str}
/-! ints -/
theorem rg_add : RG (rI0 fun i j => .int (i + j)) (.int i) (.int j) (.int (i + j)) := fun x y H h1 h2 Q q => by cases h1; cases h2; exact ⟨i, j, rfl, rfl, q _ H (Ex.refl H) (.int _)⟩
theorem rg_sub : RG (rI0 fun i j => .int (i - j)) (.int i) (.int j) (.int (i - j)) := fun x y H h1 h2 Q q => by cases h1; cases h2; exact ⟨i, j, rfl, rfl, q _ H (Ex.refl H) (.int _)⟩
theorem rg_mul {C : Int → Int → Prop} (h : C i j) : RG (rI C fun i j => .int (i * j)) (.int i) (.int j) (.int (i * j)) := fun x y H h1 h2 Q q => by cases h1; cases h2; exact ⟨i, j, rfl, rfl, h, q _ H (Ex.refl H) (.int _)⟩
theorem rg_mod (h : 0 < j) : RG (rI (fun _ j => 0 < j) fun i j => .int (i % j)) (.int i) (.int j) (.int (i % j)) := fun x y H h1 h2 Q q => by cases h1; cases h2; exact ⟨i, j, rfl, rfl, h, q _ H (Ex.refl H) (.int _)⟩
theorem rg_fdiv (h : CDiv i j) : RG (rI CDiv fun i j => .int (i / j)) (.int i) (.int j) (.int (i / j)) := fun x y H h1 h2 Q q => by cases h1; cases h2; exact ⟨i, j, rfl, rfl, h, q _ H (Ex.refl H) (.int _)⟩
theorem rg_pow (h : CPow i j) : RG (rI CPow fun i j => .int (i ^ j.toNat)) (.int i) (.int j) (.int (i ^ j.toNat)) := fun x y H h1 h2 Q q => by cases h1; cases h2; exact ⟨i, j, rfl, rfl, h, q _ H (Ex.refl H) (.int _)⟩
theorem rg_lt : RG (rI0 fun i j => .bl (decide (i < j))) (.int i) (.int j) (.bool (decide (i < j))) := fun x y H h1 h2 Q q => by cases h1; cases h2; exact ⟨i, j, rfl, rfl, q _ H (Ex.refl H) (.bl _)⟩
theorem rg_le : RG (rI0 fun i j => .bl (decide (i ≤ j))) (.int i) (.int j) (.bool (decide (i ≤ j))) := fun x y H h1 h2 Q q => by cases h1; cases h2; exact ⟨i, j, rfl, rfl, q _ H (Ex.refl H) (.bl _)⟩
theorem rg_gt : RG (rI0 fun i j => .bl (decide (j < i))) (.int i) (.int j) (.bool (decide (j < i))) := fun x y H h1 h2 Q q => by cases h1; cases h2; exact ⟨i, j, rfl, rfl, q _ H (Ex.refl H) (.bl _)⟩
theorem rg_ge : RG (rI0 fun i j => .bl (decide (j ≤ i))) (.int i) (.int j) (.bool (decide (j ≤ i))) := fun x y H h1 h2 Q q => by cases h1; cases h2; exact ⟨i, j, rfl, rfl, q _ H (Ex.refl H) (.bl _)⟩
theorem rg_eqI : RG rEq (.int i) (.int j) (.bool (decide (i = j))) := fun x y H h1 h2 Q q => by
  cases h1; cases h2
  refine ⟨rfl, ?_⟩
  have e : decide (V.int i = V.int j) = decide (i = j) := by simp
  rw [e]
  exact q _ H (Ex.refl H) (.bl _)
theorem rg_neI : RG rNe (.int i) (.int j) (.bool (!decide (i = j))) := fun x y H h1 h2 Q q => by
  cases h1; cases h2
  refine ⟨rfl, ?_⟩
  have e : decide (V.int i = V.int j) = decide (i = j) := by simp
  rw [e]
  exact q _ H (Ex.refl H) (.bl _)
theorem rg_eqS : RG rEq (.str a) (.str b) (.bool (decide (a = b))) := fun x y H h1 h2 Q q => by
  cases h1; cases h2
  refine ⟨rfl, ?_⟩
  have e : decide (V.str a = V.str b) = decide (a = b) := by simp
  rw [e]
  exact q _ H (Ex.refl H) (.bl _)
theorem rg_neS : RG rNe (.str a) (.str b) (.bool (!decide (a = b))) := fun x y H h1 h2 Q q => by
  cases h1; cases h2
  refine ⟨rfl, ?_⟩
  have e : decide (V.str a = V.str b) = decide (a = b) := by simp
  rw [e]
  exact q _ H (Ex.refl H) (.bl _)
theorem rg_eqD (h1 : SeqAt.shaped d = true) (h2 : SeqAt.shaped e = true) : RG (rEqD K) d e (.bool (PyData.eqv d e)) := fun x y H hx hy Q q => ⟨d, e, hx.dp, hy.dp, h1, h2, q _ H (Ex.refl H) (.bl _)⟩
theorem rg_neD (h1 : SeqAt.shaped d = true) (h2 : SeqAt.shaped e = true) : RG (rNeD K) d e (.bool (!PyData.eqv d e)) := fun x y H hx hy Q q => ⟨d, e, hx.dp, hy.dp, h1, h2, q _ H (Ex.refl H) (.bl _)⟩
def isNone : PD → Bool
  | .none => true
  | _ => false
theorem rg_isN : RG (fun x y H Q => y = .non ∧ Q (.bl (decide (x = .non))) H) d .none (.bool (isNone d)) := fun x y H h1 h2 Q q => by
  cases h2
  refine ⟨rfl, ?_⟩
  cases h1 <;> exact q _ H (Ex.refl H) (.bl _)
theorem rg_notN : RG (fun x y H Q => y = .non ∧ Q (.bl (!decide (x = .non))) H) d .none (.bool (!isNone d)) := fun x y H h1 h2 Q q => by
  cases h2
  refine ⟨rfl, ?_⟩
  cases h1 <;> exact q _ H (Ex.refl H) (.bl _)
/-! texts -/
theorem rg_ltS : RG (fun x y H Q => ∃ i j, x = .str i ∧ y = .str j ∧ Q (.bl (decide (i.cps.toList < j.cps.toList))) H) (.str a) (.str b) (.bool (decide (a.cps.toList < b.cps.toList))) := fun x y H h1 h2 Q q => by
  cases h1; cases h2; exact ⟨a, b, rfl, rfl, q _ H (Ex.refl H) (.bl _)⟩
theorem rg_leS : RG (fun x y H Q => ∃ i j, x = .str i ∧ y = .str j ∧ Q (.bl (!decide (j.cps.toList < i.cps.toList))) H) (.str a) (.str b) (.bool (!decide (b.cps.toList < a.cps.toList))) := fun x y H h1 h2 Q q => by
  cases h1; cases h2; exact ⟨a, b, rfl, rfl, q _ H (Ex.refl H) (.bl _)⟩
theorem rg_addS (h : a.length + b.length ≤ sizeLine) : RG (fun x y H Q => ∃ i j, x = .str i ∧ y = .str j ∧ i.length + j.length ≤ sizeLine ∧ Q (.str (i ++ j)) H) (.str a) (.str b) (.str (a ++ b)) := fun x y H h1 h2 Q q => by
  cases h1; cases h2; exact ⟨a, b, rfl, rfl, h, q _ H (Ex.refl H) (.str _)⟩
theorem rg_inSign {c : Nat} : RG (fun x y H Q => ∃ (c : Nat) (z : Str), x = .str ⟨#[c]⟩ ∧ y = .str z ∧ Q (.bl (decide (c ∈ z.cps.toList))) H) (.str ⟨#[c]⟩) (.str b) (.bool (decide (c ∈ b.cps.toList))) := fun x y H h1 h2 Q q => by
  cases h1; cases h2; exact ⟨c, b, rfl, rfl, q _ H (Ex.refl H) (.bl _)⟩
theorem rg_ixS {c : Nat} (h : a.length ≤ 100000) (ha : atI a.cps.toList i = some c) : RG rIxS (.str a) (.int i) (.str ⟨#[c]⟩) := fun x y H h1 h2 Q q => by
  cases h1; cases h2; exact ⟨a, i, c, rfl, rfl, sz_of h, ha, q _ H (Ex.refl H) (.str _)⟩
/-! lists, tuples -/
theorem Dts.atI {H : Hp} {xs : List V} {ds : List PD} (r : Dts H xs ds) (h : atI ds i = some d) : ∃ v, L2.atI xs i = some v ∧ Dt H v d := by
  unfold L2.atI at h ⊢
  rw [r.length]
  obtain ⟨k, h1, h2⟩ := Option.bind_eq_some_iff.mp h
  obtain ⟨v, h3, h4⟩ := r.get h2
  exact ⟨v, by rw [h1]; exact h3, h4⟩
theorem rg_ixL {ds : List PD} (h : atI ds i = some d) : RG (rIxL K) (.list ds) (.int i) d := fun x y H h1 h2 Q q => by
  cases h2
  cases h1 with | lst p r => obtain ⟨v, h3, h4⟩ := r.atI h; exact ⟨_, _, i, v, rfl, rfl, sq_of p, h3, q v H (Ex.refl H) h4⟩
theorem rg_ixT {ds : List PD} (h : atI ds i = some d) : RG (rIxT K) (.tuple ds) (.int i) d := fun x y H h1 h2 Q q => by
  cases h2
  cases h1 with | tup p r => obtain ⟨v, h3, h4⟩ := r.atI h; exact ⟨_, _, i, v, rfl, rfl, st_of p, h3, q v H (Ex.refl H) h4⟩
theorem atI_nat' {α : Type} {xs : List α} {n : Nat} {x : α} (h : xs[n]? = some x) : atI xs (n : Int) = some x := by
  have hn : n < xs.length := by
    rcases Nat.lt_or_ge n xs.length with z | z
    · exact z
    · rw [List.getElem?_eq_none z] at h; cases h
  unfold L2.atI ixN
  rw [if_pos (Int.natCast_nonneg n), if_pos (by omega)]
  exact h
theorem atI_last {α : Type} {xs : List α} {x : α} (h : xs.getLast? = some x) : atI xs (-1) = some x := by
  have hn : xs ≠ [] := fun z => by rw [z] at h; cases h
  have hl : 0 < xs.length := List.length_pos_iff.mpr hn
  unfold L2.atI ixN
  rw [if_neg (by decide), if_pos (by omega)]
  show xs[((-1 : Int) + xs.length).toNat]? = some x
  rw [show ((-1 : Int) + xs.length).toNat = xs.length - 1 by omega, ← List.getLast?_eq_getElem?]
  exact h
def cutP {α : Type} (xs : List α) (lo hi : Option Int) : List α := (xs.drop (HT.sIx xs.length 0 lo)).take (HT.sIx xs.length xs.length hi - HT.sIx xs.length 0 lo)
theorem Dts.cut {H : Hp} {xs : List V} {ds : List PD} (r : Dts H xs ds) (lo hi : Option Int) : Dts H (cutV xs lo hi) (cutP ds lo hi) := by
  unfold cutV cutP
  rw [r.length]
  exact (r.drop _).take _
theorem eg_slL {te : TE} {tl th : TO} {ds : List PD} {lo hi : Option Int} (h : EvG te Γ (.list ds)) (h1 : EoG tl Γ lo) (h2 : EoG th Γ hi) : EvG (tSl (rSlL K) te tl th) Γ (.list (cutP ds lo hi)) :=
  eg_sl (fun x H hx Q q => by
    cases hx with | lst p r => exact ⟨_, _, rfl, sq_of p, fun y hy => q _ _ (Ex.new hy) (.lst upd_same ((r.cut lo hi).mono (Ex.new hy)))⟩) h h1 h2
theorem eg_slS {te : TE} {tl th : TO} {lo hi : Option Int} (hz : a.length ≤ 100000) (h : EvG te Γ (.str a)) (h1 : EoG tl Γ lo) (h2 : EoG th Γ hi) : EvG (tSl rSlS te tl th) Γ (.str (cutS a lo hi)) :=
  eg_sl (fun x H hx Q q => by cases hx; exact ⟨a, rfl, sz_of hz, q _ H (Ex.refl H) (.str _)⟩) h h1 h2
theorem rg_cat {ds es : List PD} (h : ds.length + es.length ≤ 16000000) : RG rCat (.list ds) (.list es) (.list (ds ++ es)) := fun x y H h1 h2 Q q => by
  cases h1 with | lst p r => cases h2 with | lst p2 r2 => exact ⟨_, _, _, _, rfl, rfl, p, p2, by rw [r.length, r2.length]; exact Nat.le_trans h (by decide), fun z hz => q _ _ (Ex.new hz) (.lst upd_same ((r.append r2).mono (Ex.new hz)))⟩
theorem rg_rep {ds : List PD} {k : Nat} (h1 : (k : Int) < 2 ^ 63) (h2 : ds.length * k ≤ 16000000) : RG rRep (.list ds) (.int (k : Int)) (.list (List.replicate k ds).flatten) := fun x y H hx hy Q q => by
  cases hy
  cases hx with | lst p r => exact ⟨_, _, _, rfl, rfl, p, by omega, h1, by rw [r.length, Int.toNat_natCast]; exact Nat.le_trans h2 (by decide), fun z hz => q _ _ (Ex.new hz) (.lst upd_same (by rw [Int.toNat_natCast]; exact (r.replicate k).mono (Ex.new hz)))⟩
theorem inV_strs : ∀ (ns : List Str), inV (.str a) (ns.map V.str) = decide (a ∈ ns)
  | [] => by simp [inV]
  | n :: r => by
    have ih := inV_strs r
    unfold inV at ih ⊢
    rw [List.map_cons, List.any_cons, ih]
    show ((n == a) || decide (a ∈ r)) = _
    by_cases h : n = a
    · subst h; simp
    · have h' : (n == a) = false := by simpa using h
      have h2 : ¬ a = n := fun z => h z.symm
      simp [h', h2]
theorem flat_strs (ns : List Str) : (ns.map V.str).all flatV = true := by
  rw [List.all_map]
  exact List.all_eq_true.mpr fun _ _ => rfl
theorem rg_inL {ns : List Str} : RG (rIn K false) (.str a) (.list (ns.map .str)) (.bool (decide (a ∈ ns))) := fun x y H h1 h2 Q q => by
  cases h1
  cases h2 with | lst p r =>
    have e := r.strs
    subst e
    refine ⟨_, _, rfl, .inl (sq_of p), rfl, flat_strs ns, ?_⟩
    have e : (if false = true then !inV (.str a) (ns.map V.str) else inV (.str a) (ns.map V.str)) = decide (a ∈ ns) := inV_strs ns
    rw [e]
    exact q _ H (Ex.refl H) (.bl _)
theorem rg_ninL {ns : List Str} : RG (rIn K true) (.str a) (.list (ns.map .str)) (.bool (!decide (a ∈ ns))) := fun x y H h1 h2 Q q => by
  cases h1
  cases h2 with | lst p r =>
    have e := r.strs
    subst e
    refine ⟨_, _, rfl, .inl (sq_of p), rfl, flat_strs ns, ?_⟩
    have e : (if true = true then !inV (.str a) (ns.map V.str) else inV (.str a) (ns.map V.str)) = !decide (a ∈ ns) := by show (!inV (.str a) (ns.map V.str)) = _; rw [inV_strs ns]
    rw [e]
    exact q _ H (Ex.refl H) (.bl _)
theorem rg_inT {ns : List Str} : RG (rIn K false) (.str a) (.tuple (ns.map .str)) (.bool (decide (a ∈ ns))) := fun x y H h1 h2 Q q => by
  cases h1
  cases h2 with | tup p r =>
    have e := r.strs
    subst e
    refine ⟨_, _, rfl, .inr (st_of p), rfl, flat_strs ns, ?_⟩
    have e : (if false = true then !inV (.str a) (ns.map V.str) else inV (.str a) (ns.map V.str)) = decide (a ∈ ns) := inV_strs ns
    rw [e]
    exact q _ H (Ex.refl H) (.bl _)
theorem rg_ninT {ns : List Str} : RG (rIn K true) (.str a) (.tuple (ns.map .str)) (.bool (!decide (a ∈ ns))) := fun x y H h1 h2 Q q => by
  cases h1
  cases h2 with | tup p r =>
    have e := r.strs
    subst e
    refine ⟨_, _, rfl, .inr (st_of p), rfl, flat_strs ns, ?_⟩
    have e : (if true = true then !inV (.str a) (ns.map V.str) else inV (.str a) (ns.map V.str)) = !decide (a ∈ ns) := by show (!inV (.str a) (ns.map V.str)) = _; rw [inV_strs ns]
    rw [e]
    exact q _ H (Ex.refl H) (.bl _)
/-! calls -/
theorem cg_lenS (h : a.length ≤ 16000000) : CG (fun xs H Q => ∃ x n, xs = [x] ∧ LenV K x H n ∧ Q (.int n) H) [.str a] (.int (a.length : Nat)) := fun vs H h1 Q q => by
  cases h1 with | cons h1 t => cases h1; cases t; exact ⟨_, a.length, rfl, ⟨Nat.le_trans h (by decide), rfl⟩, q _ H (Ex.refl H) (.int _)⟩
theorem cg_lenL {ds : List PD} : CG (fun xs H Q => ∃ x n, xs = [x] ∧ LenV K x H n ∧ Q (.int n) H) [.list ds] (.int (ds.length : Nat)) := fun vs H h1 Q q => by
  cases h1 with | cons h1 t => cases t; cases h1 with | lst p r => exact ⟨_, _, rfl, .inl ⟨_, sq_of p, rfl⟩, by rw [r.length]; exact q _ H (Ex.refl H) (.int _)⟩
theorem cg_lenT {ds : List PD} : CG (fun xs H Q => ∃ x n, xs = [x] ∧ LenV K x H n ∧ Q (.int n) H) [.tuple ds] (.int (ds.length : Nat)) := fun vs H h1 Q q => by
  cases h1 with | cons h1 t => cases t; cases h1 with | tup p r => exact ⟨_, _, rfl, .inr ⟨_, st_of p, rfl⟩, by rw [r.length]; exact q _ H (Ex.refl H) (.int _)⟩
theorem cg_min : CG (fun xs H Q => ∃ i j, xs = [.int i, .int j] ∧ Q (.int (if j < i then j else i)) H) [.int i, .int j] (.int (min i j)) := fun vs H h1 Q q => by
  cases h1 with | cons h1 t => cases h1; cases t with | cons h2 t => cases h2; cases t; exact ⟨i, j, rfl, q _ H (Ex.refl H) (by
    have e : (if j < i then j else i) = min i j := by split <;> omega
    rw [e]; exact .int _)⟩
theorem cg_int : CG (fun xs H Q => (∃ i, xs = [.int i] ∧ Q (.int i) H) ∨ ∃ k, xs = [.bl k] ∧ Q (.int (if k then 1 else 0)) H) [.int i] (.int i) := fun vs H h1 Q q => by
  cases h1 with | cons h1 t => cases h1; cases t; exact .inl ⟨i, rfl, q _ H (Ex.refl H) (.int _)⟩
theorem cg_intS (h1 : PySem.intText? a = some i) (h2 : a.length ≤ 640) : CG (fun xs H Q => ∃ a n, xs = [.str a] ∧ PySem.intText? a = some n ∧ a.length ≤ 640 ∧ Q (.int n) H) [.str a] (.int i) := fun vs H hh Q q => by
  cases hh with | cons hh t => cases hh; cases t; exact ⟨a, i, rfl, h1, h2, q _ H (Ex.refl H) (.int _)⟩
theorem cg_divmod (h : CDiv i j) : CG (fun xs H Q => ∃ i j, xs = [.int i, .int j] ∧ CDiv i j ∧ ∀ p, H p = none → Q (.ref p) (upd H p (.tup [.int (i / j), .int (i % j)]))) [.int i, .int j] (.tuple [.int (i / j), .int (i % j)]) := fun vs H h1 Q q => by
  cases h1 with | cons h1 t => cases h1; cases t with | cons h2 t => cases h2; cases t; exact ⟨i, j, rfl, h, fun p hp => q _ _ (Ex.new hp) (.tup upd_same (.cons (.int _) (.cons (.int _) .nil)))⟩
theorem cg_listL {ds : List PD} : CG (fun xs H Q => ∃ p ys, xs = [.ref p] ∧ (SqL K H p ys ∨ SqT K H p ys) ∧ ∀ l, H l = none → Q (.ref l) (upd H l (.lst ys))) [.list ds] (.list ds) := fun vs H h1 Q q => by
  cases h1 with | cons h1 t => cases t; cases h1 with | lst p r => exact ⟨_, _, rfl, .inl (sq_of p), fun l hl => q _ _ (Ex.new hl) (.lst upd_same (r.mono (Ex.new hl)))⟩
theorem cg_listT {ds : List PD} : CG (fun xs H Q => ∃ p ys, xs = [.ref p] ∧ (SqL K H p ys ∨ SqT K H p ys) ∧ ∀ l, H l = none → Q (.ref l) (upd H l (.lst ys))) [.tuple ds] (.list ds) := fun vs H h1 Q q => by
  cases h1 with | cons h1 t => cases t; cases h1 with | tup p r => exact ⟨_, _, rfl, .inr (st_of p), fun l hl => q _ _ (Ex.new hl) (.lst upd_same (r.mono (Ex.new hl)))⟩
theorem cg_tupleL {ds : List PD} : CG (fun xs H Q => ∃ p ys, xs = [.ref p] ∧ ((SqL K H p ys ∧ ∀ l, H l = none → Q (.ref l) (upd H l (.tup ys))) ∨ (SqT K H p ys ∧ Q (.ref p) H))) [.list ds] (.tuple ds) := fun vs H h1 Q q => by
  cases h1 with | cons h1 t => cases t; cases h1 with | lst p r => exact ⟨_, _, rfl, .inl ⟨sq_of p, fun l hl => q _ _ (Ex.new hl) (.tup upd_same (r.mono (Ex.new hl)))⟩⟩
theorem cg_sum {ns : List Int} : CG (rSum K) [.list (ns.map .int)] (.int ns.sum) := fun vs H h1 Q q => by
  cases h1 with | cons h1 t => cases t; cases h1 with | lst p r => have e := r.ints; subst e; exact ⟨_, ns, rfl, sq_of p, q _ H (Ex.refl H) (.int _)⟩
theorem cg_all {ns : List Bool} : CG (rAll K) [.list (ns.map .bool)] (.bool (ns.all id)) := fun vs H h1 Q q => by
  cases h1 with | cons h1 t => cases t; cases h1 with | lst p r => have e := r.bls; subst e; exact ⟨_, ns, rfl, sq_of p, q _ H (Ex.refl H) (.bl _)⟩
theorem cg_any {ns : List Bool} : CG (rAny K) [.list (ns.map .bool)] (.bool (ns.any id)) := fun vs H h1 Q q => by
  cases h1 with | cons h1 t => cases t; cases h1 with | lst p r => have e := r.bls; subst e; exact ⟨_, ns, rfl, sq_of p, q _ H (Ex.refl H) (.bl _)⟩
/-- isinstance(e, T), T a built-in type -/
def isA (T : String) : PD → Bool
  | .int _ => T = "int"
  | .bool _ => T = "int" ∨ T = "bool"
  | .str _ => T = "str"
  | .tuple _ => T = "tuple"
  | .list _ => T = "list"
  | _ => false
theorem eg_isi {T : String} {te : TE} (hT : T = "int" ∨ T = "bool" ∨ T = "str" ∨ T = "tuple") (hd : td d = true ∧ d ≠ .none) (h : EvG te Γ d) : EvG (tCB (rIsi K) (tCons te (tCons (tC (.ty T)) tNil))) Γ (.bool (isA T d)) := fun σ H ok Q q => h σ H ok _ fun x H1 x1 d1 => by
  have k : ∀ (t : String) (b : Bool), TyOf K H1 x (.type t) → kitB t T = some b → b = isA T d → rIsi K [x, .ty T] H1 Q := fun t b ty hk e => ⟨x, .ty T, .type t, .type T, b, rfl, .ty T, .base ty, kit_ty hk, by rw [e]; exact q _ H1 x1 (.bl _)⟩
  cases d1 with
  | non => exact absurd rfl hd.2
  | bl b => rcases hT with rfl | rfl | rfl | rfl <;> first | exact k "bool" true (.bl b) (by decide +kernel) rfl | exact k "bool" false (.bl b) (by decide +kernel) rfl
  | int b => rcases hT with rfl | rfl | rfl | rfl <;> first | exact k "int" true (.int b) (by decide +kernel) rfl | exact k "int" false (.int b) (by decide +kernel) rfl
  | str b => rcases hT with rfl | rfl | rfl | rfl <;> first | exact k "str" true (.str b) (by decide +kernel) rfl | exact k "str" false (.str b) (by decide +kernel) rfl
  | tup p r => rcases hT with rfl | rfl | rfl | rfl <;> first | exact k "tuple" true (.tup p) (by decide +kernel) rfl | exact k "tuple" false (.tup p) (by decide +kernel) rfl
  | lst p r => exact absurd hd.1 Bool.false_ne_true
/-! methods -/
theorem mg_index {ns : List Str} {k : Nat} (h : ns[k]? = some a) (h2 : ∀ m, m < k → ns[m]? ≠ some a) : MG K "list" (rIndex K) (.list (ns.map .str)) [.str a] (.int (k : Nat)) := fun x H hx => by
  cases hx with | lst p r =>
    have e := r.strs
    subst e
    refine ⟨.inl ⟨rfl, _, sq_of p⟩, fun vs H' e' hv Q q => ?_⟩
    cases hv with | cons h1 t => cases t; cases h1; exact ⟨_, ns.map V.str, .str a, k, .str a, rfl, rfl, ex_l e' (sq_of p), rfl, flat_strs ns, by rw [List.getElem?_map, h]; rfl, by show (a == a) = true; simp, fun m z hm hz => by
      rw [List.getElem?_map] at hz
      cases hq : ns[m]? with
      | none => rw [hq] at hz; cases hz
      | some y =>
        rw [hq] at hz
        cases hz
        show (y == a) = false
        have : y ≠ a := fun z => h2 m hm (by rw [hq, z])
        simpa using this, q _ H' (Ex.refl _) (.int _)⟩
theorem mg_join {ys : List Str} (h : (ys.map (·.length)).sum + ys.length * a.length ≤ 16777216) : MG K "str" (fun x xs H Q => ∃ a p, ∃ ys : List Str, x = .str a ∧ xs = [.ref p] ∧ (SqL K H p (ys.map V.str) ∨ SqT K H p (ys.map V.str)) ∧ (ys.map (·.length)).sum + ys.length * a.length ≤ 16777216 ∧ Q (.str (Txt.join a ys)) H)
    (.str a) [.list (ys.map .str)] (.str (Txt.join a ys)) := fun x H hx => by
  cases hx
  refine ⟨rfl, fun vs H' e' hv Q q => ?_⟩
  cases hv with | cons h1 t => cases t; cases h1 with | lst p r => have e := r.strs; subst e; exact ⟨a, _, ys, rfl, rfl, .inl (sq_of p), h, q _ H' (Ex.refl _) (.str _)⟩
theorem mg_count : MG K "str" (fun x xs H Q => ∃ a b, x = .str a ∧ xs = [.str b] ∧ Q (.int (Txt.count a b)) H) (.str a) [.str b] (.int (Txt.count a b)) := fun x H hx => by
  cases hx
  refine ⟨rfl, fun vs H' e' hv Q q => ?_⟩
  cases hv with | cons h1 t => cases t; cases h1; exact ⟨a, b, rfl, rfl, q _ H' (Ex.refl _) (.int _)⟩
theorem mg_sindex {k : Nat} {rest : List Nat} (h : Builtin.Str.occurrences a b 0 a.length 1 = k :: rest) : MG K "str" (fun x xs H Q => ∃ a b i rest, x = .str a ∧ xs = [.str b] ∧ Builtin.Str.occurrences a b 0 a.length 1 = i :: rest ∧ Q (.int (i : Nat)) H) (.str a) [.str b] (.int (k : Nat)) := fun x H hx => by
  cases hx
  refine ⟨rfl, fun vs H' e' hv Q q => ?_⟩
  cases hv with | cons h1 t => cases t; cases h1; exact ⟨a, b, k, rest, rfl, rfl, h, q _ H' (Ex.refl _) (.int _)⟩
/-- xs[::-1] of a list -/
theorem eg_rev {te : TE} {ds : List PD} (h : EvG te Γ (.list ds)) : EvG (tRevL K te) Γ (.list ds.reverse) := fun σ H ok Q q => h σ H ok _ fun x H1 x1 d1 => by
  cases d1 with | lst p r => exact ⟨_, _, rfl, sq_of p, fun y hy => q _ _ (x1.trans (Ex.new hy)) (.lst upd_same (r.reverse.mono (Ex.new hy)))⟩
end
end Stair
/-! ## StTx -/
set_option Elab.async false
set_option linter.all false
set_option maxRecDepth 100000
set_option maxHeartbeats 1000000
namespace Stair
open PySem PySem.Spec PyProof.Rows L2 Evl
abbrev FnP (K : Kx) (x : Str) (st : Stmt) (f : Addr) (fd : FuncData) : Prop := FunD K x x (defArgs st) (defBody st) (defScope st) [] [] f fd
/-- what the top has written -/
structure Tp (K : Kx) (mg : Str → Option Value) : Prop where
  dIsWhole : ∃ f fd, FnP K "is_whole" sIsWhole f fd ∧ mg "is_whole" = some (.ref f)
  dIsWord : ∃ f fd, FnP K "is_word" sIsWord f fd ∧ mg "is_word" = some (.ref f)
  dAreNames : ∃ f fd, FnP K "are_names" sAreNames f fd ∧ mg "are_names" = some (.ref f)
  dAreFigures : ∃ f fd, FnP K "are_figures" sAreFigures f fd ∧ mg "are_figures" = some (.ref f)
  dIsRun : ∃ f fd, FnP K "is_run" sIsRun f fd ∧ mg "is_run" = some (.ref f)
  dNeedDeal : ∃ f fd, FnP K "need_deal" sNeedDeal f fd ∧ mg "need_deal" = some (.ref f)
  dNeedNumber : ∃ f fd, FnP K "need_number" sNeedNumber f fd ∧ mg "need_number" = some (.ref f)
  dCountIn : ∃ f fd, FnP K "count_in" sCountIn f fd ∧ mg "count_in" = some (.ref f)
  dPartsOf : ∃ f fd, FnP K "parts_of" sPartsOf f fd ∧ mg "parts_of" = some (.ref f)
  dCountBy : ∃ f fd, FnP K "count_by" sCountBy f fd ∧ mg "count_by" = some (.ref f)
  dHasIn : ∃ f fd, FnP K "has_in" sHasIn f fd ∧ mg "has_in" = some (.ref f)
  dPlaceIn : ∃ f fd, FnP K "place_in" sPlaceIn f fd ∧ mg "place_in" = some (.ref f)
  dNameIn : ∃ f fd, FnP K "name_in" sNameIn f fd ∧ mg "name_in" = some (.ref f)
  dRowPart : ∃ f fd, FnP K "row_part" sRowPart f fd ∧ mg "row_part" = some (.ref f)
  dHas : ∃ f fd, FnP K "has" sHas f fd ∧ mg "has" = some (.ref f)
  dNamesOf : ∃ f fd, FnP K "names_of" sNamesOf f fd ∧ mg "names_of" = some (.ref f)
  dSignedRuns : ∃ f fd, FnP K "signed_runs" sSignedRuns f fd ∧ mg "signed_runs" = some (.ref f)
  dTurnedFigures : ∃ f fd, FnP K "turned_figures" sTurnedFigures f fd ∧ mg "turned_figures" = some (.ref f)
  dRoundPart : ∃ f fd, FnP K "round_part" sRoundPart f fd ∧ mg "round_part" = some (.ref f)
  dLeastRoot : ∃ f fd, FnP K "least_root" sLeastRoot f fd ∧ mg "least_root" = some (.ref f)
  dIsHouse : ∃ f fd, FnP K "is_house" sIsHouse f fd ∧ mg "is_house" = some (.ref f)
  dNeedNet : ∃ f fd, FnP K "need_net" sNeedNet f fd ∧ mg "need_net" = some (.ref f)
  dHousesOf : ∃ f fd, FnP K "houses_of" sHousesOf f fd ∧ mg "houses_of" = some (.ref f)
  dPeopleIn : ∃ f fd, FnP K "people_in" sPeopleIn f fd ∧ mg "people_in" = some (.ref f)
  dLeadsOut : ∃ f fd, FnP K "leads_out" sLeadsOut f fd ∧ mg "leads_out" = some (.ref f)
  dShutIn : ∃ f fd, FnP K "shut_in" sShutIn f fd ∧ mg "shut_in" = some (.ref f)
  dShutHouses : ∃ f fd, FnP K "shut_houses" sShutHouses f fd ∧ mg "shut_houses" = some (.ref f)
  dNeedOpen : ∃ f fd, FnP K "need_open" sNeedOpen f fd ∧ mg "need_open" = some (.ref f)
  dNeedAmounts : ∃ f fd, FnP K "need_amounts" sNeedAmounts f fd ∧ mg "need_amounts" = some (.ref f)
  dHandedParts : ∃ f fd, FnP K "handed_parts" sHandedParts f fd ∧ mg "handed_parts" = some (.ref f)
  dRoundBehind : ∃ f fd, FnP K "round_behind" sRoundBehind f fd ∧ mg "round_behind" = some (.ref f)
  dTotalsIn : ∃ f fd, FnP K "totals_in" sTotalsIn f fd ∧ mg "totals_in" = some (.ref f)
  dPaidIn : ∃ f fd, FnP K "paid_in" sPaidIn f fd ∧ mg "paid_in" = some (.ref f)
  dPaidOut : ∃ f fd, FnP K "paid_out" sPaidOut f fd ∧ mg "paid_out" = some (.ref f)
  dNeedHouse : ∃ f fd, FnP K "need_house" sNeedHouse f fd ∧ mg "need_house" = some (.ref f)
  dMeltedPart : ∃ f fd, FnP K "melted_part" sMeltedPart f fd ∧ mg "melted_part" = some (.ref f)
  dFateIn : ∃ f fd, FnP K "fate_in" sFateIn f fd ∧ mg "fate_in" = some (.ref f)
  dMeltedFate : ∃ f fd, FnP K "melted_fate" sMeltedFate f fd ∧ mg "melted_fate" = some (.ref f)
  dMelt : ∃ f fd, FnP K "melt" sMelt f fd ∧ mg "melt" = some (.ref f)
  dLastUnlike : ∃ f fd, FnP K "last_unlike" sLastUnlike f fd ∧ mg "last_unlike" = some (.ref f)
  dGoesRound : ∃ f fd, FnP K "goes_round" sGoesRound f fd ∧ mg "goes_round" = some (.ref f)
  dLawBegun : ∃ f fd, FnP K "_law_begun" sLawBegun f fd ∧ mg "_law_begun" = some (.ref f)
  dLawDraw : ∃ f fd, FnP K "_law_draw" sLawDraw f fd ∧ mg "_law_draw" = some (.ref f)
  dLawOf : ∃ f fd, FnP K "_law_of" sLawOf f fd ∧ mg "_law_of" = some (.ref f)
  dLawPeople : ∃ f fd, FnP K "_law_people" sLawPeople f fd ∧ mg "_law_people" = some (.ref f)
  dLawFigures : ∃ f fd, FnP K "_law_figures" sLawFigures f fd ∧ mg "_law_figures" = some (.ref f)
  dLawNet : ∃ f fd, FnP K "_law_net" sLawNet f fd ∧ mg "_law_net" = some (.ref f)
  dLawStanding : ∃ f fd, FnP K "_law_standing" sLawStanding f fd ∧ mg "_law_standing" = some (.ref f)
  dLawNext : ∃ f fd, FnP K "_law_next" sLawNext f fd ∧ mg "_law_next" = some (.ref f)
  dLawFilm : ∃ f fd, FnP K "_law_film" sLawFilm f fd ∧ mg "_law_film" = some (.ref f)
  dLawOutcome : ∃ f fd, FnP K "_law_outcome" sLawOutcome f fd ∧ mg "_law_outcome" = some (.ref f)
  dLawLeast : ∃ f fd, FnP K "_law_least" sLawLeast f fd ∧ mg "_law_least" = some (.ref f)
  dLawRight : ∃ f fd, FnP K "_law_right" sLawRight f fd ∧ mg "_law_right" = some (.ref f)
  dLawWide : ∃ f fd, FnP K "_law_wide" sLawWide f fd ∧ mg "_law_wide" = some (.ref f)
  dLaw : ∃ f fd, FnP K "law" sLaw f fd ∧ mg "law" = some (.ref f)
  f_len : mg "len" = none
  f_isinstance : mg "isinstance" = none
  f_zip : mg "zip" = none
  f_enumerate : mg "enumerate" = none
  f_range : mg "range" = none
  f_sum : mg "sum" = none
  f_min : mg "min" = none
  f_tuple : mg "tuple" = none
  f_list : mg "list" = none
  f_sorted : mg "sorted" = none
  f_set : mg "set" = none
  f_all : mg "all" = none
  f_any : mg "any" = none
  f_int : mg "int" = none
  f_divmod : mg "divmod" = none
  f_repr : mg "repr" = none
  f_super : mg "super" = none
  f_str : mg "str" = none
  f_bool : mg "bool" = none
  c_MOST_NAMES : ∃ t, mg "MOST_NAMES" = some (.int 6 t)
  c_MOST_SIGNS : ∃ t, mg "MOST_SIGNS" = some (.int 6 t)
  c_MOST_COINS : ∃ t, mg "MOST_COINS" = some (.int 1000000000000 t)
  c_MOST_FIGURES_deals : ∃ t, mg "MOST_FIGURES_deals" = some (.int 400 t)
  c_MOST_RUNS : ∃ t, mg "MOST_RUNS" = some (.int 60 t)
  c_MOST_NUMBER : ∃ t, mg "MOST_NUMBER" = some (.int 1000000000000000000000000000000 t)
  c_MOST_ROW : ∃ t, mg "MOST_ROW" = some (.int 1000 t)
  c_MOST_HOUSES : ∃ t, mg "MOST_HOUSES" = some (.int 4 t)
  c_MOST_FIGURES_nets : ∃ t, mg "MOST_FIGURES_nets" = some (.int 6 t)
  c_MOST_STANDINGS : ∃ t, mg "MOST_STANDINGS" = some (.int 2000 t)
  c_LETTERS : ∃ t, mg "LETTERS" = some (.str "abcdefghijklmnopqrstuvwxyz" t)
  c_DIGITS : ∃ t, mg "DIGITS" = some (.str "0123456789" t)
  c_SIGNS : ∃ t, mg "SIGNS" = some (.str "0123456789abcdefghijklmnopqrstuvwxyz" t)
/-- a def, by its global name, keeps a promise -/
def Has (P : Program) (w : World) (K : Kx) (mg : Str → Option Value) (base : Heap) (CX : CXT) (k : Nat) (x : Str) (ps : List Str) (sp : Sp) : Prop :=
  ∃ f fd, mg x = some (.ref f) ∧ PySem.W.keepIn K (.ref f) = true ∧ Binds K fd ps [] ∧ FnOk P w K mg base CX k f fd ps sp
section
variable {P : Program} {w : World} {K : Kx} {mg : Str → Option Value} {base : Heap} {CX : CXT} {k : Nat} {x : Str} {ps N : List Str} {sp : Sp} {st : Stmt}
theorem Has.mono {j : Nat} (h : Has P w K mg base CX j x ps sp) (hj : j ≤ k) : Has P w K mg base CX k x ps sp := let ⟨f, fd, a, b, c, F⟩ := h; ⟨f, fd, a, b, c, F.mono hj⟩
theorem has_of (D : ∃ f fd, FnP K x st f fd ∧ mg x = some (.ref f)) (S : FnScope N ps (defScope st)) (hb : ∀ (kV doc pm : Value) (an : Option Addr) (cdv ct : Value) (us : List Value), us.length = ps.length → bindArgs (PySem.W.fnOf x x (defArgs st) (defBody st) (defScope st) .none kV doc pm an cdv ct) ⟨us, []⟩ = pure (ps.zip us))
    (len : ∀ vs H Q E, sp vs H Q E → vs.length = ps.length)
    (hbody : ∀ (f : Addr) (cdv : Value) (A : Around) (outer : List Env) (s : Shared) (H : Hp) (vs : List V) (Q : VK) (E : XK), Room k (A.deeper (envOfC x (defScope st) s.heap.objs.size f cdv)) → sp vs H Q E →
      ∃ t, PSs (cxOf CX0 P w K mg base N x (defScope st) f cdv A outer s H E).nox (defBody st) t ∧ t { nx := fun _ H' => Q .non H', rt := Q } (L2.start N vs) H) : Has P w K mg base CX0 (k + 1) x ps sp := by
  obtain ⟨f, fd, F, g⟩ := D
  exact ⟨f, fd, g, F.kp, F.bindsN hb, F.ok S len fun cdv A outer s H vs Q E hr h => let ⟨t, a, b⟩ := hbody f cdv A outer s H vs Q E hr h; ⟨t, a.nox, b⟩⟩
/-- a def that is a function of data -/
theorem has_fn {R : List PD → PD → Prop} (D : ∃ f fd, FnP K x st f fd ∧ mg x = some (.ref f)) (S : FnScope N ps (defScope st)) (hb : ∀ (kV doc pm : Value) (an : Option Addr) (cdv ct : Value) (us : List Value), us.length = ps.length → bindArgs (PySem.W.fnOf x x (defArgs st) (defBody st) (defScope st) .none kV doc pm an cdv ct) ⟨us, []⟩ = pure (ps.zip us))
    (len : ∀ ds d, R ds d → ds.length = ps.length)
    (hbody : ∀ (f : Addr) (cdv : Value) (A : Around) (outer : List Env) (s : Shared) (H : Hp) (E : XK) (ds : List PD) (d : PD), Room k (A.deeper (envOfC x (defScope st) s.heap.objs.size f cdv)) → R ds d →
      ∃ t, PSs (cxOf CX0 P w K mg base N x (defScope st) f cdv A outer s H E).nox (defBody st) t ∧ SG t (ds.map some ++ List.replicate (N.length - ds.length) none) (.rt d)) : Has P w K mg base CX0 (k + 1) x ps (spF R) :=
  has_of D S hb (fun vs H Q E ⟨ds, d, a, b, _⟩ => a.length.trans (len ds d b)) fun f cdv A outer s H vs Q E hr ⟨ds, d, a, b, c⟩ => let ⟨t, h1, h2⟩ := hbody f cdv A outer s H E ds d hr b; ⟨t, h1, h2.body a c⟩
end
section
variable {X : Cx} {CX : CXT} {k : Nat} {x : Str} {ps : List Str} {sp : Sp} {e : Expr} {es : List Expr} {ta : TA} {p pos : Pos} {te : TE}
theorem pe_has {j : Nat} (h : Has X.prog X.w X.K X.mg X.base CX0 j x ps sp) (hr : Room k X.A) (ha : PA X (e :: es) ta) (hj : j ≤ k := by decide) (hg : Gl X x := by rfl) (hdb : (x == ("__debug__" : Str)) = false := by decide)
    (he : starEach (e :: es) X.env = (false, eval e X.env) :: starEach es X.env := by rfl) (hpl : (backTo pos (starEach es X.env)).any (·.1) = false := by rfl) : PE X (.Call (.Name x p) (e :: es) [] pos) (tCall sp [] (fun _ _ _ => False) ta) := by
  obtain ⟨f, fd, g, kp, b, F⟩ := h
  exact pe_call F (hr.mono hj) hg g kp b .nil C8.pass0 ha hdb he hpl
theorem pe_cI {i : Int} (h : ∃ t, X.mg x = some (.int i t)) (hg : Gl X x := by rfl) (hd : (x == ("__debug__" : Str)) = false := by decide) : PE X (.Name x pos) (tC (.int i)) := let ⟨t, h⟩ := h; pe_glob hg h ⟨t, rfl⟩ hd
theorem pe_cS {z : Str} (h : ∃ t, X.mg x = some (.str z t)) (hg : Gl X x := by rfl) (hd : (x == ("__debug__" : Str)) = false := by decide) : PE X (.Name x pos) (tC (.str z)) := let ⟨t, h⟩ := h; pe_glob hg h ⟨t, rfl⟩ hd
def rLenA (K : Kx) : List V → Hp → VK → Prop := fun xs H Q => ∃ x n, xs = [x] ∧ LenV K x H n ∧ Q (.int n) H
def rMinA : List V → Hp → VK → Prop := fun xs H Q => ∃ i j, xs = [.int i, .int j] ∧ Q (.int (if j < i then j else i)) H
def rIntA : List V → Hp → VK → Prop := fun xs H Q => (∃ i, xs = [.int i] ∧ Q (.int i) H) ∨ ∃ k, xs = [.bl k] ∧ Q (.int (if k then 1 else 0)) H
def rIntS : List V → Hp → VK → Prop := fun xs H Q => ∃ a n, xs = [.str a] ∧ PySem.intText? a = some n ∧ a.length ≤ 640 ∧ Q (.int n) H
def rDivmod : List V → Hp → VK → Prop := fun xs H Q => ∃ i j, xs = [.int i, .int j] ∧ CDiv i j ∧ ∀ p, H p = none → Q (.ref p) (upd H p (.tup [.int (i / j), .int (i % j)]))
def rListA (K : Kx) : List V → Hp → VK → Prop := fun xs H Q => ∃ p ys, xs = [.ref p] ∧ (SqL K H p ys ∨ SqT K H p ys) ∧ ∀ l, H l = none → Q (.ref l) (upd H l (.lst ys))
def rTupleA (K : Kx) : List V → Hp → VK → Prop := fun xs H Q => ∃ p ys, xs = [.ref p] ∧ ((SqL K H p ys ∧ ∀ l, H l = none → Q (.ref l) (upd H l (.tup ys))) ∨ (SqT K H p ys ∧ Q (.ref p) H))
variable (T : Tp X.K X.mg)
include T
theorem pb_len (ha : PA X (e :: es) ta) (hg : Gl X "len" := by rfl) (he : starEach (e :: es) X.env = (false, eval e X.env) :: starEach es X.env := by rfl) (hpl : (backTo pos (starEach es X.env)).any (·.1) = false := by rfl) :
    PE X (.Call (.Name "len" p) (e :: es) [] pos) (tCB (rLenA X.K) ta) := pe_callB call_len hg T.f_len PySem.boot_len ha (by decide) (by decide) he hpl
theorem pb_min (ha : PA X (e :: es) ta) (hc : X.calm = true := by rfl) (hg : Gl X "min" := by rfl) (he : starEach (e :: es) X.env = (false, eval e X.env) :: starEach es X.env := by rfl) (hpl : (backTo pos (starEach es X.env)).any (·.1) = false := by rfl) :
    PE X (.Call (.Name "min" p) (e :: es) [] pos) (tCB rMinA ta) := pe_callB (call_min2 hc) hg T.f_min (by decide +kernel) ha (by decide) (by decide) he hpl
theorem pb_sum (ha : PA X (e :: es) ta) (hc : X.calm = true := by rfl) (hg : Gl X "sum" := by rfl) (he : starEach (e :: es) X.env = (false, eval e X.env) :: starEach es X.env := by rfl) (hpl : (backTo pos (starEach es X.env)).any (·.1) = false := by rfl) :
    PE X (.Call (.Name "sum" p) (e :: es) [] pos) (tCB (rSum X.K) ta) := pe_callB (cr_sum hc) hg T.f_sum (by decide +kernel) ha (by decide) (by decide) he hpl
theorem pb_all (ha : PA X (e :: es) ta) (hc : X.calm = true := by rfl) (hg : Gl X "all" := by rfl) (he : starEach (e :: es) X.env = (false, eval e X.env) :: starEach es X.env := by rfl) (hpl : (backTo pos (starEach es X.env)).any (·.1) = false := by rfl) :
    PE X (.Call (.Name "all" p) (e :: es) [] pos) (tCB (rAll X.K) ta) := pe_callB (cr_all hc) hg T.f_all (by decide +kernel) ha (by decide) (by decide) he hpl
theorem pb_any (ha : PA X (e :: es) ta) (hc : X.calm = true := by rfl) (hg : Gl X "any" := by rfl) (he : starEach (e :: es) X.env = (false, eval e X.env) :: starEach es X.env := by rfl) (hpl : (backTo pos (starEach es X.env)).any (·.1) = false := by rfl) :
    PE X (.Call (.Name "any" p) (e :: es) [] pos) (tCB (rAny X.K) ta) := pe_callB (cr_any hc) hg T.f_any (by decide +kernel) ha (by decide) (by decide) he hpl
theorem pb_int (ha : PA X (e :: es) ta) (hg : Gl X "int" := by rfl) (he : starEach (e :: es) X.env = (false, eval e X.env) :: starEach es X.env := by rfl) (hpl : (backTo pos (starEach es X.env)).any (·.1) = false := by rfl) :
    PE X (.Call (.Name "int" p) (e :: es) [] pos) (tCB rIntA ta) := pe_callTy call_int1 hg T.f_int (by decide +kernel) ha (by decide) (by decide) he hpl
theorem pb_intS (ha : PA X (e :: es) ta) (hg : Gl X "int" := by rfl) (he : starEach (e :: es) X.env = (false, eval e X.env) :: starEach es X.env := by rfl) (hpl : (backTo pos (starEach es X.env)).any (·.1) = false := by rfl) :
    PE X (.Call (.Name "int" p) (e :: es) [] pos) (tCB rIntS ta) := pe_callTy call_int_str hg T.f_int (by decide +kernel) ha (by decide) (by decide) he hpl
theorem pb_divmod (ha : PA X (e :: es) ta) (hg : Gl X "divmod" := by rfl) (he : starEach (e :: es) X.env = (false, eval e X.env) :: starEach es X.env := by rfl) (hpl : (backTo pos (starEach es X.env)).any (·.1) = false := by rfl) :
    PE X (.Call (.Name "divmod" p) (e :: es) [] pos) (tCB rDivmod ta) := pe_callB call_divmod hg T.f_divmod (by decide +kernel) ha (by decide) (by decide) he hpl
theorem pb_list (ha : PA X (e :: es) ta) (hg : Gl X "list" := by rfl) (he : starEach (e :: es) X.env = (false, eval e X.env) :: starEach es X.env := by rfl) (hpl : (backTo pos (starEach es X.env)).any (·.1) = false := by rfl) :
    PE X (.Call (.Name "list" p) (e :: es) [] pos) (tCB (rListA X.K) ta) := pe_callTy call_list_of hg T.f_list (by decide +kernel) ha (by decide) (by decide) he hpl
theorem pb_tuple (ha : PA X (e :: es) ta) (hg : Gl X "tuple" := by rfl) (he : starEach (e :: es) X.env = (false, eval e X.env) :: starEach es X.env := by rfl) (hpl : (backTo pos (starEach es X.env)).any (·.1) = false := by rfl) :
    PE X (.Call (.Name "tuple" p) (e :: es) [] pos) (tCB (rTupleA X.K) ta) := pe_callTy call_tuple_of hg T.f_tuple (by decide +kernel) ha (by decide) (by decide) he hpl
/-- isinstance(e, T) -/
theorem pb_isi {y : Str} {n : String} {q : Pos} (he : PE X e te) (hm : X.mg y = none) (hv : bootBuiltins y = some (.type n)) (hg2 : Gl X y := by rfl) (hg : Gl X "isinstance" := by rfl) (hn : y ≠ "__name__" := by decide) (hd : (y == ("__debug__" : Str)) = false := by decide)
    (h1 : starEach [e, .Name y q] X.env = (false, eval e X.env) :: starEach [.Name y q] X.env := by rfl) (hpl : (backTo pos (starEach [.Name y q] X.env)).any (·.1) = false := by rfl) (h2 : starEach [.Name y q] X.env = (false, eval (.Name y q) X.env) :: starEach [] X.env := by rfl) :
    PE X (.Call (.Name "isinstance" p) [e, .Name y q] [] pos) (tCB (rIsi X.K) (tCons te (tCons (tC (.ty n)) tNil))) :=
  pe_callB call_isi hg T.f_isinstance (by decide +kernel) (pa_cons he (pa_cons (pe_bltn hg2 hm hv rfl hn hd) pa_nil h2) h1) (by decide) (by decide) h1 hpl
theorem pi_r1 {tg a : Expr} (ha : PA X [a] ta) (hg : Gl X "range" := by rfl) (hs : starEach [a] X.env = [(false, eval a X.env)] := by rfl) : PI X tg (.Call (.Name "range" p) [a] [] pos) (iRng1 ta) := pi_range1 hg T.f_range ha hs
end
end Stair
/-! ## StSc -/
set_option Elab.async false
set_option maxRecDepth 100000
namespace Stair
open PySem PySem.Spec PyProof.Rows L2
theorem sc_is_whole : FnScope ["thing", "least", "most"] ["thing", "least", "most"] (defScope sIsWhole) := ⟨rfl, rfl, rfl, by decide +kernel, rfl, by decide +kernel, by decide +kernel⟩
theorem sc_is_word : FnScope ["thing", "sign"] ["thing"] (defScope sIsWord) := ⟨rfl, rfl, rfl, by decide +kernel, rfl, by decide +kernel, by decide +kernel⟩
theorem sc_are_names : FnScope ["thing", "one", "other"] ["thing"] (defScope sAreNames) := ⟨rfl, rfl, rfl, by decide +kernel, rfl, by decide +kernel, by decide +kernel⟩
theorem sc_are_figures : FnScope ["many", "thing", "sign"] ["many", "thing"] (defScope sAreFigures) := ⟨rfl, rfl, rfl, by decide +kernel, rfl, by decide +kernel, by decide +kernel⟩
theorem sc_is_run : FnScope ["many", "thing", "is_last"] ["many", "thing", "is_last"] (defScope sIsRun) := ⟨rfl, rfl, rfl, by decide +kernel, rfl, by decide +kernel, by decide +kernel⟩
theorem sc_need_deal : FnScope ["thing", "names", "runs", "number", "run"] ["thing"] (defScope sNeedDeal) := ⟨rfl, rfl, rfl, by decide +kernel, rfl, by decide +kernel, by decide +kernel⟩
theorem sc_need_number : FnScope ["thing"] ["thing"] (defScope sNeedNumber) := ⟨rfl, rfl, rfl, by decide +kernel, rfl, by decide +kernel, by decide +kernel⟩
theorem sc_count_in : FnScope ["figures", "figure", "coins", "turns", "rest"] ["figures", "figure", "coins"] (defScope sCountIn) := ⟨rfl, rfl, rfl, by decide +kernel, rfl, by decide +kernel, by decide +kernel⟩
theorem sc_parts_of : FnScope ["runs", "coins", "found", "left", "size", "figures", "part"] ["runs", "coins"] (defScope sPartsOf) := ⟨rfl, rfl, rfl, by decide +kernel, rfl, by decide +kernel, by decide +kernel⟩
theorem sc_count_by : FnScope ["runs", "figure", "coins", "parts", "run", "part"] ["runs", "figure", "coins"] (defScope sCountBy) := ⟨rfl, rfl, rfl, by decide +kernel, rfl, by decide +kernel, by decide +kernel⟩
theorem sc_has_in : FnScope ["deal", "coins", "names", "runs", "number"] ["deal", "coins"] (defScope sHasIn) := ⟨rfl, rfl, rfl, by decide +kernel, rfl, by decide +kernel, by decide +kernel⟩
theorem sc_place_in : FnScope ["runs", "coin", "left", "number", "size", "figures"] ["runs", "coin"] (defScope sPlaceIn) := ⟨rfl, rfl, rfl, by decide +kernel, rfl, by decide +kernel, by decide +kernel⟩
theorem sc_name_in : FnScope ["deal", "coin", "names", "runs", "number", "left", "figures"] ["deal", "coin"] (defScope sNameIn) := ⟨rfl, rfl, rfl, by decide +kernel, rfl, by decide +kernel, by decide +kernel⟩
theorem sc_row_part : FnScope ["deal", "begin", "size", "place"] ["deal", "begin", "size"] (defScope sRowPart) := ⟨rfl, rfl, rfl, by decide +kernel, rfl, by decide +kernel, by decide +kernel⟩
theorem sc_has : FnScope ["deal", "coins"] ["deal", "coins"] (defScope sHas) := ⟨rfl, rfl, rfl, by decide +kernel, rfl, by decide +kernel, by decide +kernel⟩
theorem sc_names_of : FnScope ["deals", "deal", "name"] ["deals"] (defScope sNamesOf) := ⟨rfl, rfl, rfl, by decide +kernel, rfl, by decide +kernel, by decide +kernel⟩
theorem sc_signed_runs : FnScope ["deal", "names", "signs", "name", "figure", "coins", "figures"] ["deal", "names"] (defScope sSignedRuns) := ⟨rfl, rfl, rfl, by decide +kernel, rfl, by decide +kernel, by decide +kernel⟩
theorem sc_turned_figures : FnScope ["figures", "begin", "place"] ["figures", "begin"] (defScope sTurnedFigures) := ⟨rfl, rfl, rfl, by decide +kernel, rfl, by decide +kernel, by decide +kernel⟩
theorem sc_round_part : FnScope ["figures", "size"] ["figures", "size"] (defScope sRoundPart) := ⟨rfl, rfl, rfl, by decide +kernel, rfl, by decide +kernel, by decide +kernel⟩
theorem sc_least_root : FnScope ["figures", "size"] ["figures"] (defScope sLeastRoot) := ⟨rfl, rfl, rfl, by decide +kernel, rfl, by decide +kernel, by decide +kernel⟩
theorem sc_is_house : FnScope ["thing", "coins", "figures"] ["thing"] (defScope sIsHouse) := ⟨rfl, rfl, rfl, by decide +kernel, rfl, by decide +kernel, by decide +kernel⟩
theorem sc_need_net : FnScope ["thing", "number", "house"] ["thing"] (defScope sNeedNet) := ⟨rfl, rfl, rfl, by decide +kernel, rfl, by decide +kernel, by decide +kernel⟩
theorem sc_houses_of : FnScope ["net", "house", "deal"] ["net"] (defScope sHousesOf) := ⟨rfl, rfl, rfl, by decide +kernel, rfl, by decide +kernel, by decide +kernel⟩
theorem sc_people_in : FnScope ["net", "houses", "deals", "house", "deal", "name"] ["net"] (defScope sPeopleIn) := ⟨rfl, rfl, rfl, by decide +kernel, rfl, by decide +kernel, by decide +kernel⟩
theorem sc_leads_out : FnScope ["deal", "houses", "figure", "coins", "figures"] ["deal", "houses"] (defScope sLeadsOut) := ⟨rfl, rfl, rfl, by decide +kernel, rfl, by decide +kernel, by decide +kernel⟩
theorem sc_shut_in : FnScope ["net", "left", "many", "houses", "pair"] ["net"] (defScope sShutIn) := ⟨rfl, rfl, rfl, by decide +kernel, rfl, by decide +kernel, by decide +kernel⟩
theorem sc_shut_houses : FnScope ["net"] ["net"] (defScope sShutHouses) := ⟨rfl, rfl, rfl, by decide +kernel, rfl, by decide +kernel, by decide +kernel⟩
theorem sc_need_open : FnScope ["net"] ["net"] (defScope sNeedOpen) := ⟨rfl, rfl, rfl, by decide +kernel, rfl, by decide +kernel, by decide +kernel⟩
theorem sc_need_amounts : FnScope ["net", "amounts", "one"] ["net", "amounts"] (defScope sNeedAmounts) := ⟨rfl, rfl, rfl, by decide +kernel, rfl, by decide +kernel, by decide +kernel⟩
theorem sc_handed_parts : FnScope ["net", "come", "found", "house", "deal", "coins", "name", "part"] ["net", "come"] (defScope sHandedParts) := ⟨rfl, rfl, rfl, by decide +kernel, rfl, by decide +kernel, by decide +kernel⟩
theorem sc_round_behind : FnScope ["net", "amounts", "come", "found", "house", "amount"] ["net", "amounts", "come"] (defScope sRoundBehind) := ⟨rfl, rfl, rfl, by decide +kernel, rfl, by decide +kernel, by decide +kernel⟩
theorem sc_totals_in : FnScope ["net", "amounts", "here", "there"] ["net", "amounts"] (defScope sTotalsIn) := ⟨rfl, rfl, rfl, by decide +kernel, rfl, by decide +kernel, by decide +kernel⟩
theorem sc_paid_in : FnScope ["net", "amounts", "found", "name"] ["net", "amounts"] (defScope sPaidIn) := ⟨rfl, rfl, rfl, by decide +kernel, rfl, by decide +kernel, by decide +kernel⟩
theorem sc_paid_out : FnScope ["net", "amounts"] ["net", "amounts"] (defScope sPaidOut) := ⟨rfl, rfl, rfl, by decide +kernel, rfl, by decide +kernel, by decide +kernel⟩
theorem sc_need_house : FnScope ["net", "house"] ["net", "house"] (defScope sNeedHouse) := ⟨rfl, rfl, rfl, by decide +kernel, rfl, by decide +kernel, by decide +kernel⟩
theorem sc_W___init__ : FnScope ["self", "net", "house", "name", "deal", "coins", "figures"] ["self", "net", "house"] (defScope sWInit) := ⟨rfl, rfl, rfl, by decide +kernel, rfl, by decide +kernel, by decide +kernel⟩
theorem sc_W_dealt_by : FnScope ["self", "number", "deal", "first", "name"] ["self", "number"] (defScope sWDealtBy) := ⟨rfl, rfl, rfl, by decide +kernel, rfl, by decide +kernel, by decide +kernel⟩
theorem sc_W_paid_one : FnScope ["self", "name"] ["self"] (defScope sWPaidOne) := ⟨rfl, rfl, rfl, by decide +kernel, rfl, by decide +kernel, by decide +kernel⟩
theorem sc_melted_part : FnScope ["net", "house", "size", "walk", "coin"] ["net", "house", "size"] (defScope sMeltedPart) := ⟨rfl, rfl, rfl, by decide +kernel, rfl, by decide +kernel, by decide +kernel⟩
theorem sc_fate_in : FnScope ["net", "house", "walk", "found", "known", "here"] ["net", "house"] (defScope sFateIn) := ⟨rfl, rfl, rfl, by decide +kernel, rfl, by decide +kernel, by decide +kernel⟩
theorem sc_melted_fate : FnScope ["net", "house", "begin", "found"] ["net", "house"] (defScope sMeltedFate) := ⟨rfl, rfl, rfl, by decide +kernel, rfl, by decide +kernel, by decide +kernel⟩
theorem sc_melt : FnScope ["net", "house", "begin", "found", "names", "name", "row", "root", "parts", "place", "part"] ["net", "house"] (defScope sMelt) := ⟨rfl, rfl, rfl, by decide +kernel, rfl, by decide +kernel, by decide +kernel⟩
theorem sc_last_unlike : FnScope ["one", "other", "place"] ["one", "other"] (defScope sLastUnlike) := ⟨rfl, rfl, rfl, by decide +kernel, rfl, by decide +kernel, by decide +kernel⟩
theorem sc_goes_round : FnScope ["deal", "runs", "begin", "coins", "figures", "root", "size", "mine", "place"] ["deal"] (defScope sGoesRound) := ⟨rfl, rfl, rfl, by decide +kernel, rfl, by decide +kernel, by decide +kernel⟩
theorem sc__law_begun : FnScope ["_law_script", "_law_great", "_law_cell"] ["_law_script"] (defScope sLawBegun) := ⟨rfl, rfl, rfl, by decide +kernel, rfl, by decide +kernel, by decide +kernel⟩
theorem sc__law_draw : FnScope ["_law_m", "_law_many", "_law_found", "_law_spot", "_law_cell", "_law_mixed"] ["_law_m", "_law_many"] (defScope sLawDraw) := ⟨rfl, rfl, rfl, by decide +kernel, rfl, by decide +kernel, by decide +kernel⟩
theorem sc__law_of : FnScope ["_law_m", "_law_some"] ["_law_m", "_law_some"] (defScope sLawOf) := ⟨rfl, rfl, rfl, by decide +kernel, rfl, by decide +kernel, by decide +kernel⟩
theorem sc__law_people : FnScope ["_law_m", "_law_most", "_law_some"] ["_law_m", "_law_most"] (defScope sLawPeople) := ⟨rfl, rfl, rfl, by decide +kernel, rfl, by decide +kernel, by decide +kernel⟩
theorem sc__law_figures : FnScope ["_law_m", "_law_total", "_law_long", "_law_k"] ["_law_m", "_law_total", "_law_long"] (defScope sLawFigures) := ⟨rfl, rfl, rfl, by decide +kernel, rfl, by decide +kernel, by decide +kernel⟩
theorem sc__law_net : FnScope ["_law_m", "_law_most", "_law_top", "_law_some", "_law_houses", "_law_found", "_law_house", "_law_one", "_law_names", "_law_free", "_law_k", "_law_runs", "_law_figures_here", "_law_step"] ["_law_m", "_law_most", "_law_top"] (defScope sLawNet) := ⟨rfl, rfl, rfl, by decide +kernel, rfl, by decide +kernel, by decide +kernel⟩
theorem sc__law_standing : FnScope ["_law_net_here", "_law_come", "_law_found", "_law_house", "_law_names", "_law_runs", "_law_coins", "_law_first", "_law_run"] ["_law_net_here", "_law_come"] (defScope sLawStanding) := ⟨rfl, rfl, rfl, by decide +kernel, rfl, by decide +kernel, by decide +kernel⟩
theorem sc__law_next : FnScope ["_law_net_here", "_law_come", "_law_begin", "_law_houses", "_law_name", "_law_pair", "_law_k", "_law_left", "_law_names", "_law_runs", "_law_size", "_law_figures_here"] ["_law_net_here", "_law_come", "_law_begin"] (defScope sLawNext) := ⟨rfl, rfl, rfl, by decide +kernel, rfl, by decide +kernel, by decide +kernel⟩
theorem sc__law_film : FnScope ["_law_net_here", "_law_begin", "_law_most", "_law_come", "_law_known", "_law_found", "_law_name"] ["_law_net_here", "_law_begin", "_law_most"] (defScope sLawFilm) := ⟨rfl, rfl, rfl, by decide +kernel, rfl, by decide +kernel, by decide +kernel⟩
theorem sc__law_outcome : FnScope ["_law_call", "_law_most", "_law_found", "e"] ["_law_call"] (defScope sLawOutcome) := ⟨rfl, rfl, rfl, by decide +kernel, rfl, by decide +kernel, by decide +kernel⟩
theorem sc__law_least : FnScope ["_law_some", "_law_spot", "_law_tail", "_law_size"] ["_law_some", "_law_spot"] (defScope sLawLeast) := ⟨rfl, rfl, rfl, by decide +kernel, rfl, by decide +kernel, by decide +kernel⟩
theorem sc__law_right : FnScope ["_law_m", "_law_net_here", "_law_house", "_law_film_here", "_law_row", "_law_spot", "_law_size", "_law_names", "_law_going", "_law_total", "_law_told", "_law_round_so", "_law_pact", "_law_coins", "_law_amounts", "_law_pair", "_law_got"] ["_law_m", "_law_net_here", "_law_house"] (defScope sLawRight) := ⟨rfl, rfl, rfl, by decide +kernel, rfl, by decide +kernel, by decide +kernel⟩
theorem sc__law_wide : FnScope ["_law_total", "_law_people_here", "_law_near"] ["_law_total"] (defScope sLawWide) := ⟨rfl, rfl, rfl, by decide +kernel, rfl, by decide +kernel, by decide +kernel⟩
theorem sc_law : FnScope ["_law_script", "_law_m", "_law_lap", "_law_net_here", "_law_long", "_law_one"] ["_law_script"] (defScope sLaw) := ⟨rfl, rfl, rfl, by decide +kernel, rfl, by decide +kernel, by decide +kernel⟩
end Stair
/-! ## StNet -/
set_option Elab.async false
set_option linter.all false
set_option maxRecDepth 100000
set_option maxHeartbeats 1000000
namespace Stair
open PySem PySem.Spec PyProof.Rows L2 Evl
/-! # What is given: deals, nets -/
abbrev Run := Option Nat × Str
structure Deal where
  names : List Str
  init : List (Nat × Str)
  last : Str
def Deal.runs (d : Deal) : List Run := d.init.map (fun r => (some r.1, r.2)) ++ [(none, d.last)]
abbrev Net := List (Str × Deal)
def optD : Option Nat → PD
  | none => .none
  | some n => .int (n : Nat)
def runD (r : Run) : PD := .tuple [optD r.1, .str r.2]
def namesD (ns : List Str) : PD := .tuple (ns.map .str)
def runsD (rs : List Run) : PD := .tuple (rs.map runD)
def dealD (d : Deal) : PD := .tuple [namesD d.names, runsD d.runs]
def houseD (p : Str × Deal) : PD := .tuple [.str p.1, dealD p.2]
def netD (n : Net) : PD := .tuple (n.map houseD)
theorem td_strs (ns : List Str) : tds (ns.map PyData.str) = true := td_all fun d hd => by obtain ⟨a, _, rfl⟩ := List.mem_map.mp hd; rfl
theorem td_names (ns : List Str) : td (namesD ns) = true := td_strs ns
theorem td_opt : ∀ o : Option Nat, td (optD o) = true
  | none => rfl
  | some _ => rfl
theorem td_run (r : Run) : td (runD r) = true := by
  show (td (optD r.1) && (true && true)) = true
  rw [td_opt]; rfl
theorem td_runs (rs : List Run) : td (runsD rs) = true := td_all fun d hd => by obtain ⟨a, _, rfl⟩ := List.mem_map.mp hd; exact td_run a
theorem td_deal (d : Deal) : td (dealD d) = true := by
  show (td (namesD d.names) && (td (runsD d.runs) && true)) = true
  rw [td_names, td_runs]; rfl
theorem td_house (p : Str × Deal) : td (houseD p) = true := by
  show (true && (td (dealD p.2) && true)) = true
  rw [td_deal]; rfl
theorem td_net (n : Net) : td (netD n) = true := td_all fun d hd => by obtain ⟨a, _, rfl⟩ := List.mem_map.mp hd; exact td_house a
/-! ### what the program asks of them -/
def letters : Str := "abcdefghijklmnopqrstuvwxyz"
def digits : Str := "0123456789"
def Str.lt (a b : Str) : Prop := a.cps.toList < b.cps.toList
structure GoodWord (a : Str) : Prop where
  lo : 1 ≤ a.length
  hi : a.length ≤ 6
  all : ∀ c ∈ a.cps.toList, c ∈ letters.cps.toList
structure GoodNames (ns : List Str) : Prop where
  lo : 1 ≤ ns.length
  hi : ns.length ≤ 6
  word : ∀ a ∈ ns, GoodWord a
  srt : ns.Pairwise Str.lt
structure GoodFigs (many : Nat) (f : Str) : Prop where
  lo : 1 ≤ f.length
  hi : f.length ≤ 400
  all : ∀ c ∈ f.cps.toList, 48 ≤ c ∧ c < 48 + many
structure GoodDeal (d : Deal) : Prop where
  names : GoodNames d.names
  few : d.init.length < 60
  init : ∀ r ∈ d.init, 1 ≤ r.1 ∧ r.1 ≤ 10 ^ 12 ∧ GoodFigs d.names.length r.2
  last : GoodFigs d.names.length d.last
structure GoodNet (n : Net) : Prop where
  lo : 1 ≤ n.length
  hi : n.length ≤ 4
  word : ∀ p ∈ n, GoodWord p.1
  deal : ∀ p ∈ n, GoodDeal p.2
  figs : ∀ p ∈ n, ∀ r ∈ p.2.runs, r.2.length ≤ 6
  srt : (n.map (·.1)).Pairwise Str.lt
theorem Deal.runs_length (d : Deal) : d.runs.length = d.init.length + 1 := by simp [Deal.runs]
theorem GoodDeal.figs {d : Deal} (h : GoodDeal d) : ∀ r ∈ d.runs, GoodFigs d.names.length r.2 := fun r hr => by
  rcases List.mem_append.mp hr with hr | hr
  · obtain ⟨x, hx, rfl⟩ := List.mem_map.mp hr
    exact (h.init x hx).2.2
  · rw [List.mem_singleton.mp hr]
    exact h.last
/-! ### coins -/
def placeIn : List Run → Nat → Option (Nat × Nat)
  | [], _ => none
  | (none, _) :: _, c => some (0, c)
  | (some n, _) :: r, c => if c < n then some (0, c) else (placeIn r (c - n)).map fun p => (p.1 + 1, p.2)
def figAt (f : Str) (left : Nat) : Nat := (f.cps.toList.getD (left % f.length) 48) - 48
/-- the figures of run k -/
def Deal.figs (d : Deal) (k : Nat) : Str := (d.runs.getD k (none, d.last)).2
/-- the place of a coin's run, and in it -/
def Deal.place (d : Deal) (c : Nat) : Nat × Nat := (placeIn d.runs c).getD (0, 0)
/-- the figure of a coin -/
def Deal.fig (d : Deal) (c : Nat) : Nat := figAt (d.figs (d.place c).1) (d.place c).2
def Deal.name (d : Deal) (c : Nat) : Str := d.names.getD (d.fig c) Str.empty
end Stair
/-! ## StZip -/
set_option Elab.async false
set_option linter.all false
set_option maxRecDepth 100000
set_option maxHeartbeats 1000000
/-! zip of a list and a tuple in any mixture, enumerate of a list or a tuple: over the general iterators of the kit -/
namespace Stair
open PySem PySem.Spec PyProof.Rows L2 Evl
def Sq : Bool → Hp → Addr → List V → Prop
  | true, H, a, xs => H a = some (.lst xs)
  | false, H, a, xs => H a = some (.tup xs)
theorem Sq.inj {k : Bool} {H : Hp} {a : Addr} {xs ys : List V} (h : Sq k H a xs) (g : Sq k H a ys) : xs = ys := by
  cases k
  · have h1 : H a = some (.tup xs) := h
    have h2 : H a = some (.tup ys) := g
    rw [h1] at h2
    cases h2
    rfl
  · have h1 : H a = some (.lst xs) := h
    have h2 : H a = some (.lst ys) := g
    rw [h1] at h2
    cases h2
    rfl
def SrcAt : Bool → Heap → Addr → Array Value → Prop
  | true, h, l, its => h.IsList l its
  | false, h, l, its => h.IsTuple l its
def IterAt : Bool → Heap → Addr → Addr → Nat → Prop
  | true, h, it, l, i => h.IsListIter it l i
  | false, h, it, l, i => h.IsTupleIter it l i
def iterO : Bool → Addr → Obj
  | true, l => { cls := .type "list_iterator", data := .fields #[.ref l, .int 0 0] }
  | false, l => { cls := .type "tuple_iterator", data := .fields #[.ref l, .int 0 0] }
theorem drawsK {prog : Program} {w : World} {A : Around} (hh : A.handled = none) (k : Bool) (it l : Addr) (hne : l ≠ it) (its : Array Value) :
    Draws prog w A it [it, l] its.size (fun i v => its[i]? = some v) (fun i h => IterAt k h it l i ∧ SrcAt k h l its) := by
  cases k
  · exact Draws.tuple hh it l hne its
  · exact Draws.list hh it l hne its
theorem beginsK (k : Bool) (l : Addr) (its : Array Value) : Begins (.ref l) (iterO k l) (fun h => SrcAt k h l its) := by
  cases k
  · exact begins_tuple l its
  · exact begins_list l its
theorem iterAt_new {k : Bool} {h : Heap} {it l : Addr} (e : h.get? it = some (iterO k l)) : IterAt k h it l 0 := by
  cases k <;> exact ⟨_, e, rfl, rfl⟩
theorem IterAt.obj {k : Bool} {h : Heap} {it l : Addr} {i : Nat} (e : IterAt k h it l i) : ∃ o, h.get? it = some o ∧ ∀ v, o.data ≠ .cell v := by
  cases k <;> obtain ⟨o, a, _, d⟩ := e <;> exact ⟨o, a, fun v q => by rw [d] at q; cases q⟩
theorem IterAt.keep {k : Bool} {h h' : Heap} {it l : Addr} {i : Nat} (e : IterAt k h it l i) (kk : ∀ o, h.get? it = some o → h'.get? it = some o) : IterAt k h' it l i := by
  cases k
  · exact Heap.IsTupleIter.at e kk
  · exact Heap.IsListIter.at e kk
section
variable {X : Cx} {pins : List (Addr × Obj)} {σ : L2.St} {H : Hp} {s : Shared}
theorem src_of {k : Bool} {a : Addr} {xs : List V} (I : Inv X pins σ H s) (h : Sq k H a xs) : ∃ its : List Value, Vals xs its ∧ SrcAt k s.heap a its.toArray ∧ a < s.heap.objs.size := by
  cases k
  · obtain ⟨its, r, p, _⟩ := I.tuple (.inl (.inl h))
    obtain ⟨o, e, _⟩ := id p
    exact ⟨its, r, p, Heap.lt_size e⟩
  · obtain ⟨its, r, p, _⟩ := I.list (.inl (.inl h))
    exact ⟨its, r, p.isList, p.lt⟩
end
/-- the sequences at a and b, the items in new pairs -/
def ItzM (k1 k2 : Bool) (a b : Addr) : It :=
  ⟨fun i H => ∃ (xs ys : List V) (x y : V), Sq k1 H a xs ∧ Sq k2 H b ys ∧ xs[i]? = some x ∧ ys[i]? = some y,
    fun i H v H' => ∃ T x y, v = .ref T ∧ H T = none ∧ H' = upd H T (.tup [x, y]) ∧ (∀ xs, Sq k1 H a xs → xs[i]? = some x) ∧ ∀ ys, Sq k2 H b ys → ys[i]? = some y,
    fun i H => ∃ xs ys : List V, Sq k1 H a xs ∧ Sq k2 H b ys ∧ i = min xs.length ys.length⟩
theorem turn_zipM {P : Program} {w : World} {K : Kx} {elts : List Expr} {kk : Nat} {tpos : Pos} {k1 k2 : Bool} {a b z TI TO i1 i2 : Addr} (S : ZipSep2 z TI TO i1 i2 [i1, a] [i2, b]) (h1 : a ≠ i1) (h2 : b ≠ i2) :
    Turn P w K (.Tuple elts kk tpos) (ItzM k1 k2 a b) [z, TI, TO, i1, i2] z (fun i h => IsZip h z TI TO .none ∧ IsTupOf2 h TI (.ref i1) (.ref i2) ∧ (∃ x y, IsTupOf2 h TO x y) ∧ IterAt k1 h i1 a i ∧ IterAt k2 h i2 b i) where
  mem := by simp
  obj := fun i h st c hc => by
    obtain ⟨hz, hTI, ⟨x, y, hTO⟩, g1, g2⟩ := st
    have e' : c = z ∨ c = TI ∨ c = TO ∨ c = i1 ∨ c = i2 := by simpa using hc
    rcases e' with q | q | q | q | q
    · rw [q]; exact ⟨_, hz, fun v q => nomatch q⟩
    · rw [q]; exact ⟨_, hTI, fun v q => nomatch q⟩
    · rw [q]; exact ⟨_, hTO, fun v q => nomatch q⟩
    · rw [q]; exact g1.obj
    · rw [q]; exact g2.obj
  keep := fun i h h' st k => by
    obtain ⟨hz, hTI, ⟨x, y, hTO⟩, g1, g2⟩ := st
    exact ⟨k z (by simp) _ hz, k TI (by simp) _ hTI, ⟨x, y, k TO (by simp) _ hTO⟩, g1.keep fun o q => k i1 (by simp) o q, g2.keep fun o q => k i2 (by simp) o q⟩
  item := by
    intro X hP hw hK hc i pins s σ H E I hf st hg
    subst hP hw hK
    obtain ⟨hz, hTI, hTO, g1, g2⟩ := st
    obtain ⟨xs, ys, x, y, hqx, hqy, hx, hy⟩ := hg
    obtain ⟨its, rv, p, _⟩ := src_of I hqx
    obtain ⟨its2, rv2, p2, _⟩ := src_of I hqy
    have hh : X.A.in1.handled = none := I.ok.hd hc
    have W := WalksT.zipD2 (prog := X.prog) (w := X.w) (A := X.A) S (drawsK hh k1 i1 a h1 its.toArray) (drawsK hh k2 i2 b h2 its2.toArray)
    obtain ⟨u, hu, ru⟩ := rv.get hx
    obtain ⟨u2, hu2, ru2⟩ := rv2.get hy
    have l1 : i < its.length := by
      rcases Nat.lt_or_ge i its.length with q | q
      · exact q
      · rw [List.getElem?_eq_none q] at hu; cases hu
    have l2 : i < its2.length := by
      rcases Nat.lt_or_ge i its2.length with q | q
      · exact q
      · rw [List.getElem?_eq_none q] at hu2; cases hu2
    refine W.item i s _ _ (by simp; omega) ⟨hz, hTI, hTO, ⟨g1, p⟩, ⟨g2, p2⟩⟩ fun T vals h' tk hp hT hI mid hk => ⟨_, rfl, ?_⟩
    obtain ⟨x1, x2, e1, e2, ev⟩ := hp
    have ap := W.apart i T h' mid
    have ex1 : x1 = u := by
      have q : its[i]? = some x1 := by simpa using e1
      rw [hu] at q
      exact (Option.some.inj q).symm
    have ex2 : x2 = u2 := by
      have q : its2[i]? = some x2 := by simpa using e2
      rw [hu2] at q
      exact (Option.some.inj q).symm
    subst ex1 ex2 ev
    refine W.go elts kk tpos i T { s with heap := h', toks := tk } _ _ mid fun h'' st2 hk2 => ?_
    have wr : ∀ c, c ∈ [z, TO, i1, i2] → c ∈ [z, TI, TO, i1, i2] := fun c hc => by simp at hc ⊢; rcases hc with q | q | q | q <;> simp [q]
    have hT2 : h''.IsTuple T #[x1, x2] := hI.at fun o q => hk2 T o ap q
    have new : ObjOk X.prog X.w (upd H T (.tup [x, y])) h'' T (.tup [x, y]) := ⟨by show 2 ≤ sizeLine; decide, [x1, x2], .cons ru (.cons ru2 .nil), hT2⟩
    have I1 : Inv X pins σ (upd H T (.tup [x, y])) { s with heap := h'', toks := tk } :=
      I.turnedNew (ch := [z, TI, TO, i1, i2]) (fun c o hb q => hk2 c o (fun m => hb (wr c m)) (hk c o (fun m => hb (wr c m)) q)) hf hT new
    obtain ⟨s1, s2, s3, s4, s5⟩ := st2
    refine ⟨.ref T, _, I1, rfl, ⟨T, x, y, rfl, I.hok.fresh hT, rfl, fun l hl => by rw [hl.inj hqx]; exact hx, fun l hl => by rw [hl.inj hqy]; exact hy⟩, ⟨s1, s2, s3, s4.1, s5.1⟩, fun c hcm => ?_⟩
    have lt : c < s.heap.objs.size := by
      obtain ⟨x0, y0, hTO⟩ := hTO
      obtain ⟨_, q1, _⟩ := g1.obj
      obtain ⟨_, q2, _⟩ := g2.obj
      have e' : c = z ∨ c = TI ∨ c = TO ∨ c = i1 ∨ c = i2 := by simpa using hcm
      rcases e' with q | q | q | q | q <;> rw [q]
      · exact Heap.lt_size hz
      · exact Heap.lt_size hTI
      · exact Heap.lt_size hTO
      · exact Heap.lt_size q1
      · exact Heap.lt_size q2
    rw [upd_ne (Nat.ne_of_lt (Nat.lt_of_lt_of_le lt hT))]
    exact (hf c hcm).1
  done := by
    intro X hP hw hK hc i pins s σ H E I hf st hg
    subst hP hw hK
    obtain ⟨hz, hTI, hTO, g1, g2⟩ := st
    obtain ⟨xs, ys, hqx, hqy, hend⟩ := hg
    obtain ⟨its, rv, p, _⟩ := src_of I hqx
    obtain ⟨its2, rv2, p2, _⟩ := src_of I hqy
    have hh : X.A.in1.handled = none := I.ok.hd hc
    have W := WalksT.zipD2 (prog := X.prog) (w := X.w) (A := X.A) S (drawsK hh k1 i1 a h1 its.toArray) (drawsK hh k2 i2 b h2 its2.toArray)
    have e : i = min its.toArray.size its2.toArray.size := by rw [List.size_toArray, List.size_toArray, ← rv.length, ← rv2.length]; exact hend
    subst e
    have wr : ∀ c, c ∈ [z, TO, i1, i2] → c ∈ [z, TI, TO, i1, i2] := fun c hc => by simp at hc ⊢; rcases hc with q | q | q | q <;> simp [q]
    exact W.done s _ _ ⟨hz, hTI, hTO, ⟨g1, p⟩, ⟨g2, p2⟩⟩ fun h' tk hk => ⟨rfl, I.turnedL (t' := tk) (ch := [z, TI, TO, i1, i2]) (fun c o hb q => hk c o (fun m => hb (wr c m)) q) hf⟩
  self := fun A i s Q E st h => wpAny_pyIter_zip st.1 h
theorem nm (x y z : Nat) (h1 : x ≠ y) (h2 : x ≠ z) : (show Addr from x) ∉ [(show Addr from y), z] := by
  intro h
  rcases List.mem_cons.mp h with e | h
  · exact h1 e
  · exact h2 (List.mem_singleton.mp h)
theorem sep_nat (n a b : Nat) (ha : a < n) (hb : b < n) : ZipSep2 (n + 4) (n + 2) (n + 3) n (n + 1) [n, a] [n + 1, b] ∧ a ≠ n ∧ b ≠ n + 1 := by
  refine ⟨?_, by omega, by omega⟩
  have f1 : ∀ x y : Nat, x ≠ y → ¬ (show Addr from x) = y := fun _ _ h => h
  exact ⟨f1 _ _ (by omega), f1 _ _ (by omega), f1 _ _ (by omega), f1 _ _ (by omega), List.mem_cons_self, nm _ _ _ (by omega) (by omega), nm _ _ _ (by omega) (by omega), f1 _ _ (by omega), List.mem_cons_self, nm _ _ _ (by omega) (by omega), nm _ _ _ (by omega) (by omega), nm _ _ _ (by omega) (by omega), nm _ _ _ (by omega) (by omega)⟩
theorem five_le (n c : Nat) (h : c ∈ [n + 4, n + 2, n + 3, n, n + 1]) : n ≤ c := by
  simp at h
  omega
theorem two_le (n c : Nat) (h : c ∈ [n + 1, n]) : n ≤ c := by
  simp at h
  omega
def iZipM (k1 k2 : Bool) (ta : TA) : TI := fun σ H R => ta σ H fun vs H1 => ∃ a b xs ys, vs = [.ref a, .ref b] ∧ Sq k1 H1 a xs ∧ Sq k2 H1 b ys ∧ R (ItzM k1 k2 a b) H1
theorem pi_zipM {X : Cx} {e e2 : Expr} {ta : TA} {p pos tpos : Pos} {elts : List Expr} {kk : Nat} (k1 k2 : Bool) (hm : X.mg "zip" = none) (ha : PA X [e, e2] ta) (hg : Gl X "zip" := by rfl)
    (hs : starEach [e, e2] X.env = (false, eval e X.env) :: starEach [e2] X.env := by rfl) (hpl : (backTo pos (starEach [e2] X.env)).any (·.1) = false := by rfl) :
    PI X (.Tuple elts kk tpos) (.Call (.Name "zip" p) [e, e2] [] pos) (iZipM k1 k2 ta) := by
  refine ⟨fun pins s σ H R I h => ?_⟩
  refine Call_ (ld_blt I hg hm PyProof.Rows.boot_zip (PyProof.Rows.callWith_type1 (thn (ha.run pos pins s σ H _ I h) fun us s1 hq => ?_) hs hpl))
  obtain ⟨vs, H1, I1, r1, a, b, xs, ys, ex, hqx, hqy, q⟩ := hq
  subst ex
  cases r1 with
  | cons r rr =>
    cases rr with
    | cons r' rr =>
      cases rr
      cases r
      cases r'
      obtain ⟨its, rv, p1, la⟩ := src_of I1 hqx
      obtain ⟨its2, rv2, p2, lb⟩ := src_of I1 hqy
      refine zip_begins2 (beginsK k1 a its.toArray) (beginsK k2 b its2.toArray) p1 p2 fun h' hz hTI hTO g1 g2 hsz hk => wpAny_pyIter_zip hz ?_
      have I2 : Inv X pins σ H1 { s1 with heap := h' } := I1.kept (t' := s1.toks) hk
      obtain ⟨S, na, nb⟩ := sep_nat s1.heap.objs.size a b la lb
      refine ⟨s1.heap.objs.size + 4, [s1.heap.objs.size + 4, s1.heap.objs.size + 2, s1.heap.objs.size + 3, s1.heap.objs.size, s1.heap.objs.size + 1], _, _, H1, rfl, I2, turn_zipM S na nb, ⟨hz, hTI, ⟨_, _, hTO⟩, iterAt_new g1, iterAt_new g2⟩, fun c hcm => ?_, q⟩
      have hle := five_le _ _ hcm
      exact I1.fpOk hle (I1.hok.fresh hle)
theorem gives_zipM {k1 k2 : Bool} {H : Hp} {a b : Addr} {xs ys : List V} {ds es : List PD} (h1 : Sq k1 H a xs) (h2 : Sq k2 H b ys) (r1 : Dts H xs ds) (r2 : Dts H ys es) : Gives (ItzM k1 k2 a b) (pairUp ds es) H := by
  have st : ∀ {k : Bool} {H H' : Hp} {a : Addr} {xs : List V}, Ex H H' → Sq k H a xs → Sq k H' a xs := fun {k} {H} {H'} {a} {xs} e h => by cases k <;> exact e _ _ h
  refine gives_pairs rfl (fun H' => Sq k1 H' a xs ∧ Sq k2 H' b ys) ⟨fun i H' hi q => ?_, fun H' q => ⟨xs, ys, q.1, q.2, rfl⟩, fun i H' v H'' _ q y => ?_⟩ ⟨h1, h2⟩ (fun _ _ e q => ⟨st e q.1, st e q.2⟩) r1 r2
  · have l1 : i < xs.length := by omega
    have l2 : i < ys.length := by omega
    exact ⟨xs, ys, xs[i], ys[i], q.1, q.2, by simp [l1], by simp [l2]⟩
  · obtain ⟨T, x, z, e1, e2, e3, e4, e5⟩ := y
    exact ⟨T, x, z, e1, e2, e3, e4 xs q.1, e5 ys q.2⟩
def seqD : Bool → List PD → PD
  | true, ds => .list ds
  | false, ds => .tuple ds
theorem Dt.seq {k : Bool} {H : Hp} {v : V} {ds : List PD} (h : Dt H v (seqD k ds)) : ∃ a xs, v = .ref a ∧ Sq k H a xs ∧ Dts H xs ds := by
  cases k
  · cases (show Dt H v (.tuple ds) from h) with | tup a b => exact ⟨_, _, rfl, a, b⟩
  · cases (show Dt H v (.list ds) from h) with | lst a b => exact ⟨_, _, rfl, a, b⟩
theorem ItG.is {Γ : En} {wi : TI} {ds es : List PD} (h : ItG wi Γ ds) (e : ds = es) : ItG wi Γ es := e ▸ h
theorem it_zip {Γ : En} {k1 k2 : Bool} {ta : TA} {ds es : List PD} (h : EaG ta Γ [seqD k1 ds, seqD k2 es]) : ItG (iZipM k1 k2 ta) Γ (pairUp ds es) := fun σ H ok R q => h σ H ok _ fun vs H1 x1 d1 => by
  cases d1 with | cons a t => cases t with | cons b u =>
    cases u
    obtain ⟨p, xs, rfl, hp, rp⟩ := a.seq
    obtain ⟨p2, ys, rfl, hp2, rp2⟩ := b.seq
    exact ⟨p, p2, xs, ys, rfl, hp, hp2, q _ H1 x1 (gives_zipM hp hp2 rp rp2)⟩
/-! ### enumerate -/
def IteM (k : Bool) (a : Addr) : It :=
  ⟨fun i H => ∃ (xs : List V) (x : V), Sq k H a xs ∧ xs[i]? = some x, fun i H v H' => ∃ T x, v = .ref T ∧ H T = none ∧ H' = upd H T (.tup [.int (i : Nat), x]) ∧ ∀ xs, Sq k H a xs → xs[i]? = some x,
    fun i H => ∃ xs : List V, Sq k H a xs ∧ i = xs.length⟩
theorem turn_enumM {P : Program} {w : World} {K : Kx} {elts : List Expr} {kk : Nat} {tpos : Pos} {k : Bool} {a e it : Addr} (h1 : a ≠ it) (h2 : e ≠ it) (h3 : e ≠ a) :
    Turn P w K (.Tuple elts kk tpos) (IteM k a) [e, it] e (fun i h => (∃ old, IsEnum h e it (i : Int) old) ∧ IterAt k h it a i) where
  mem := by simp
  obj := fun i h st c hc => by
    obtain ⟨⟨old, he⟩, g⟩ := st
    have e' : c = e ∨ c = it := by simpa using hc
    rcases e' with q | q
    · rw [q]; exact ⟨_, he, fun v q => nomatch q⟩
    · rw [q]; exact g.obj
  keep := fun i h h' st kp => let ⟨⟨old, he⟩, g⟩ := st; ⟨⟨old, kp e (by simp) _ he⟩, g.keep fun o q => kp it (by simp) o q⟩
  item := by
    intro X hP hw hK hc i pins s σ H E I hf st hg
    subst hP hw hK
    obtain ⟨he, g⟩ := st
    obtain ⟨xs, x, hq, hx⟩ := hg
    obtain ⟨its, rv, p, _⟩ := src_of I hq
    have hh : X.A.in1.handled = none := I.ok.hd hc
    have W := WalksT.enumerateD (prog := X.prog) (w := X.w) (A := X.A) (drawsK hh k it a h1 its.toArray) e h2 (by simp [h2, h3]) (by simp)
    obtain ⟨u, hu, ru⟩ := rv.get hx
    have l1 : i < its.length := by
      rcases Nat.lt_or_ge i its.length with q | q
      · exact q
      · rw [List.getElem?_eq_none q] at hu; cases hu
    refine W.item i s _ _ (by simp; omega) ⟨he, g, p⟩ fun T vals h' tk hp hT hI mid hk => ⟨_, rfl, ?_⟩
    obtain ⟨tk2, x1, e1, ev⟩ := hp
    have ap := W.apart i T h' mid
    have ex1 : x1 = u := by
      have q : its[i]? = some x1 := by simpa using e1
      rw [hu] at q
      exact (Option.some.inj q).symm
    subst ex1 ev
    refine W.go elts kk tpos i T { s with heap := h', toks := tk } _ _ mid fun h'' st2 hk2 => ?_
    have hT2 : h''.IsTuple T #[.int i tk2, x1] := hI.at fun o q => hk2 T o ap q
    have new : ObjOk X.prog X.w (upd H T (.tup [.int (i : Nat), x])) h'' T (.tup [.int (i : Nat), x]) := ⟨by show 2 ≤ sizeLine; decide, [.int i tk2, x1], .cons ⟨_, rfl⟩ (.cons ru .nil), hT2⟩
    have I1 : Inv X pins σ (upd H T (.tup [.int (i : Nat), x])) { s with heap := h'', toks := tk } :=
      I.turnedNew (ch := [e, it]) (fun c o hb q => hk2 c o hb (hk c o hb q)) hf hT new
    refine ⟨.ref T, _, I1, rfl, ⟨T, x, rfl, I.hok.fresh hT, rfl, fun l hl => by rw [hl.inj hq]; exact hx⟩, ⟨st2.1, st2.2.1⟩, fun c hcm => ?_⟩
    have lt : c < s.heap.objs.size := by
      obtain ⟨old, he⟩ := he
      obtain ⟨_, q1, _⟩ := g.obj
      have e' : c = e ∨ c = it := by simpa using hcm
      rcases e' with q | q <;> rw [q]
      · exact Heap.lt_size he
      · exact Heap.lt_size q1
    rw [upd_ne (Nat.ne_of_lt (Nat.lt_of_lt_of_le lt hT))]
    exact (hf c hcm).1
  done := by
    intro X hP hw hK hc i pins s σ H E I hf st hg
    subst hP hw hK
    obtain ⟨he, g⟩ := st
    obtain ⟨xs, hq, hend⟩ := hg
    obtain ⟨its, rv, p, _⟩ := src_of I hq
    have hh : X.A.in1.handled = none := I.ok.hd hc
    have W := WalksT.enumerateD (prog := X.prog) (w := X.w) (A := X.A) (drawsK hh k it a h1 its.toArray) e h2 (by simp [h2, h3]) (by simp)
    have e : i = its.toArray.size := by rw [List.size_toArray, ← rv.length]; exact hend
    subst e
    exact W.done s _ _ ⟨he, g, p⟩ fun h' tk hk => ⟨rfl, I.turnedL (t' := tk) (ch := [_, it]) (fun c o hb q => hk c o hb q) hf⟩
  self := fun A i s Q E st h => let ⟨⟨_, he⟩, _⟩ := st; wpAny_pyIter_enum he h
theorem typeCall_enum1 (a : Value) : checkTypeCall "enumerate" ⟨[a], []⟩ = pure () := by kernel_rfl
theorem newCall_enum1 (a : Value) : checkBuiltinCall "enumerate.__new__" ⟨[.type "enumerate", a], []⟩ = pure () := by kernel_rfl
theorem meets_enum1 {v : Value} {o : Obj} {H : Heap → Prop} (B : Begins v o H) : Meets (Builtin.«enumerate.__new__» ⟨[.type "enumerate", v], []⟩) (fun _ R s => H s.heap ∧
      R (.ok (.ret (.ref (s.heap.push o).objs.size))) { s with heap := (s.heap.push o).push { cls := .type "enumerate", data := .fields #[.none, .bool false, .ref s.heap.objs.size, rawInt 0, .none, .none] } }) :=
  .of_wp fun prog w A R s h => by
    obtain ⟨hp, g, d, tk, os⟩ := s
    obtain ⟨h1, h⟩ := h
    have hsub := sub_enumerate
    have q1 : ∀ {A' : Around} {E : Value → Shared → Prop} {Q : Value → Shared → Prop}, Q (.ref hp.objs.size) ⟨hp.push o, g, d, tk, os⟩ → wpAny (model prog w) A' (pyIter v) Q E ⟨hp, g, d, tk, os⟩ := fun q => B.iter prog w _ _ ⟨hp, g, d, tk, os⟩ _ h1 q
    wp_walk using q1
    refine wpAny_stack_any fun st => wpAny_pure ?_
    split
    · rename_i c _ _ _ _ _
      cases (c == Value.type "enumerate") <;> (wp_walk using q1; exact ⟨_, rfl, h⟩)
    · wp_walk using q1
      exact ⟨_, rfl, h⟩
theorem enum1_begins {prog : Program} {w : World} {A : Around} {E : Value → Shared → Prop} {s : Shared} {v : Value} {o : Obj} {H : Heap → Prop} {Q : Value → Shared → Prop} (B : Begins v o H) (h1 : H s.heap)
    (h : ∀ h', IsEnum h' (s.heap.objs.size + 1) s.heap.objs.size 0 .none → h'.get? s.heap.objs.size = some o → (∀ b o, s.heap.get? b = some o → h'.get? b = some o) → Q (.ref (s.heap.objs.size + 1)) { s with heap := h' }) :
    wpAny (model prog w) A (call (.type "enumerate") [v]) Q E s := by
  refine callType_new F.called_enumerate (by decide) (F.typeCall_enumerate_1 _) (F.newCall_enumerate_1 _) (fun obj => F.args_object_init_2 obj _) F.entry_enumerate_new (meets_enum1 B) ⟨h1, ?_⟩
  have hz : (s.heap.push o).objs.size = s.heap.objs.size + 1 := Heap.size_push ..
  have he := Heap.get?_push_size (s.heap.push o) (o := { cls := .type "enumerate", data := .fields #[.none, .bool false, .ref s.heap.objs.size, rawInt 0, .none, .none] }) rfl
  show _ ∧ _
  rw [hz] at he ⊢
  exact ⟨⟨_, he, rfl⟩, h _ he (Heap.get?_push_of_some _ (Heap.get?_push_size _ B.free)) fun b o x => Heap.get?_push_of_some _ (Heap.get?_push_of_some _ x)⟩
def iEnumM (k : Bool) (ta : TA) : TI := fun σ H R => ta σ H fun vs H1 => ∃ a xs, vs = [.ref a] ∧ Sq k H1 a xs ∧ R (IteM k a) H1
theorem enum_nat (n a : Nat) (h : a < n) : a ≠ n ∧ n + 1 ≠ n ∧ n + 1 ≠ a := by omega
theorem pi_enumM {X : Cx} {e : Expr} {ta : TA} {p pos tpos : Pos} {elts : List Expr} {kk : Nat} (k : Bool) (hm : X.mg "enumerate" = none) (ha : PA X [e] ta) (hg : Gl X "enumerate" := by rfl) (hs : starEach [e] X.env = [(false, eval e X.env)] := by rfl) :
    PI X (.Tuple elts kk tpos) (.Call (.Name "enumerate" p) [e] [] pos) (iEnumM k ta) := by
  refine ⟨fun pins s σ H R I h => ?_⟩
  refine Call_ (ld_blt I hg hm boot_enumerate (PyProof.Rows.callWith_type1 (thn (ha.run pos pins s σ H _ I h) fun us s1 hq => ?_) hs rfl))
  obtain ⟨vs, H1, I1, r1, a, xs, ex, hqx, q⟩ := hq
  subst ex
  cases r1 with
  | cons r rr =>
    cases rr
    cases r
    obtain ⟨its, rv, p1, la⟩ := src_of I1 hqx
    obtain ⟨n1, n2, n3⟩ := enum_nat s1.heap.objs.size a la
    refine enum1_begins (beginsK k a its.toArray) p1 fun h' he hit hk => wpAny_pyIter_enum he ?_
    have I2 : Inv X pins σ H1 { s1 with heap := h' } := I1.kept (t' := s1.toks) hk
    exact ⟨s1.heap.objs.size + 1, [s1.heap.objs.size + 1, s1.heap.objs.size], _, _, H1, rfl, I2, turn_enumM n1 n2 n3, ⟨⟨_, he⟩, iterAt_new hit⟩, fun c hcm => I1.fpOk (two_le _ _ hcm) (I1.hok.fresh (two_le _ _ hcm)), q⟩
def numbered (ds : List PD) : List PD := ds.zipIdx.map fun p => PyData.tuple [.int (p.2 : Nat), p.1]
theorem gives_enumM {k : Bool} {H : Hp} {a : Addr} {xs : List V} {ds : List PD} (h : Sq k H a xs) (r : Dts H xs ds) : Gives (IteM k a) (numbered ds) H := by
  have st : ∀ {H H' : Hp}, Ex H H' → Sq k H a xs → Sq k H' a xs := fun {H} {H'} e h => by cases k <;> exact e _ _ h
  have hl : (numbered ds).length = xs.length := by unfold numbered; rw [List.length_map, List.length_zipIdx, r.length]
  refine ⟨fun H' => Sq k H' a xs, fun i H v H' => ∃ T x, v = .ref T ∧ H T = none ∧ H' = upd H T (.tup [.int (i : Nat), x]) ∧ xs[i]? = some x, ?_, h, fun _ _ e q => st e q, ?_⟩
  · rw [hl]
    refine ⟨fun i H' hi q => ⟨xs, xs[i], q, by simp [hi]⟩, fun H' q => ⟨xs, q, rfl⟩, fun i H' v H'' _ q y => ?_⟩
    obtain ⟨T, x, e1, e2, e3, e4⟩ := y
    exact ⟨T, x, e1, e2, e3, e4 xs q⟩
  · rintro i H1 x H' hi g x1 ⟨T, y, rfl, hT, rfl, hy⟩
    obtain ⟨d, h1, h2⟩ := r.getV hy
    have q := Ex.new (o := .tup [.int (i : Nat), y]) hT
    refine ⟨q, .tuple [.int (i : Nat), d], ?_, .tup upd_same (.cons (.int _) (.cons (h2.mono (x1.trans q)) .nil))⟩
    unfold numbered
    rw [List.getElem?_map, List.getElem?_zipIdx, h1]
    simp
theorem it_enum {Γ : En} {k : Bool} {ta : TA} {ds : List PD} (h : EaG ta Γ [seqD k ds]) : ItG (iEnumM k ta) Γ (numbered ds) := fun σ H ok R q => h σ H ok _ fun vs H1 x1 d1 => by
  cases d1 with | cons a t =>
    cases t
    obtain ⟨p, xs, rfl, hp, rp⟩ := a.seq
    exact ⟨p, xs, rfl, hp, q _ H1 x1 (gives_enumM hp rp)⟩
end Stair
/-! ## StOps2 -/
set_option Elab.async false
set_option linter.all false
set_option maxRecDepth 100000
set_option maxHeartbeats 1000000
namespace Stair
open PySem PySem.Spec PyProof.Rows L2 Evl
section
variable {K : Kx} {Γ : En}
theorem eg_chain {r r' : R2} {ta tb tc : TE} {d e f : PD} {b c : Bool} (hr : RG r d e (.bool b)) (hr' : RG r' e f (.bool c)) (ha : EvG ta Γ d) (hb : EvG tb Γ e) (hc : EvG tc Γ f) : EvG (tChain r r' ta tb tc) Γ (.bool (b && c)) := fun σ H ok Q q =>
  ha σ H ok _ fun x H1 x1 d1 => hb σ H1 (ok.mono x1) _ fun y H2 x2 d2 => hr x y H2 (d1.mono x2) d2 _ fun z H3 x3 d3 => by
    cases d3
    refine ⟨b, rfl, ?_⟩
    cases b with
    | true => exact ifT (hc σ H3 (ok.mono ((x1.trans x2).trans x3)) _ fun w H4 x4 d4 => hr' y w H4 (d2.mono (x3.trans x4)) d4 Q fun v H5 x5 d5 => q v H5 ((((x1.trans x2).trans x3).trans x4).trans x5) d5)
    | false => exact ifF (q _ H3 ((x1.trans x2).trans x3) (.bl false))
theorem bo_int : bootBuiltins "int" = some (.type "int") := by decide +kernel
theorem bo_bool : bootBuiltins "bool" = some (.type "bool") := by decide +kernel
theorem bo_str : bootBuiltins "str" = some (.type "str") := by decide +kernel
theorem bo_tuple : bootBuiltins "tuple" = some (.type "tuple") := by decide +kernel
/-- slices of tuples -/
theorem eg_slT {te : TE} {tl th : TO} {ds : List PD} {lo hi : Option Int} (h : EvG te Γ (.tuple ds)) (h1 : EoG tl Γ lo) (h2 : EoG th Γ hi) : EvG (tSl (rSlA K) te tl th) Γ (.tuple (cutP ds lo hi)) :=
  eg_sl (fun x H hx Q q => by
    cases hx with | tup p r =>
      refine ⟨_, _, rfl, st_of p, fun hw => ?_, fun hw y hy => q _ _ (Ex.new hy) (.tup upd_same ((r.cut lo hi).mono (Ex.new hy)))⟩
      have e : cutP ds lo hi = ds := by
        unfold cutP
        rw [r.length] at hw
        rw [hw.1, hw.2]
        simp
      exact q _ H (Ex.refl H) (by rw [e]; exact .tup p r)) h h1 h2
theorem cutP_tail {α : Type} (xs : List α) : cutP xs (some 1) none = xs.tail := by
  unfold cutP
  have e : HT.sIx xs.length 0 (some 1) = min 1 xs.length := HT.sIx_nat _ _ 1
  rw [HT.sIx_none, e]
  cases xs with
  | nil => rfl
  | cons a r => simp
theorem cutP_take {α : Type} (xs : List α) (n : Nat) : cutP xs none (some (n : Int)) = xs.take n := by
  unfold cutP
  rw [HT.sIx_none, HT.sIx_nat]
  simp
theorem cutP_drop {α : Type} (xs : List α) (n : Nat) : cutP xs (some (n : Int)) none = xs.drop n := by
  unfold cutP
  rw [HT.sIx_none, HT.sIx_nat]
  rcases Nat.le_total n xs.length with h | h
  · rw [Nat.min_eq_left h, List.take_of_length_le (by simp)]
  · rw [Nat.min_eq_right h, List.drop_eq_nil_of_le (Nat.le_refl _), List.drop_eq_nil_of_le h]
    simp
theorem cutP_init {α : Type} (xs : List α) : cutP xs none (some (-1)) = xs.dropLast := by
  unfold cutP
  rw [HT.sIx_none]
  have e : HT.sIx xs.length xs.length (some (-1)) = xs.length - 1 := by
    show (if (-1 : Int) < 0 then ((-1 : Int) + (xs.length : Int)).toNat else min (-1 : Int).toNat xs.length) = _
    rw [if_pos (by decide)]
    omega
  rw [e, List.drop_zero, Nat.sub_zero, List.dropLast_eq_take]
theorem cutP_map {α β : Type} (f : α → β) (xs : List α) (lo hi : Option Int) : cutP (xs.map f) lo hi = (cutP xs lo hi).map f := by
  unfold cutP
  rw [List.length_map, List.map_take, List.map_drop]
/-- t + u -/
theorem rg_catT {ds es : List PD} (h : ds.length + es.length ≤ 16000000) : RG (rCatA K) (.tuple ds) (.tuple es) (.tuple (ds ++ es)) := fun x y H h1 h2 Q q => by
  cases h1 with | tup p r => cases h2 with | tup p2 r2 =>
    refine ⟨_, _, _, _, rfl, rfl, st_of p, st_of p2, by rw [r.length, r2.length]; exact Nat.le_trans h (by decide), fun hx => ?_, fun hx hy => ?_, fun hx hy z hz => q _ _ (Ex.new hz) (.tup upd_same ((r.append r2).mono (Ex.new hz)))⟩
    · subst hx
      cases r
      exact q _ H (Ex.refl H) (.tup p2 r2)
    · subst hy
      cases r2
      exact q _ H (Ex.refl H) (by rw [List.append_nil]; exact .tup p r)
theorem pairUp_map {α β : Type} (f : α → PD) (g : β → PD) (xs : List α) (ys : List β) : pairUp (xs.map f) (ys.map g) = (xs.zip ys).map fun p => PyData.tuple [f p.1, g p.2] := by
  unfold pairUp
  rw [List.zipWith_map, List.zip, List.map_zipWith]
theorem numbered_map {α : Type} (f : α → PD) (xs : List α) : numbered (xs.map f) = xs.zipIdx.map fun p => PyData.tuple [.int (p.2 : Nat), f p.1] := by
  unfold numbered
  rw [List.zipIdx_map, List.map_map]
  rfl
theorem gp2 {i j : Nat} {d e : PD} : GpG (gTup K 2 (gCons (gName i) (gCons (gName j) gNil))) (.tuple [d, e]) [(i, d), (j, e)] := gp_tup (gs_cons gp_name (gs_cons gp_name gs_nil)) rfl
end
end Stair
/-! ## StMul -/
set_option Elab.async false
set_option linter.all false
set_option maxRecDepth 100000
set_option maxHeartbeats 2000000
namespace Stair
open PySem PySem.Spec PyProof.Rows L2 Evl
/-! text * int, tuple * int (once or more) -/
def rRepS : R2 := fun x y H Q => ∃ z k, x = .str z ∧ y = .int k ∧ PySem.MulOk z k ∧ Q (.str (Txt.mul z k)) H
theorem op_repS {X : Cx} : OpR X (binaryOp .Mult) rRepS := by
  intro pins s σ H x y v u Q I rx ry h
  obtain ⟨z, k, rfl, rfl, hk, q⟩ := h
  obtain ⟨t, rfl⟩ := rx
  obtain ⟨t2, rfl⟩ := ry
  exact PySem.SB.mul hk fun t' tk => ⟨.str _, H, I.tok tk, ⟨t', rfl⟩, q⟩
theorem foldl_cps (a : Array Nat) : ∀ (n : Nat) (b : Array Nat), (List.replicate n a).foldl (· ++ ·) b = b ++ (List.replicate n a.toList).flatten.toArray
  | 0, b => by simp
  | n + 1, b => by
    rw [List.replicate_succ, List.foldl_cons, foldl_cps a n, List.replicate_succ, List.flatten_cons]
    apply Array.toList_inj.mp
    simp
theorem mul_cps (z : Str) (n : Nat) : (Txt.mul z (n : Int)).cps.toList = (List.replicate n z.cps.toList).flatten := by
  unfold Txt.mul
  by_cases h : (n : Int) < 1
  · rw [if_pos h]
    have e : n = 0 := by omega
    subst e
    rfl
  · rw [if_neg h]
    by_cases h2 : ((n : Int) == 1 || z.length == 0) = true
    · rw [if_pos h2]
      rw [Bool.or_eq_true] at h2
      rcases h2 with h2 | h2
      · have e : n = 1 := by
          have := beq_iff_eq.mp h2
          omega
        subst e
        simp
      · have e : z.cps.toList = [] := by
          have := beq_iff_eq.mp h2
          exact List.eq_nil_of_length_eq_zero (by rw [Array.length_toList]; exact this)
        rw [e]
        simp
    · rw [if_neg h2, foldl_cps, Int.toNat_natCast]
      simp
theorem Str.ext {a b : Str} (h : a.cps.toList = b.cps.toList) : a = b := by
  cases a
  cases b
  simp at h
  subst h
  rfl
theorem mulOk {z : Str} {n : Nat} (hn : n ≤ 100000) (h : z.length * n ≤ 100000) : PySem.MulOk z (n : Int) := by
  have h5 : (z.length : Int) * n ≤ 100000 := by
    rw [← Int.natCast_mul]
    exact Int.ofNat_le.mpr h
  refine ⟨?_, fun h1 h2 => ?_, fun h1 h2 => ?_⟩
  · rw [decide_eq_false (by omega), decide_eq_false (by omega)]
    rfl
  · have q : (z.length : Int) ≤ (2 ^ 63 - 1) / (n : Int) := Int.le_ediv_of_mul_le (by omega) (by omega)
    omega
  · rw [Int.toNat_natCast]
    unfold PySem.Builtin.Str.tooLong
    rw [sizeLine_eq]
    exact decide_eq_false (by omega)
theorem rg_repS {z : Str} {n : Nat} (hn : n ≤ 100000) (h : z.length * n ≤ 100000) : RG rRepS (.str z) (.int (n : Int)) (.str ⟨(List.replicate n z.cps.toList).flatten.toArray⟩) := fun x y H h1 h2 Q q => by
  cases h1
  cases h2
  refine ⟨z, n, rfl, rfl, mulOk hn h, ?_⟩
  have e : Txt.mul z (n : Int) = ⟨(List.replicate n z.cps.toList).flatten.toArray⟩ := Str.ext (by rw [mul_cps])
  rw [e]
  exact q _ H (Ex.refl H) (.str _)
/-! tuple * int -/
theorem tuple_mul1 (l : Addr) (items : Array Value) (n : Nat) (dd : Option Addr) (sl : Array (Option Value)) (u : Tok) : Meets (Builtin.«tuple.__mul__» ⟨[.ref l, .int 1 u], []⟩) (fun _ R s => s.heap.get? l = some { cls := .type "tuple", dict := dd, data := .seq items n, slots := sl } ∧ R (.ok (.ret (.ref l))) s) :=
  .of_wp fun prog w A R s h => by
    obtain ⟨hp, g, d, tk, os⟩ := s
    obtain ⟨hl, h⟩ := h
    have f1 := AutoSeq1.idx_int
    wp_walk using wpAny_loadPart' hl
    exact ⟨_, rfl, h⟩
/-- t * k, k at least 1 -/
def rRepT1 (K : Kx) : R2 := fun x y H Q => ∃ l k xs, x = .ref l ∧ y = .int k ∧ H l = some (.tup xs) ∧ xs ≠ [] ∧ 1 ≤ k ∧ k ≤ 1000 ∧ xs.length ≤ 1000 ∧ (k = 1 → Q (.ref l) H) ∧ (2 ≤ k → ∀ p, H p = none → Q (.ref p) (upd H p (.tup (List.replicate k.toNat xs).flatten)))
theorem op_repT1 {X : Cx} : OpR X (binaryOp .Mult) (rRepT1 X.K) := by
  intro pins s σ H x y v u Q I rx ry h
  obtain ⟨l, k, xs, rfl, rfl, hT, hne, h1, h2, hz, q1, q2⟩ := h
  by_cases hk : k = 1
  · subst hk
    cases rx
    obtain ⟨t, rfl⟩ := ry
    obtain ⟨its, r, ⟨⟨cls, dd, data, sl⟩, ho, hc, n, hd⟩, hs⟩ := I.tuple (.inl (.inl hT))
    simp only at hc hd
    subst hc hd
    refine wpAny_binaryOp_repeat_ref (T := "tuple") (U := "int") (by decide) ⟨_, ho, rfl⟩ (fun s' => typeIs_int s' 1 t) noFill_tuple_mul PySem.F.fills_int_mul PySem.F.slot_int_rmul repeat_tuple PySem.F.slot_int_index.lookup
      (call_meets PySem.F.slot_int_rmul (typeIs_int s 1 t) PySem.F.entry_int_rmul (PySem.F.args_int_rmul_2 _ _) (int_rmul_tuple 1 t l its.toArray n dd sl)
        ⟨ho, rfl, ⟨_, ho, rfl⟩, call_meets PySem.F.slot_tuple_mul ⟨_, ho, rfl⟩ PySem.F.entry_tuple_mul (PySem.F.args_tuple_mul_2 _ _) (tuple_mul1 l its.toArray n dd sl t) ⟨ho, ?_⟩⟩)
    exact ⟨.ref l, H, I, rfl, q1 rfl⟩
  · exact op_repT pins s σ H _ _ v u Q I rx ry ⟨l, k, xs, rfl, rfl, .inl (.inl hT), hne, by omega, h2, hz, q2 (by omega)⟩
theorem rg_repT {K : Kx} {ds : List PD} {n : Nat} (h0 : ds ≠ []) (h1 : 1 ≤ n) (h2 : n ≤ 1000) (h3 : ds.length ≤ 1000) : RG (rRepT1 K) (.tuple ds) (.int (n : Int)) (.tuple (List.replicate n ds).flatten) := fun x y H hx hy Q q => by
  cases hy
  cases hx with | tup p r =>
    refine ⟨_, _, _, rfl, rfl, p, fun e => ?_, by omega, by omega, by rw [r.length]; exact h3, fun e => ?_, fun _ y hy => ?_⟩
    · subst e
      cases r
      exact h0 rfl
    · have e1 : n = 1 := by omega
      subst e1
      refine q _ H (Ex.refl H) ?_
      have e2 : (List.replicate 1 ds).flatten = ds := by simp
      rw [e2]
      exact .tup p r
    · rw [Int.toNat_natCast]
      exact q _ _ (Ex.new hy) (.tup upd_same ((r.replicate n).mono (Ex.new hy)))
end Stair
/-! ## StTx2 -/
set_option Elab.async false
set_option linter.all false
set_option maxRecDepth 100000
set_option maxHeartbeats 1000000
namespace Stair
open PySem PySem.Spec PyProof.Rows L2 Evl
section
variable {X : Cx} {e o : Expr} {es : List Expr} {te to : TE} {ta : TA} {x : Str} {p pos apos cpos : Pos}
theorem pg_nm (i : Nat) {pos' : Pos} (hN : X.N.Nodup) (hi : X.N[i]? = some x := by rfl) (hx : Loc X.env.scope x := by first | exact Or.inl rfl | exact Or.inr rfl) (hf : X.fn x = true ∨ X.env.scope.names.lookup x = some .local := by first | exact .inl rfl | exact .inr rfl) :
    PG X (.Name x pos') (gName i) := pg_name hN hi hx hf
theorem ps_st (i : Nat) {pos' : Pos} (hN : X.N.Nodup) (he : PE X e te) (hi : X.N[i]? = some x := by rfl) (hx : Loc X.env.scope x := by first | exact Or.inl rfl | exact Or.inr rfl) (hs : swapsWith e (some (.Name x pos')) pos.line X.env = pure false := by rfl)
    (hf : X.fn x = true ∨ X.env.scope.names.lookup x = some .local := by first | exact .inl rfl | exact .inr rfl) : PS X (.Assign [.Name x pos'] e pos) (tAsg te (gName i)) := ps_set hN hi hx he hs hf
theorem ps_au (i : Nat) {op : Operator} {ti : TIp} {pos' : Pos} (hN : X.N.Nodup) (he : PE X e te) (ho : PIp X op ti) (hi : X.N[i]? = some x := by rfl) (hx : Loc X.env.scope x := by first | exact Or.inl rfl | exact Or.inr rfl)
    (hf : X.fn x = true ∨ X.env.scope.names.lookup x = some .local := by first | exact .inl rfl | exact .inr rfl) : PS X (.AugAssign (.Name x pos') op e pos) (tAug i te ti) := ps_aug hN hi hx he ho hf
theorem ps_slc (i : Nat) {y : Str} {py spos : Pos} {elt tg iter : Expr} {ifs : List Expr} {scope : Scope} {own : List (Str × Nat)} {wi : TI} {g : TG} {tt : TT} (hN : X.N.Nodup) (hi : PI X tg iter wi) (ok : BlkOk X.N X.env.scope scope own)
    (hg : ∀ (s : Shared) (H : Hp) (C : Addr) (cl : List (Str × Addr)) (fp : List Addr), PG (X.blk s H scope (compEnvC scope cl C X.env) fp) tg g) (ht : ∀ (s : Shared) (H : Hp) (C : Addr) (cl : List (Str × Addr)) (fp : List Addr), PTs (X.blk s H scope (compEnvC scope cl C X.env) fp) ifs tt)
    (he : ∀ (s : Shared) (H : Hp) (C : Addr) (cl : List (Str × Addr)) (fp : List Addr), PE (X.blk s H scope (compEnvC scope cl C X.env) fp) elt te) (hy : X.N[i]? = some y := by rfl) (hyl : X.env.scope.names.lookup y = some .local := by rfl)
    (hsw : swapsWith (.ListComp elt [⟨tg, iter, ifs, 0⟩] scope pos) (some (.Name y py)) spos.line X.env = pure true := by exact sw_true rfl rfl rfl (by decide +kernel)) (hc : X.calm = true := by rfl) (hs : ∀ x, foldedSetIterable iter X.env x = pure x := by intro _; rfl) :
    PS X (.Assign [.Name y py] (.ListComp elt [⟨tg, iter, ifs, 0⟩] scope pos) spos) (tAsg (tLc wi g tt te (own.map (·.2))) (gName i)) := ps_setLc hc hN hy hyl hsw hi ok hg ht he hs
theorem ps_par2A (i j : Nat) {x y : Str} {a b : Expr} {px py pt : Pos} {kt k2 pt2} (hN : X.N.Nodup) (ha : PA X [a, b] ta) (hi : X.N[i]? = some x := by rfl) (hj : X.N[j]? = some y := by rfl) (hij : i ≠ j := by decide)
    (hx : X.env.scope.names.lookup x = some .local := by rfl) (hy : X.env.scope.names.lookup y = some .local := by rfl)
    (hw : swappedStores [.Tuple [.Name x px, .Name y py] kt pt] (.Tuple [a, b] k2 pt2) X.env = pure (some [x, y]) := by rfl)
    (hs : swapsWithSole [.Tuple [.Name x px, .Name y py] kt pt] (.Tuple [a, b] k2 pt2) pos.line X.env = pure false := by rfl) (hc : X.calm = true := by rfl) :
    PS X (.Assign [.Tuple [.Name x px, .Name y py] kt pt] (.Tuple [a, b] k2 pt2) pos) (tPar i j ta) := ps_par hc hN hi hj hij hx hy ha hw hs
theorem ps_par3A (i j l : Nat) {x y z : Str} {a b c : Expr} {px py pz pt : Pos} {kt k2 pt2} (hN : X.N.Nodup) (ha : PA X [a, b, c] ta) (hi : X.N[i]? = some x := by rfl) (hj : X.N[j]? = some y := by rfl) (hl : X.N[l]? = some z := by rfl) (hij : i ≠ j := by decide) (hil : i ≠ l := by decide) (hjl : j ≠ l := by decide)
    (hx : X.env.scope.names.lookup x = some .local := by rfl) (hy : X.env.scope.names.lookup y = some .local := by rfl) (hz : X.env.scope.names.lookup z = some .local := by rfl)
    (hw : swappedStores [.Tuple [.Name x px, .Name y py, .Name z pz] kt pt] (.Tuple [a, b, c] k2 pt2) X.env = pure (some [x, y, z]) := by rfl)
    (hs : swapsWithSole [.Tuple [.Name x px, .Name y py, .Name z pz] kt pt] (.Tuple [a, b, c] k2 pt2) pos.line X.env = pure false := by rfl) (hc : X.calm = true := by rfl) :
    PS X (.Assign [.Tuple [.Name x px, .Name y py, .Name z pz] kt pt] (.Tuple [a, b, c] k2 pt2) pos) (tPar3 i j l ta) := ps_par3 hc hN hi hj hl hij hil hjl hx hy hz ha hw hs
def rSCount : V → List V → Hp → VK → Prop := fun x xs H Q => ∃ a b, x = .str a ∧ xs = [.str b] ∧ Q (.int (Txt.count a b)) H
def rSIndex : V → List V → Hp → VK → Prop := fun x xs H Q => ∃ a b i rest, x = .str a ∧ xs = [.str b] ∧ Builtin.Str.occurrences a b 0 a.length 1 = i :: rest ∧ Q (.int (i : Nat)) H
def rJoinA (K : Kx) : V → List V → Hp → VK → Prop := fun x xs H Q => ∃ a p, ∃ ys : List Str, x = .str a ∧ xs = [.ref p] ∧ (SqL K H p (ys.map V.str) ∨ SqT K H p (ys.map V.str)) ∧ (ys.map (·.length)).sum + ys.length * a.length ≤ 16777216 ∧ Q (.str (Txt.join a ys)) H
theorem pm_count (ho : PE X o to) (ha : PA X (e :: []) ta) (hbase : attributeBase o "count" X.env (eval o X.env) = eval o X.env := by rfl) (hfew : ((backTo cpos (starEach (e :: []) X.env)).all (fun x => !x.1) && (backToKw cpos (keywordEach [] X.env)).all (fun x => x.1.isSome) && decide ((e :: ([] : List Expr)).length + ([] : List Keyword).length + (if ([] : List Keyword).isEmpty then 0 else 1) < 30)) = true := by rfl)
    (hst : starEach (e :: []) X.env = (false, eval e X.env) :: starEach [] X.env := by rfl) (hpl : (backTo cpos (starEach [] X.env)).any (·.1) = false := by rfl) (hline : (apos.endLine == cpos.line) = true := by rfl) :
    PE X (.Call (.Attribute o "count" apos) (e :: []) [] cpos) (tBM X.K "str" rSCount to ta) := pe_bm PySem.F.plainAttrs_str PySem.F.slot_str_count PySem.F.type_str_count mt_count ho ha hbase hfew hline hst hpl
theorem pm_sindex (ho : PE X o to) (ha : PA X (e :: []) ta) (hbase : attributeBase o "index" X.env (eval o X.env) = eval o X.env := by rfl) (hfew : ((backTo cpos (starEach (e :: []) X.env)).all (fun x => !x.1) && (backToKw cpos (keywordEach [] X.env)).all (fun x => x.1.isSome) && decide ((e :: ([] : List Expr)).length + ([] : List Keyword).length + (if ([] : List Keyword).isEmpty then 0 else 1) < 30)) = true := by rfl)
    (hst : starEach (e :: []) X.env = (false, eval e X.env) :: starEach [] X.env := by rfl) (hpl : (backTo cpos (starEach [] X.env)).any (·.1) = false := by rfl) (hline : (apos.endLine == cpos.line) = true := by rfl) :
    PE X (.Call (.Attribute o "index" apos) (e :: []) [] cpos) (tBM X.K "str" rSIndex to ta) := pe_bm PySem.F.plainAttrs_str PySem.F.slot_str_index PySem.F.type_str_index mt_sindex ho ha hbase hfew hline hst hpl
theorem pm_join (ho : PE X o to) (ha : PA X (e :: []) ta) (hbase : attributeBase o "join" X.env (eval o X.env) = eval o X.env := by rfl) (hfew : ((backTo cpos (starEach (e :: []) X.env)).all (fun x => !x.1) && (backToKw cpos (keywordEach [] X.env)).all (fun x => x.1.isSome) && decide ((e :: ([] : List Expr)).length + ([] : List Keyword).length + (if ([] : List Keyword).isEmpty then 0 else 1) < 30)) = true := by rfl)
    (hst : starEach (e :: []) X.env = (false, eval e X.env) :: starEach [] X.env := by rfl) (hpl : (backTo cpos (starEach [] X.env)).any (·.1) = false := by rfl) (hline : (apos.endLine == cpos.line) = true := by rfl) :
    PE X (.Call (.Attribute o "join" apos) (e :: []) [] cpos) (tBM X.K "str" (rJoinA X.K) to ta) := pe_bm PySem.F.plainAttrs_str PySem.F.slot_str_join PySem.F.type_str_join mt_join ho ha hbase hfew hline hst hpl
theorem pm_index (ho : PE X o to) (ha : PA X (e :: []) ta) (hbase : attributeBase o "index" X.env (eval o X.env) = eval o X.env := by rfl) (hfew : ((backTo cpos (starEach (e :: []) X.env)).all (fun x => !x.1) && (backToKw cpos (keywordEach [] X.env)).all (fun x => x.1.isSome) && decide ((e :: ([] : List Expr)).length + ([] : List Keyword).length + (if ([] : List Keyword).isEmpty then 0 else 1) < 30)) = true := by rfl)
    (hst : starEach (e :: []) X.env = (false, eval e X.env) :: starEach [] X.env := by rfl) (hpl : (backTo cpos (starEach [] X.env)).any (·.1) = false := by rfl) (hline : (apos.endLine == cpos.line) = true := by rfl) :
    PE X (.Call (.Attribute o "index" apos) (e :: []) [] cpos) (tBM X.K "list" (rIndex X.K) to ta) := pe_bm PySem.F.plainAttrs_list PySem.F.slot_list_index PySem.F.type_list_index mt_index ho ha hbase hfew hline hst hpl
theorem pm_append (ho : PE X o to) (ha : PA X (e :: []) ta) (hbase : attributeBase o "append" X.env (eval o X.env) = eval o X.env := by rfl) (hfew : ((backTo cpos (starEach (e :: []) X.env)).all (fun x => !x.1) && (backToKw cpos (keywordEach [] X.env)).all (fun x => x.1.isSome) && decide ((e :: ([] : List Expr)).length + ([] : List Keyword).length + (if ([] : List Keyword).isEmpty then 0 else 1) < 30)) = true := by rfl)
    (hst : starEach (e :: []) X.env = (false, eval e X.env) :: starEach [] X.env := by rfl) (hpl : (backTo cpos (starEach [] X.env)).any (·.1) = false := by rfl) (hline : (apos.endLine == cpos.line) = true := by rfl) :
    PE X (.Call (.Attribute o "append" apos) (e :: []) [] cpos) (tBM X.K "list" rAppend to ta) := pe_bm PySem.F.plainAttrs_list PySem.F.slot_list_append PySem.F.type_list_append mt_append ho ha hbase hfew hline hst hpl
end
/-! the rules with the written part named -/
section
variable {X : Cx} {e o : Expr} {es : List Expr} {te to : TE} {ta : TA} {x : Str} {p pos apos cpos : Pos}
theorem kix_tup (K : Kx) (h : X.K = K := by rfl) : IxR X (rIxT K) := h ▸ ix_tup
theorem kix_list (K : Kx) (h : X.K = K := by rfl) : IxR X (rIxL K) := h ▸ ix_list
theorem ksl_tup (K : Kx) (h : X.K = K := by rfl) : SlR X (rSlA K) := h ▸ sl_tupA
theorem ksl_list (K : Kx) (h : X.K = K := by rfl) : SlR X (rSlL K) := h ▸ sl_list
theorem kop_in (K : Kx) (h : X.K = K := by rfl) : OpR X (compareOp .In) (rIn K false) := h ▸ op_in_seq
theorem kop_nin (K : Kx) (h : X.K = K := by rfl) : OpR X (compareOp .NotIn) (rIn K true) := h ▸ op_notIn_seq
theorem kop_cat (K : Kx) (h : X.K = K := by rfl) : OpR X (binaryOp .Add) (rCatA K) := h ▸ op_catA
theorem kop_repT (K : Kx) (h : X.K = K := by rfl) : OpR X (binaryOp .Mult) (rRepT1 K) := h ▸ op_repT1
theorem kop_eqD (K : Kx) (hu : X.A.units + 64 < cLine) (h : X.K = K := by rfl) : OpR X (compareOp .Eq) (rEqD K) := h ▸ op_eqD hu
theorem kop_neD (K : Kx) (hu : X.A.units + 64 < cLine) (h : X.K = K := by rfl) : OpR X (compareOp .NotEq) (rNeD K) := h ▸ op_neD hu
theorem kop_inD (K : Kx) (hu : X.A.units + 65 < cLine) (h : X.K = K := by rfl) : OpR X (compareOp .In) (rInD K) := h ▸ op_inD hu
theorem kop_ninD (K : Kx) (hu : X.A.units + 65 < cLine) (h : X.K = K := by rfl) : OpR X (compareOp .NotIn) (rNotInD K) := h ▸ op_notInD hu
theorem kpi_tup (K : Kx) {tg l : Expr} {tl : TE} (hl : PE X l tl) (h : X.K = K := by rfl) : PI X tg l (iTup K tl) := h ▸ pi_tup hl
theorem kpi_list (K : Kx) {tg l : Expr} {tl : TE} (hl : PE X l tl) (h : X.K = K := by rfl) : PI X tg l (iList K tl) := h ▸ pi_list hl
theorem kpa_star (K : Kx) (he : PE X e te) (hr : PA X es ta) (h : X.K = K := by rfl) (hs : starEach (.Starred e p :: es) X.env = (true, eval e X.env) :: starEach es X.env := by rfl) : PA X (.Starred e p :: es) (StX.tStar K te ta) := h ▸ StX.pa_star he hr hs
theorem kpe_revL (K : Kx) {k : Nat} {p1 p2 p3 : Pos} (he : PE X e te) (h : X.K = K := by rfl) : PE X (.Subscript e (.Slice none none (some (.UnaryOp .USub (.Constant (.int 1) k p1) p2)) p3) pos) (tRevL K te) := h ▸ pe_revL he
theorem kpg_tup (K : Kx) {t : TGs} {k n : Nat} (h : PGs X es t) (hK : X.K = K := by rfl) (hc : X.calm = true := by rfl) (hn : (assignEach es X.env).length = n := by rfl) (hst : (assignEach es X.env).findIdx? (·.1) = none := by rfl) : PG X (.Tuple es k pos) (gTup K n t) := hK ▸ pg_tup hc h hn hst
theorem km_count (K : Kx) (ho : PE X o to) (ha : PA X (e :: []) ta) (hK : X.K = K := by rfl) (hbase : attributeBase o "count" X.env (eval o X.env) = eval o X.env := by rfl) (hfew : ((backTo cpos (starEach (e :: []) X.env)).all (fun x => !x.1) && (backToKw cpos (keywordEach [] X.env)).all (fun x => x.1.isSome) && decide ((e :: ([] : List Expr)).length + ([] : List Keyword).length + (if ([] : List Keyword).isEmpty then 0 else 1) < 30)) = true := by rfl)
    (hst : starEach (e :: []) X.env = (false, eval e X.env) :: starEach [] X.env := by rfl) (hpl : (backTo cpos (starEach [] X.env)).any (·.1) = false := by rfl) (hline : (apos.endLine == cpos.line) = true := by rfl) :
    PE X (.Call (.Attribute o "count" apos) (e :: []) [] cpos) (tBM K "str" rSCount to ta) := by
  subst hK
  exact pm_count ho ha hbase hfew hst hpl hline
theorem km_sindex (K : Kx) (ho : PE X o to) (ha : PA X (e :: []) ta) (hK : X.K = K := by rfl) (hbase : attributeBase o "index" X.env (eval o X.env) = eval o X.env := by rfl) (hfew : ((backTo cpos (starEach (e :: []) X.env)).all (fun x => !x.1) && (backToKw cpos (keywordEach [] X.env)).all (fun x => x.1.isSome) && decide ((e :: ([] : List Expr)).length + ([] : List Keyword).length + (if ([] : List Keyword).isEmpty then 0 else 1) < 30)) = true := by rfl)
    (hst : starEach (e :: []) X.env = (false, eval e X.env) :: starEach [] X.env := by rfl) (hpl : (backTo cpos (starEach [] X.env)).any (·.1) = false := by rfl) (hline : (apos.endLine == cpos.line) = true := by rfl) :
    PE X (.Call (.Attribute o "index" apos) (e :: []) [] cpos) (tBM K "str" rSIndex to ta) := by
  subst hK
  exact pm_sindex ho ha hbase hfew hst hpl hline
theorem km_join (K : Kx) (ho : PE X o to) (ha : PA X (e :: []) ta) (hK : X.K = K := by rfl) (hbase : attributeBase o "join" X.env (eval o X.env) = eval o X.env := by rfl) (hfew : ((backTo cpos (starEach (e :: []) X.env)).all (fun x => !x.1) && (backToKw cpos (keywordEach [] X.env)).all (fun x => x.1.isSome) && decide ((e :: ([] : List Expr)).length + ([] : List Keyword).length + (if ([] : List Keyword).isEmpty then 0 else 1) < 30)) = true := by rfl)
    (hst : starEach (e :: []) X.env = (false, eval e X.env) :: starEach [] X.env := by rfl) (hpl : (backTo cpos (starEach [] X.env)).any (·.1) = false := by rfl) (hline : (apos.endLine == cpos.line) = true := by rfl) :
    PE X (.Call (.Attribute o "join" apos) (e :: []) [] cpos) (tBM K "str" (rJoinA K) to ta) := by
  subst hK
  exact pm_join ho ha hbase hfew hst hpl hline
theorem km_index (K : Kx) (ho : PE X o to) (ha : PA X (e :: []) ta) (hK : X.K = K := by rfl) (hbase : attributeBase o "index" X.env (eval o X.env) = eval o X.env := by rfl) (hfew : ((backTo cpos (starEach (e :: []) X.env)).all (fun x => !x.1) && (backToKw cpos (keywordEach [] X.env)).all (fun x => x.1.isSome) && decide ((e :: ([] : List Expr)).length + ([] : List Keyword).length + (if ([] : List Keyword).isEmpty then 0 else 1) < 30)) = true := by rfl)
    (hst : starEach (e :: []) X.env = (false, eval e X.env) :: starEach [] X.env := by rfl) (hpl : (backTo cpos (starEach [] X.env)).any (·.1) = false := by rfl) (hline : (apos.endLine == cpos.line) = true := by rfl) :
    PE X (.Call (.Attribute o "index" apos) (e :: []) [] cpos) (tBM K "list" (rIndex K) to ta) := by
  subst hK
  exact pm_index ho ha hbase hfew hst hpl hline
theorem km_append (K : Kx) (ho : PE X o to) (ha : PA X (e :: []) ta) (hK : X.K = K := by rfl) (hbase : attributeBase o "append" X.env (eval o X.env) = eval o X.env := by rfl) (hfew : ((backTo cpos (starEach (e :: []) X.env)).all (fun x => !x.1) && (backToKw cpos (keywordEach [] X.env)).all (fun x => x.1.isSome) && decide ((e :: ([] : List Expr)).length + ([] : List Keyword).length + (if ([] : List Keyword).isEmpty then 0 else 1) < 30)) = true := by rfl)
    (hst : starEach (e :: []) X.env = (false, eval e X.env) :: starEach [] X.env := by rfl) (hpl : (backTo cpos (starEach [] X.env)).any (·.1) = false := by rfl) (hline : (apos.endLine == cpos.line) = true := by rfl) :
    PE X (.Call (.Attribute o "append" apos) (e :: []) [] cpos) (tBM K "list" rAppend to ta) := by
  subst hK
  exact pm_append ho ha hbase hfew hst hpl hline
end
section
variable {X : Cx} {K : Kx} {mg : Str → Option Value} {e : Expr} {es : List Expr} {ta : TA} {p pos : Pos} {te : TE} (T : Tp K mg)
include T
theorem kb_len (ha : PA X (e :: es) ta) (hK : X.K = K := by rfl) (hM : X.mg = mg := by rfl) (hg : Gl X "len" := by rfl) (he : starEach (e :: es) X.env = (false, eval e X.env) :: starEach es X.env := by rfl) (hpl : (backTo pos (starEach es X.env)).any (·.1) = false := by rfl) :
    PE X (.Call (.Name "len" p) (e :: es) [] pos) (tCB (rLenA K) ta) := by
  subst hK hM
  exact pb_len T ha hg he hpl
theorem kb_min (ha : PA X (e :: es) ta) (hK : X.K = K := by rfl) (hM : X.mg = mg := by rfl) (hc : X.calm = true := by rfl) (hg : Gl X "min" := by rfl) (he : starEach (e :: es) X.env = (false, eval e X.env) :: starEach es X.env := by rfl) (hpl : (backTo pos (starEach es X.env)).any (·.1) = false := by rfl) :
    PE X (.Call (.Name "min" p) (e :: es) [] pos) (tCB rMinA ta) := by
  subst hK hM
  exact pb_min T ha hc hg he hpl
theorem kb_sum (ha : PA X (e :: es) ta) (hK : X.K = K := by rfl) (hM : X.mg = mg := by rfl) (hc : X.calm = true := by rfl) (hg : Gl X "sum" := by rfl) (he : starEach (e :: es) X.env = (false, eval e X.env) :: starEach es X.env := by rfl) (hpl : (backTo pos (starEach es X.env)).any (·.1) = false := by rfl) :
    PE X (.Call (.Name "sum" p) (e :: es) [] pos) (tCB (rSum K) ta) := by
  subst hK hM
  exact pb_sum T ha hc hg he hpl
theorem kb_all (ha : PA X (e :: es) ta) (hK : X.K = K := by rfl) (hM : X.mg = mg := by rfl) (hc : X.calm = true := by rfl) (hg : Gl X "all" := by rfl) (he : starEach (e :: es) X.env = (false, eval e X.env) :: starEach es X.env := by rfl) (hpl : (backTo pos (starEach es X.env)).any (·.1) = false := by rfl) :
    PE X (.Call (.Name "all" p) (e :: es) [] pos) (tCB (rAll K) ta) := by
  subst hK hM
  exact pb_all T ha hc hg he hpl
theorem kb_any (ha : PA X (e :: es) ta) (hK : X.K = K := by rfl) (hM : X.mg = mg := by rfl) (hc : X.calm = true := by rfl) (hg : Gl X "any" := by rfl) (he : starEach (e :: es) X.env = (false, eval e X.env) :: starEach es X.env := by rfl) (hpl : (backTo pos (starEach es X.env)).any (·.1) = false := by rfl) :
    PE X (.Call (.Name "any" p) (e :: es) [] pos) (tCB (rAny K) ta) := by
  subst hK hM
  exact pb_any T ha hc hg he hpl
theorem kb_int (ha : PA X (e :: es) ta) (hK : X.K = K := by rfl) (hM : X.mg = mg := by rfl) (hg : Gl X "int" := by rfl) (he : starEach (e :: es) X.env = (false, eval e X.env) :: starEach es X.env := by rfl) (hpl : (backTo pos (starEach es X.env)).any (·.1) = false := by rfl) :
    PE X (.Call (.Name "int" p) (e :: es) [] pos) (tCB rIntA ta) := by
  subst hK hM
  exact pb_int T ha hg he hpl
theorem kb_divmod (ha : PA X (e :: es) ta) (hK : X.K = K := by rfl) (hM : X.mg = mg := by rfl) (hg : Gl X "divmod" := by rfl) (he : starEach (e :: es) X.env = (false, eval e X.env) :: starEach es X.env := by rfl) (hpl : (backTo pos (starEach es X.env)).any (·.1) = false := by rfl) :
    PE X (.Call (.Name "divmod" p) (e :: es) [] pos) (tCB rDivmod ta) := by
  subst hK hM
  exact pb_divmod T ha hg he hpl
theorem kb_list (ha : PA X (e :: es) ta) (hK : X.K = K := by rfl) (hM : X.mg = mg := by rfl) (hg : Gl X "list" := by rfl) (he : starEach (e :: es) X.env = (false, eval e X.env) :: starEach es X.env := by rfl) (hpl : (backTo pos (starEach es X.env)).any (·.1) = false := by rfl) :
    PE X (.Call (.Name "list" p) (e :: es) [] pos) (tCB (rListA K) ta) := by
  subst hK hM
  exact pb_list T ha hg he hpl
theorem kb_tuple (ha : PA X (e :: es) ta) (hK : X.K = K := by rfl) (hM : X.mg = mg := by rfl) (hg : Gl X "tuple" := by rfl) (he : starEach (e :: es) X.env = (false, eval e X.env) :: starEach es X.env := by rfl) (hpl : (backTo pos (starEach es X.env)).any (·.1) = false := by rfl) :
    PE X (.Call (.Name "tuple" p) (e :: es) [] pos) (tCB (rTupleA K) ta) := by
  subst hK hM
  exact pb_tuple T ha hg he hpl
theorem kb_intS (ha : PA X (e :: es) ta) (hK : X.K = K := by rfl) (hM : X.mg = mg := by rfl) (hg : Gl X "int" := by rfl) (he : starEach (e :: es) X.env = (false, eval e X.env) :: starEach es X.env := by rfl) (hpl : (backTo pos (starEach es X.env)).any (·.1) = false := by rfl) :
    PE X (.Call (.Name "int" p) (e :: es) [] pos) (tCB rIntS ta) := by
  subst hK hM
  exact pb_intS T ha hg he hpl
theorem kb_isi {y : Str} {n : String} {q : Pos} (he : PE X e te) (hm : X.mg y = none) (hv : bootBuiltins y = some (.type n)) (hK : X.K = K := by rfl) (hM : X.mg = mg := by rfl) (hg2 : Gl X y := by rfl) (hg : Gl X "isinstance" := by rfl) (hn : y ≠ "__name__" := by decide) (hd : (y == ("__debug__" : Str)) = false := by decide)
    (h1 : starEach [e, .Name y q] X.env = (false, eval e X.env) :: starEach [.Name y q] X.env := by rfl) (hpl : (backTo pos (starEach [.Name y q] X.env)).any (·.1) = false := by rfl) (h2 : starEach [.Name y q] X.env = (false, eval (.Name y q) X.env) :: starEach [] X.env := by rfl) :
    PE X (.Call (.Name "isinstance" p) [e, .Name y q] [] pos) (tCB (rIsi K) (tCons te (tCons (tC (.ty n)) tNil))) := by
  subst hK hM
  exact pb_isi T he hm hv hg2 hg hn hd h1 hpl h2
end
theorem hu_1 {X : Cx} {k : Nat} (hr : Room k X.A) : X.A.units + 1 < cLine := by have := hr.un; omega
theorem hu_64 {X : Cx} {k : Nat} (hr : Room k X.A) : X.A.units + 64 < cLine := by have := hr.un; omega
theorem hu_65 {X : Cx} {k : Nat} (hr : Room k X.A) : X.A.units + 65 < cLine := by have := hr.un; omega
theorem km_get {X : Cx} {o e f : Expr} {to te tf : TE} {apos cpos : Pos} (hu : X.A.units + 1 < cLine) (ho : PE X o to) (he : PE X e te) (hf : PE X f tf) (m : M2 X o "get" apos e f cpos := by exact ⟨rfl, rfl, rfl, rfl⟩) :
    PE X (.Call (.Attribute o "get" apos) [e, f] [] cpos) (tDGet2 to te tf) := pe_dget2 hu ho he hf m
end Stair
/-! ## StF1 -/
set_option Elab.async false
set_option linter.all false
set_option maxRecDepth 100000
set_option maxHeartbeats 1000000
namespace Stair
open PySem PySem.Spec PyProof.Rows L2 Evl
theorem pair_tail {α : Type} {R : α → α → Prop} : ∀ {l : List α}, l.Pairwise R → ∀ p ∈ l.zip l.tail, R p.1 p.2
  | [], _, p, hp => by simp at hp
  | [a], _, p, hp => by simp at hp
  | a :: b :: r, h, p, hp => by
    rcases List.mem_cons.mp hp with e | hp
    · rw [e]
      exact List.rel_of_pairwise_cons h List.mem_cons_self
    · exact pair_tail (List.pairwise_cons.mp h).2 p hp
section
variable {P : Program} {w : World} {K : Kx} {mg : Str → Option Value} {base : Heap} (T : Tp K mg)
include T
/-! is_whole -/
def R_is_whole (ds : List PD) (d : PD) : Prop := ∃ i lo hi : Int, ds = [.int i, .int lo, .int hi] ∧ d = .bool (decide (lo ≤ i) && decide (i ≤ hi))
theorem has_is_whole : Has P w K mg base CX0 1 "is_whole" ["thing", "least", "most"] (spF R_is_whole) :=
  has_fn T.dIsWhole sc_is_whole (fun _ _ _ _ _ _ us hl => match us, hl with | [_, _, _], _ => rfl) (fun ds d ⟨i, lo, hi, a, _⟩ => by rw [a]; rfl) fun f cdv A outer s H E ds d hr h => by
    obtain ⟨i, lo, hi, rfl, rfl⟩ := h
    refine ⟨_, (pss_one (ps_ret (pe_and (kb_isi T (pv 0) T.f_int bo_int) (pe_and (pe_not (kb_isi T (pv 0) T.f_bool bo_bool)) (pe_one (pe_chain op_le op_le (pv 1) (pv 0) (pv 2))))))), ?_⟩
    exact (sg_ret (eg_andV (eg_isi (.inl rfl) ⟨rfl, by simp⟩ (eg_var rfl)) fun _ => eg_andV (eg_notV (eg_isi (.inr (.inl rfl)) ⟨rfl, by simp⟩ (eg_var rfl))) fun _ => eg_chain rg_le rg_le (eg_var rfl) (eg_var rfl) (eg_var rfl))).is (by simp [isA])
/-! is_word -/
def R_is_word (ds : List PD) (d : PD) : Prop := ∃ a : Str, GoodWord a ∧ ds = [.str a] ∧ d = .bool true
theorem has_is_word : Has P w K mg base CX0 1 "is_word" ["thing"] (spF R_is_word) :=
  has_fn T.dIsWord sc_is_word (fun _ _ _ _ _ _ us hl => match us, hl with | [_], _ => rfl) (fun ds d ⟨i, _, a, _⟩ => by rw [a]; rfl) fun f cdv A outer s H E ds d hr h => by
    obtain ⟨a, ha, rfl, rfl⟩ := h
    refine ⟨_, (pss_one (ps_ret (pe_and (kb_isi T (pv 0) T.f_str bo_str) (pe_and (pe_chain op_le op_le pe_int (kb_len T (pa_cons (pv 0) pa_nil)) (pe_cI T.c_MOST_SIGNS)) (pe_one (kb_all T (pa_cons (pe_lc (own := [("sign", 1)]) (g := (gName 1)) (tt := tYes) rfl sc_is_word.nd (pi_str (pv 0)) (by exact blkOk_by (by kernel_rfl)) (fun _ _ _ _ _ => (pg_nm 1 sc_is_word.nd)) (fun _ _ _ _ _ => pts_nil) (fun _ _ _ _ _ => (pe_cmpR op_in_sign (pv 1) (pe_cS T.c_LETTERS) rfl))) pa_nil))))))), ?_⟩
    refine (sg_ret (eg_andV (eg_isi (.inr (.inr (.inl rfl))) ⟨rfl, by simp⟩ (eg_var rfl)) fun _ => eg_andV (eg_chain rg_le rg_le eg_int (eg_cb (cg_lenS (Nat.le_trans ha.hi (by decide))) (ea_cons (eg_var rfl) ea_nil)) eg_int) fun _ =>
      eg_cb (cg_all (ns := a.cps.toList.map fun c => decide (c ∈ letters.cps.toList))) (ea_cons ?_ ea_nil))).is ?_
    · rw [List.map_map]
      exact eg_lcM (K := K) (q := fun c => PyData.str ⟨#[c]⟩) (it_str (eg_var rfl)) (by rw [Array.length_toList]; exact Nat.le_trans ha.hi (by decide)) fun c hc => ⟨_, gp_name, by simp, eg_op rg_inSign (eg_var rfl) eg_str, rfl⟩
    · have h1 := ha.lo
      have h2 := ha.hi
      have h3 : ((a.cps.toList.map fun c => decide (c ∈ letters.cps.toList)).all id) = true := by
        rw [List.all_map]
        exact List.all_eq_true.mpr fun c hc => decide_eq_true (ha.all c hc)
      rw [h3]
      have e1 : (1 : Int) ≤ (a.length : Nat) := by omega
      have e2 : ((a.length : Nat) : Int) ≤ 6 := by omega
      simp [isA, e1, e2]
/-! are_names -/
def R_are_names (ds : List PD) (d : PD) : Prop := ∃ ns : List Str, GoodNames ns ∧ ds = [namesD ns] ∧ d = .bool true
theorem has_are_names : Has P w K mg base CX0 2 "are_names" ["thing"] (spF R_are_names) :=
  has_fn T.dAreNames sc_are_names (fun _ _ _ _ _ _ us hl => match us, hl with | [_], _ => rfl) (fun ds d ⟨i, _, a, _⟩ => by rw [a]; rfl) fun f cdv A outer s H E ds d hr h => by
    obtain ⟨ns, hn, rfl, rfl⟩ := h
    have G_is_word := has_is_word (P := P) (w := w) (base := base) T
    have h1 := hn.lo
    have h2 := hn.hi
    refine ⟨_, (pss_cons (ps_if (PW.pt (pw_or (pt_not (pt_val (kb_isi T (pv 0) T.f_tuple bo_tuple))) (pw_or (pt_not (pt_chain op_le op_le pe_int (kb_len T (pa_cons (pv 0) pa_nil)) (pe_cI T.c_MOST_NAMES))) (pw_or1 (pt_not (pt_val (kb_all T (pa_cons (pe_lc (own := [("one", 1)]) (g := (gName 1)) (tt := tYes) rfl sc_are_names.nd (kpi_tup K (pv 0)) (by exact blkOk_by (by kernel_rfl)) (fun _ _ _ _ _ => (pg_nm 1 sc_are_names.nd)) (fun _ _ _ _ _ => pts_nil) (fun _ _ _ _ _ => (pe_has G_is_word hr (pa_cons (pv 1) pa_nil)))) pa_nil)))))))) (pss_one (ps_ret pe_bl)) pss_nil) (pss_one (ps_ret (kb_all T (pa_cons (pe_lc (own := [("one", 1), ("other", 2)]) (g := (gTup K 2 (gCons (gName 1) (gCons (gName 2) gNil)))) (tt := tYes) rfl sc_are_names.nd (pi_zipM false false T.f_zip (pa_cons (pv 0) (pa_cons (pe_slice (ksl_tup K) (pv 0) (po_some pe_int) po_none) pa_nil))) (by exact blkOk_by (by kernel_rfl)) (fun _ _ _ _ _ => (kpg_tup K (pgs_cons (pg_nm 1 sc_are_names.nd) (pgs_cons (pg_nm 2 sc_are_names.nd) pgs_nil)))) (fun _ _ _ _ _ => pts_nil) (fun _ _ _ _ _ => (pe_cmpR op_lt_str (pv 1) (pv 2) (nomark _)))) pa_nil))))), ?_⟩
    refine sg_seq (sg_ifF ((et_or (et_not (et_B (eg_isi (.inr (.inr (.inr rfl))) ⟨td_names ns, by simp [namesD]⟩ (eg_var rfl)))) fun _ => et_or (et_not (et_test (eg_chain rg_le rg_le eg_int (eg_cb cg_lenT (ea_cons (eg_var rfl) ea_nil)) eg_int))) fun _ =>
      et_not (et_B (eg_cb (cg_all (ns := ns.map fun _ => true)) (ea_cons ?_ ea_nil)))).is ?_) sg_next) ((sg_ret (eg_cb (cg_all (ns := (ns.zip ns.tail).map fun p => decide (p.1.cps.toList < p.2.cps.toList))) (ea_cons ?_ ea_nil))).is ?_)
    · rw [List.map_map]
      exact eg_lcM (K := K) (q := .str) (it_tup (eg_var rfl)) (by omega) fun a ha => ⟨_, gp_name, by simp, eg_call (spF_g ⟨a, hn.word a ha, rfl, rfl⟩) (ea_cons (eg_var rfl) ea_nil), rfl⟩
    · have e1 : (1 : Int) ≤ (ns.length : Nat) := by omega
      have e2 : ((ns.length : Nat) : Int) ≤ 6 := by omega
      simp [isA, namesD, e1, e2]
    · rw [List.map_map]
      refine eg_lcM (K := K) (q := fun p : Str × Str => PyData.tuple [.str p.1, .str p.2]) ((it_zip (ea_cons (eg_var rfl) (ea_cons (eg_slT (eg_var rfl) (eo_some eg_int) eo_none) ea_nil))).is ?_) ?_ fun p hp => ⟨_, gp2, by simp, eg_op rg_ltS (eg_var rfl) (eg_var rfl), rfl⟩
      · rw [cutP_map, cutP_tail, pairUp_map]
      · rw [List.length_zip]
        omega
    · rw [List.all_map]
      have e : ((ns.zip ns.tail).all (id ∘ fun p => decide (p.1.cps.toList < p.2.cps.toList))) = true := List.all_eq_true.mpr fun p hp => decide_eq_true (pair_tail hn.srt p hp)
      rw [e]
end
end Stair
/-! ## StF2 -/
set_option Elab.async false
set_option linter.all false
set_option maxRecDepth 100000
set_option maxHeartbeats 1000000
namespace Stair
open PySem PySem.Spec PyProof.Rows L2 Evl
theorem digit_in : ∀ m : Nat, m < 7 → ∀ j : Nat, j < m → (48 + j) ∈ (cutS digits none (some ((m : Nat) : Int))).cps.toList := by decide +kernel
/-- forget what is not known -/
theorem le_none : ∀ (Γ : En) (n : Nat), Le (Γ ++ List.replicate n none) (Γ ++ List.replicate n none) := fun Γ n => Le.refl _
theorem run_at {x : Deal} (hx : GoodDeal x) {i : Nat} {r : Run} (h : x.runs[i]? = some r) : GoodFigs x.names.length r.2 ∧ (decide ((i : Int) = ((x.runs.length : Nat) : Int) - 1) = true → r.1 = none) ∧ (decide ((i : Int) = ((x.runs.length : Nat) : Int) - 1) = false → ∃ n, r.1 = some n ∧ 1 ≤ n ∧ n ≤ 10 ^ 12) := by
  refine ⟨hx.figs r (List.mem_of_getElem? h), fun e => ?_, fun e => ?_⟩
  · have e' := of_decide_eq_true e
    rw [x.runs_length] at e'
    unfold Deal.runs at h
    rw [List.getElem?_append_right (by simp; omega)] at h
    have : i - (x.init.map fun r => (some r.1, r.2)).length = 0 := by simp; omega
    rw [this] at h
    cases h
    rfl
  · have e' := of_decide_eq_false e
    rw [x.runs_length] at e'
    have hlt : i < x.runs.length := by
      rcases Nat.lt_or_ge i x.runs.length with q | q
      · exact q
      · rw [List.getElem?_eq_none q] at h; cases h
    rw [x.runs_length] at hlt
    unfold Deal.runs at h
    rw [List.getElem?_append_left (by simp; omega), List.getElem?_map] at h
    obtain ⟨y, hy, rfl⟩ := Option.map_eq_some_iff.mp h
    have q := hx.init y (List.mem_of_getElem? hy)
    exact ⟨y.1, rfl, q.1, q.2.1⟩
section
variable {P : Program} {w : World} {K : Kx} {mg : Str → Option Value} {base : Heap} (T : Tp K mg)
include T
/-! are_figures -/
def R_are_figures (ds : List PD) (d : PD) : Prop := ∃ (many : Nat) (f : Str), many ≤ 6 ∧ GoodFigs many f ∧ ds = [.int (many : Nat), .str f] ∧ d = .bool true
theorem has_are_figures : Has P w K mg base CX0 1 "are_figures" ["many", "thing"] (spF R_are_figures) :=
  has_fn T.dAreFigures sc_are_figures (fun _ _ _ _ _ _ us hl => match us, hl with | [_, _], _ => rfl) (fun ds d ⟨i, _, _, _, a, _⟩ => by rw [a]; rfl) fun f cdv A outer s H E ds d hr h => by
    obtain ⟨many, z, hm, hz, rfl, rfl⟩ := h
    have h1 := hz.lo
    have h2 := hz.hi
    refine ⟨_, (pss_cons (ps_if (PW.pt (pw_or (pt_not (pt_val (kb_isi T (pv 1) T.f_str bo_str))) (pw_or1 (pt_not (pt_chain op_le op_le pe_int (kb_len T (pa_cons (pv 1) pa_nil)) (pe_cI T.c_MOST_FIGURES_deals)))))) (pss_one (ps_ret pe_bl)) pss_nil) (pss_one (ps_ret (kb_all T (pa_cons (pe_lc (own := [("sign", 2)]) (g := (gName 2)) (tt := tYes) rfl sc_are_figures.nd (pi_str (pv 1)) (by exact blkOk_by (by kernel_rfl)) (fun _ _ _ _ _ => (pg_nm 2 sc_are_figures.nd)) (fun _ _ _ _ _ => pts_nil) (fun _ _ _ _ _ => (pe_cmpR op_in_sign (pv 2) (pe_slice sl_str (pe_cS T.c_DIGITS) po_none (po_some (pv 0))) rfl))) pa_nil))))), ?_⟩
    refine sg_seq (sg_ifF ((et_or (et_not (et_B (eg_isi (.inr (.inr (.inl rfl))) ⟨rfl, by simp⟩ (eg_var rfl)))) fun _ => et_not (et_test (eg_chain rg_le rg_le eg_int (eg_cb (cg_lenS (by omega)) (ea_cons (eg_var rfl) ea_nil)) eg_int))).is ?_) sg_next)
      ((sg_ret (eg_cb (cg_all (ns := z.cps.toList.map fun c => decide (c ∈ (cutS digits none (some (many : Int))).cps.toList))) (ea_cons ?_ ea_nil))).is ?_)
    · have e1 : (1 : Int) ≤ (z.length : Nat) := by omega
      have e2 : ((z.length : Nat) : Int) ≤ 400 := by omega
      simp [isA, e1, e2]
    · rw [List.map_map]
      exact eg_lcM (K := K) (q := fun c => PyData.str ⟨#[c]⟩) (it_str (eg_var rfl)) (by rw [Array.length_toList]; exact Nat.le_trans h2 (by decide)) fun c hc => ⟨_, gp_name, by simp, eg_op rg_inSign (eg_var rfl) (eg_slS (by decide) eg_str eo_none (eo_some (eg_var rfl))), rfl⟩
    · rw [List.all_map]
      have e : (z.cps.toList.all (id ∘ fun c => decide (c ∈ (cutS digits none (some (many : Int))).cps.toList))) = true := List.all_eq_true.mpr fun c hc => decide_eq_true (by
        obtain ⟨a, b⟩ := hz.all c hc
        have q := digit_in many (by omega) (c - 48) (by omega)
        rw [show 48 + (c - 48) = c by omega] at q
        exact q)
      rw [e]
/-! is_run -/
def R_is_run (ds : List PD) (d : PD) : Prop := ∃ (many : Nat) (r : Run) (last : Bool), many ≤ 6 ∧ GoodFigs many r.2 ∧ (last = true → r.1 = none) ∧ (last = false → ∃ n, r.1 = some n ∧ 1 ≤ n ∧ n ≤ 10 ^ 12) ∧ ds = [.int (many : Nat), runD r, .bool last] ∧ d = .bool true
theorem has_is_run : Has P w K mg base CX0 2 "is_run" ["many", "thing", "is_last"] (spF R_is_run) :=
  has_fn T.dIsRun sc_is_run (fun _ _ _ _ _ _ us hl => match us, hl with | [_, _, _], _ => rfl) (fun ds d ⟨i, _, _, _, _, _, _, a, _⟩ => by rw [a]; rfl) fun f cdv A outer s H E ds d hr h => by
    obtain ⟨many, ⟨o, z⟩, last, hm, hz, hl, hn, rfl, rfl⟩ := h
    have G_are_figures := has_are_figures (P := P) (w := w) (base := base) T
    have G_is_whole := has_is_whole (P := P) (w := w) (base := base) T
    refine ⟨_, (pss_cons (ps_if (PW.pt (pw_or (pt_not (pt_val (kb_isi T (pv 1) T.f_tuple bo_tuple))) (pw_or (pt_cmpR op_ne (kb_len T (pa_cons (pv 1) pa_nil)) pe_int (nomark _)) (pw_or1 (pt_not (pt_val (pe_has G_are_figures hr (pa_cons (pv 0) (pa_cons (pe_ix (kix_tup K) (pv 1) pe_int (fun _ _ => rfl)) pa_nil))))))))) (pss_one (ps_ret pe_bl)) pss_nil) (pss_one (ps_ret (pe_ifExp (pt_val (pv 2)) (pe_cmpR op_isN (pe_ix (kix_tup K) (pv 1) pe_int (fun _ _ => rfl)) pe_non (nomark _)) (pe_has G_is_whole hr (pa_cons (pe_ix (kix_tup K) (pv 1) pe_int (fun _ _ => rfl)) (pa_cons pe_int (pa_cons (pe_cI T.c_MOST_COINS) pa_nil)))))))), ?_⟩
    refine sg_seq (sg_ifF ((et_or (et_not (et_B (eg_isi (.inr (.inr (.inr rfl))) ⟨td_run _, by simp [runD]⟩ (eg_var rfl)))) fun _ => et_or (et_test (eg_op rg_neI (eg_cb cg_lenT (ea_cons (eg_var rfl) ea_nil)) eg_int)) fun _ =>
      et_not (et_B (eg_call (spF_g ⟨many, z, hm, hz, rfl, rfl⟩) (ea_cons (eg_var rfl) (ea_cons (eg_op (rg_ixT (atI_nat' (n := 1) rfl)) (eg_var rfl) eg_int) ea_nil))))).is ?_) sg_next)
      (sg_ret (eg_if (et_B (eg_var rfl)) (fun hb => ?_) (fun hb => ?_)))
    · simp [isA, runD]
    · have e := hl hb
      simp only at e
      subst e
      exact eg_op rg_isN (eg_op (rg_ixT (atI_nat' (n := 0) rfl)) (eg_var rfl) eg_int) eg_non
    · obtain ⟨n, e, l1, l2⟩ := hn hb
      simp only at e
      subst e
      have hl2 : ((n : Nat) : Int) ≤ 1000000000000 := by omega
      have hl1 : (1 : Int) ≤ (n : Nat) := by omega
      exact eg_call (spF_g ⟨n, 1, 1000000000000, rfl, by simp [hl1, hl2]⟩) (ea_cons (eg_op (rg_ixT (atI_nat' (n := 0) rfl)) (eg_var rfl) eg_int) (ea_cons eg_int (ea_cons eg_int ea_nil)))
/-! need_deal -/
def R_need_deal (ds : List PD) (d : PD) : Prop := ∃ x : Deal, GoodDeal x ∧ ds = [dealD x] ∧ d = dealD x
theorem has_need_deal : Has P w K mg base CX0 3 "need_deal" ["thing"] (spF R_need_deal) :=
  has_fn T.dNeedDeal sc_need_deal (fun _ _ _ _ _ _ us hl => match us, hl with | [_], _ => rfl) (fun ds d ⟨i, _, a, _⟩ => by rw [a]; rfl) fun f cdv A outer s H E ds d hr h => by
    obtain ⟨x, hx, rfl, rfl⟩ := h
    have G_are_names := has_are_names (P := P) (w := w) (base := base) T
    have G_is_run := has_is_run (P := P) (w := w) (base := base) T
    refine ⟨_, (pss_cons (ps_if (PW.pt (pw_or (pt_not (pt_val (kb_isi T (pv 0) T.f_tuple bo_tuple))) (pw_or1 (pt_cmpR op_ne (kb_len T (pa_cons (pv 0) pa_nil)) pe_int (nomark _))))) (pss_one ps_never) pss_nil) (pss_cons (ps_asg (pv 0) (kpg_tup K (pgs_cons (pg_nm 1 sc_need_deal.nd) (pgs_cons (pg_nm 2 sc_need_deal.nd) pgs_nil)))) (pss_cons (ps_if (pt_not (pt_val (pe_has G_are_names hr (pa_cons (pv 1) pa_nil)))) (pss_one ps_never) pss_nil) (pss_cons (ps_if (PW.pt (pw_or (pt_not (pt_val (kb_isi T (pv 2) T.f_tuple bo_tuple))) (pw_or1 (pt_not (pt_chain op_le op_le pe_int (kb_len T (pa_cons (pv 2) pa_nil)) (pe_cI T.c_MOST_RUNS)))))) (pss_one ps_never) pss_nil) (pss_cons (ps_for PassesOwn.never rfl (pi_enumM false T.f_enumerate (pa_cons (pv 2) pa_nil)) (kpg_tup K (pgs_cons (pg_nm 3 sc_need_deal.nd) (pgs_cons (pg_nm 4 sc_need_deal.nd) pgs_nil))) (pss_one (ps_if (pt_not (pt_val (pe_has G_is_run hr (pa_cons (kb_len T (pa_cons (pv 1) pa_nil)) (pa_cons (pv 4) (pa_cons (pe_cmpR op_eq (pv 3) (pe_op op_sub (kb_len T (pa_cons (pv 2) pa_nil)) pe_int) (nomark _)) pa_nil)))))) (pss_one ps_never) pss_nil))) (pss_one (ps_ret (pv 0)))))))), ?_⟩
    refine sg_seq (sg_ifF ((et_or (et_not (et_B (eg_isi (.inr (.inr (.inr rfl))) ⟨td_deal _, by simp [dealD]⟩ (eg_var rfl)))) fun _ => et_test (eg_op rg_neI (eg_cb cg_lenT (ea_cons (eg_var rfl) ea_nil)) eg_int)).is ?_) sg_next)
      (sg_seq (sg_asgP (eg_var rfl) gp2)
      (sg_seq (sg_ifF ((et_not (et_B (eg_call (spF_g ⟨x.names, hx.names, rfl, rfl⟩) (ea_cons (eg_var rfl) ea_nil)))).is rfl) sg_next)
      (sg_seq (sg_ifF ((et_or (et_not (et_B (eg_isi (.inr (.inr (.inr rfl))) ⟨td_runs _, by simp [runsD]⟩ (eg_var rfl)))) fun _ => et_not (et_test (eg_chain rg_le rg_le eg_int (eg_cb cg_lenT (ea_cons (eg_var rfl) ea_nil)) eg_int))).is ?_) sg_next)
      (sg_seq (sg_for (fun _ => [some (dealD x), some (namesD x.names), some (runsD x.runs), none, none]) (it_enum (ea_cons (eg_var rfl) ea_nil)) (Le.refl _) ?_) (sg_ret (eg_var rfl))))))
    · simp [isA, dealD]
    · have h1 := hx.few
      have h2 := x.runs_length
      have e1 : (1 : Int) ≤ (x.runs.length : Nat) := by omega
      have e2 : ((x.runs.length : Nat) : Int) ≤ 60 := by omega
      simp [isA, runsD, e1, e2]
    · intro i d hd
      rw [numbered_map] at hd
      rw [List.getElem?_map] at hd
      obtain ⟨⟨r, j⟩, hz, rfl⟩ := Option.map_eq_some_iff.mp hd
      rw [List.getElem?_zipIdx] at hz
      obtain ⟨y, hy, e⟩ := Option.map_eq_some_iff.mp hz
      obtain ⟨e1, e2⟩ := Prod.mk.inj e
      rw [Nat.zero_add] at e2
      subst e1 e2
      obtain ⟨g1, g2, g3⟩ := run_at hx hy
      refine ⟨_, _, gp2, sg_ifF ((et_not (et_B (eg_call (spF_g ⟨x.names.length, y, decide ((i : Int) = ((x.runs.length : Nat) : Int) - 1), hx.names.hi, g1, g2, g3, rfl, rfl⟩) (ea_cons (eg_cb cg_lenT (ea_cons (eg_var rfl) ea_nil) |>.is (by simp)) (ea_cons (eg_var rfl) (ea_cons (eg_op rg_eqI (eg_var rfl) (eg_op rg_sub (eg_cb cg_lenT (ea_cons (eg_var rfl) ea_nil) |>.is (by rw [List.length_map])) eg_int)) ea_nil)))))).is rfl) sg_next, ?_⟩
      exact .keep (.keep (.keep (.non (.non .nil))))
/-! need_number -/
def R_need_number (ds : List PD) (d : PD) : Prop := ∃ n : Nat, n ≤ 10 ^ 30 ∧ ds = [.int (n : Nat)] ∧ d = .int (n : Nat)
theorem has_need_number : Has P w K mg base CX0 2 "need_number" ["thing"] (spF R_need_number) :=
  has_fn T.dNeedNumber sc_need_number (fun _ _ _ _ _ _ us hl => match us, hl with | [_], _ => rfl) (fun ds d ⟨i, _, a, _⟩ => by rw [a]; rfl) fun f cdv A outer s H E ds d hr h => by
    obtain ⟨n, hn, rfl, rfl⟩ := h
    have G_is_whole := has_is_whole (P := P) (w := w) (base := base) T
    refine ⟨_, (pss_cons (ps_if (pt_not (pt_val (pe_has G_is_whole hr (pa_cons (pv 0) (pa_cons pe_int (pa_cons (pe_cI T.c_MOST_NUMBER) pa_nil)))))) (pss_one ps_never) pss_nil) (pss_one (ps_ret (pv 0)))), ?_⟩
    have e1 : (0 : Int) ≤ (n : Nat) := by omega
    have e2 : ((n : Nat) : Int) ≤ 1000000000000000000000000000000 := by omega
    exact sg_seq (sg_ifF ((et_not (et_B (eg_call (spF_g ⟨n, 0, 1000000000000000000000000000000, rfl, rfl⟩) (ea_cons (eg_var rfl) (ea_cons eg_int (ea_cons eg_int ea_nil)))))).is (by simp [e1, e2])) sg_next) (sg_ret (eg_var rfl))
end
end Stair
/-! ## StMir -/
set_option Elab.async false
set_option linter.all false
set_option maxRecDepth 100000
set_option maxHeartbeats 1000000
namespace Stair
open PySem PySem.Spec PyProof.Rows L2 Evl
/-! ### texts as lists of signs -/
abbrev sg (z : Str) : List Nat := z.cps.toList
def mk (l : List Nat) : Str := ⟨l.toArray⟩
theorem sg_mk (l : List Nat) : sg (mk l) = l := by simp [sg, mk]
theorem mk_sg (z : Str) : mk (sg z) = z := Str.ext (sg_mk _)
theorem mk_length (l : List Nat) : (mk l).length = l.length := by show (l.toArray).size = _; simp
theorem sg_length (z : Str) : (sg z).length = z.length := Array.length_toList
theorem cutS_take (z : Str) (n : Nat) : cutS z none (some (n : Int)) = mk ((sg z).take n) := by
  apply Str.ext
  unfold cutS
  rw [HT.sIx_none, HT.sIx_nat]
  simp only [sg, mk, List.drop_zero, Nat.sub_zero]
  have : z.length = z.cps.toList.length := (sg_length z).symm
  rw [this]
  simp
theorem cutS_drop (z : Str) (n : Nat) : cutS z (some (n : Int)) none = mk ((sg z).drop n) := by
  apply Str.ext
  unfold cutS
  rw [HT.sIx_none, HT.sIx_nat]
  simp only [sg, mk]
  have e : z.length = z.cps.toList.length := (sg_length z).symm
  rw [e]
  rcases Nat.le_total n z.cps.toList.length with h | h
  · rw [Nat.min_eq_left h, List.take_of_length_le (by simp)]
  · rw [Nat.min_eq_right h, List.drop_eq_nil_of_le (Nat.le_refl _), List.drop_eq_nil_of_le h]
    simp
theorem cutS_two (z : Str) (n m : Nat) : cutS z (some (n : Int)) (some (m : Int)) = mk (((sg z).drop n).take (m - n)) := by
  apply Str.ext
  unfold cutS
  rw [HT.sIx_nat, HT.sIx_nat]
  simp only [sg, mk]
  have e : z.length = z.cps.toList.length := (sg_length z).symm
  rw [e]
  apply List.ext_getElem?
  intro i
  simp only [List.getElem?_take, List.getElem?_drop]
  by_cases h1 : i < min m z.cps.toList.length - min n z.cps.toList.length
  · have h2 : i < m - n := by omega
    rw [if_pos h1, if_pos h2, Nat.min_eq_left (by omega)]
  · rw [if_neg h1]
    by_cases h2 : i < m - n
    · rw [if_pos h2, List.getElem?_eq_none (by omega)]
    · rw [if_neg h2]
theorem sg_append (a b : Str) : sg (a ++ b) = sg a ++ sg b := by
  show (a.cps ++ b.cps).toList = _
  simp
theorem mk_append (a b : List Nat) : mk a ++ mk b = mk (a ++ b) := Str.ext (by rw [← sg, sg_append, sg_mk, sg_mk]; exact (sg_mk _).symm)
theorem count_sign (z : Str) (c : Nat) : Txt.count z ⟨#[c]⟩ = (((sg z).count c : Nat) : Int) := by
  rw [count_is]
  show cnt c (sg z) = _
  induction sg z with
  | nil => rfl
  | cons a l ih =>
    rw [cnt_cons, ih, List.count_cons]
    by_cases h : a = c
    · subst h
      simp
      omega
    · have : (a == c) = false := by simpa using h
      simp [h, this]
/-! ### the mirrors -/
def countIn (l : List Nat) (c n : Nat) : Nat := n / l.length * l.count c + (l.take (n % l.length)).count c
def leftAt : List Run → Nat → Nat → Nat
  | _, c, 0 => c
  | [], c, _ + 1 => c
  | r :: rs, c, i + 1 => leftAt rs (c - r.1.getD 0) i
theorem place_spec : ∀ {rs : List Run} {c k l : Nat}, placeIn rs c = some (k, l) →
    (∀ i, i < k → ∃ n f, rs[i]? = some (some n, f) ∧ n ≤ leftAt rs c i ∧ leftAt rs c (i + 1) = leftAt rs c i - n) ∧ (∃ o f, rs[k]? = some (o, f) ∧ (o = none ∨ ∃ n, o = some n ∧ l < n)) ∧ leftAt rs c k = l
  | [], c, k, l, h => by cases h
  | (none, f) :: r, c, k, l, h => by
    cases h
    exact ⟨fun i hi => absurd hi (Nat.not_lt_zero _), ⟨none, f, rfl, .inl rfl⟩, rfl⟩
  | (some n, f) :: r, c, k, l, h => by
    have h' : (if c < n then some (0, c) else (placeIn r (c - n)).map fun p => (p.1 + 1, p.2)) = some (k, l) := h
    by_cases hc : c < n
    · rw [if_pos hc] at h'
      cases h'
      exact ⟨fun i hi => absurd hi (Nat.not_lt_zero _), ⟨some n, f, rfl, .inr ⟨n, rfl, hc⟩⟩, rfl⟩
    · rw [if_neg hc] at h'
      obtain ⟨⟨k', l'⟩, h1, e⟩ := Option.map_eq_some_iff.mp h'
      obtain ⟨e1, e2⟩ := Prod.mk.inj e
      dsimp only at e1 e2
      subst e1 e2
      obtain ⟨a, b, d⟩ := place_spec h1
      refine ⟨fun i hi => ?_, b, d⟩
      cases i with
      | zero => exact ⟨n, f, rfl, by show n ≤ c; omega, by cases r <;> rfl⟩
      | succ i =>
        obtain ⟨n', f', q1, q2, q3⟩ := a i (by omega)
        exact ⟨n', f', q1, q2, q3⟩
theorem place_tail : ∀ (l : List (Nat × Str)) (f : Str) (c : Nat), ∃ p, placeIn (l.map (fun r => (some r.1, r.2)) ++ [(none, f)]) c = some p
  | [], f, c => ⟨(0, c), rfl⟩
  | (n, g) :: l, f, c => by
    show ∃ p, (if c < n then some (0, c) else (placeIn (l.map (fun r => (some r.1, r.2)) ++ [(none, f)]) (c - n)).map fun p => (p.1 + 1, p.2)) = some p
    by_cases hc : c < n
    · exact ⟨_, if_pos hc⟩
    · obtain ⟨p, hp⟩ := place_tail l f (c - n)
      rw [if_neg hc, hp]
      exact ⟨_, rfl⟩
theorem Deal.place_some (d : Deal) (c : Nat) : placeIn d.runs c = some (d.place c) := by
  obtain ⟨p, hp⟩ := place_tail d.init d.last c
  unfold Deal.place
  rw [show placeIn d.runs c = some p from hp]
  rfl
end Stair
/-! ## StF3 -/
set_option Elab.async false
set_option linter.all false
set_option maxRecDepth 100000
set_option maxHeartbeats 1000000
namespace Stair
open PySem PySem.Spec PyProof.Rows L2 Evl
theorem leftAt_zero (rs : List Run) (c : Nat) : leftAt rs c 0 = c := by cases rs <;> rfl
theorem rg_isubI {i j : Int} : RG (fun a b => ipI (fun i j => i - j) a b) (.int i) (.int j) (.int (i - j)) := fun x y H h1 h2 Q q => by cases h1; cases h2; exact ⟨i, j, rfl, rfl, q _ H (Ex.refl H) (.int _)⟩
theorem rg_iaddI {i j : Int} : RG (fun a b => ipI (fun i j => i + j) a b) (.int i) (.int j) (.int (i + j)) := fun x y H h1 h2 Q q => by cases h1; cases h2; exact ⟨i, j, rfl, rfl, q _ H (Ex.refl H) (.int _)⟩
theorem gp3 {K : Kx} {i j k : Nat} {d e f : PD} : GpG (gTup K 2 (gCons (gName i) (gCons (gTup K 2 (gCons (gName j) (gCons (gName k) gNil))) gNil))) (.tuple [d, .tuple [e, f]]) [(i, d), (j, e), (k, f)] := gp_tup (gs_cons gp_name (gs_cons gp2 gs_nil)) rfl
theorem digit_at : ∀ j : Nat, j < 10 → ∃ rest, Builtin.Str.occurrences digits ⟨#[48 + j]⟩ 0 digits.length 1 = j :: rest := by
  intro j hj
  have : ∀ j : Nat, j < 10 → Builtin.Str.occurrences digits ⟨#[48 + j]⟩ 0 digits.length 1 = [j] := by decide +kernel
  exact ⟨[], this j hj⟩
theorem upto_map (n : Nat) : upto 0 n = (List.range n).map fun i => PyData.int (i : Nat) := by
  unfold upto
  exact List.map_congr_left fun i _ => by rw [Int.zero_add]
theorem figs_at {x : Deal} (hx : GoodDeal x) (c : Nat) : ∃ o, x.runs[(x.place c).1]? = some (o, x.figs (x.place c).1) ∧ GoodFigs x.names.length (x.figs (x.place c).1) := by
  obtain ⟨_, ⟨o, f, h, _⟩, _⟩ := place_spec (k := (x.place c).1) (l := (x.place c).2) (x.place_some c)
  have e : x.figs (x.place c).1 = f := by
    unfold Deal.figs
    rw [List.getD_eq_getElem?_getD, h]
    rfl
  exact ⟨o, by rw [e]; exact h, by rw [e]; exact hx.figs _ (List.mem_of_getElem? h)⟩
theorem fig_code {x : Deal} (hx : GoodDeal x) (c : Nat) : ∃ j, (sg (x.figs (x.place c).1))[(x.place c).2 % (x.figs (x.place c).1).length]? = some (48 + j) ∧ x.fig c = j ∧ j < x.names.length := by
  obtain ⟨o, _, g⟩ := figs_at hx c
  have hlt : (x.place c).2 % (x.figs (x.place c).1).length < (sg (x.figs (x.place c).1)).length := by
    rw [sg_length]
    exact Nat.mod_lt _ g.lo
  have e : (sg (x.figs (x.place c).1))[(x.place c).2 % (x.figs (x.place c).1).length]? = some _ := List.getElem?_eq_getElem hlt
  obtain ⟨a, b⟩ := g.all _ (List.mem_of_getElem? e)
  have hf : x.fig c = (sg (x.figs (x.place c).1))[(x.place c).2 % (x.figs (x.place c).1).length] - 48 := by
    unfold Deal.fig figAt
    rw [List.getD_eq_getElem?_getD, show (x.figs (x.place c).1).cps.toList[(x.place c).2 % (x.figs (x.place c).1).length]? = some _ from e]
    rfl
  refine ⟨(sg (x.figs (x.place c).1))[(x.place c).2 % (x.figs (x.place c).1).length] - 48, ?_, hf, by omega⟩
  rw [e]
  congr 1
  omega
theorem name_at {x : Deal} (hx : GoodDeal x) (c : Nat) : x.names[x.fig c]? = some (x.name c) := by
  obtain ⟨j, _, e, hj⟩ := fig_code hx c
  unfold Deal.name
  rw [e, List.getD_eq_getElem?_getD, List.getElem?_eq_getElem hj]
  rfl
def iOr (w1 w2 : TI) : TI := fun σ H R => w1 σ H R ∨ w2 σ H R
theorem pi_or {X : Cx} {tg l : Expr} {w1 w2 : TI} (h1 : PI X tg l w1) (h2 : PI X tg l w2) : PI X tg l (iOr w1 w2) := ⟨fun pins s σ H R I h => h.elim (h1.run pins s σ H R I) (h2.run pins s σ H R I)⟩
theorem it_or1 {Γ : En} {w1 w2 : TI} {ds : List PD} (h : ItG w1 Γ ds) : ItG (iOr w1 w2) Γ ds := fun σ H ok R q => .inl (h σ H ok R q)
theorem it_or2 {Γ : En} {w1 w2 : TI} {ds : List PD} (h : ItG w2 Γ ds) : ItG (iOr w1 w2) Γ ds := fun σ H ok R q => .inr (h σ H ok R q)
section
variable {P : Program} {w : World} {K : Kx} {mg : Str → Option Value} {base : Heap} (T : Tp K mg)
include T
/-! count_in -/
def R_count_in (ds : List PD) (d : PD) : Prop := ∃ (z : Str) (c n : Nat), 1 ≤ z.length ∧ z.length ≤ 100000 ∧ ds = [.str z, .str ⟨#[c]⟩, .int (n : Nat)] ∧ d = .int (countIn (sg z) c n : Nat)
theorem has_count_in : Has P w K mg base CX0 1 "count_in" ["figures", "figure", "coins"] (spF R_count_in) :=
  has_fn T.dCountIn sc_count_in (fun _ _ _ _ _ _ us hl => match us, hl with | [_, _, _], _ => rfl) (fun ds d ⟨_, _, _, _, _, a, _⟩ => by rw [a]; rfl) fun f cdv A outer s H E ds d hr h => by
    obtain ⟨z, c, n, h1, h2, rfl, rfl⟩ := h
    refine ⟨_, (pss_cons (ps_asg (kb_divmod T (pa_cons (pv 2) (pa_cons (kb_len T (pa_cons (pv 0) pa_nil)) pa_nil))) (kpg_tup K (pgs_cons (pg_nm 3 sc_count_in.nd) (pgs_cons (pg_nm 4 sc_count_in.nd) pgs_nil)))) (pss_one (ps_ret (pe_op op_add (pe_op op_mul (pv 3) (km_count K (pv 0) (pa_cons (pv 1) pa_nil))) (km_count K (pe_slice sl_str (pv 0) po_none (po_some (pv 4))) (pa_cons (pv 1) pa_nil)))))), ?_⟩
    have hc := List.count_le_length (a := c) (l := sg z)
    rw [sg_length] at hc
    have hl : (0 : Int) < (z.length : Nat) := by omega
    have hmod : ((n : Int) % (z.length : Nat)) = ((n % z.length : Nat) : Int) := (Int.natCast_emod _ _).symm
    refine sg_seq (sg_asgP (eg_cb (cg_divmod ⟨hl, by omega⟩) (ea_cons (eg_var rfl) (ea_cons (eg_cb (cg_lenS (by omega)) (ea_cons (eg_var rfl) ea_nil)) ea_nil))) gp2)
      ((sg_ret (eg_op rg_add (eg_op (rg_mul (.inr ?_)) (eg_var rfl) (eg_bm mg_count (eg_var rfl) (ea_cons (eg_var rfl) ea_nil))) (eg_bm mg_count (eg_slS (by omega) (eg_var rfl) eo_none (eo_some (eg_var rfl))) (ea_cons (eg_var rfl) ea_nil)))).is ?_)
    · rw [hmod, cutS_take, count_sign, count_sign, sg_mk]
      unfold countIn
      rw [sg_length]
      push_cast
      rfl
    · rw [count_sign]
      omega
/-! place_in -/
def R_place_in (ds : List PD) (d : PD) : Prop := ∃ (rs : List Run) (c k l : Nat), placeIn rs c = some (k, l) ∧ ds = [runsD rs, .int (c : Nat)] ∧ d = .tuple [.int (k : Nat), .int (l : Nat)]
theorem has_place_in : Has P w K mg base CX0 1 "place_in" ["runs", "coin"] (spF R_place_in) :=
  has_fn T.dPlaceIn sc_place_in (fun _ _ _ _ _ _ us hl => match us, hl with | [_, _], _ => rfl) (fun ds d ⟨_, _, _, _, _, a, _⟩ => by rw [a]; rfl) fun f cdv A outer s H E ds d hr h => by
    obtain ⟨rs, c, k, l, hp, rfl, rfl⟩ := h
    obtain ⟨q1, ⟨o, z, q2, q3⟩, q4⟩ := place_spec hp
    refine ⟨_, (pss_cons (ps_st 2 sc_place_in.nd (pv 1)) (pss_cons (ps_for PassesOwn.never rfl (pi_enumM false T.f_enumerate (pa_cons (pv 0) pa_nil)) (kpg_tup K (pgs_cons (pg_nm 3 sc_place_in.nd) (pgs_cons (kpg_tup K (pgs_cons (pg_nm 4 sc_place_in.nd) (pgs_cons (pg_nm 5 sc_place_in.nd) pgs_nil))) pgs_nil))) (pss_cons (ps_if (PW.pt (pw_or (pt_cmpR op_isN (pv 4) pe_non (nomark _)) (pw_or1 (pt_cmpR op_lt (pv 2) (pv 4) (nomark _))))) (pss_one (ps_ret (pe_tup (pa_cons (pv 3) (pa_cons (pv 2) pa_nil))))) pss_nil) (pss_one (ps_au 2 sc_place_in.nd (pv 4) ip_sub)))) (pss_one (ps_ret pe_non)))), ?_⟩
    have at_ : ∀ {i : Nat} {r : Run}, rs[i]? = some r → (numbered (rs.map runD))[i]? = some (.tuple [.int (i : Nat), runD r]) := fun {i r} e => by
      rw [numbered_map, List.getElem?_map, List.getElem?_zipIdx, e]
      simp
    refine sg_seq (sg_asg (eg_var rfl)) (sg_seqR (sg_forR (fun i => [some (runsD rs), some (.int (c : Nat)), some (.int (leftAt rs c i : Nat)), none, none, none]) k (at_ q2) (it_enum (ea_cons (eg_var rfl) ea_nil)) (by rw [leftAt_zero]; exact Le.refl _) ?_ ?_))
    · intro i d hi hd
      obtain ⟨n, f, e, a, b⟩ := q1 i hi
      rw [at_ e] at hd
      cases hd
      have ha : ((n : Nat) : Int) ≤ (leftAt rs c i : Nat) := by omega
      refine ⟨_, _, gp3, sg_seq (sg_ifF ((et_or (et_test (eg_op rg_isN (eg_var rfl) eg_non)) fun _ => et_test (eg_op rg_lt (eg_var rfl) (eg_var rfl))).is ?_) sg_next) (sg_aug rfl (eg_var rfl) rg_isubI), ?_⟩
      · simp [isNone, optD]
        omega
      · rw [show (PyData.int ((leftAt rs c i : Nat) - (n : Int))) = PyData.int (leftAt rs c (i + 1) : Nat) by rw [b]; congr 1; omega]
        exact .keep (.keep (.keep (.non (.non (.non .nil)))))
    · refine ⟨_, gp3, sg_seqR (sg_ifT ?_ ((sg_ret (eg_tup (ea_cons (eg_var rfl) (ea_cons (eg_var rfl) ea_nil)) (Nat.le_of_ble_eq_true rfl))).is (by rw [q4])))⟩
      rw [q4]
      rcases q3 with rfl | ⟨n, rfl, hl⟩
      · exact (et_or (b := false) (et_test (eg_op rg_isN (eg_var rfl) eg_non)) fun z => by cases z).is rfl
      · have hl' : ((l : Nat) : Int) < (n : Nat) := by omega
        exact (et_or (et_test (eg_op rg_isN (eg_var rfl) eg_non)) fun _ => et_test (eg_op rg_lt (eg_var rfl) (eg_var rfl))).is (by simp [isNone, optD]; omega)
/-! name_in -/
def R_name_in (ds : List PD) (d : PD) : Prop := ∃ (x : Deal) (c : Nat), GoodDeal x ∧ ds = [dealD x, .int (c : Nat)] ∧ d = .str (x.name c)
theorem has_name_in : Has P w K mg base CX0 2 "name_in" ["deal", "coin"] (spF R_name_in) :=
  has_fn T.dNameIn sc_name_in (fun _ _ _ _ _ _ us hl => match us, hl with | [_, _], _ => rfl) (fun ds d ⟨_, _, _, a, _⟩ => by rw [a]; rfl) fun f cdv A outer s H E ds d hr h => by
    obtain ⟨x, c, hx, rfl, rfl⟩ := h
    have G_place_in := has_place_in (P := P) (w := w) (base := base) T
    obtain ⟨o, h1, g⟩ := figs_at hx c
    obtain ⟨j, h2, h3, h4⟩ := fig_code hx c
    have hn := name_at hx c
    have h6 := hx.names.hi
    obtain ⟨rest, h5⟩ := digit_at j (by omega)
    have hl := g.lo
    have hh := g.hi
    refine ⟨_, (pss_cons (ps_asg (pv 0) (kpg_tup K (pgs_cons (pg_nm 2 sc_name_in.nd) (pgs_cons (pg_nm 3 sc_name_in.nd) pgs_nil)))) (pss_cons (ps_asg (pe_has G_place_in hr (pa_cons (pv 3) (pa_cons (pv 1) pa_nil))) (kpg_tup K (pgs_cons (pg_nm 4 sc_name_in.nd) (pgs_cons (pg_nm 5 sc_name_in.nd) pgs_nil)))) (pss_cons (ps_st 6 sc_name_in.nd (pe_ix (kix_tup K) (pe_ix (kix_tup K) (pv 3) (pv 4) (fun _ _ => rfl)) pe_int (fun _ _ => rfl))) (pss_one (ps_ret (pe_ix (kix_tup K) (pv 2) (km_sindex K (pe_cS T.c_DIGITS) (pa_cons (pe_ix ix_str (pv 6) (pe_op op_mod (kb_int T (pa_cons (pv 5) pa_nil)) (kb_len T (pa_cons (pv 6) pa_nil))) (fun _ _ => rfl)) pa_nil)) (fun _ _ => rfl))))))), ?_⟩
    refine sg_seq (sg_asgP (eg_var rfl) gp2) (sg_seq (sg_asgP (eg_call (spF_g ⟨x.runs, c, (x.place c).1, (x.place c).2, x.place_some c, rfl, rfl⟩) (ea_cons (eg_var rfl) (ea_cons (eg_var rfl) ea_nil))) gp2)
      (sg_seq (sg_asg (eg_op (rg_ixT (d := .str (x.figs (x.place c).1)) (atI_nat' (n := 1) rfl)) (eg_op (rg_ixT (d := runD (o, x.figs (x.place c).1)) (atI_nat' ?_)) (eg_var rfl) (eg_var rfl)) eg_int))
      (sg_ret (eg_op (rg_ixT (atI_nat' ?_)) (eg_var rfl) (eg_bm (mg_sindex h5) eg_str (ea_cons (eg_op (rg_ixS (c := 48 + j) (i := (((x.place c).2 % (x.figs (x.place c).1).length : Nat) : Int)) (by omega) (atI_nat' h2)) (eg_var rfl)
        ((eg_op (rg_mod (by omega)) (eg_cb cg_int (ea_cons (eg_var rfl) ea_nil)) (eg_cb (cg_lenS (by omega)) (ea_cons (eg_var rfl) ea_nil))).is ?_)) ea_nil))))))
    · rw [List.getElem?_map, h1]
      rfl
    · rw [List.getElem?_map, ← h3, hn]
      rfl
    · rw [Int.natCast_emod]
/-! row_part -/
def R_row_part (ds : List PD) (d : PD) : Prop := ∃ (x : Deal) (b n : Nat), GoodDeal x ∧ b ≤ 10 ^ 30 ∧ n ≤ 1000 ∧ ds = [dealD x, .int (b : Nat), .int (n : Nat)] ∧ d = .tuple ((List.range n).map fun k => .str (x.name (b + k)))
theorem has_row_part : Has P w K mg base CX0 4 "row_part" ["deal", "begin", "size"] (spF R_row_part) :=
  has_fn T.dRowPart sc_row_part (fun _ _ _ _ _ _ us hl => match us, hl with | [_, _, _], _ => rfl) (fun ds d ⟨_, _, _, _, _, _, a, _⟩ => by rw [a]; rfl) fun f cdv A outer s H E ds d hr h => by
    obtain ⟨x, b, n, hx, hb, hn, rfl, rfl⟩ := h
    have G_need_deal := has_need_deal (P := P) (w := w) (base := base) T
    have G_need_number := has_need_number (P := P) (w := w) (base := base) T
    have G_is_whole := has_is_whole (P := P) (w := w) (base := base) T
    have G_name_in := has_name_in (P := P) (w := w) (base := base) T
    refine ⟨_, (pss_cons (ps_expr (pe_has G_need_deal hr (pa_cons (pv 0) pa_nil))) (pss_cons (ps_expr (pe_has G_need_number hr (pa_cons (pv 1) pa_nil))) (pss_cons (ps_if (pt_not (pt_val (pe_has G_is_whole hr (pa_cons (pv 2) (pa_cons pe_int (pa_cons (pe_cI T.c_MOST_ROW) pa_nil)))))) (pss_one ps_never) pss_nil) (pss_one (ps_ret (kb_tuple T (pa_cons (pe_lc (own := [("place", 3)]) (g := (gName 3)) (tt := tYes) rfl sc_row_part.nd (pi_range1 rfl T.f_range (pa_cons (pv 2) pa_nil)) (by exact blkOk_by (by kernel_rfl)) (fun _ _ _ _ _ => (pg_nm 3 sc_row_part.nd)) (fun _ _ _ _ _ => pts_nil) (fun _ _ _ _ _ => (pe_has G_name_in hr (pa_cons (pv 0) (pa_cons (pe_op op_add (pv 1) (pv 3)) pa_nil))))) pa_nil))))))), ?_⟩
    have e1 : (0 : Int) ≤ (n : Nat) := by omega
    have e2 : ((n : Nat) : Int) ≤ 1000 := by omega
    refine sg_seq (sg_drop (eg_call (spF_g ⟨x, hx, rfl, rfl⟩) (ea_cons (eg_var rfl) ea_nil))) (sg_seq (sg_drop (eg_call (spF_g ⟨b, hb, rfl, rfl⟩) (ea_cons (eg_var rfl) ea_nil)))
      (sg_seq (sg_ifF ((et_not (et_B (eg_call (spF_g ⟨n, 0, 1000, rfl, rfl⟩) (ea_cons (eg_var rfl) (ea_cons eg_int (ea_cons eg_int ea_nil)))))).is (by simp [e1, e2])) sg_next)
      (sg_ret (eg_cb cg_tupleL (ea_cons ?_ ea_nil)))))
    exact eg_lcM (K := K) (q := fun i : Nat => PyData.int (i : Nat)) ((it_range1 (ea_cons (eg_var rfl) ea_nil) (by omega) (by omega)).is (by rw [Int.toNat_natCast, upto_map])) (by rw [List.length_range]; omega) fun k hk => ⟨_, gp_name, by simp, eg_call (spF_g ⟨x, b + k, hx, by push_cast; rfl, rfl⟩) (ea_cons (eg_var rfl) (ea_cons (eg_op rg_add (eg_var rfl) (eg_var rfl)) ea_nil)), rfl⟩
/-! houses_of -/
def R_houses_of (ds : List PD) (d : PD) : Prop := ∃ n : Net, n.length ≤ 1000 ∧ (ds = [netD n] ∨ ds = [.list (n.map houseD)]) ∧ d = .list ((n.map (·.1)).map .str)
theorem has_houses_of : Has P w K mg base CX0 1 "houses_of" ["net"] (spF R_houses_of) :=
  has_fn T.dHousesOf sc_houses_of (fun _ _ _ _ _ _ us hl => match us, hl with | [_], _ => rfl) (fun ds d ⟨_, _, a, _⟩ => by rcases a with a | a <;> rw [a] <;> rfl) fun f cdv A outer s H E ds d hr h => by
    obtain ⟨n, hn, hd, rfl⟩ := h
    refine ⟨_, (pss_one (ps_ret (pe_lc (own := [("house", 1), ("deal", 2)]) (g := (gTup K 2 (gCons (gName 1) (gCons (gName 2) gNil)))) (tt := tYes) rfl sc_houses_of.nd (pi_or (kpi_tup K (pv 0)) (kpi_list K (pv 0))) (by exact blkOk_by (by kernel_rfl)) (fun _ _ _ _ _ => (kpg_tup K (pgs_cons (pg_nm 1 sc_houses_of.nd) (pgs_cons (pg_nm 2 sc_houses_of.nd) pgs_nil)))) (fun _ _ _ _ _ => pts_nil) (fun _ _ _ _ _ => (pv 1))))), ?_⟩
    rw [List.map_map]
    have body : ∀ Γ x, ∃ ps, GpG (gTup K 2 (gCons (gName 1) (gCons (gName 2) gNil))) (houseD x) ps ∧ (∀ p ∈ ps, p.1 ∈ List.map (·.2) [(("house" : Str), 1), ("deal", 2)]) ∧ EvG (tVar 1) (setsE (wipeE [Γ, none, none] (List.map (·.2) [(("house" : Str), 1), ("deal", 2)])) ps) ((PyData.str ∘ (·.1)) x) ∧ td ((PyData.str ∘ (·.1)) x) = true :=
      fun Γ x => ⟨_, gp2, by simp, eg_var rfl, rfl⟩
    rcases hd with rfl | rfl
    · exact sg_ret (eg_lcM (K := K) (q := houseD) (it_or1 (it_tup (eg_var rfl))) (by omega) fun x _ => body _ x)
    · exact sg_ret (eg_lcM (K := K) (q := houseD) (it_or2 (it_list (eg_var rfl))) (by omega) fun x _ => body _ x)
end
end Stair
/-! ## StF4 -/
set_option Elab.async false
set_option linter.all false
set_option maxRecDepth 100000
set_option maxHeartbeats 1000000
namespace Stair
open PySem PySem.Spec PyProof.Rows L2 Evl
/-! ### mirrors -/
def turnN (l : List Nat) (k : Nat) : List Nat := l.drop k ++ l.take k
def roundN (l : List Nat) (n : Nat) : List Nat := ((List.replicate (n / l.length + 1) l).flatten).take n
/-- the last place at which they differ -/
def unlikeN (a b : List Nat) : Nat → Option Nat
  | 0 => none
  | n + 1 => if a[n]? = b[n]? then unlikeN a b n else some n
/-- the least size from k on, with n tries left -/
def rootN (l : List Nat) (k : Nat) : Nat → Option Nat
  | 0 => none
  | n + 1 => if l.length % k = 0 ∧ (List.replicate (l.length / k) (l.take k)).flatten = l then some k else rootN l (k + 1) n
def leastRoot (l : List Nat) : List Nat := match rootN l 1 (l.length - 1) with
  | some k => l.take k
  | none => l
theorem rootN_some : ∀ {n k r : Nat} {l : List Nat}, rootN l k n = some r → ∃ i, r = k + i ∧ i < n ∧ (∀ j, j < i → ¬ (l.length % (k + j) = 0 ∧ (List.replicate (l.length / (k + j)) (l.take (k + j))).flatten = l)) ∧ (l.length % r = 0 ∧ (List.replicate (l.length / r) (l.take r)).flatten = l)
  | 0, k, r, l, h => by cases h
  | n + 1, k, r, l, h => by
    unfold rootN at h
    split at h
    · rename_i c
      cases h
      exact ⟨0, rfl, Nat.succ_pos _, fun j hj => absurd hj (Nat.not_lt_zero _), c⟩
    · rename_i c
      obtain ⟨i, e, hi, a, b⟩ := rootN_some h
      refine ⟨i + 1, by omega, by omega, fun j hj => ?_, b⟩
      cases j with
      | zero => exact c
      | succ j =>
        have q := a j (by omega)
        rw [show k + (j + 1) = k + 1 + j by omega]
        exact q
theorem rootN_none : ∀ {n k : Nat} {l : List Nat}, rootN l k n = none → ∀ j, j < n → ¬ (l.length % (k + j) = 0 ∧ (List.replicate (l.length / (k + j)) (l.take (k + j))).flatten = l)
  | 0, k, l, h, j, hj => absurd hj (Nat.not_lt_zero _)
  | n + 1, k, l, h, j, hj => by
    unfold rootN at h
    split at h
    · cases h
    · rename_i c
      cases j with
      | zero => exact c
      | succ j =>
        have q := rootN_none h j (by omega)
        rw [show k + (j + 1) = k + 1 + j by omega]
        exact q
theorem mk_inj {a b : List Nat} (h : mk a = mk b) : a = b := by
  have := congrArg sg h
  rwa [sg_mk, sg_mk] at this
theorem dec_mk (a : List Nat) (z : Str) : decide (mk a = z) = decide (a = sg z) := by
  by_cases h : a = sg z
  · rw [h, mk_sg]
    simp
  · rw [decide_eq_false h, decide_eq_false fun e => h (by rw [← e, sg_mk])]
theorem flat_mk (n : Nat) (l : List Nat) : (⟨(List.replicate n (sg (mk l))).flatten.toArray⟩ : Str) = mk (List.replicate n l).flatten := by
  rw [sg_mk]
  rfl
theorem upto_at {lo n i : Nat} {d : PD} (h : (upto (lo : Int) n)[i]? = some d) : i < n ∧ d = .int ((lo + i : Nat) : Int) := by
  unfold upto at h
  rw [List.getElem?_map] at h
  obtain ⟨j, hj, rfl⟩ := Option.map_eq_some_iff.mp h
  have hi : i < n := by
    rcases Nat.lt_or_ge i n with q | q
    · exact q
    · rw [List.getElem?_eq_none (by rw [List.length_range]; exact q)] at hj; cases hj
  rw [List.getElem?_range hi] at hj
  cases hj
  exact ⟨hi, by push_cast; rfl⟩
theorem upto_get {lo n i : Nat} (h : i < n) : (upto (lo : Int) n)[i]? = some (.int ((lo + i : Nat) : Int)) := by
  unfold upto
  rw [List.getElem?_map, List.getElem?_range h]
  push_cast
  rfl
theorem unlike_some : ∀ {n k : Nat} {a b : List Nat}, unlikeN a b n = some k → k < n ∧ a[k]? ≠ b[k]? ∧ ∀ j, k < j → j < n → a[j]? = b[j]?
  | 0, k, a, b, h => by cases h
  | n + 1, k, a, b, h => by
    unfold unlikeN at h
    split at h
    · rename_i c
      obtain ⟨h1, h2, h3⟩ := unlike_some h
      refine ⟨by omega, h2, fun j hj hn => ?_⟩
      by_cases e : j = n
      · rw [e]; exact c
      · exact h3 j hj (by omega)
    · rename_i c
      cases h
      exact ⟨by omega, c, fun j hj hn => by omega⟩
theorem unlike_none : ∀ {n : Nat} {a b : List Nat}, unlikeN a b n = none → ∀ j, j < n → a[j]? = b[j]?
  | 0, a, b, h, j, hj => absurd hj (Nat.not_lt_zero _)
  | n + 1, a, b, h, j, hj => by
    unfold unlikeN at h
    split at h
    · rename_i c
      by_cases e : j = n
      · rw [e]; exact c
      · exact unlike_none h j (by omega)
    · cases h
theorem ug_neg {i : Int} : UG (rU fun i => .int (-i)) (.int i) (.int (-i)) := fun x H h1 Q q => by cases h1; exact ⟨i, rfl, q _ H (Ex.refl H) (.int _)⟩
section
variable {P : Program} {w : World} {K : Kx} {mg : Str → Option Value} {base : Heap} (T : Tp K mg)
include T
/-! turned_figures -/
def R_turned_figures (ds : List PD) (d : PD) : Prop := ∃ (z : Str) (b : Int), 1 ≤ z.length ∧ z.length ≤ 50000 ∧ ds = [.str z, .int b] ∧ d = .str (mk (turnN (sg z) (b % (z.length : Int)).toNat))
theorem has_turned_figures : Has P w K mg base CX0 1 "turned_figures" ["figures", "begin"] (spF R_turned_figures) :=
  has_fn T.dTurnedFigures sc_turned_figures (fun _ _ _ _ _ _ us hl => match us, hl with | [_, _], _ => rfl) (fun ds d ⟨_, _, _, _, a, _⟩ => by rw [a]; rfl) fun f cdv A outer s H E ds d hr h => by
    obtain ⟨z, b, h1, h2, rfl, rfl⟩ := h
    refine ⟨_, (pss_cons (ps_st 2 sc_turned_figures.nd (pe_op op_mod (kb_int T (pa_cons (pv 1) pa_nil)) (kb_len T (pa_cons (pv 0) pa_nil)))) (pss_one (ps_ret (pe_op op_add_str (pe_slice sl_str (pv 0) (po_some (pv 2)) po_none) (pe_slice sl_str (pv 0) po_none (po_some (pv 2))))))), ?_⟩
    have hl : (0 : Int) < (z.length : Nat) := by omega
    have hk : b % (z.length : Int) = (((b % (z.length : Int)).toNat : Nat) : Int) := (Int.toNat_of_nonneg (Int.emod_nonneg _ (by omega))).symm
    refine sg_seq (sg_asg ((eg_op (rg_mod hl) (eg_cb cg_int (ea_cons (eg_var rfl) ea_nil)) (eg_cb (cg_lenS (by omega)) (ea_cons (eg_var rfl) ea_nil))).is (by rw [hk])))
      ((sg_ret (eg_op (rg_addS (a := mk ((sg z).drop (b % (z.length : Int)).toNat)) (b := mk ((sg z).take (b % (z.length : Int)).toNat)) ?_) ((eg_slS (by omega) (eg_var rfl) (eo_some (eg_var rfl)) eo_none).is (by rw [cutS_drop])) ((eg_slS (by omega) (eg_var rfl) eo_none (eo_some (eg_var rfl))).is (by rw [cutS_take])))).is ?_)
    · rw [mk_length, mk_length, List.length_drop, List.length_take, sg_length, sizeLine_eq]
      omega
    · rw [mk_append]
      rfl
/-! round_part -/
def R_round_part (ds : List PD) (d : PD) : Prop := ∃ (z : Str) (n : Nat), 1 ≤ z.length ∧ z.length + n ≤ 50000 ∧ ds = [.str z, .int (n : Nat)] ∧ d = .str (mk (roundN (sg z) n))
theorem has_round_part : Has P w K mg base CX0 1 "round_part" ["figures", "size"] (spF R_round_part) :=
  has_fn T.dRoundPart sc_round_part (fun _ _ _ _ _ _ us hl => match us, hl with | [_, _], _ => rfl) (fun ds d ⟨_, _, _, _, a, _⟩ => by rw [a]; rfl) fun f cdv A outer s H E ds d hr h => by
    obtain ⟨z, n, h1, h2, rfl, rfl⟩ := h
    refine ⟨_, (pss_one (ps_ret (pe_slice sl_str (pe_op op_repS (pv 0) (pe_op op_add (pe_op op_fdiv (pv 1) (kb_len T (pa_cons (pv 0) pa_nil))) pe_int)) po_none (po_some (pv 1))))), ?_⟩
    have hl : (0 : Int) < (z.length : Nat) := by omega
    have hk : (n : Int) / (z.length : Nat) + 1 = ((n / z.length + 1 : Nat) : Int) := by push_cast; rfl
    have hm : z.length * (n / z.length + 1) ≤ 50000 := by
      have := Nat.div_mul_le_self n z.length
      rw [Nat.mul_add, Nat.mul_one, Nat.mul_comm]
      omega
    have hd : n / z.length ≤ n := Nat.div_le_self _ _
    refine (sg_ret (eg_slS (a := mk (List.replicate (n / z.length + 1) (sg z)).flatten) ?_ ((eg_op (rg_repS (z := z) (n := n / z.length + 1) (by omega) (by omega)) (eg_var rfl) ((eg_op rg_add (eg_op (rg_fdiv ⟨hl, by omega⟩) (eg_var rfl) (eg_cb (cg_lenS (by omega)) (ea_cons (eg_var rfl) ea_nil))) eg_int).is (by rw [hk]))).is rfl) eo_none (eo_some (eg_var rfl)))).is ?_
    · rw [mk_length, PyProof.Rows.lm_len_rep_flat, sg_length, Nat.mul_comm]
      omega
    · rw [cutS_take, sg_mk]
      unfold roundN
      rw [sg_length]
/-! last_unlike -/
def R_last_unlike (ds : List PD) (d : PD) : Prop := ∃ (a b : List Nat), a.length ≤ b.length ∧ b.length ≤ 50000 ∧ ds = [.str (mk a), .str (mk b)] ∧ d = optD (unlikeN a b a.length)
theorem has_last_unlike : Has P w K mg base CX0 1 "last_unlike" ["one", "other"] (spF R_last_unlike) :=
  has_fn T.dLastUnlike sc_last_unlike (fun _ _ _ _ _ _ us hl => match us, hl with | [_, _], _ => rfl) (fun ds d ⟨_, _, _, _, a, _⟩ => by rw [a]; rfl) fun f cdv A outer s H E ds d hr h => by
    obtain ⟨a, b, h1, h2, rfl, rfl⟩ := h
    refine ⟨_, (pss_cons (ps_for PassesOwn.never rfl (pi_range3 rfl T.f_range (pa_cons (pe_op op_sub (kb_len T (pa_cons (pv 0) pa_nil)) pe_int) (pa_cons (pe_un un_neg pe_int) (pa_cons (pe_un un_neg pe_int) pa_nil)))) (pg_nm 2 sc_last_unlike.nd) (pss_one (ps_if (pt_cmpR op_ne (pe_ix ix_str (pv 0) (pv 2) (fun _ _ => rfl)) (pe_ix ix_str (pv 1) (pv 2) (fun _ _ => rfl)) (nomark _)) (pss_one (ps_ret (pv 2))) pss_nil))) (pss_one (ps_ret pe_non))), ?_⟩
    have hi : ItG (iRng3 (tCons (tOp (rI0 fun i j => .int (i - j)) (tCB (rLenA K) (tCons (tVar 0) tNil)) (tC (.int 1))) (tCons (tUn (rU fun i => .int (-i)) (tC (.int 1))) (tCons (tUn (rU fun i => .int (-i)) (tC (.int 1))) tNil)))) [some (.str (mk a)), some (.str (mk b)), none] (steps ((a.length : Nat) - 1 : Int) (-1) a.length) := it_range3 (ea_cons ((eg_op rg_sub (eg_cb (cg_lenS (by rw [mk_length]; omega)) (ea_cons (eg_var rfl) ea_nil)) eg_int).is (by rw [mk_length])) (ea_cons (eg_un ug_neg eg_int) (ea_cons (eg_un ug_neg eg_int) ea_nil))) (by
      have z := RgC.neg (i := (a.length : Nat) - 1) (j := -1) (by omega) (by omega) (by omega) (by omega)
      rw [show (((a.length : Nat) : Int) - 1 - -1).toNat = a.length by omega] at z
      exact z)
    · have turn : ∀ (p : Nat) (c1 c2 : Nat), a[p]? = some c1 → b[p]? = some c2 → EtG (tTest (tOp rNe (tOp rIxS (tVar 0) (tVar 2)) (tOp rIxS (tVar 1) (tVar 2)))) [some (.str (mk a)), some (.str (mk b)), some (.int (p : Nat))] (!decide (a[p]? = b[p]?)) := fun p c1 c2 e1 e2 =>
        (et_test (eg_op rg_neS (eg_op (rg_ixS (c := c1) (by rw [mk_length]; omega) (atI_nat' (by show (sg (mk a))[p]? = _; rw [sg_mk]; exact e1))) (eg_var rfl) (eg_var rfl)) (eg_op (rg_ixS (c := c2) (by rw [mk_length]; omega) (atI_nat' (by show (sg (mk b))[p]? = _; rw [sg_mk]; exact e2))) (eg_var rfl) (eg_var rfl)))).is (by
          rw [e1, e2]
          by_cases e : c1 = c2
          · subst e; simp
          · have : (⟨#[c1]⟩ : Str) ≠ ⟨#[c2]⟩ := fun z => e (by cases z; rfl)
            simp [e, this])
      have at_ : ∀ i, i < a.length → (steps ((a.length : Nat) - 1 : Int) (-1) a.length)[i]? = some (.int ((a.length - 1 - i : Nat) : Int)) := fun i hi => by
        unfold steps
        rw [List.getElem?_map, List.getElem?_range hi]
        simp only [Option.map_some]
        congr 2
        omega
      cases hu : unlikeN a b a.length with
      | none =>
        have hn := unlike_none hu
        refine sg_seq (sg_for (fun _ => [some (.str (mk a)), some (.str (mk b)), none]) hi (Le.refl _) ?_) (sg_ret eg_non)
        intro i d hd
        have hlt : i < a.length := by
          rcases Nat.lt_or_ge i a.length with q | q
          · exact q
          · rw [List.getElem?_eq_none (by simp [steps]; exact q)] at hd; cases hd
        rw [at_ i hlt] at hd
        cases hd
        have e1 : a[a.length - 1 - i]? = some a[a.length - 1 - i] := List.getElem?_eq_getElem (by omega)
        have e2 : b[a.length - 1 - i]? = some b[a.length - 1 - i] := List.getElem?_eq_getElem (by omega)
        exact ⟨_, _, gp_name, sg_ifF ((turn _ _ _ e1 e2).is (by rw [hn _ (by omega)]; simp)) sg_next, .keep (.keep (.non .nil))⟩
      | some k =>
        obtain ⟨u1, u2, u3⟩ := unlike_some hu
        have ek := at_ (a.length - 1 - k) (by omega)
        rw [show a.length - 1 - (a.length - 1 - k) = k by omega] at ek
        have e1 : a[k]? = some a[k] := List.getElem?_eq_getElem (by omega)
        have e2 : b[k]? = some b[k] := List.getElem?_eq_getElem (by omega)
        refine sg_seqR (sg_forR (fun _ => [some (.str (mk a)), some (.str (mk b)), none]) (a.length - 1 - k) ek hi (Le.refl _) ?_ ⟨_, gp_name, sg_ifT ((turn _ _ _ e1 e2).is (by simp [u2])) (sg_ret (eg_var rfl))⟩)
        intro i d hik hd
        rw [at_ i (by omega)] at hd
        cases hd
        have e1 : a[a.length - 1 - i]? = some a[a.length - 1 - i] := List.getElem?_eq_getElem (by omega)
        have e2 : b[a.length - 1 - i]? = some b[a.length - 1 - i] := List.getElem?_eq_getElem (by omega)
        exact ⟨_, _, gp_name, sg_ifF ((turn _ _ _ e1 e2).is (by rw [u3 _ (by omega) (by omega)]; simp)) sg_next, .keep (.keep (.non .nil))⟩
/-! least_root -/
def R_least_root (ds : List PD) (d : PD) : Prop := ∃ l : List Nat, l.length ≤ 10000 ∧ ds = [.str (mk l)] ∧ d = .str (mk (leastRoot l))
theorem has_least_root : Has P w K mg base CX0 1 "least_root" ["figures"] (spF R_least_root) :=
  has_fn T.dLeastRoot sc_least_root (fun _ _ _ _ _ _ us hl => match us, hl with | [_], _ => rfl) (fun ds d ⟨_, _, a, _⟩ => by rw [a]; rfl) fun f cdv A outer s H E ds d hr h => by
    obtain ⟨l, h1, rfl, rfl⟩ := h
    refine ⟨_, (pss_cons (ps_for PassesOwn.never rfl (pi_range2 rfl T.f_range (pa_cons pe_int (pa_cons (kb_len T (pa_cons (pv 0) pa_nil)) pa_nil))) (pg_nm 1 sc_least_root.nd) (pss_one (ps_if (PW.pt (pw_and (pt_cmpR op_eq (pe_op op_mod (kb_int T (pa_cons (kb_len T (pa_cons (pv 0) pa_nil)) pa_nil)) (pv 1)) pe_int (nomark _)) (pw_and1 (pt_cmpR op_eq (pe_op op_repS (pe_slice sl_str (pv 0) po_none (po_some (pv 1))) (pe_op op_fdiv (kb_len T (pa_cons (pv 0) pa_nil)) (pv 1))) (pv 0) (nomark _))))) (pss_one (ps_ret (pe_slice sl_str (pv 0) po_none (po_some (pv 1))))) pss_nil))) (pss_one (ps_ret (pv 0)))), ?_⟩
    have hlen : ∀ Γ : En, Γ[0]? = some (some (.str (mk l))) → EvG (tCB (rLenA K) (tCons (tVar 0) tNil)) Γ (.int (l.length : Nat)) := fun Γ e => (eg_cb (cg_lenS (by rw [mk_length]; omega)) (ea_cons (eg_var e) ea_nil)).is (by rw [mk_length])
    have hi : ItG (iRng2 (tCons (tC (.int 1)) (tCons (tCB (rLenA K) (tCons (tVar 0) tNil)) tNil))) [some (.str (mk l)), none] (upto (1 : Nat) (l.length - 1)) := (it_range2 (ea_cons eg_int (ea_cons (hlen _ rfl) ea_nil)) (by omega)).is (by
      rw [show (((l.length : Nat) : Int) - 1).toNat = l.length - 1 by omega]
      rfl)
    have turn : ∀ k : Nat, 1 ≤ k → k < l.length → ∀ Γ : En, Γ[0]? = some (some (.str (mk l))) → Γ[1]? = some (some (.int (k : Nat))) → EtG (tAnd (tTest (tOp rEq (tOp (rI (fun _ j => 0 < j) fun i j => .int (i % j)) (tCB rIntA (tCons (tCB (rLenA K) (tCons (tVar 0) tNil)) tNil)) (tVar 1)) (tC (.int 0)))) (tTest (tOp rEq (tOp rRepS (tSl rSlS (tVar 0) tNoPart (tPart (tVar 1))) (tOp (rI CDiv fun i j => .int (i / j)) (tCB (rLenA K) (tCons (tVar 0) tNil)) (tVar 1))) (tVar 0)))) Γ (decide (l.length % k = 0 ∧ (List.replicate (l.length / k) (l.take k)).flatten = l)) := fun k h2 h3 Γ g0 g1 => by
      have hm : (l.length / k) * k ≤ l.length := Nat.div_mul_le_self _ _
      have hd : l.length / k ≤ l.length := Nat.div_le_self _ _
      have lt : (l.take k).length = k := by rw [List.length_take]; omega
      refine (et_and (et_test (eg_op rg_eqI (eg_op (rg_mod (j := (k : Nat)) (by omega)) (eg_cb cg_int (ea_cons (hlen _ g0) ea_nil)) (eg_var g1)) eg_int)) fun _ =>
        et_test (eg_op rg_eqS ((eg_op (rg_repS (z := mk (l.take k)) (n := l.length / k) (by omega) (by rw [mk_length, lt, Nat.mul_comm]; omega)) ((eg_slS (by rw [mk_length]; omega) (eg_var g0) eo_none (eo_some (eg_var g1))).is (by rw [cutS_take, sg_mk]))
          ((eg_op (rg_fdiv ⟨by omega, by omega⟩) (hlen _ g0) (eg_var g1)).is (by rw [Int.natCast_ediv]))).is (by rw [flat_mk])) (eg_var g0))).is ?_
      rw [dec_mk, sg_mk]
      have e : ((l.length : Nat) : Int) % (k : Nat) = ((l.length % k : Nat) : Int) := (Int.natCast_emod _ _).symm
      rw [e]
      by_cases q : l.length % k = 0
      · simp [q]
      · have : ((l.length % k : Nat) : Int) ≠ 0 := by omega
        rw [decide_eq_false this, Bool.false_and, decide_eq_false fun z => q z.1]
    unfold leastRoot
    cases hu : rootN l 1 (l.length - 1) with
    | none =>
      have hn := rootN_none hu
      refine sg_seq (sg_for (fun _ => [some (.str (mk l)), none]) hi (Le.refl _) ?_) (sg_ret (eg_var rfl))
      intro i d hd
      obtain ⟨hlt, rfl⟩ := upto_at hd
      exact ⟨_, _, gp_name, sg_ifF ((turn _ (by omega) (by omega) _ rfl rfl).is (decide_eq_false (hn i hlt))) sg_next, .keep (.non .nil)⟩
    | some k =>
      obtain ⟨j, rfl, hj, u1, u2⟩ := rootN_some hu
      refine sg_seqR (sg_forR (fun _ => [some (.str (mk l)), none]) j (upto_get hj) hi (Le.refl _) ?_ ⟨_, gp_name, sg_ifT ((turn _ (by omega) (by omega) _ rfl rfl).is (decide_eq_true u2)) ((sg_ret (eg_slS (by rw [mk_length]; omega) (eg_var rfl) eo_none (eo_some (eg_var rfl)))).is (by rw [cutS_take, sg_mk]))⟩)
      intro i d hik hd
      obtain ⟨hlt, rfl⟩ := upto_at hd
      exact ⟨_, _, gp_name, sg_ifF ((turn _ (by omega) (by omega) _ rfl rfl).is (decide_eq_false (u1 i hik))) sg_next, .keep (.non .nil)⟩
end
end Stair
/-! ## StF5 -/
set_option Elab.async false
set_option linter.all false
set_option maxRecDepth 100000
set_option maxHeartbeats 1000000
namespace Stair
open PySem PySem.Spec PyProof.Rows L2 Evl
/-! ### a list of one's own -/
theorem EOk.tx {H H' : Hp} (e : Tx H H') : ∀ {σ : L2.St} {Γ : En}, (∀ d, some d ∈ Γ → td d = true) → EOk H σ Γ → EOk H' σ Γ
  | _, _, _, .nil => .nil
  | _, _, h, .non t => .non (EOk.tx e (fun d hd => h d (List.mem_cons_of_mem _ hd)) t)
  | _, _, h, .som a t => .som (Dt.tx e _ (h _ List.mem_cons_self) a) (EOk.tx e (fun d hd => h d (List.mem_cons_of_mem _ hd)) t)
/-- outside p all that is known is kept -/
def Ow (p : Addr) (H H' : Hp) : Prop := ∀ a o, a ≠ p → H a = some o → H' a = some o
theorem Ow.refl (p : Addr) (H : Hp) : Ow p H H := fun _ _ _ h => h
theorem Ow.trans {p : Addr} {H H1 H2 : Hp} (a : Ow p H H1) (b : Ow p H1 H2) : Ow p H H2 := fun x o n h => b x o n (a x o n h)
theorem Ex.ow {p : Addr} {H H' : Hp} (e : Ex H H') : Ow p H H' := fun a o _ h => e a o h
theorem Ow.put {p : Addr} {H : Hp} {o : HO} : Ow p H (upd H p o) := fun a u n h => by rw [upd_ne n]; exact h
/-- J hands out the data ds, whatever happens at p -/
def GivesO (p : Addr) (J : It) (ds : List PD) (H1 : Hp) : Prop := ∃ (G : Hp → Prop) (Y : Nat → Hp → V → Hp → Prop), Walk J ds.length G Y ∧ (∀ H, Ow p H1 H → G H) ∧
  ∀ i H x H', i < ds.length → Ow p H1 H → Tx H1 H → Y i H x H' → Ex H H' ∧ ∃ d, ds[i]? = some d ∧ Dt H' x d
theorem for_own {p : Addr} {J : It} {ds : List PD} {H1 : Hp} (gv : GivesO p J ds H1) {g : TG} {tb : TS} {D : Ends} {σ : L2.St} (Pv : Nat → L2.St → Hp → Prop) (h0 : Pv 0 σ H1) (hO : ∀ i σ H, Pv i σ H → Ow p H1 H ∧ Tx H1 H)
    (hs : ∀ i d x σ H H', ds[i]? = some d → Pv i σ H → Ex H H' → Dt H' x d → g x σ H' fun σ2 H2 => tb { D with nx := Pv (i + 1), ct := Pv (i + 1), bk := D.nx } σ2 H2) (hd : ∀ σ H, Pv ds.length σ H → D.nx σ H) :
    ∃ W : Nat → Nat → L2.St → Hp → Prop, (∃ m, W 0 m σ H1) ∧ ∀ i m σ H, W i m σ H →
      (J.stop i H ∧ D.nx σ H) ∨ (J.go i H ∧ ∃ N : L2.St → Hp → Prop, (∀ σ' H', N σ' H' → ∃ m', m' < m ∧ W (i + 1) m' σ' H') ∧ ∀ x H', J.yld i H x H' → g x σ H' fun σ2 H2 => tb { D with nx := N, ct := N, bk := D.nx } σ2 H2) := by
  obtain ⟨G, Y, w, hg, gy⟩ := gv
  refine for_it w Pv h0 (fun i σ H _ q => hg H (hO i σ H q).1) ?_ hd
  rintro i x σ H H' hi q y
  obtain ⟨e, d, h1, h2⟩ := gy i H x H' hi (hO i σ H q).1 (hO i σ H q).2 y
  exact hs i d x σ H H' h1 q e h2
theorem givesO_tup {K : Kx} {p a : Addr} {H : Hp} {xs : List V} {ds : List PD} (hp : a ≠ p) (h : H a = some (.tup xs)) (r : Dts H xs ds) (ht : tds ds = true) : GivesO p (Itt K a) ds H := by
  have hl := r.length
  refine ⟨fun H' => H' a = some (.tup xs), YAt xs, hl ▸ (walk_tup (K := K) (a := a) (xs := xs)).mono (fun _ q => st_of q) (fun _ _ _ _ _ _ y => y), fun H' e => e _ _ hp h, ?_⟩
  rintro i H1 x H' hi o tx ⟨rfl, hx⟩
  obtain ⟨d, h1, h2⟩ := (Dts.tx tx ds ht r).getV hx
  exact ⟨Ex.refl _, d, h1, h2⟩
theorem givesO_zipM {k1 k2 : Bool} {p a b : Addr} {H : Hp} {xs ys : List V} {ds es : List PD} (ha : a ≠ p) (hb : b ≠ p) (h1 : Sq k1 H a xs) (h2 : Sq k2 H b ys) (r1 : Dts H xs ds) (r2 : Dts H ys es) (t1 : tds ds = true) (t2 : tds es = true) : GivesO p (ItzM k1 k2 a b) (pairUp ds es) H := by
  have st : ∀ {k : Bool} {H' : Hp} {a : Addr} {xs : List V}, a ≠ p → Ow p H H' → Sq k H a xs → Sq k H' a xs := fun {k} {H'} {a} {xs} n e h => by cases k <;> exact e _ _ n h
  have hl : (pairUp ds es).length = min xs.length ys.length := by rw [pairUp_length, r1.length, r2.length]
  refine ⟨fun H' => Sq k1 H' a xs ∧ Sq k2 H' b ys, YPair (fun i => xs[i]?) (fun i => ys[i]?), ?_, fun H' e => ⟨st ha e h1, st hb e h2⟩, ?_⟩
  · rw [hl]
    refine ⟨fun i H' hi q => ?_, fun H' q => ⟨xs, ys, q.1, q.2, rfl⟩, fun i H' v H'' _ q y => ?_⟩
    · have l1 : i < xs.length := by omega
      have l2 : i < ys.length := by omega
      exact ⟨xs, ys, xs[i], ys[i], q.1, q.2, by simp [l1], by simp [l2]⟩
    · obtain ⟨T, x, z, e1, e2, e3, e4, e5⟩ := y
      exact ⟨T, x, z, e1, e2, e3, e4 xs q.1, e5 ys q.2⟩
  · rintro i H1 x H' hi o tx ⟨T, y, z, rfl, hT, rfl, hy, hz⟩
    obtain ⟨d, g1, g2⟩ := (Dts.tx tx ds t1 r1).getV hy
    obtain ⟨e, g3, g4⟩ := (Dts.tx tx es t2 r2).getV hz
    have q := Ex.new (o := .tup [y, z]) hT
    exact ⟨q, _, pairUp_get g1 g3, .tup upd_same (.cons (g2.mono q) (.cons (g4.mono q) .nil))⟩
/-! ### mirrors -/
def partsOf : List Run → Nat → List Nat
  | [], _ => []
  | (none, _) :: r, c => c :: partsOf r 0
  | (some n, _) :: r, c => min c n :: partsOf r (c - n)
def leftP : List Run → Nat → Nat → Nat
  | _, c, 0 => c
  | [], c, _ + 1 => c
  | (none, _) :: rs, c, i + 1 => leftP rs 0 i
  | (some n, _) :: rs, c, i + 1 => leftP rs (c - n) i
theorem leftP_zero (rs : List Run) (c : Nat) : leftP rs c 0 = c := by cases rs <;> rfl
theorem partsOf_length : ∀ (rs : List Run) (c : Nat), (partsOf rs c).length = rs.length
  | [], c => rfl
  | (none, _) :: r, c => congrArg (· + 1) (partsOf_length r 0)
  | (some n, _) :: r, c => congrArg (· + 1) (partsOf_length r (c - n))
def partAt (o : Option Nat) (l : Nat) : Nat := match o with
  | none => l
  | some n => min l n
theorem partAt_le (o : Option Nat) (l : Nat) : partAt o l ≤ l := by
  cases o with
  | none => exact Nat.le_refl _
  | some n => exact Nat.min_le_left _ _
theorem parts_at : ∀ {rs : List Run} {c i : Nat} {r : Run}, rs[i]? = some r → (partsOf rs c)[i]? = some (partAt r.1 (leftP rs c i)) ∧ leftP rs c (i + 1) = leftP rs c i - (partAt r.1 (leftP rs c i))
  | [], c, i, r, h => by simp at h
  | (none, f) :: rs, c, 0, r, h => by
    have e : (none, f) = r := by simpa using h
    subst e
    exact ⟨rfl, by show leftP rs 0 0 = c - c; rw [leftP_zero]; omega⟩
  | (some n, f) :: rs, c, 0, r, h => by
    have e : (some n, f) = r := by simpa using h
    subst e
    exact ⟨rfl, by show leftP rs (c - n) 0 = c - min c n; rw [leftP_zero]; omega⟩
  | (none, f) :: rs, c, i + 1, r, h => parts_at (rs := rs) (c := 0) (i := i) (by simpa using h)
  | (some n, f) :: rs, c, i + 1, r, h => parts_at (rs := rs) (c := c - n) (i := i) (by simpa using h)
theorem partsOf_le : ∀ (rs : List Run) (c : Nat), ∀ p ∈ partsOf rs c, p ≤ c
  | [], c, p, h => by simp [partsOf] at h
  | (none, _) :: r, c, p, h => by
    rcases List.mem_cons.mp h with rfl | h
    · exact Nat.le_refl _
    · exact Nat.le_trans (partsOf_le r 0 p h) (Nat.zero_le _)
  | (some n, _) :: r, c, p, h => by
    rcases List.mem_cons.mp h with rfl | h
    · exact Nat.min_le_left _ _
    · exact Nat.le_trans (partsOf_le r (c - n) p h) (Nat.sub_le _ _)
section
variable {P : Program} {w : World} {K : Kx} {mg : Str → Option Value} {base : Heap} (T : Tp K mg)
include T
/-! parts_of -/
def R_parts_of (ds : List PD) (d : PD) : Prop := ∃ (rs : List Run) (c : Nat), rs.length ≤ 1000 ∧ ds = [runsD rs, .int (c : Nat)] ∧ d = .list ((partsOf rs c).map fun n => .int (n : Nat))
theorem has_parts_of : Has P w K mg base CX0 1 "parts_of" ["runs", "coins"] (spF R_parts_of) := by
  refine has_of T.dPartsOf sc_parts_of (fun _ _ _ _ _ _ us hl => match us, hl with | [_, _], _ => rfl) (fun vs H Q E ⟨ds, d, a, ⟨_, _, _, e, _⟩, _⟩ => by rw [a.length, e]; rfl) fun f cdv A outer s H vs Q E hr h => ?_
  obtain ⟨ds, d, hv, ⟨rs, c, h1, rfl, rfl⟩, k⟩ := h
  refine ⟨_, (pss_cons (ps_par2A 2 3 sc_parts_of.nd (pa_cons (pe_lst pa_nil) (pa_cons (pv 1) pa_nil))) (pss_cons (ps_for PassesOwn.never rfl (kpi_tup K (pv 0)) (kpg_tup K (pgs_cons (pg_nm 4 sc_parts_of.nd) (pgs_cons (pg_nm 5 sc_parts_of.nd) pgs_nil))) (pss_cons (ps_st 6 sc_parts_of.nd (pe_ifExp (pt_cmpR op_isN (pv 4) pe_non (nomark _)) (pv 3) (kb_min T (pa_cons (pv 3) (pa_cons (pv 4) pa_nil))))) (pss_cons (ps_expr (km_append K (pv 2) (pa_cons (pv 6) pa_nil))) (pss_one (ps_au 3 sc_parts_of.nd (pv 6) ip_sub))))) (pss_one (ps_ret (pv 2))))), ?_⟩
  cases hv with | cons hv t => cases t with | cons hc t =>
    cases t
    cases hc
    cases hv with | tup hA rA =>
      rename_i a xs
      refine ⟨by decide, fun p hp => ⟨.int c, rfl, .ref p, .int c, rfl, ?_⟩⟩
      have hne : a ≠ p := fun z => by rw [z, hp] at hA; cases hA
      have hA' : upd H p (.lst []) a = some (.tup xs) := by rw [upd_ne hne]; exact hA
      have tR : tds (rs.map runD) = true := td_runs rs
      refine ⟨.ref a, rfl, a, rfl, ⟨xs, st_of hA'⟩, for_own (p := p) (givesO_tup hne hA' (rA.mono (Ex.new hp)) tR)
        (fun i σ H' => ∃ o4 o5 o6, σ = [some (.ref a), some (.int (c : Nat)), some (.ref p), some (.int (leftP rs c i : Nat)), o4, o5, o6] ∧ Ow p (upd H p (.lst [])) H' ∧ Tx (upd H p (.lst [])) H' ∧ H' p = some (.lst (((partsOf rs c).take i).map fun n => .int (n : Nat))))
        ⟨none, none, none, by rw [leftP_zero]; rfl, Ow.refl _ _, Tx.refl _, upd_same⟩ (fun i σ H' ⟨_, _, _, _, b, d, _⟩ => ⟨b, d⟩) ?_ ?_⟩
      · rintro i d x σ H1 H2 hd ⟨o4, o5, o6, rfl, e1, e2, e3⟩ ex dx
        rw [List.getElem?_map] at hd
        obtain ⟨r, hr', rfl⟩ := Option.map_eq_some_iff.mp hd
        obtain ⟨q1, q2⟩ := parts_at (c := c) hr'
        obtain ⟨o, z⟩ := r
        refine gp2 x _ H2 dx _ fun ys py => ?_
        cases py with | cons a1 t => cases t with | cons a2 t =>
          cases t
          rename_i v4 v5
          have ok : EOk H2 [some (.ref a), some (.int (c : Nat)), some (.ref p), some (.int (leftP rs c i : Nat)), some v4, some v5, o6] [none, none, none, some (.int (leftP rs c i : Nat)), some (optD o), some (.str z), none] :=
            .non (.non (.non (.som (.int _) (.som a1 (.som a2 (.non .nil))))))
          have ev : EvG (tIf (tTest (tOp (fun x y H Q => y = .non ∧ Q (.bl (decide (x = .non))) H) (tVar 4) (tC .non))) (tVar 3) (tCB rMinA (tCons (tVar 3) (tCons (tVar 4) tNil)))) [none, none, none, some (.int (leftP rs c i : Nat)), some (optD o), some (.str z), none] (.int ((partAt o (leftP rs c i) : Nat) : Int)) := by
            refine eg_if (et_test (eg_op rg_isN (eg_var rfl) eg_non)) (fun hb => ?_) (fun hb => ?_)
            · cases o with
              | none => exact eg_var rfl
              | some n => cases hb
            · cases o with
              | none => cases hb
              | some n => exact (eg_cb cg_min (ea_cons (eg_var rfl) (ea_cons (eg_var rfl) ea_nil))).is (by show PyData.int (min ((leftP rs c i : Nat) : Int) (n : Nat)) = .int ((min (leftP rs c i) n : Nat) : Int); congr 1; omega)
          refine ev _ _ ok _ fun v H3 e4 dv => ?_
          cases dv
          have h3 := e4 _ _ (ex _ _ e3)
          have hlen : (((partsOf rs c).take i).map fun n => V.int (n : Nat)).length < sizeLine := by
            rw [List.length_map, List.length_take, partsOf_length, sizeLine_eq]
            omega
          refine ⟨.ref p, rfl, .inl ⟨rfl, _, sq_of h3⟩, _, rfl, p, _, _, rfl, rfl, h3, hlen, .int (leftP rs c i : Nat), rfl, _, rfl, _, _, rfl, rfl, ?_⟩
          refine ⟨some v4, some v5, some (.int (partAt o (leftP rs c i) : Nat)), ?_, ((e1.trans (Ex.ow ex)).trans (Ex.ow e4)).trans Ow.put, ((e2.trans (Ex.tx ex)).trans (Ex.tx e4)).trans (tx_upd fun us z => by rw [h3] at z; cases z), ?_⟩
          · rw [q2]
            show [_, _, _, some (V.int _), _, _, _] = _
            have := partAt_le o (leftP rs c i)
            congr 6
            exact (Int.ofNat_sub this).symm
          · rw [upd_same, List.take_add_one, q1, List.map_append]
            rfl
      · rintro σ H' ⟨o4, o5, o6, rfl, e1, e2, e3⟩
        rw [List.length_map] at e3
        rw [List.take_of_length_le (by rw [partsOf_length]; exact Nat.le_refl _)] at e3
        refine ⟨.ref p, rfl, k _ _ (fun b o hb => e1 b o (fun z => by rw [z, hp] at hb; cases hb) (by rw [upd_ne (fun z => by rw [z, hp] at hb; cases hb)]; exact hb)) (.lst e3 ?_)⟩
        rw [show ((partsOf rs c).map fun n => PyData.int (n : Nat)) = ((partsOf rs c).map fun n : Nat => (n : Int)).map PyData.int by rw [List.map_map]; rfl, show ((partsOf rs c).map fun n => V.int (n : Nat)) = ((partsOf rs c).map fun n : Nat => (n : Int)).map V.int by rw [List.map_map]; rfl]
        exact dts_ints _
end
end Stair
/-! ## StF6 -/
set_option Elab.async false
set_option linter.all false
set_option maxRecDepth 100000
set_option maxHeartbeats 1000000
namespace Stair
open PySem PySem.Spec PyProof.Rows L2 Evl
def countBy (rs : List Run) (c n : Nat) : Nat := ((rs.zip (partsOf rs n)).map fun p => countIn (sg p.1.2) c p.2).sum
def hasD (x : Deal) (n : Nat) : List Nat := (List.range x.names.length).map fun j => countBy x.runs (48 + j) n
theorem sum_nat (l : List Nat) : (l.map fun n : Nat => (n : Int)).sum = ((l.sum : Nat) : Int) := by
  induction l with
  | nil => rfl
  | cons a r ih => rw [List.map_cons, List.sum_cons, List.sum_cons, ih]; push_cast; rfl
theorem digits_at : ∀ j : Nat, j < 10 → (sg digits)[j]? = some (48 + j) := by decide +kernel
/-! leading out -/
def leadsOut (x : Deal) (hs : List Str) : Bool := (x.runs.map fun r => ((sg r.2).map fun c => !decide (x.names.getD (c - 48) Str.empty ∈ hs)).any id).all id
def shutStep (n : Net) : Net := n.filter fun p => !leadsOut p.2 (n.map (·.1))
inductive Opens : Net → Prop
  | nil : Opens []
  | step {n : Net} : n ≠ [] → (shutStep n).length ≠ n.length → Opens (shutStep n) → Opens n
def shutNext (s : Net × Nat) : Net × Nat := (shutStep s.1, s.1.length)
def shutAt (n : Net) (m : Nat) : Nat → Net × Nat
  | 0 => (n, m)
  | i + 1 => shutNext (shutAt n m i)
theorem shutAt_succ (n : Net) (m : Nat) : ∀ i, shutAt n m (i + 1) = shutAt (shutStep n) n.length i
  | 0 => rfl
  | i + 1 => by
    show shutNext (shutAt n m (i + 1)) = shutNext (shutAt (shutStep n) n.length i)
    rw [shutAt_succ n m i]
theorem opens_run {n : Net} (h : Opens n) : ∀ m, (n = [] ∨ n.length ≠ m) → ∃ N, (∀ i, i < N → (shutAt n m i).1.length ≠ (shutAt n m i).2) ∧ (shutAt n m N).1 = [] ∧ (shutAt n m N).2 = 0 := by
  induction h with
  | nil =>
    intro m _
    by_cases hm : m = 0
    · subst hm
      exact ⟨0, fun i hi => absurd hi (Nat.not_lt_zero _), rfl, rfl⟩
    · exact ⟨1, fun i hi => by
        have e : i = 0 := by omega
        subst e
        exact fun z => hm z.symm, rfl, rfl⟩
  | step h1 h2 h3 ih =>
    rename_i n
    intro m hm
    obtain ⟨N, a, b, c⟩ := ih n.length (.inr h2)
    refine ⟨N + 1, fun i hi => ?_, by rw [shutAt_succ]; exact b, by rw [shutAt_succ]; exact c⟩
    cases i with
    | zero => exact hm.resolve_left h1
    | succ i =>
      rw [shutAt_succ]
      exact a i (by omega)
theorem shutAt_sub (n : Net) (m : Nat) : ∀ i, ∀ p ∈ (shutAt n m i).1, p ∈ n
  | 0, p, h => h
  | i + 1, p, h => shutAt_sub n m i p (List.mem_filter.mp h).1
theorem shutAt_len (n : Net) (m : Nat) : ∀ i, (shutAt n m i).1.length ≤ n.length
  | 0 => Nat.le_refl _
  | i + 1 => Nat.le_trans (List.length_filter_le _ _) (shutAt_len n m i)
theorem int_digit : ∀ j : Nat, j < 10 → PySem.intText? ⟨#[48 + j]⟩ = some (j : Int) := by decide +kernel
section
variable {P : Program} {w : World} {K : Kx} {mg : Str → Option Value} {base : Heap} (T : Tp K mg)
include T
/-! count_by -/
def R_count_by (ds : List PD) (d : PD) : Prop := ∃ (rs : List Run) (c n : Nat), rs.length ≤ 1000 ∧ (∀ r ∈ rs, 1 ≤ r.2.length ∧ r.2.length ≤ 100000) ∧ ds = [runsD rs, .str ⟨#[c]⟩, .int (n : Nat)] ∧ d = .int (countBy rs c n : Nat)
theorem has_count_by : Has P w K mg base CX0 2 "count_by" ["runs", "figure", "coins"] (spF R_count_by) :=
  has_fn T.dCountBy sc_count_by (fun _ _ _ _ _ _ us hl => match us, hl with | [_, _, _], _ => rfl) (fun ds d ⟨_, _, _, _, _, a, _⟩ => by rw [a]; rfl) fun f cdv A outer s H E ds d hr h => by
    obtain ⟨rs, c, n, h1, h2, rfl, rfl⟩ := h
    have G_parts_of := has_parts_of (P := P) (w := w) (base := base) T
    have G_count_in := has_count_in (P := P) (w := w) (base := base) T
    refine ⟨_, (pss_cons (ps_st 3 sc_count_by.nd (pe_has G_parts_of hr (pa_cons (pv 0) (pa_cons (pv 2) pa_nil)))) (pss_one (ps_ret (kb_sum T (pa_cons (pe_lc (own := [("run", 4), ("part", 5)]) (g := (gTup K 2 (gCons (gName 4) (gCons (gName 5) gNil)))) (tt := tYes) rfl sc_count_by.nd (pi_zipM false true T.f_zip (pa_cons (pv 0) (pa_cons (pv 3) pa_nil))) (by exact blkOk_by (by kernel_rfl)) (fun _ _ _ _ _ => (kpg_tup K (pgs_cons (pg_nm 4 sc_count_by.nd) (pgs_cons (pg_nm 5 sc_count_by.nd) pgs_nil)))) (fun _ _ _ _ _ => pts_nil) (fun _ _ _ _ _ => (pe_has G_count_in hr (pa_cons (pe_ix (kix_tup K) (pv 4) pe_int (fun _ _ => rfl)) (pa_cons (pv 1) (pa_cons (pv 5) pa_nil)))))) pa_nil))))), ?_⟩
    refine sg_seq (sg_asg (eg_call (spF_g ⟨rs, n, h1, rfl, rfl⟩) (ea_cons (eg_var rfl) (ea_cons (eg_var rfl) ea_nil)))) ((sg_ret (eg_cb (cg_sum (ns := (rs.zip (partsOf rs n)).map fun p => ((countIn (sg p.1.2) c p.2 : Nat) : Int))) (ea_cons ?_ ea_nil))).is ?_)
    · rw [List.map_map]
      refine eg_lcM (K := K) (q := fun p : Run × Nat => PyData.tuple [runD p.1, .int (p.2 : Nat)]) ((it_zip (ea_cons (eg_var rfl) (ea_cons (eg_var rfl) ea_nil))).is ?_) ?_ fun p hp => ⟨_, gp2, by simp, ?_, rfl⟩
      · rw [pairUp_map]
      · rw [List.length_zip]
        omega
      · obtain ⟨a, b⟩ := h2 p.1 (List.of_mem_zip hp).1
        exact eg_call (spF_g ⟨p.1.2, c, p.2, a, b, rfl, rfl⟩) (ea_cons (eg_op (rg_ixT (atI_nat' (n := 1) rfl)) (eg_var rfl) eg_int) (ea_cons (eg_var rfl) (ea_cons (eg_var rfl) ea_nil)))
    · unfold countBy
      rw [← sum_nat, List.map_map]
      rfl
/-! has_in -/
def R_has_in (ds : List PD) (d : PD) : Prop := ∃ (x : Deal) (n : Nat), GoodDeal x ∧ ds = [dealD x, .int (n : Nat)] ∧ d = .tuple ((hasD x n).map fun k => .int (k : Nat))
theorem has_has_in : Has P w K mg base CX0 3 "has_in" ["deal", "coins"] (spF R_has_in) :=
  has_fn T.dHasIn sc_has_in (fun _ _ _ _ _ _ us hl => match us, hl with | [_, _], _ => rfl) (fun ds d ⟨_, _, _, a, _⟩ => by rw [a]; rfl) fun f cdv A outer s H E ds d hr h => by
    obtain ⟨x, n, hx, rfl, rfl⟩ := h
    have G_count_by := has_count_by (P := P) (w := w) (base := base) T
    have h6 := hx.names.hi
    have hf := hx.few
    refine ⟨_, (pss_cons (ps_asg (pv 0) (kpg_tup K (pgs_cons (pg_nm 2 sc_has_in.nd) (pgs_cons (pg_nm 3 sc_has_in.nd) pgs_nil)))) (pss_one (ps_ret (kb_tuple T (pa_cons (pe_lc (own := [("number", 4)]) (g := (gName 4)) (tt := tYes) rfl sc_has_in.nd (pi_range1 rfl T.f_range (pa_cons (kb_len T (pa_cons (pv 2) pa_nil)) pa_nil)) (by exact blkOk_by (by kernel_rfl)) (fun _ _ _ _ _ => (pg_nm 4 sc_has_in.nd)) (fun _ _ _ _ _ => pts_nil) (fun _ _ _ _ _ => (pe_has G_count_by hr (pa_cons (pv 3) (pa_cons (pe_ix ix_str (pe_cS T.c_DIGITS) (pv 4) (fun _ _ => rfl)) (pa_cons (pv 1) pa_nil)))))) pa_nil))))), ?_⟩
    refine sg_seq (sg_asgP (eg_var rfl) gp2) ((sg_ret (eg_cb cg_tupleL (ea_cons (eg_lcM (K := K) (l := List.range x.names.length) (q := fun i : Nat => PyData.int (i : Nat)) (f := fun j => .int (countBy x.runs (48 + j) n : Nat)) ((it_range1 (ea_cons ((eg_cb cg_lenT (ea_cons (eg_var rfl) ea_nil)).is (by rw [List.length_map])) ea_nil) (by omega) (by omega)).is (by rw [Int.toNat_natCast, upto_map])) (by rw [List.length_range]; omega) fun j hj => ⟨_, gp_name, by simp, ?_, rfl⟩) ea_nil))).is ?_)
    · have hj' := List.mem_range.mp hj
      exact eg_call (spF_g ⟨x.runs, 48 + j, n, by rw [x.runs_length]; omega, fun r hr => ⟨(hx.figs r hr).lo, Nat.le_trans (hx.figs r hr).hi (by decide)⟩, rfl, rfl⟩) (ea_cons (eg_var rfl) (ea_cons (eg_op (rg_ixS (by decide) (atI_nat' (digits_at j (by omega)))) eg_str (eg_var rfl)) (ea_cons (eg_var rfl) ea_nil)))
    · unfold hasD
      rw [List.map_map]
      rfl
/-! has -/
def R_has (ds : List PD) (d : PD) : Prop := ∃ (x : Deal) (n : Nat), GoodDeal x ∧ n ≤ 10 ^ 30 ∧ ds = [dealD x, .int (n : Nat)] ∧ d = .tuple ((hasD x n).map fun k => .int (k : Nat))
theorem has_has : Has P w K mg base CX0 4 "has" ["deal", "coins"] (spF R_has) :=
  has_fn T.dHas sc_has (fun _ _ _ _ _ _ us hl => match us, hl with | [_, _], _ => rfl) (fun ds d ⟨_, _, _, _, a, _⟩ => by rw [a]; rfl) fun f cdv A outer s H E ds d hr h => by
    obtain ⟨x, n, hx, hn, rfl, rfl⟩ := h
    have G_need_deal := has_need_deal (P := P) (w := w) (base := base) T
    have G_need_number := has_need_number (P := P) (w := w) (base := base) T
    have G_has_in := has_has_in (P := P) (w := w) (base := base) T
    refine ⟨_, (pss_cons (ps_expr (pe_has G_need_deal hr (pa_cons (pv 0) pa_nil))) (pss_one (ps_ret (pe_has G_has_in hr (pa_cons (pv 0) (pa_cons (pe_has G_need_number hr (pa_cons (pv 1) pa_nil)) pa_nil)))))), ?_⟩
    exact sg_seq (sg_drop (eg_call (spF_g ⟨x, hx, rfl, rfl⟩) (ea_cons (eg_var rfl) ea_nil))) (sg_ret (eg_call (spF_g ⟨x, n, hx, rfl, rfl⟩) (ea_cons (eg_var rfl) (ea_cons (eg_call (spF_g ⟨n, hn, rfl, rfl⟩) (ea_cons (eg_var rfl) ea_nil)) ea_nil))))
/-! leads_out -/
def R_leads_out (ds : List PD) (d : PD) : Prop := ∃ (x : Deal) (hs : List Str), GoodDeal x ∧ ds = [dealD x, .list (hs.map .str)] ∧ d = .bool (leadsOut x hs)
theorem has_leads_out : Has P w K mg base CX0 1 "leads_out" ["deal", "houses"] (spF R_leads_out) :=
  has_fn T.dLeadsOut sc_leads_out (fun _ _ _ _ _ _ us hl => match us, hl with | [_, _], _ => rfl) (fun ds d ⟨_, _, _, a, _⟩ => by rw [a]; rfl) fun f cdv A outer s H E ds d hr h => by
    obtain ⟨x, hs, hx, rfl, rfl⟩ := h
    have h6 := hx.names.hi
    have hf := hx.few
    refine ⟨_, (pss_one (ps_ret (kb_all T (pa_cons (pe_lc (own := [("coins", 3), ("figures", 4)]) (g := (gTup K 2 (gCons (gName 3) (gCons (gName 4) gNil)))) (tt := tYes) rfl sc_leads_out.nd (kpi_tup K (pe_ix (kix_tup K) (pv 0) pe_int (fun _ _ => rfl))) (by exact blkOk_by (by kernel_rfl)) (fun _ _ _ _ _ => (kpg_tup K (pgs_cons (pg_nm 3 sc_leads_out.nd) (pgs_cons (pg_nm 4 sc_leads_out.nd) pgs_nil)))) (fun _ _ _ _ _ => pts_nil) (fun _ _ _ _ _ => (kb_any T (pa_cons (pe_lc (own := [("figure", 2)]) (g := (gName 2)) (tt := tYes) rfl sc_leads_out.nd (pi_str (pv 4)) (by exact blkOk_by (by kernel_rfl)) (fun _ _ _ _ _ => (pg_nm 2 sc_leads_out.nd)) (fun _ _ _ _ _ => pts_nil) (fun _ _ _ _ _ => (pe_cmpR (kop_nin K) (pe_ix (kix_tup K) (pe_ix (kix_tup K) (pv 0) pe_int (fun _ _ => rfl)) (kb_intS T (pa_cons (pv 2) pa_nil)) (fun _ _ => rfl)) (pv 1) rfl))) pa_nil)))) pa_nil)))), ?_⟩
    refine sg_ret (eg_cb (cg_all (ns := x.runs.map fun r => ((sg r.2).map fun c => !decide (x.names.getD (c - 48) Str.empty ∈ hs)).any id)) (ea_cons ?_ ea_nil))
    rw [List.map_map]
    refine eg_lcM (K := K) (q := runD) (it_tup (eg_op (rg_ixT (atI_nat' (n := 1) rfl)) (eg_var rfl) eg_int)) (by rw [x.runs_length]; omega) fun r hr' => ⟨_, gp2, by simp, eg_cb (cg_any (ns := (sg r.2).map fun c => !decide (x.names.getD (c - 48) Str.empty ∈ hs))) (ea_cons ?_ ea_nil), rfl⟩
    rw [List.map_map]
    have g := hx.figs r hr'
    refine eg_lcM (K := K) (q := fun c => PyData.str ⟨#[c]⟩) (it_str (eg_var rfl)) (by rw [sg_length]; exact Nat.le_trans g.hi (by decide)) fun c hc => ⟨_, gp_name, by simp, ?_, rfl⟩
    obtain ⟨g1, g2⟩ := g.all c hc
    have hc' : x.names[c - 48]? = some (x.names.getD (c - 48) Str.empty) := by
      rw [List.getD_eq_getElem?_getD, List.getElem?_eq_getElem (by omega)]
      rfl
    have hd := int_digit (c - 48) (by omega)
    rw [show 48 + (c - 48) = c by omega] at hd
    refine eg_op rg_ninL (eg_op (rg_ixT (i := ((c - 48 : Nat) : Int)) (atI_nat' (by rw [List.getElem?_map, hc']; rfl))) (eg_op (rg_ixT (d := namesD x.names) (atI_nat' (n := 0) rfl)) (eg_var rfl) eg_int) (eg_cb (cg_intS hd (by show 1 ≤ 640; decide)) (ea_cons (eg_var rfl) ea_nil))) (eg_var rfl)
end
end Stair
/-! ## StF7 -/
set_option Elab.async false
set_option linter.all false
set_option maxRecDepth 100000
set_option maxHeartbeats 1000000
namespace Stair
open PySem PySem.Spec PyProof.Rows L2 Evl
theorem houses_lt {n : Net} (h : GoodNet n) {i : Nat} {p q : Str × Deal} (hi : 0 < i) (hp : n[i - 1]? = some p) (hq : n[i]? = some q) : p.1.cps.toList < q.1.cps.toList := by
  have h1 := h.srt
  rw [List.pairwise_iff_getElem] at h1
  have l1 : i < n.length := by
    rcases Nat.lt_or_ge i n.length with z | z
    · exact z
    · rw [List.getElem?_eq_none z] at hq; cases hq
  have z := h1 (i - 1) i (by rw [List.length_map]; omega) (by rw [List.length_map]; omega) (by omega)
  rw [List.getElem_map, List.getElem_map] at z
  rw [List.getElem?_eq_getElem (by omega)] at hp hq
  cases hp
  cases hq
  exact z
section
variable {P : Program} {w : World} {K : Kx} {mg : Str → Option Value} {base : Heap} (T : Tp K mg)
include T
/-! is_house -/
def R_is_house (ds : List PD) (d : PD) : Prop := ∃ p : Str × Deal, GoodWord p.1 ∧ GoodDeal p.2 ∧ (∀ r ∈ p.2.runs, r.2.length ≤ 6) ∧ ds = [houseD p] ∧ d = .bool true
theorem has_is_house : Has P w K mg base CX0 4 "is_house" ["thing"] (spF R_is_house) :=
  has_fn T.dIsHouse sc_is_house (fun _ _ _ _ _ _ us hl => match us, hl with | [_], _ => rfl) (fun ds d ⟨_, _, _, _, a, _⟩ => by rw [a]; rfl) fun f cdv A outer s H E ds d hr h => by
    obtain ⟨p, hw, hx, hf, rfl, rfl⟩ := h
    have G_is_word := has_is_word (P := P) (w := w) (base := base) T
    have G_need_deal := has_need_deal (P := P) (w := w) (base := base) T
    have h60 := hx.few
    refine ⟨_, (pss_cons (ps_if (PW.pt (pw_or (pt_not (pt_val (kb_isi T (pv 0) T.f_tuple bo_tuple))) (pw_or (pt_cmpR op_ne (kb_len T (pa_cons (pv 0) pa_nil)) pe_int (nomark _)) (pw_or1 (pt_not (pt_val (pe_has G_is_word hr (pa_cons (pe_ix (kix_tup K) (pv 0) pe_int (fun _ _ => rfl)) pa_nil)))))))) (pss_one (ps_ret pe_bl)) pss_nil) (pss_cons (ps_try_thru0 (pss_one (ps_expr (pe_has G_need_deal hr (pa_cons (pe_ix (kix_tup K) (pv 0) pe_int (fun _ _ => rfl)) pa_nil))))) (pss_one (ps_ret (kb_all T (pa_cons (pe_lc (own := [("coins", 1), ("figures", 2)]) (g := (gTup K 2 (gCons (gName 1) (gCons (gName 2) gNil)))) (tt := tYes) rfl sc_is_house.nd (kpi_tup K (pe_ix (kix_tup K) (pe_ix (kix_tup K) (pv 0) pe_int (fun _ _ => rfl)) pe_int (fun _ _ => rfl))) (by exact blkOk_by (by kernel_rfl)) (fun _ _ _ _ _ => (kpg_tup K (pgs_cons (pg_nm 1 sc_is_house.nd) (pgs_cons (pg_nm 2 sc_is_house.nd) pgs_nil)))) (fun _ _ _ _ _ => pts_nil) (fun _ _ _ _ _ => (pe_cmpR op_le (kb_len T (pa_cons (pv 2) pa_nil)) (pe_cI T.c_MOST_FIGURES_nets) (nomark _)))) pa_nil)))))), ?_⟩
    refine sg_seq (sg_ifF ((et_or (et_not (et_B (eg_isi (.inr (.inr (.inr rfl))) ⟨td_house _, by simp [houseD]⟩ (eg_var rfl)))) fun _ => et_or (et_test (eg_op rg_neI (eg_cb cg_lenT (ea_cons (eg_var rfl) ea_nil)) eg_int)) fun _ => et_not (et_B (eg_call (spF_g ⟨p.1, hw, rfl, rfl⟩) (ea_cons (eg_op (rg_ixT (atI_nat' (n := 0) rfl)) (eg_var rfl) eg_int) ea_nil)))).is ?_) sg_next)
      (sg_seq (sg_drop (eg_call (spF_g ⟨p.2, hx, rfl, rfl⟩) (ea_cons (eg_op (rg_ixT (atI_nat' (n := 1) rfl)) (eg_var rfl) eg_int) ea_nil)))
      ((sg_ret (eg_cb (cg_all (ns := p.2.runs.map fun r => decide (((r.2.length : Nat) : Int) ≤ 6))) (ea_cons ?_ ea_nil))).is ?_))
    · simp [isA, houseD]
    · rw [List.map_map]
      exact eg_lcM (K := K) (q := runD) (it_tup (eg_op (rg_ixT (d := runsD p.2.runs) (atI_nat' (n := 1) rfl)) (eg_op (rg_ixT (d := dealD p.2) (atI_nat' (n := 1) rfl)) (eg_var rfl) eg_int) eg_int)) (by rw [p.2.runs_length]; omega) fun r hr' => ⟨_, gp2, by simp, eg_op rg_le (eg_cb (cg_lenS (Nat.le_trans (hf r hr') (by decide))) (ea_cons (eg_var rfl) ea_nil)) eg_int, rfl⟩
    · have e : ((p.2.runs.map fun r => decide (((r.2.length : Nat) : Int) ≤ 6)).all id) = true := by
        rw [List.all_map]
        exact List.all_eq_true.mpr fun r hr' => decide_eq_true (by have := hf r hr'; omega)
      rw [e]
/-! need_net -/
def R_need_net (ds : List PD) (d : PD) : Prop := ∃ n : Net, GoodNet n ∧ ds = [netD n] ∧ d = netD n
theorem has_need_net : Has P w K mg base CX0 5 "need_net" ["thing"] (spF R_need_net) :=
  has_fn T.dNeedNet sc_need_net (fun _ _ _ _ _ _ us hl => match us, hl with | [_], _ => rfl) (fun ds d ⟨_, _, a, _⟩ => by rw [a]; rfl) fun f cdv A outer s H E ds d hr h => by
    obtain ⟨n, hn, rfl, rfl⟩ := h
    have G_is_house := has_is_house (P := P) (w := w) (base := base) T
    have h1 := hn.lo
    have h4 := hn.hi
    refine ⟨_, (pss_cons (ps_if (PW.pt (pw_or (pt_not (pt_val (kb_isi T (pv 0) T.f_tuple bo_tuple))) (pw_or1 (pt_not (pt_chain op_le op_le pe_int (kb_len T (pa_cons (pv 0) pa_nil)) (pe_cI T.c_MOST_HOUSES)))))) (pss_one ps_never) pss_nil) (pss_cons (ps_for PassesOwn.never rfl (pi_enumM false T.f_enumerate (pa_cons (pv 0) pa_nil)) (kpg_tup K (pgs_cons (pg_nm 1 sc_need_net.nd) (pgs_cons (pg_nm 2 sc_need_net.nd) pgs_nil))) (pss_one (ps_if (PW.pt (pw_or (pt_not (pt_val (pe_has G_is_house hr (pa_cons (pv 2) pa_nil)))) (pw_or1 (PW.pt (pw_and (pt_cmpR op_gt (pv 1) pe_int (nomark _)) (pw_and1 (pt_cmpR op_le_str (pe_ix (kix_tup K) (pv 2) pe_int (fun _ _ => rfl)) (pe_ix (kix_tup K) (pe_ix (kix_tup K) (pv 0) (pe_op op_sub (pv 1) pe_int) (fun _ _ => rfl)) pe_int (fun _ _ => rfl)) (nomark _)))))))) (pss_one ps_never) pss_nil))) (pss_one (ps_ret (pv 0))))), ?_⟩
    refine sg_seq (sg_ifF ((et_or (et_not (et_B (eg_isi (.inr (.inr (.inr rfl))) ⟨td_net _, by simp [netD]⟩ (eg_var rfl)))) fun _ => et_not (et_test (eg_chain rg_le rg_le eg_int (eg_cb cg_lenT (ea_cons (eg_var rfl) ea_nil)) eg_int))).is ?_) sg_next)
      (sg_seq (sg_for (fun _ => [some (netD n), none, none]) (it_enum (ea_cons (eg_var rfl) ea_nil)) (Le.refl _) ?_) (sg_ret (eg_var rfl)))
    · have e1 : (1 : Int) ≤ (n.length : Nat) := by omega
      have e2 : ((n.length : Nat) : Int) ≤ 4 := by omega
      simp [isA, netD, e1, e2]
    · intro i d hd
      rw [numbered_map, List.getElem?_map] at hd
      obtain ⟨⟨r, j⟩, hz, rfl⟩ := Option.map_eq_some_iff.mp hd
      rw [List.getElem?_zipIdx] at hz
      obtain ⟨y, hy, e⟩ := Option.map_eq_some_iff.mp hz
      obtain ⟨e1, e2⟩ := Prod.mk.inj e
      rw [Nat.zero_add] at e2
      subst e1 e2
      have hm := List.mem_of_getElem? hy
      refine ⟨_, _, gp2, sg_ifF ((et_or (b := false) (et_not (et_B (eg_call (spF_g ⟨y, hn.word y hm, hn.deal y hm, hn.figs y hm, rfl, rfl⟩) (ea_cons (eg_var rfl) ea_nil)))) fun _ => ?_).is rfl) sg_next, .keep (.non (.non .nil))⟩
      by_cases hi : 0 < i
      · have hlt : i - 1 < n.length := by
          have : i < n.length := by
            rcases Nat.lt_or_ge i n.length with z | z
            · exact z
            · rw [List.getElem?_eq_none z] at hy; cases hy
          omega
        have hp : n[i - 1]? = some n[i - 1] := List.getElem?_eq_getElem hlt
        have lt := houses_lt hn hi hp hy
        refine (et_and (et_test (eg_op rg_gt (eg_var rfl) eg_int)) fun _ => et_test (eg_op rg_leS (eg_op (rg_ixT (d := .str y.1) (atI_nat' (n := 0) rfl)) (eg_var rfl) eg_int)
          (eg_op (rg_ixT (d := .str n[i - 1].1) (atI_nat' (n := 0) rfl)) (eg_op (rg_ixT (d := houseD n[i - 1]) (i := ((i - 1 : Nat) : Int)) (atI_nat' (by rw [List.getElem?_map, hp]; rfl))) (eg_var rfl) ((eg_op rg_sub (eg_var rfl) eg_int).is (by congr 1; omega))) eg_int))).is ?_
        simp [lt]
      · exact (et_and (b := false) (et_test (eg_op rg_gt (eg_var rfl) eg_int)) fun z => absurd (of_decide_eq_true z) (by omega)).is (by simp)
/-! shut_in -/
def R_shut_in (ds : List PD) (d : PD) : Prop := ∃ n : Net, GoodNet n ∧ Opens n ∧ ds = [netD n] ∧ d = .list []
theorem has_shut_in : Has P w K mg base CX0 2 "shut_in" ["net"] (spF R_shut_in) :=
  has_fn T.dShutIn sc_shut_in (fun _ _ _ _ _ _ us hl => match us, hl with | [_], _ => rfl) (fun ds d ⟨_, _, _, a, _⟩ => by rw [a]; rfl) fun f cdv A outer s H E ds d hr h => by
    obtain ⟨n, hn, ho, rfl, rfl⟩ := h
    have G_houses_of := has_houses_of (P := P) (w := w) (base := base) T
    have G_leads_out := has_leads_out (P := P) (w := w) (base := base) T
    have h1 := hn.lo
    have h4 := hn.hi
    obtain ⟨N, r1, r2, r3⟩ := opens_run ho 0 (.inr (by omega))
    refine ⟨_, (pss_cons (ps_par2A 1 2 sc_shut_in.nd (pa_cons (kb_list T (pa_cons (pv 0) pa_nil)) (pa_cons pe_int pa_nil))) (pss_cons (ps_while PassesOwn.never (pt_cmpR op_ne (kb_len T (pa_cons (pv 1) pa_nil)) (pv 2) (nomark _)) (pss_cons (ps_asg (pe_tup (pa_cons (kb_len T (pa_cons (pv 1) pa_nil)) (pa_cons (pe_has G_houses_of hr (pa_cons (pv 1) pa_nil)) pa_nil))) (kpg_tup K (pgs_cons (pg_nm 2 sc_shut_in.nd) (pgs_cons (pg_nm 3 sc_shut_in.nd) pgs_nil)))) (pss_one (ps_slc 1 (own := [("pair", 4)]) (g := (gName 4)) sc_shut_in.nd (kpi_list K (pv 1)) (by exact blkOk_by (by kernel_rfl)) (fun _ _ _ _ _ => (pg_nm 4 sc_shut_in.nd)) (fun _ _ _ _ _ => (pts_one (pt_not (pt_val (pe_has G_leads_out hr (pa_cons (pe_ix (kix_tup K) (pv 4) pe_int (fun _ _ => rfl)) (pa_cons (pv 3) pa_nil))))))) (fun _ _ _ _ _ => (pv 4)))))) (pss_one (ps_ret (pe_has G_houses_of hr (pa_cons (pv 1) pa_nil)))))), ?_⟩
    refine sg_seq (sg_par (ea_cons (eg_cb cg_listT (ea_cons (eg_var rfl) ea_nil)) (ea_cons eg_int ea_nil))) (sg_seq (sg_while (fun i => [some (netD n), some (.list ((shutAt n 0 i).1.map houseD)), some (.int ((shutAt n 0 i).2 : Nat)), none, none]) N (Le.refl _) (fun i hi => ?_) (fun i hi => ?_) ?_)
      (sg_ret (eg_call (spF_g ⟨[], by decide, .inr rfl, rfl⟩) (ea_cons (eg_var (by rw [r2]; rfl)) ea_nil))))
    · refine (et_test (eg_op rg_neI (eg_cb cg_lenL (ea_cons (eg_var rfl) ea_nil)) (eg_var rfl))).is ?_
      have := r1 i hi
      rw [List.length_map]
      have z : ((shutAt n 0 i).1.length : Int) ≠ ((shutAt n 0 i).2 : Nat) := by omega
      simp [z]
    · have hl := shutAt_len n 0 i
      refine ⟨_, sg_seq (sg_asgP (eg_tup (ea_cons (eg_cb cg_lenL (ea_cons (eg_var rfl) ea_nil)) (ea_cons (eg_call (spF_g ⟨(shutAt n 0 i).1, by omega, .inr rfl, rfl⟩) (ea_cons (eg_var rfl) ea_nil)) ea_nil)) (Nat.le_of_ble_eq_true rfl)) gp2)
        (sg_asg (eg_lcF (K := K) (l := (shutAt n 0 i).1) (q := houseD) (f := houseD) (b := fun p => !leadsOut p.2 ((shutAt n 0 i).1.map (·.1))) (it_list (eg_var rfl)) (by omega) fun p hp => ⟨_, gp_name, by simp, et_not (et_B (eg_call (spF_g ⟨p.2, (shutAt n 0 i).1.map (·.1), hn.deal p (shutAt_sub n 0 i p hp), rfl, rfl⟩) (ea_cons (eg_op (rg_ixT (atI_nat' (n := 1) rfl)) (eg_var rfl) eg_int) (ea_cons (eg_var rfl) ea_nil)))), fun _ => ⟨eg_var rfl, td_house p⟩⟩)), ?_⟩
      rw [List.length_map]
      exact .keep (.keep (.keep (.non (.non .nil))))
    · refine (et_test (eg_op rg_neI (eg_cb cg_lenL (ea_cons (eg_var rfl) ea_nil)) (eg_var rfl))).is ?_
      rw [r2, r3]
      rfl
/-! need_open -/
def R_need_open (ds : List PD) (d : PD) : Prop := ∃ n : Net, GoodNet n ∧ Opens n ∧ ds = [netD n] ∧ d = netD n
theorem has_need_open : Has P w K mg base CX0 6 "need_open" ["net"] (spF R_need_open) :=
  has_fn T.dNeedOpen sc_need_open (fun _ _ _ _ _ _ us hl => match us, hl with | [_], _ => rfl) (fun ds d ⟨_, _, _, a, _⟩ => by rw [a]; rfl) fun f cdv A outer s H E ds d hr h => by
    obtain ⟨n, hn, ho, rfl, rfl⟩ := h
    have G_need_net := has_need_net (P := P) (w := w) (base := base) T
    have G_shut_in := has_shut_in (P := P) (w := w) (base := base) T
    have hu64 := hu_64 (X := (cxOf CX0 P w K mg base ["net"] "need_open" (defScope sNeedOpen) f cdv A outer s H E).nox) hr
    refine ⟨_, (pss_cons (ps_if (pt_cmpR (kop_neD K hu64) (pe_has G_shut_in hr (pa_cons (pe_has G_need_net hr (pa_cons (pv 0) pa_nil)) pa_nil)) (pe_lst pa_nil) (nomark _)) (pss_one ps_never) pss_nil) (pss_one (ps_ret (pv 0)))), ?_⟩
    exact sg_seq (sg_ifF ((et_test (eg_op (rg_neD (by decide) (by decide)) (eg_call (spF_g ⟨n, hn, ho, rfl, rfl⟩) (ea_cons (eg_call (spF_g ⟨n, hn, rfl, rfl⟩) (ea_cons (eg_var rfl) ea_nil)) ea_nil)) (eg_lst ea_nil (Nat.zero_le _)))).is rfl) sg_next) (sg_ret (eg_var rfl))
end
end Stair
/-! ## StF8 -/
set_option Elab.async false
set_option linter.all false
set_option maxRecDepth 100000
set_option maxHeartbeats 1000000
namespace Stair
open PySem PySem.Spec PyProof.Rows L2 Evl
def signsT : Str := "0123456789abcdefghijklmnopqrstuvwxyz"
theorem signs_at : ∀ j : Nat, j < 10 → (sg signsT)[j]? = some (48 + j) := by decide +kernel
/-- a promise whose result is told by what holds of it -/
def spQ (R : List PD → (PD → Prop) → Prop) : Sp := fun vs H Q _ => ∃ ds p, Dts H vs ds ∧ R ds p ∧ ∀ f, p f → ∀ v H', Ex H H' → Dt H' v f → Q v H'
theorem eg_callQ {Γ : En} {R : List PD → (PD → Prop) → Prop} {E : XK} {ta : TA} {ds : List PD} {p : PD → Prop} (h : EaG ta Γ ds) (hp : R ds p) : ∀ σ H, EOk H σ Γ → ∀ Q : VK, (∀ f, p f → ∀ v H', Ex H H' → Dt H' v f → Q v H') → tCall (spQ R) [] E ta σ H Q := fun σ H ok Q q =>
  h σ H ok _ fun vs H1 e1 r => by
    rw [List.append_nil]
    exact ⟨ds, p, r, hp, fun f hf v H' e2 d => q f hf v H' (e1.trans e2) d⟩
theorem least_of {p : Nat → Prop} : ∀ n, p n → ∃ j, p j ∧ ∀ i, i < j → ¬ p i := by
  intro n
  induction n using Nat.strongRecOn with
  | ind n ih =>
    intro h
    by_cases q : ∃ i, i < n ∧ p i
    · obtain ⟨i, h1, h2⟩ := q
      exact ih i h1 h2
    · exact ⟨n, h, fun i hi hp => q ⟨i, hi, hp⟩⟩
theorem sg_join : ∀ l : List Str, sg (Str.join Str.empty l) = (l.map sg).flatten
  | [] => rfl
  | [a] => by
    show sg a = _
    simp
  | a :: b :: r => by
    show sg (a ++ Str.empty ++ Str.join Str.empty (b :: r)) = _
    rw [sg_append, sg_append, sg_join (b :: r), List.map_cons (l := b :: r), List.flatten_cons]
    have : sg Str.empty = [] := rfl
    rw [this, List.append_nil]
theorem join_signs (l : List Nat) : Txt.join Str.empty (l.map fun c => (⟨#[c]⟩ : Str)) = mk l := by
  rw [show Txt.join Str.empty (l.map fun c => (⟨#[c]⟩ : Str)) = Str.join Str.empty (l.map fun c => (⟨#[c]⟩ : Str)) from PySem.StrLaws.glued_eq_join _ _]
  apply Str.ext
  show sg _ = sg (mk l)
  rw [sg_join, sg_mk, List.map_map]
  induction l with
  | nil => rfl
  | cons a r ih => rw [List.map_cons, List.flatten_cons, ih]; rfl
theorem lt_irr (a : Str) : ¬ a.cps.toList < a.cps.toList := List.lt_irrefl _
theorem names_nodup {ns : List Str} (h : ns.Pairwise Str.lt) : ns.Nodup := h.imp fun {a b} hab e => by
  subst e
  exact lt_irr a hab
theorem idx_first {ns : List Str} (hn : ns.Nodup) {k : Nat} {a : Str} (h : ns[k]? = some a) : ∀ m, m < k → ns[m]? ≠ some a := fun m hm e => by
  have l1 : m < ns.length := by
    rcases Nat.lt_or_ge m ns.length with q | q
    · exact q
    · rw [List.getElem?_eq_none q] at e; cases e
  have := (List.getElem?_inj l1 hn).mp (e.trans h.symm)
  omega
section
variable {P : Program} {w : World} {K : Kx} {mg : Str → Option Value} {base : Heap} (T : Tp K mg)
include T
/-! signed_runs: by the deal's own names nothing changes -/
def R_signed_runs (ds : List PD) (d : PD) : Prop := ∃ x : Deal, GoodDeal x ∧ ds = [dealD x, .list (x.names.map .str)] ∧ d = .list (x.runs.map runD)
theorem has_signed_runs : Has P w K mg base CX0 1 "signed_runs" ["deal", "names"] (spF R_signed_runs) :=
  has_fn T.dSignedRuns sc_signed_runs (fun _ _ _ _ _ _ us hl => match us, hl with | [_, _], _ => rfl) (fun ds d ⟨_, _, a, _⟩ => by rw [a]; rfl) fun f cdv A outer s H E ds d hr h => by
    obtain ⟨x, hx, rfl, rfl⟩ := h
    have h6 := hx.names.hi
    have hf := hx.few
    have nd := names_nodup hx.names.srt
    refine ⟨_, (pss_cons (ps_st 2 sc_signed_runs.nd (pe_lc (own := [("name", 3)]) (g := (gName 3)) (tt := tYes) rfl sc_signed_runs.nd (kpi_tup K (pe_ix (kix_tup K) (pv 0) pe_int (fun _ _ => rfl))) (by exact blkOk_by (by kernel_rfl)) (fun _ _ _ _ _ => (pg_nm 3 sc_signed_runs.nd)) (fun _ _ _ _ _ => pts_nil) (fun _ _ _ _ _ => (pe_ix ix_str (pe_cS T.c_SIGNS) (km_index K (pv 1) (pa_cons (pv 3) pa_nil)) (fun _ _ => rfl))))) (pss_one (ps_ret (pe_lc (own := [("coins", 5), ("figures", 6)]) (g := (gTup K 2 (gCons (gName 5) (gCons (gName 6) gNil)))) (tt := tYes) rfl sc_signed_runs.nd (kpi_tup K (pe_ix (kix_tup K) (pv 0) pe_int (fun _ _ => rfl))) (by exact blkOk_by (by kernel_rfl)) (fun _ _ _ _ _ => (kpg_tup K (pgs_cons (pg_nm 5 sc_signed_runs.nd) (pgs_cons (pg_nm 6 sc_signed_runs.nd) pgs_nil)))) (fun _ _ _ _ _ => pts_nil) (fun _ _ _ _ _ => (pe_tup (pa_cons (pv 5) (pa_cons (km_join K pe_str (pa_cons (pe_lc (own := [("figure", 4)]) (g := (gName 4)) (tt := tYes) rfl sc_signed_runs.nd (pi_str (pv 6)) (by exact blkOk_by (by kernel_rfl)) (fun _ _ _ _ _ => (pg_nm 4 sc_signed_runs.nd)) (fun _ _ _ _ _ => pts_nil) (fun _ _ _ _ _ => (pe_ix (kix_list K) (pv 2) (kb_intS T (pa_cons (pv 4) pa_nil)) (fun _ _ => rfl)))) pa_nil)) pa_nil)))))))), ?_⟩
    refine sg_seq (sg_asg (d := .list ((List.range x.names.length).map fun k => .str ⟨#[48 + k]⟩)) ?_) (sg_ret ?_)
    · have e : x.names.map PyData.str = (x.names.zipIdx.map fun p => PyData.str p.1) := by
        have q : (fun p : Str × Nat => PyData.str p.1) = PyData.str ∘ Prod.fst := rfl
        rw [q, ← List.map_map, List.zipIdx_map_fst]
      refine EvG.is (eg_lcM (K := K) (l := x.names.zipIdx) (q := fun p => PyData.str p.1) (f := fun p => .str ⟨#[48 + p.2]⟩) (it_tup ((eg_op (rg_ixT (d := namesD x.names) (atI_nat' (n := 0) rfl)) (eg_var rfl) eg_int).is (by rw [← e]; rfl))) (by rw [List.length_zipIdx]; omega) fun p hp => ?_) ?_
      · obtain ⟨a, k⟩ := p
        have hk := List.mem_zipIdx_iff_getElem?.mp hp
        have hlt : k < x.names.length := by
          rcases Nat.lt_or_ge k x.names.length with q | q
          · exact q
          · rw [List.getElem?_eq_none q] at hk; cases hk
        exact ⟨_, gp_name, by simp, eg_op (rg_ixS (by decide) (atI_nat' (signs_at k (by omega)))) eg_str (eg_bm (mg_index hk (idx_first nd hk)) (eg_var rfl) (ea_cons (eg_var rfl) ea_nil)), rfl⟩
      · have q : (fun p : Str × Nat => PyData.str ⟨#[48 + p.2]⟩) = (fun k => PyData.str ⟨#[48 + k]⟩) ∘ Prod.snd := rfl
        rw [q, ← List.map_map, List.zipIdx_map_snd, List.range_eq_range']
    · refine eg_lcM (K := K) (q := runD) (f := runD) (it_tup (eg_op (rg_ixT (d := runsD x.runs) (atI_nat' (n := 1) rfl)) (eg_var rfl) eg_int)) (by rw [x.runs_length]; omega) fun r hr' => ⟨_, gp2, by simp, ?_, td_run r⟩
      have g := hx.figs r hr'
      have hlen : (((sg r.2).map fun c => (⟨#[c]⟩ : Str)).map (·.length)).sum = r.2.length := by
        rw [List.map_map, ← sg_length]
        induction sg r.2 with
        | nil => rfl
        | cons a l ih => rw [List.map_cons, List.sum_cons, ih, List.length_cons]; show 1 + _ = _; omega
      refine eg_tup (ea_cons (eg_var rfl) (ea_cons ((eg_bm (mg_join (ys := (sg r.2).map fun c => ⟨#[c]⟩) ?_) eg_str (ea_cons ?_ ea_nil)).is (by
        have z := join_signs (sg r.2)
        rw [mk_sg] at z
        exact congrArg PyData.str z)) ea_nil)) (Nat.le_of_ble_eq_true rfl)
      · have h2 := g.hi
        have h3 : Str.length (Str.ofString "") = 0 := by decide
        rw [hlen, h3]
        omega
      · rw [List.map_map]
        refine eg_lcM (K := K) (q := fun c => PyData.str ⟨#[c]⟩) (it_str (eg_var rfl)) (by rw [sg_length]; exact Nat.le_trans g.hi (by decide)) fun c hc => ⟨_, gp_name, by simp, ?_, rfl⟩
        obtain ⟨g1, g2⟩ := g.all c hc
        have hd := int_digit (c - 48) (by omega)
        rw [show 48 + (c - 48) = c by omega] at hd
        refine eg_op (rg_ixL (i := ((c - 48 : Nat) : Int)) (atI_nat' ?_)) (eg_var rfl) (eg_cb (cg_intS hd (by show 1 ≤ 640; decide)) (ea_cons (eg_var rfl) ea_nil))
        rw [List.getElem?_map, List.getElem?_range (by omega)]
        show some (PyData.str ⟨#[48 + (c - 48)]⟩) = _
        rw [show 48 + (c - 48) = c by omega]
        rfl
/-! goes_round: its round is that of its last figures -/
def R_goes_round (ds : List PD) (p : PD → Prop) : Prop := ∃ x : Deal, GoodDeal x ∧ ds = [dealD x] ∧ p = fun d => ∃ b : Int, d = .tuple [.int b, .int ((leastRoot (sg x.last)).length : Nat)]
end
end Stair
/-! ## StF9 -/
set_option Elab.async false
set_option linter.all false
set_option maxRecDepth 100000
set_option maxHeartbeats 1000000
namespace Stair
open PySem PySem.Spec PyProof.Rows L2 Evl
theorem turnN_length (l : List Nat) (k : Nat) : (turnN l k).length = l.length := by
  unfold turnN
  rw [List.length_append, List.length_drop, List.length_take]
  omega
theorem roundN_length {l : List Nat} (n : Nat) (h : 1 ≤ l.length) : (roundN l n).length = n := by
  unfold roundN
  rw [List.length_take, PyProof.Rows.lm_len_rep_flat]
  have := Nat.div_add_mod n l.length
  have h2 := Nat.mod_lt n (show 0 < l.length by omega)
  rw [Nat.add_mul, Nat.one_mul, Nat.mul_comm]
  omega
/-- the root after i runs -/
def rootAt (L : List (Nat × Str)) (r : List Nat) : Nat → List Nat
  | 0 => r
  | i + 1 => match L[i]? with
    | some p => turnN (rootAt L r i) ((0 - (p.1 : Int)) % ((rootAt L r i).length : Int)).toNat
    | none => rootAt L r i
def beginAt (L : List (Nat × Str)) (b : Int) : Nat → Int
  | 0 => b
  | i + 1 => match L[i]? with
    | some p => beginAt L b i - (p.1 : Int)
    | none => beginAt L b i
theorem rootAt_length (L : List (Nat × Str)) (r : List Nat) : ∀ i, (rootAt L r i).length = r.length
  | 0 => rfl
  | i + 1 => by
    unfold rootAt
    split
    · rw [turnN_length, rootAt_length L r i]
    · exact rootAt_length L r i
def sizeAt (p : Nat × Str) (r : List Nat) : Nat := min p.1 (p.2.length + r.length)
def mineAt (p : Nat × Str) (r : List Nat) : List Nat := roundN (turnN (sg p.2) (((p.1 : Int) - (sizeAt p r : Nat)) % (p.2.length : Int)).toNat) (sizeAt p r)
def othAt (p : Nat × Str) (r : List Nat) : List Nat := roundN (turnN r ((0 - (sizeAt p r : Nat) : Int) % (r.length : Int)).toNat) (sizeAt p r)
def spotAt (p : Nat × Str) (r : List Nat) : Option Nat := unlikeN (mineAt p r) (othAt p r) (mineAt p r).length
theorem leastRoot_len {l : List Nat} (h : 1 ≤ l.length) : 1 ≤ (leastRoot l).length ∧ (leastRoot l).length ≤ l.length := by
  unfold leastRoot
  split
  · rename_i k e
    obtain ⟨i, rfl, hi, _⟩ := rootN_some e
    rw [List.length_take]
    omega
  · exact ⟨h, Nat.le_refl _⟩
theorem has_fnQ {P : Program} {w : World} {K : Kx} {mg : Str → Option Value} {base : Heap} {k : Nat} {x : Str} {ps N : List Str} {st : Stmt} {R : List PD → (PD → Prop) → Prop} (D : ∃ f fd, FnP K x st f fd ∧ mg x = some (.ref f)) (S : FnScope N ps (defScope st)) (hb : ∀ (kV doc pm : Value) (an : Option Addr) (cdv ct : Value) (us : List Value), us.length = ps.length → bindArgs (PySem.W.fnOf x x (defArgs st) (defBody st) (defScope st) .none kV doc pm an cdv ct) ⟨us, []⟩ = pure (ps.zip us))
    (len : ∀ ds p, R ds p → ds.length = ps.length)
    (hbody : ∀ (f : Addr) (cdv : Value) (A : Around) (outer : List Env) (s : Shared) (H : Hp) (E : XK) (ds : List PD) (p : PD → Prop), Room k (A.deeper (envOfC x (defScope st) s.heap.objs.size f cdv)) → R ds p →
      ∃ t, PSs (cxOf CX0 P w K mg base N x (defScope st) f cdv A outer s H E).nox (defBody st) t ∧ ∃ d, p d ∧ SG t (ds.map some ++ List.replicate (N.length - ds.length) none) (.rt d)) : Has P w K mg base CX0 (k + 1) x ps (spQ R) :=
  has_of D S hb (fun vs H Q E ⟨ds, p, a, b, _⟩ => a.length.trans (len ds p b)) fun f cdv A outer s H vs Q E hr ⟨ds, p, a, b, c⟩ => let ⟨t, h1, d, h2, h3⟩ := hbody f cdv A outer s H E ds p hr b; ⟨t, h1, h3.body a (c d h2)⟩
theorem Deal.runs_init (x : Deal) : (x.runs.map runD).dropLast = x.init.map fun r => PyData.tuple [.int (r.1 : Nat), .str r.2] := by
  unfold Deal.runs
  rw [List.map_append, List.map_map]
  show (_ ++ [runD (none, x.last)]).dropLast = _
  rw [List.dropLast_concat]
  rfl
theorem sg_ex {t u : TS} {Γ Γ1 : En} {p : PD → Prop} (h : SG t Γ (.nx Γ1)) (h2 : ∃ d, p d ∧ SG u Γ1 (.rt d)) : ∃ d, p d ∧ SG (tSeq t u) Γ (.rt d) := let ⟨d, a, b⟩ := h2; ⟨d, a, sg_seq h b⟩
section
variable {P : Program} {w : World} {K : Kx} {mg : Str → Option Value} {base : Heap} (T : Tp K mg)
include T
theorem has_goes_round : Has P w K mg base CX0 4 "goes_round" ["deal"] (spQ R_goes_round) :=
  has_fnQ T.dGoesRound sc_goes_round (fun _ _ _ _ _ _ us hl => match us, hl with | [_], _ => rfl) (fun ds p ⟨_, _, a, _⟩ => by rw [a]; rfl) fun f cdv A outer s H E ds p hr h => by
    obtain ⟨x, hx, rfl, rfl⟩ := h
    have G_need_deal := has_need_deal (P := P) (w := w) (base := base) T
    have G_signed_runs := has_signed_runs (P := P) (w := w) (base := base) T
    have G_least_root := has_least_root (P := P) (w := w) (base := base) T
    have G_round_part := has_round_part (P := P) (w := w) (base := base) T
    have G_turned_figures := has_turned_figures (P := P) (w := w) (base := base) T
    have G_last_unlike := has_last_unlike (P := P) (w := w) (base := base) T
    refine ⟨_, (pss_cons (ps_expr (pe_has G_need_deal hr (pa_cons (pv 0) pa_nil))) (pss_cons (ps_par2A 1 2 sc_goes_round.nd (pa_cons (pe_has G_signed_runs hr (pa_cons (pv 0) (pa_cons (kb_list T (pa_cons (pe_ix (kix_tup K) (pv 0) pe_int (fun _ _ => rfl)) pa_nil)) pa_nil))) (pa_cons (kb_sum T (pa_cons (pe_lc (own := [("coins", 3), ("figures", 4)]) (g := (gTup K 2 (gCons (gName 3) (gCons (gName 4) gNil)))) (tt := tYes) rfl sc_goes_round.nd (kpi_tup K (pe_slice (ksl_tup K) (pe_ix (kix_tup K) (pv 0) pe_int (fun _ _ => rfl)) po_none (po_some (pe_un un_neg pe_int)))) (by exact blkOk_by (by kernel_rfl)) (fun _ _ _ _ _ => (kpg_tup K (pgs_cons (pg_nm 3 sc_goes_round.nd) (pgs_cons (pg_nm 4 sc_goes_round.nd) pgs_nil)))) (fun _ _ _ _ _ => pts_nil) (fun _ _ _ _ _ => (pv 3))) pa_nil)) pa_nil))) (pss_cons (ps_st 5 sc_goes_round.nd (pe_has G_least_root hr (pa_cons (pe_ix (kix_tup K) (pe_ix (kix_list K) (pv 1) (pe_un un_neg pe_int) (fun _ _ => rfl)) pe_int (fun _ _ => rfl)) pa_nil))) (pss_cons (ps_for PassesOwn.never rfl (kpi_list K (kpe_revL K (pe_slice (ksl_list K) (pv 1) po_none (po_some (pe_un un_neg pe_int))))) (kpg_tup K (pgs_cons (pg_nm 3 sc_goes_round.nd) (pgs_cons (pg_nm 4 sc_goes_round.nd) pgs_nil))) (pss_cons (ps_st 6 sc_goes_round.nd (kb_min T (pa_cons (pv 3) (pa_cons (pe_op op_add (kb_len T (pa_cons (pv 4) pa_nil)) (kb_len T (pa_cons (pv 5) pa_nil))) pa_nil)))) (pss_cons (ps_st 7 sc_goes_round.nd (pe_has G_round_part hr (pa_cons (pe_has G_turned_figures hr (pa_cons (pv 4) (pa_cons (pe_op op_sub (pv 3) (pv 6)) pa_nil))) (pa_cons (pv 6) pa_nil)))) (pss_cons (ps_st 8 sc_goes_round.nd (pe_has G_last_unlike hr (pa_cons (pv 7) (pa_cons (pe_has G_round_part hr (pa_cons (pe_has G_turned_figures hr (pa_cons (pv 5) (pa_cons (pe_op op_sub pe_int (pv 6)) pa_nil))) (pa_cons (pv 6) pa_nil))) pa_nil)))) (pss_cons (ps_if (pt_cmpR op_notN (pv 8) pe_non (nomark _)) (pss_one (ps_ret (pe_tup (pa_cons (pe_op op_add (pe_op op_add (pe_op op_sub (pv 2) (pv 6)) (pv 8)) pe_int) (pa_cons (kb_len T (pa_cons (pv 5) pa_nil)) pa_nil))))) pss_nil) (pss_cons (ps_st 5 sc_goes_round.nd (pe_has G_turned_figures hr (pa_cons (pv 5) (pa_cons (pe_op op_sub pe_int (pv 3)) pa_nil)))) (pss_one (ps_au 2 sc_goes_round.nd (pv 3) ip_sub)))))))) (pss_one (ps_ret (pe_tup (pa_cons pe_int (pa_cons (kb_len T (pa_cons (pv 5) pa_nil)) pa_nil))))))))), ?_⟩
    have hl1 := hx.last.lo
    have hl2 := hx.last.hi
    have hf := hx.few
    obtain ⟨q1, q2⟩ := leastRoot_len (l := sg x.last) (by rw [sg_length]; exact hl1)
    rw [sg_length] at q2
    refine sg_ex (sg_drop (eg_call (spF_g ⟨x, hx, rfl, rfl⟩) (ea_cons (eg_var rfl) ea_nil))) (sg_ex (sg_par (ea_cons (eg_call (spF_g ⟨x, hx, rfl, rfl⟩) (ea_cons (eg_var rfl) (ea_cons (eg_cb cg_listT (ea_cons (eg_op (rg_ixT (d := namesD x.names) (atI_nat' (n := 0) rfl)) (eg_var rfl) eg_int) ea_nil)) ea_nil))) (ea_cons (eg_cb (cg_sum (ns := x.init.map fun r => (r.1 : Int))) (ea_cons ?_ ea_nil)) ea_nil)))
      (sg_ex (sg_asg (eg_call (spF_g ⟨sg x.last, by rw [sg_length]; omega, rfl, rfl⟩) (ea_cons ((eg_op (rg_ixT (d := .str x.last) (atI_nat' (n := 1) rfl)) (eg_op (rg_ixL (d := runD (none, x.last)) (atI_last ?_)) (eg_var rfl) (eg_un ug_neg eg_int)) eg_int).is (by rw [mk_sg])) ea_nil))) ?_))
    · rw [List.map_map]
      exact eg_lcM (K := K) (q := fun r : Nat × Str => PyData.tuple [.int (r.1 : Nat), .str r.2]) (it_tup ((eg_slT (eg_op (rg_ixT (d := runsD x.runs) (atI_nat' (n := 1) rfl)) (eg_var rfl) eg_int) eo_none (eo_some (eg_un ug_neg eg_int))).is (by rw [cutP_init, x.runs_init]))) (by omega) fun r hr' => ⟨_, gp2, by simp, eg_var rfl, rfl⟩
    · rw [List.getLast?_map]
      unfold Deal.runs
      rw [List.getLast?_concat]
      rfl
    generalize hr0 : leastRoot (sg x.last) = r0 at q1 q2 ⊢
    let L := x.init.reverse
    let Γs : Nat → En := fun i => [some (dealD x), some (.list (x.runs.map runD)), some (.int (beginAt L (x.init.map fun r => (r.1 : Int)).sum i)), none, none, some (.str (mk (rootAt L r0 i))), none, none, none]
    have hL : L.length = x.init.length := List.length_reverse
    have hin : ∀ {i : Nat} {p : Nat × Str}, L[i]? = some p → 1 ≤ p.1 ∧ GoodFigs x.names.length p.2 := fun {i p} e => by
      have := hx.init p (List.mem_reverse.mp (List.mem_of_getElem? e))
      exact ⟨this.1, this.2.2⟩
    have hrl : ∀ i, (rootAt L r0 i).length = r0.length := rootAt_length L r0
    have at_ : ∀ {i : Nat} {p : Nat × Str}, L[i]? = some p → (L.map fun r => PyData.tuple [.int (r.1 : Nat), .str r.2])[i]? = some (.tuple [.int (p.1 : Nat), .str p.2]) := fun {i p} e => by
      rw [List.getElem?_map, e]
      rfl
    have len5 : ∀ {Γ : En} {l : List Nat} {j : Nat}, l.length ≤ 50000 → Γ[j]? = some (some (.str (mk l))) → EvG (tCB (rLenA K) (tCons (tVar j) tNil)) Γ (.int (l.length : Nat)) := fun {Γ l j} hl e => (eg_cb (cg_lenS (by rw [mk_length]; omega)) (ea_cons (eg_var e) ea_nil)).is (by rw [mk_length])
    have hsz : ∀ {i : Nat} {p : Nat × Str}, L[i]? = some p → sizeAt p (rootAt L r0 i) ≤ 800 := fun {i p} e => by
      have := (hin e).2.hi
      unfold sizeAt
      rw [hrl]
      omega
    have hm1 : ∀ {i : Nat} {p : Nat × Str}, L[i]? = some p → (mineAt p (rootAt L r0 i)).length = sizeAt p (rootAt L r0 i) := fun {i p} e => roundN_length _ (by rw [turnN_length, sg_length]; exact (hin e).2.lo)
    have ho1 : ∀ {i : Nat} {p : Nat × Str}, L[i]? = some p → (othAt p (rootAt L r0 i)).length = sizeAt p (rootAt L r0 i) := fun {i p} e => roundN_length _ (by rw [turnN_length, hrl]; exact q1)
    have szE : ∀ (p : Nat × Str) (r : List Nat), PyData.int (min ((p.1 : Nat) : Int) ((p.2.length : Nat) + (r.length : Nat))) = .int ((sizeAt p r : Nat) : Int) := fun p r => by
      unfold sizeAt
      congr 1
      omega
    have itE : (cutP (x.runs.map runD) none (some (-1))).reverse = L.map fun r => PyData.tuple [.int (r.1 : Nat), .str r.2] := by
      rw [cutP_init, x.runs_init, List.map_reverse]
    have rootS : ∀ {i : Nat} {p : Nat × Str}, L[i]? = some p → rootAt L r0 (i + 1) = turnN (rootAt L r0 i) ((0 - (p.1 : Int)) % ((rootAt L r0 i).length : Int)).toNat := fun {i p} e => by
      show (match L[i]? with | some p => _ | none => _) = _
      rw [e]
    have beginS : ∀ {i : Nat} {p : Nat × Str}, L[i]? = some p → beginAt L (x.init.map fun r => (r.1 : Int)).sum (i + 1) = beginAt L (x.init.map fun r => (r.1 : Int)).sum i - (p.1 : Int) := fun {i p} e => by
      show (match L[i]? with | some p => _ | none => _) = _
      rw [e]
    by_cases hex : ∃ j, ∃ p, L[j]? = some p ∧ (spotAt p (rootAt L r0 j)).isSome = true
    · obtain ⟨j0, hj0⟩ := hex
      obtain ⟨j, ⟨p, hp, hs⟩, hmin⟩ := least_of (p := fun j => ∃ p, L[j]? = some p ∧ (spotAt p (rootAt L r0 j)).isSome = true) j0 hj0
      obtain ⟨k, hk⟩ := Option.isSome_iff_exists.mp hs
      refine ⟨.tuple [.int (beginAt L (x.init.map fun r => (r.1 : Int)).sum j - (sizeAt p (rootAt L r0 j) : Nat) + (k : Nat) + 1), .int (r0.length : Nat)], ⟨_, rfl⟩, sg_seqR (sg_forR Γs j (at_ hp) ((it_list (eg_rev (eg_slL (eg_var rfl) eo_none (eo_some (eg_un ug_neg eg_int))))).is itE) (Le.refl _) (fun i d hij hd => ?_) ⟨_, gp2, ?_⟩)⟩
      · rw [List.getElem?_map] at hd
        obtain ⟨p, hp, rfl⟩ := Option.map_eq_some_iff.mp hd
        have hn : spotAt p (rootAt L r0 i) = none := by
          cases e : spotAt p (rootAt L r0 i) with
          | none => rfl
          | some k => exact absurd ⟨p, hp, by rw [e]; rfl⟩ (hmin i hij)
        exact ⟨_, _, gp2, sg_seq (sg_asg ((eg_cb cg_min (ea_cons (eg_var rfl) (ea_cons (eg_op rg_add ((eg_cb (cg_lenS (by have := (hin hp).2.hi; omega)) (ea_cons (eg_var rfl) ea_nil))) (len5 (by rw [hrl]; omega) rfl)) ea_nil))).is (szE p (rootAt L r0 i))))
              (sg_seq (sg_asg (eg_call (spF_g ⟨mk (turnN (sg p.2) (((p.1 : Int) - (sizeAt p (rootAt L r0 i) : Nat)) % (p.2.length : Int)).toNat), sizeAt p (rootAt L r0 i), by rw [mk_length, turnN_length, sg_length]; exact (hin hp).2.lo, by rw [mk_length, turnN_length, sg_length]; have := (hin hp).2.hi; have := hsz hp; omega, rfl, by rw [sg_mk]; rfl⟩) (ea_cons (eg_call (spF_g ⟨p.2, (p.1 : Int) - (sizeAt p (rootAt L r0 i) : Nat), (hin hp).2.lo, by have := (hin hp).2.hi; omega, rfl, rfl⟩) (ea_cons (eg_var rfl) (ea_cons (eg_op rg_sub (eg_var rfl) (eg_var rfl)) ea_nil))) (ea_cons (eg_var rfl) ea_nil))))
              (sg_seq (sg_asg (eg_call (spF_g ⟨mineAt p (rootAt L r0 i), othAt p (rootAt L r0 i), by rw [hm1 hp, ho1 hp]; exact Nat.le_refl _, by rw [ho1 hp]; have := hsz hp; omega, rfl, rfl⟩) (ea_cons (eg_var rfl) (ea_cons (eg_call (spF_g ⟨mk (turnN (rootAt L r0 i) ((0 - (sizeAt p (rootAt L r0 i) : Nat) : Int) % ((rootAt L r0 i).length : Int)).toNat), sizeAt p (rootAt L r0 i), by rw [mk_length, turnN_length, hrl]; exact q1, by rw [mk_length, turnN_length, hrl]; have := hsz hp; omega, rfl, by rw [sg_mk]; rfl⟩) (ea_cons (eg_call (spF_g ⟨mk (rootAt L r0 i), 0 - (sizeAt p (rootAt L r0 i) : Nat), by rw [mk_length, hrl]; exact q1, by rw [mk_length, hrl]; omega, rfl, by rw [sg_mk, mk_length]⟩) (ea_cons (eg_var rfl) (ea_cons (eg_op rg_sub eg_int (eg_var rfl)) ea_nil))) (ea_cons (eg_var rfl) ea_nil))) ea_nil)))) (sg_seq (sg_ifF ((et_test (eg_op rg_notN (eg_var rfl) eg_non)).is (by rw [show unlikeN (mineAt p (rootAt L r0 i)) (othAt p (rootAt L r0 i)) (mineAt p (rootAt L r0 i)).length = none from hn]; rfl)) sg_next) (sg_seq (sg_asg (eg_call (spF_g ⟨mk (rootAt L r0 i), 0 - (p.1 : Nat), by rw [mk_length, hrl]; exact q1, by rw [mk_length, hrl]; omega, rfl, by rw [sg_mk, mk_length]⟩) (ea_cons (eg_var rfl) (ea_cons (eg_op rg_sub eg_int (eg_var rfl)) ea_nil)))) (sg_aug rfl (eg_var rfl) rg_isubI))))), by
        show Le [some (dealD x), some (.list (x.runs.map runD)), some (.int (beginAt L (x.init.map fun r => (r.1 : Int)).sum (i + 1))), none, none, some (.str (mk (rootAt L r0 (i + 1)))), none, none, none] _
        rw [rootS hp, beginS hp]
        exact .keep (.keep (.keep (.non (.non (.keep (.non (.non (.non .nil))))))))⟩
      · exact sg_seq (sg_asg ((eg_cb cg_min (ea_cons (eg_var rfl) (ea_cons (eg_op rg_add ((eg_cb (cg_lenS (by have := (hin hp).2.hi; omega)) (ea_cons (eg_var rfl) ea_nil))) (len5 (by rw [hrl]; omega) rfl)) ea_nil))).is (szE p (rootAt L r0 j))))
              (sg_seq (sg_asg (eg_call (spF_g ⟨mk (turnN (sg p.2) (((p.1 : Int) - (sizeAt p (rootAt L r0 j) : Nat)) % (p.2.length : Int)).toNat), sizeAt p (rootAt L r0 j), by rw [mk_length, turnN_length, sg_length]; exact (hin hp).2.lo, by rw [mk_length, turnN_length, sg_length]; have := (hin hp).2.hi; have := hsz hp; omega, rfl, by rw [sg_mk]; rfl⟩) (ea_cons (eg_call (spF_g ⟨p.2, (p.1 : Int) - (sizeAt p (rootAt L r0 j) : Nat), (hin hp).2.lo, by have := (hin hp).2.hi; omega, rfl, rfl⟩) (ea_cons (eg_var rfl) (ea_cons (eg_op rg_sub (eg_var rfl) (eg_var rfl)) ea_nil))) (ea_cons (eg_var rfl) ea_nil))))
              (sg_seq (sg_asg (eg_call (spF_g ⟨mineAt p (rootAt L r0 j), othAt p (rootAt L r0 j), by rw [hm1 hp, ho1 hp]; exact Nat.le_refl _, by rw [ho1 hp]; have := hsz hp; omega, rfl, rfl⟩) (ea_cons (eg_var rfl) (ea_cons (eg_call (spF_g ⟨mk (turnN (rootAt L r0 j) ((0 - (sizeAt p (rootAt L r0 j) : Nat) : Int) % ((rootAt L r0 j).length : Int)).toNat), sizeAt p (rootAt L r0 j), by rw [mk_length, turnN_length, hrl]; exact q1, by rw [mk_length, turnN_length, hrl]; have := hsz hp; omega, rfl, by rw [sg_mk]; rfl⟩) (ea_cons (eg_call (spF_g ⟨mk (rootAt L r0 j), 0 - (sizeAt p (rootAt L r0 j) : Nat), by rw [mk_length, hrl]; exact q1, by rw [mk_length, hrl]; omega, rfl, by rw [sg_mk, mk_length]⟩) (ea_cons (eg_var rfl) (ea_cons (eg_op rg_sub eg_int (eg_var rfl)) ea_nil))) (ea_cons (eg_var rfl) ea_nil))) ea_nil)))) (sg_seqR (sg_ifT ((et_test (eg_op rg_notN (eg_var rfl) eg_non)).is (by rw [show unlikeN (mineAt p (rootAt L r0 j)) (othAt p (rootAt L r0 j)) (mineAt p (rootAt L r0 j)).length = some k from hk]; rfl)) ((sg_ret (eg_tup (ea_cons (eg_op rg_add (eg_op rg_add (eg_op rg_sub (eg_var rfl) (eg_var rfl)) ((eg_var rfl).is (by rw [show unlikeN (mineAt p (rootAt L r0 j)) (othAt p (rootAt L r0 j)) (mineAt p (rootAt L r0 j)).length = some k from hk]; rfl))) eg_int) (ea_cons (len5 (by rw [hrl]; omega) rfl) ea_nil)) (Nat.le_of_ble_eq_true rfl))).is (by rw [hrl]))))))
    · refine ⟨.tuple [.int 0, .int (r0.length : Nat)], ⟨_, rfl⟩, sg_seq (sg_for Γs ((it_list (eg_rev (eg_slL (eg_var rfl) eo_none (eo_some (eg_un ug_neg eg_int))))).is itE) (Le.refl _) (fun i d hd => ?_)) ((sg_ret (eg_tup (ea_cons eg_int (ea_cons (len5 (by rw [hrl]; omega) rfl) ea_nil)) (Nat.le_of_ble_eq_true rfl))).is (by rw [hrl]))⟩
      · rw [List.getElem?_map] at hd
        obtain ⟨p, hp, rfl⟩ := Option.map_eq_some_iff.mp hd
        have hn : spotAt p (rootAt L r0 i) = none := by
          cases e : spotAt p (rootAt L r0 i) with
          | none => rfl
          | some k => exact absurd ⟨i, p, hp, by rw [e]; rfl⟩ hex
        exact ⟨_, _, gp2, sg_seq (sg_asg ((eg_cb cg_min (ea_cons (eg_var rfl) (ea_cons (eg_op rg_add ((eg_cb (cg_lenS (by have := (hin hp).2.hi; omega)) (ea_cons (eg_var rfl) ea_nil))) (len5 (by rw [hrl]; omega) rfl)) ea_nil))).is (szE p (rootAt L r0 i))))
              (sg_seq (sg_asg (eg_call (spF_g ⟨mk (turnN (sg p.2) (((p.1 : Int) - (sizeAt p (rootAt L r0 i) : Nat)) % (p.2.length : Int)).toNat), sizeAt p (rootAt L r0 i), by rw [mk_length, turnN_length, sg_length]; exact (hin hp).2.lo, by rw [mk_length, turnN_length, sg_length]; have := (hin hp).2.hi; have := hsz hp; omega, rfl, by rw [sg_mk]; rfl⟩) (ea_cons (eg_call (spF_g ⟨p.2, (p.1 : Int) - (sizeAt p (rootAt L r0 i) : Nat), (hin hp).2.lo, by have := (hin hp).2.hi; omega, rfl, rfl⟩) (ea_cons (eg_var rfl) (ea_cons (eg_op rg_sub (eg_var rfl) (eg_var rfl)) ea_nil))) (ea_cons (eg_var rfl) ea_nil))))
              (sg_seq (sg_asg (eg_call (spF_g ⟨mineAt p (rootAt L r0 i), othAt p (rootAt L r0 i), by rw [hm1 hp, ho1 hp]; exact Nat.le_refl _, by rw [ho1 hp]; have := hsz hp; omega, rfl, rfl⟩) (ea_cons (eg_var rfl) (ea_cons (eg_call (spF_g ⟨mk (turnN (rootAt L r0 i) ((0 - (sizeAt p (rootAt L r0 i) : Nat) : Int) % ((rootAt L r0 i).length : Int)).toNat), sizeAt p (rootAt L r0 i), by rw [mk_length, turnN_length, hrl]; exact q1, by rw [mk_length, turnN_length, hrl]; have := hsz hp; omega, rfl, by rw [sg_mk]; rfl⟩) (ea_cons (eg_call (spF_g ⟨mk (rootAt L r0 i), 0 - (sizeAt p (rootAt L r0 i) : Nat), by rw [mk_length, hrl]; exact q1, by rw [mk_length, hrl]; omega, rfl, by rw [sg_mk, mk_length]⟩) (ea_cons (eg_var rfl) (ea_cons (eg_op rg_sub eg_int (eg_var rfl)) ea_nil))) (ea_cons (eg_var rfl) ea_nil))) ea_nil)))) (sg_seq (sg_ifF ((et_test (eg_op rg_notN (eg_var rfl) eg_non)).is (by rw [show unlikeN (mineAt p (rootAt L r0 i)) (othAt p (rootAt L r0 i)) (mineAt p (rootAt L r0 i)).length = none from hn]; rfl)) sg_next) (sg_seq (sg_asg (eg_call (spF_g ⟨mk (rootAt L r0 i), 0 - (p.1 : Nat), by rw [mk_length, hrl]; exact q1, by rw [mk_length, hrl]; omega, rfl, by rw [sg_mk, mk_length]⟩) (ea_cons (eg_var rfl) (ea_cons (eg_op rg_sub eg_int (eg_var rfl)) ea_nil)))) (sg_aug rfl (eg_var rfl) rg_isubI))))), by
        show Le [some (dealD x), some (.list (x.runs.map runD)), some (.int (beginAt L (x.init.map fun r => (r.1 : Int)).sum (i + 1))), none, none, some (.str (mk (rootAt L r0 (i + 1)))), none, none, none] _
        rw [rootS hp, beginS hp]
        exact .keep (.keep (.keep (.non (.non (.keep (.non (.non (.non .nil))))))))⟩
end
end Stair
/-! ## StSet -/
set_option Elab.async false
set_option linter.all false
set_option maxRecDepth 100000
set_option maxHeartbeats 4000000
namespace Stair
open PySem PySem.Spec PyProof.Rows L2
/-! sets of texts: the members are a list without doubles, up to their order -/
def txt (e : Int × Value) : Str := match e.2 with | .str x _ => x | _ => Str.empty
def TxE (w : World) (e : Int × Value) : Prop := ∃ x tk, e.2 = Value.str x tk ∧ e.1 = hashStr w x
def addS (L : List Str) (x : Str) : List Str := if x ∈ L then L else L ++ [x]
theorem addS_nodup {L : List Str} {x : Str} (h : L.Nodup) : (addS L x).Nodup := by
  unfold addS
  split
  · exact h
  · rename_i hx
    exact List.nodup_append.mpr ⟨h, List.nodup_cons.mpr ⟨by simp, List.nodup_nil⟩, fun a ha b hb => by rw [List.mem_singleton.mp hb]; intro e; exact hx (e ▸ ha)⟩
theorem mem_addS {L : List Str} {x y : Str} : y ∈ addS L x ↔ y ∈ L ∨ y = x := by
  unfold addS
  split
  · rename_i hx
    exact ⟨Or.inl, fun h => h.elim id fun e => e ▸ hx⟩
  · simp
/-- what a set of texts is, as an object of the heap -/
structure TxAt (w : World) (h : Heap) (a : Addr) (L : List Str) (o : Obj) (es : Array (Int × Value)) (ep : Nat) (t : SetTable) : Prop where
  ob : h.get? a = some o
  ex : o.ExactSet
  dt : o.data = .set es ep t
  el : ∀ e ∈ es.toList, TxE w e
  pm : (es.toList.map txt).Perm L
  nd : L.Nodup
  bd : es.size < scanBound
  ft : t.fits es.size = true
  ri : Ris t.place.toList
  ld : w.params.followText "set-order" = true ∨ t.led = true
def TxS (w : World) (h : Heap) (a : Addr) (L : List Str) : Prop := ∃ o es ep t, TxAt w h a L o es ep t
section
variable {P : Program} {w : World} {A : Around} {E : Value → Shared → Prop} {s : Shared} {h h' : Heap} {a : Addr} {L : List Str} {o : Obj} {es : Array (Int × Value)} {ep : Nat} {t : SetTable}
theorem TxS.at (R : TxS w h a L) (k : ∀ o, h.get? a = some o → h'.get? a = some o) : TxS w h' a L := by
  obtain ⟨o, es, ep, t, r⟩ := R
  exact ⟨o, es, ep, t, ⟨k o r.ob, r.ex, r.dt, r.el, r.pm, r.nd, r.bd, r.ft, r.ri, r.ld⟩⟩
theorem tx_elems {l : List (Int × Value)} (g : ∀ e ∈ l, TxE w e) : ElemsOf (PySem.strKind P w) l := fun e he => by
  obtain ⟨x, tk, h1, h2⟩ := g e he
  refine ⟨⟨x, ?_, h2⟩, ?_⟩
  · rw [h1]
    exact strKind_is P w x tk
  · rw [h1]
    rfl
theorem tx_is {e : Int × Value} (g : TxE w e) (x : Str) : (PySem.strKind P w).is x e.2 = true ↔ txt e = x := by
  obtain ⟨y, tk, h1, _⟩ := g
  unfold txt
  rw [h1]
  show ((y == x) = true) ↔ y = x
  exact beq_iff_eq
theorem tx_fresh (w : World) (h : Heap) : TxS w (h.push { cls := .type "set", dict := none, data := .set #[] 0 (.fresh 0 0 (!w.params.followText "set-order")) }) h.objs.size [] := by
  refine ⟨_, #[], 0, _, Heap.get?_push_size _ rfl, ⟨rfl, rfl, rfl⟩, rfl, fun e he => by simp at he, by simp, List.nodup_nil, by decide, by rfl, List.Pairwise.nil, ?_⟩
  cases q : w.params.followText "set-order"
  · exact .inr rfl
  · exact .inl rfl
/-- the stores at the end of an add -/
theorem tx_tail {g : Bool → Sem Unit} (hg : ∀ (b : Bool) (s₁ : Shared) (Q' : Unit → Shared → Prop), Q' () s₁ → wpAny (model P w) A (g b) Q' E s₁)
    (ho : s.heap.get? a = some o) (hex : o.ExactSet) (hd : o.data = .set es ep t) {es1 : Array (Int × Value)} {t2 : SetTable} (g1 : ∀ e ∈ es1.toList, TxE w e) (pm1 : (es1.toList.map txt).Perm L) (nd : L.Nodup)
    (hb1 : es1.size < scanBound) (hf2 : t2.fits es1.size = true) (hr : Ris t2.place.toList) (hl : w.params.followText "set-order" = true ∨ t2.led = true) {wasDummy : Bool} {R : Option Bool → Shared → Prop}
    (hR : ∀ h', Heap.SameBut a s.heap h' → TxS w h' a L → R (some true) { s with heap := h' }) :
    wpAny (model P w) A (do
        storeSet a es1 t2
        if (!wasDummy && t2.tooFull) = true then do
            g (relayAll t2 es1 (SetTable.grown es1.size)).2.2
            storeSet a (relayAll t2 es1 (SetTable.grown es1.size)).1 (relayAll t2 es1 (SetTable.grown es1.size)).2.1
            pure (some true)
          else pure (some true)) R E s := by
  have stored : ∀ {h : Heap} {o : Obj} {es es' : Array (Int × Value)} {ep : Nat} {t t' : SetTable}, h.get? a = some o → o.data = .set es ep t → (h.update a (Obj.putSet es' t')).get? a = some { o with data := .set es' (ep + 1) t' } := fun {h o es es' ep t t'} e1 e2 => by
    have q := Heap.get?_update_self (Obj.putSet es' t') e1 (by rw [putSet_of es' t' e2]; rfl)
    rw [putSet_of es' t' e2] at q
    exact q
  refine wpAny_bind (wpAny_storeSet_of ho hd ?_ (fits_of_scanBound hb1))
  have ho1 := stored (es' := es1) (t' := t2) ho hd
  have sb1 := Heap.SameBut.update s.heap a (Obj.putSet es1 t2)
  by_cases hfull : (!wasDummy && t2.tooFull) = true
  · rw [if_pos hfull]
    have pm := relayAll_perm t2 es1 (SetTable.grown es1.size)
    have hf3 := relayAll_fits t2 es1 (SetTable.grown es1.size)
    have hr3 := relayAll_ris t2 es1 (SetTable.grown es1.size)
    have hl3 := relayAll_led t2 es1 (SetTable.grown es1.size)
    generalize relayAll t2 es1 (SetTable.grown es1.size) = Z at pm hf3 hr3 hl3 ⊢
    obtain ⟨es2, t3, gave⟩ := Z
    dsimp only at pm hf3 hr3 hl3 ⊢
    have hb2 : es2.size < scanBound := by
      rw [← Array.length_toList, pm.length_eq, Array.length_toList]
      exact hb1
    refine wpAny_bind (hg _ _ _ (wpAny_bind (wpAny_storeSet_of ho1 rfl ?_ (fits_of_scanBound hb2))))
    refine wpAny_pure (hR _ (sb1.trans (Heap.SameBut.update _ a _)) ⟨_, es2, _, t3, stored (es' := es2) (t' := t3) ho1 rfl, hex, rfl, fun e he => g1 e (pm.mem_iff.mp he), (pm.map txt).trans pm1, nd, hb2, hf3, hr3, ?_⟩)
    exact hl.imp id fun z => by rw [hl3]; exact z
  · rw [if_neg hfull]
    exact wpAny_pure (hR _ sb1 ⟨_, es1, _, t2, ho1, hex, rfl, g1, pm1, nd, hb1, hf2, hr, hl⟩)
theorem tx_add_hashed {x : Str} {tk : Tok} {Q : Bool → Shared → Prop} (R : TxS w s.heap a L) (room : L.length + 1 < scanBound)
    (hQ : ∀ b h', Heap.SameBut a s.heap h' → TxS w h' a (addS L x) → Q b { s with heap := h' }) :
    wpAny (model P w) A (setAddHashed a (.str x tk) ((PySem.strKind P w).hash x)) Q E s := by
  obtain ⟨o, es, ep, t, r⟩ := R
  have hkey : (PySem.strKind P w).is x (.str x tk) = true := strKind_is P w x tk
  have hsc : (Value.str x tk).scannable = true := rfl
  have hel : ElemsOf (PySem.strKind P w) es.toList := tx_elems r.el
  have len : es.size = L.length := by rw [← Array.length_toList, ← r.pm.length_eq, List.length_map]
  unfold setAddHashed setAddHashedIn
  refine wpAny_holding (wpAny_bind (wpAny_setState_of r.ob r.dt r.ft ?_))
  dsimp only
  rw [byScan_of hsc r.bd hel]
  simp only [↓reduceIte]
  unfold setAddByScan
  refine wpAny_bind (wpAny_bind (wpAny_rule (wpAny_bind (wpAny_setScan_of hkey r.ob r.dt r.ft hel ?_))))
  cases hfi : List.findIdx? (fun e => (PySem.strKind P w).is x e.2) es.toList with
  | some j =>
    dsimp only
    obtain ⟨hj, pj, _⟩ := List.findIdx?_eq_some_iff_getElem.mp hfi
    have hm : x ∈ L := r.pm.mem_iff.mp (List.mem_map.mpr ⟨es.toList[j], List.getElem_mem hj, (tx_is (P := P) (r.el _ (List.getElem_mem hj)) x).mp pj⟩)
    refine wpAny_pure (wpAny_pure (hQ false s.heap (Heap.SameBut.refl a s.heap) ⟨o, es, ep, t, ?_⟩))
    unfold addS
    rw [if_pos hm]
    exact r
  | none =>
    dsimp only
    have hnx : x ∉ es.toList.map txt := fun z => by
      obtain ⟨e, he, q⟩ := List.mem_map.mp z
      have c := List.findIdx?_eq_none_iff.mp hfi e he
      rw [(tx_is (P := P) (r.el e he) x).mpr q] at c
      cases c
    have hnL : x ∉ L := fun z => hnx (r.pm.mem_iff.mpr z)
    have eL : addS L x = L ++ [x] := if_neg hnL
    have hgw : ∀ (b : Bool) {s₁ : Shared} {Q' : Unit → Shared → Prop}, Q' () s₁ → wpAny (model P w) A (match b with | true => rule "set.scan.the-table-gave-way" | false => pure ()) Q' E s₁ :=
      fun b s₁ Q' q => by
        cases b
        · exact wpAny_pure q
        · exact wpAny_rule q
    have pm := layNew_perm t es ((PySem.strKind P w).hash x) (.str x tk)
    have hf1 := layNew_fits t es ((PySem.strKind P w).hash x) (.str x tk)
    have hr1 := layNew_ris t es ((PySem.strKind P w).hash x) (.str x tk) r.ri
    have hl1 := layNew_led t es ((PySem.strKind P w).hash x) (.str x tk)
    generalize layNew t es ((PySem.strKind P w).hash x) (.str x tk) = Z at pm hf1 hr1 hl1 ⊢
    obtain ⟨es1, t1, wasDummy, gave⟩ := Z
    dsimp only at pm hf1 hr1 hl1 ⊢
    rw [Array.toList_push] at pm
    have g1 : ∀ e ∈ es1.toList, TxE w e := fun e he => by
      rcases List.mem_append.mp (pm.mem_iff.mp he) with z | z
      · exact r.el e z
      · rw [List.mem_singleton.mp z]
        exact ⟨x, tk, rfl, rfl⟩
    have pk : (es1.toList.map txt).Perm (addS L x) := by
      rw [eL]
      refine (pm.map txt).trans ?_
      rw [List.map_append]
      exact r.pm.append_right _
    have nd1 : (addS L x).Nodup := addS_nodup r.nd
    have hb1 : es1.size < scanBound := by
      rw [← Array.length_toList, pm.length_eq, List.length_append, Array.length_toList, len]
      exact room
    have hled : w.params.followText "set-order" = true ∨ t1.led = true := r.ld.imp id fun z => by rw [hl1]; exact z
    refine wpAny_bind (hgw _ ?_)
    split
    · refine wpAny_bind ?_
      rw [hashByValue_scannable 8 hsc]
      refine wpAny_pure (tx_tail (L := addS L x) ?_ r.ob r.ex r.dt g1 pk nd1 hb1 ?_ ?_ ?_ ?_)
      · intro b s₁ Q' q
        exact hgw b q
      · first | (split <;> first | exact hf1 | exact SetTable.fits_plain_off hf1) | exact hf1
      · first | (split <;> exact hr1) | exact hr1
      · first | (split <;> exact hled) | exact hled
      · intro h' sb r'
        dsimp only
        exact wpAny_pure (hQ true h' sb r')
    · refine wpAny_bind (wpAny_pure ?_)
      simp only [↓reduceIte]
      refine tx_tail (L := addS L x) ?_ r.ob r.ex r.dt g1 pk nd1 hb1 hf1 hr1 hled ?_
      · intro b s₁ Q' q
        exact hgw b q
      · intro h' sb r'
        dsimp only
        exact wpAny_pure (hQ true h' sb r')
/-- found.add(x) -/
theorem tx_add {x : Str} {tk : Tok} {Q : Value → Shared → Prop} (R : TxS w s.heap a L) (room : L.length + 1 < scanBound)
    (hQ : ∀ h', Heap.SameBut a s.heap h' → TxS w h' a (addS L x) → Q .none { s with heap := h', toks := s.toks + 1 }) :
    wpAny (model P w) A (call (.builtin "set.add") [.ref a, .str x tk]) Q E s := by
  have hT : s.TypeIs (.ref a) "set" := by
    obtain ⟨o, es, ep, t, r⟩ := R
    exact ⟨o, r.ob, r.ex.1⟩
  refine wpAny_call_entry F.slot_set_add hT F.entry_set_add ?_ (F.args_set_add_2 _ _)
  unfold Builtin.«set.add» Builtin.Frozenset.oneOther
  simp only [List.isEmpty_nil, bind_assoc]
  unfold Builtin.Frozenset.addrOf setAdd
  refine wpAny_bind (wpAny_pure ?_)
  try dsimp only
  refine wpAny_bind (wpAny_pure ?_)
  try dsimp only
  refine wpAny_bind (wpAny_holding (wpAny_bind ((PySem.strKind P w).pyHash (strKind_is P w x tk) ?_)))
  refine tx_add_hashed (s := { s with toks := s.toks + 1 }) R room fun b h' sb r => ?_
  show wpAny _ _ (ret Value.none) _ _ _
  exact wpAny_pure ⟨_, rfl, hQ h' sb r⟩
end
end Stair
/-! ## StSet2 -/
set_option Elab.async false
set_option linter.all false
set_option maxRecDepth 100000
set_option maxHeartbeats 4000000
namespace Stair
open PySem PySem.Spec PyProof.Rows L2
def addAll (L : List Str) (xs : List Str) : List Str := xs.foldl addS L
theorem addAll_snoc (L xs : List Str) (x : Str) : addAll L (xs ++ [x]) = addS (addAll L xs) x := by simp [addAll]
theorem addS_len (L : List Str) (x : Str) : (addS L x).length ≤ L.length + 1 := by
  unfold addS
  split
  · omega
  · simp
theorem addAll_len : ∀ (xs L : List Str), (addAll L xs).length ≤ L.length + xs.length
  | [], L => Nat.le_refl _
  | x :: r, L => by
    have h := addAll_len r (addS L x)
    have h2 := addS_len L x
    show (addAll (addS L x) r).length ≤ _
    simp only [List.length_cons]
    omega
theorem mem_addAll {y : Str} : ∀ (xs L : List Str), y ∈ addAll L xs ↔ y ∈ L ∨ y ∈ xs
  | [], L => by simp [addAll]
  | x :: r, L => by
    show y ∈ addAll (addS L x) r ↔ _
    rw [mem_addAll r, mem_addS, List.mem_cons, or_assoc]
theorem addAll_nodup : ∀ (xs L : List Str), L.Nodup → (addAll L xs).Nodup
  | [], L, h => h
  | x :: r, L, h => addAll_nodup r _ (addS_nodup h)
theorem take_snoc {α : Type} {l : List α} {i : Nat} {x : α} (h : l[i]? = some x) : l.take (i + 1) = l.take i ++ [x] := by
  rw [List.take_add_one, h] <;> rfl
section
variable {P : Program} {w : World} {A : Around} {E : Value → Shared → Prop} {s : Shared} {h h' : Heap} {a : Addr} {L : List Str}
theorem tx_loop {I : Addr} {fp wr : List Addr} {G : Array GenState → Array GenState → Prop} {n : Nat} {Pv : Nat → Value → Prop} {St : Nat → Shared → Prop} {R : Result → Shared → Prop}
    (W : WalksS P w A.in1 I fp wr G n Pv St) (S : Addr) (hSf : S ∉ fp) (xs : List Str) (hn : n = xs.length) (hb : xs.length + 1 < scanBound) (hval : ∀ i v, Pv i v → ∃ x t, xs[i]? = some x ∧ v = .str x t) :
    ∀ (k i : Nat) (s : Shared), n - i = k → i ≤ n → St i s → TxS w s.heap S (addAll [] (xs.take i)) →
      (∀ s', Moved (S :: wr) G s s' → TxS w s'.heap S (addAll [] xs) → R (.ok (.ret .none)) s') →
      codeAny (model P w) A (.builtin "set.update.loop" ⟨[.ref S, .ref I], []⟩) R s := by
  have hSw : S ∉ wr := fun h => hSf (W.sub _ h)
  have hsub : ∀ b ∈ wr, b ∈ S :: wr := fun b hb => List.mem_cons_of_mem _ hb
  intro k
  induction k with
  | zero =>
    intro i s hk' hi hst hS hR
    have hin : i = n := by omega
    subst hin
    refine codeAny_builtin F.entry_set_update_loop ?_
    rw [Around.under_plainId F.plain_set_update_loop _]
    show wpAny _ A.in1 (pyNext (.ref I) >>= _) _ _ s
    refine wpAny_bind (W.done s _ _ hst fun s' hm => ?_)
    rw [List.take_of_length_le (by omega)] at hS
    exact wpAny_pure (hR s' (hm.mono hsub) (hS.at fun o e => hm.heap S o hSw e))
  | succ k ih =>
    intro i s hk' hi hst hS hR
    have hlt : i < n := by omega
    refine codeAny_builtin F.entry_set_update_loop ?_
    rw [Around.under_plainId F.plain_set_update_loop _]
    show wpAny _ A.in1 (pyNext (.ref I) >>= _) _ _ s
    refine wpAny_bind (W.item i s _ _ hlt hst fun v s' hP hst' hm => ?_)
    obtain ⟨z, t, hz, rfl⟩ := hval i v hP
    have hS' : TxS w s'.heap S (addAll [] (xs.take i)) := hS.at fun o e => hm.heap S o hSw e
    have room : (addAll [] (xs.take i)).length + 1 < scanBound := by
      have h1 := addAll_len (xs.take i) []
      have h2 : (xs.take i).length ≤ xs.length := by rw [List.length_take]; omega
      simp only [List.length_nil] at h1
      omega
    show wpAny _ A.in1 (holding [Value.str z t] (setAdd S (.str z t)) >>= _) _ _ s'
    refine wpAny_bind (wpAny_holding ?_)
    unfold setAdd
    refine wpAny_holding (wpAny_bind ((PySem.strKind P w).pyHash (k := z) (strKind_is P w z t) ?_))
    refine tx_add_hashed (s := { s' with toks := s'.toks + 1 }) hS' room fun b h' hsb hS2 => ?_
    rw [← addAll_snoc, ← take_snoc hz] at hS2
    refine wpAny_pure ⟨plainId_quiet F.plain_set_update_loop _, ih (i + 1) _ (by omega) hlt (W.frame _ s' _ _ hst' (Nat.le_succ _) fun b hb o e => ?_) hS2 fun s'' hm'' hS'' => ?_⟩
    · rw [hsb.2 b (fun h : b = S => hSf (by rw [← h]; exact hb))]
      exact e
    · refine hR s'' (Moved.trans W.gtrans ((hm.mono hsub).then_heap (Nat.le_succ _) fun b o hb e => ?_) hm'') hS''
      rw [hsb.2 b (fun h : b = S => hb (by rw [h]; exact List.mem_cons_self))]
      exact e
abbrev emptySet (w : World) : Obj := { cls := .type "set", dict := none, data := .set #[] 0 (.fresh 0 0 (!w.params.followText "set-order")) }
theorem tx_new {h : Heap} {a : Addr} (ho : h.get? a = some (emptySet w)) : TxS w h a [] := by
  refine ⟨_, #[], 0, _, ho, ⟨rfl, rfl, rfl⟩, rfl, fun e he => by simp at he, by simp, List.nodup_nil, by decide, by rfl, List.Pairwise.nil, ?_⟩
  cases q : w.params.followText "set-order"
  · exact .inr rfl
  · exact .inl rfl
set_option maxHeartbeats 3200000 in
theorem call_set_txt {l : Addr} {items : Array Value} (xs : List Str) {Q : Value → Shared → Prop} (hh : A.handled = none) (hl : s.heap.IsList l items) (hit : StrsAre items.toList xs) (hb : xs.length + 1 < scanBound)
    (h : ∀ (h' : Heap) (tk : Nat), TxS w h' s.heap.objs.size (addAll [] xs) → (∀ b o, s.heap.get? b = some o → h'.get? b = some o) → Q (.ref s.heap.objs.size) { s with heap := h', toks := tk }) :
    wpAny (model P w) A (call (.type "set") [.ref l]) Q E s := by
  have hisz : items.size = xs.length := by
    have q := StrsAre.length hit
    rw [Array.length_toList] at q
    exact q
  obtain ⟨c, tl, hmro⟩ := F.called_set.mro
  have hmade := F.called_set.made
  have hsub := F.called_set.sub
  refine wpAny_call (codeAny_of_tree ?_)
  show wpAny _ _ (callAny (.type "set") _) _ _ _
  refine wpAny_pure ⟨Code.quiet_builtin _ (by decide +kernel), codeAny_builtin F.entry_type_call ?_⟩
  rw [Around.under_plain (weight_type_call_type "set" [.ref l] []) rfl]
  have h1 := F.called_set.notType
  have h2 := F.called_set.canCreate
  have hct := F.typeCall_set_1 (.ref l)
  repeat (any_goals (first | assumption | wp_step))
  refine codeAny_mono (code_set_led1 (.ref l) (E := E) (Q₁ := fun obj s₁ => obj = .ref s.heap.objs.size ∧ s₁ = { s with heap := s.heap.push (emptySet w) }) ⟨rfl, rfl⟩) fun r s₁ hr => ?_
  cases r with
  | error e => exact hr
  | ok fl =>
    cases fl with
    | ret obj =>
      obtain ⟨rfl, rfl⟩ := hr
      have hS : (s.heap.push (emptySet w)).get? s.heap.objs.size = some (emptySet w) := Heap.get?_push_size _ rfl
      have hT : Shared.TypeIs { s with heap := s.heap.push (emptySet w) } (.ref s.heap.objs.size) "set" := ⟨_, hS, rfl⟩
      have hli := F.called_set.init.lookup
      have hbi := F.called_set.init.bind (.ref s.heap.objs.size)
      repeat (any_goals (first | assumption | wp_step))
      refine codeAny_mono (codeAny_call_builtin (R := wants (fun r s₂ => r = .none ∧ ∃ h' tk, s₂ = { s with heap := h', toks := tk } ∧ TxS w h' s.heap.objs.size (addAll [] xs) ∧
          (∀ b o, s.heap.get? b = some o → h'.get? b = some o)) E) F.called_set.init.plain F.entry_set_init (check_set_init_1 hT ?_)) fun r₂ s₂ hr₂ => ?_
      · obtain ⟨ol, hol, hcl, nl, hdl⟩ := hl
        obtain ⟨ocls, odict, odata, oslots⟩ := ol
        simp only at hcl hdl
        subst hcl; subst hdl
        have hol' : (s.heap.push (emptySet w)).get? l = some { cls := .type "list", dict := odict, data := .seq items nl, slots := oslots } := Heap.get?_push_of_some _ hol
        have hsls := F.sub_list_set
        have hslf := F.sub_list_frozenset
        have hne : (Value.type "list" == Value.type "dict") = false := by decide
        have hl1 : (s.heap.push (emptySet w)).IsList l items := ⟨_, hol', rfl, nl, rfl⟩
        unfold Builtin.«set.__init__» noKeywords Builtin.Frozenset.updateFrom
        generalize hPI : pyIter = PI
        wp_walk
        subst hPI
        refine wpAny_pyIter_list hl1 ?_
        refine wpAny_bind (wpAny_runValue ?_)
        have hlS : l < s.heap.objs.size := Heap.lt_size hol
        have hh3 : A.in1.in1.in1.handled = none := by simp [hh]
        have hneI : l ≠ (s.heap.push (emptySet w)).objs.size := by
          rw [Heap.size_push]
          exact Nat.ne_of_lt (Nat.lt_succ_of_lt hlS)
        have hSf : s.heap.objs.size ∉ [(s.heap.push (emptySet w)).objs.size, l] := by
          rw [Heap.size_push]
          simp only [List.mem_cons, List.mem_singleton, List.not_mem_nil, or_false, not_or]
          exact ⟨Nat.ne_of_lt (Nat.lt_succ_self _), Nat.ne_of_gt hlS⟩
        have hval : ∀ (i : Nat) (v : Value), items[i]? = some v → ∃ x t, xs[i]? = some x ∧ v = .str x t := fun i v hv => by
          have hi : i < xs.length := by rw [← hisz]; exact (Array.getElem?_eq_some_iff.mp hv).1
          obtain ⟨t, e⟩ := StrsAre.get hit i _ (List.getElem?_eq_getElem hi)
          rw [Array.getElem?_toList, hv] at e
          exact ⟨xs[i], t, List.getElem?_eq_getElem hi, Option.some.inj e⟩
        refine tx_loop ((Walks.list hh3 _ l hneI items).toS) s.heap.objs.size hSf xs hisz hb hval (items.size - 0) 0 _ (by omega) (Nat.zero_le _)
          ⟨⟨_, Heap.get?_push_size _ rfl, rfl, rfl⟩, (hl1.push _)⟩ ?hS0 ?hR
        case hS0 => exact tx_new (Heap.get?_push_of_some _ hS)
        case hR =>
          intro s' hm hS'
          obtain ⟨h', g2, d', tk', os'⟩ := s'
          have eg : g2 = s.gens := hm.gens
          have ed : d' = s.drawn := hm.drawn
          have eo : os' = s.os := hm.os
          subst eg; subst ed; subst eo
          show wpAny _ _ _ _ _ _
          refine wpAny_pure ?_
          show wpAny _ _ (ret Value.none) _ _ _
          refine wpAny_pure ⟨rfl, h', tk', rfl, hS', fun b o e => ?_⟩
          have hb0 : b < s.heap.objs.size := Heap.lt_size e
          have hb2 : b ≠ (s.heap.push (emptySet w)).objs.size := by
            rw [Heap.size_push]
            exact Nat.ne_of_lt (Nat.lt_succ_of_lt hb0)
          exact hm.heap b o (by simp only [List.mem_cons, List.mem_singleton, List.not_mem_nil, or_false, not_or]; exact ⟨Nat.ne_of_lt hb0, hb2⟩) (Heap.get?_push_of_some _ (Heap.get?_push_of_some _ e))
      · cases r₂ with
        | error e => exact hr₂
        | ok fl₂ =>
          cases fl₂ with
          | ret r =>
            obtain ⟨rfl, h', tk, rfl, hS', hk'⟩ := hr₂
            repeat (any_goals (first | assumption | wp_step))
            exact h _ _ hS' hk'
          | _ => exact hr₂.elim
    | _ => exact hr.elim
end
end Stair
/-! ## StSet3 -/
set_option Elab.async false
set_option linter.all false
set_option maxRecDepth 100000
set_option maxHeartbeats 4000000
namespace Stair
open PySem PySem.Spec PyProof.Rows L2
section
variable {P : Program} {w : World} {A : Around} {E : Value → Shared → Prop} {s : Shared} {h h' : Heap} {a : Addr} {L : List Str}
theorem strs_of_members : ∀ (l : List Value), (∀ v ∈ l, ∃ x tk, v = Value.str x tk) → ∃ xs, StrsAre l xs ∧ xs = l.map fun v => txt (0, v)
  | [], _ => ⟨[], .nil, rfl⟩
  | v :: l, h => by
    obtain ⟨x, tk, rfl⟩ := h v List.mem_cons_self
    obtain ⟨xs, h1, h2⟩ := strs_of_members l fun u hu => h u (List.mem_cons_of_mem _ hu)
    exact ⟨x :: xs, .cons x tk h1, by rw [h2] <;> rfl⟩
/-- sorted(found) -/
theorem sorted_txt {Q : Value → Shared → Prop} (R : TxS w s.heap a L) (hh : A.handled = none) (h64 : L.length < 64)
    (hQ : ∀ s' p (out : Array Value) (c : Nat) (ys : List Str), (∀ b o, s.heap.get? b = some o → s'.heap.get? b = some o) → s'.gens = s.gens → s'.os = s.os → s.heap.objs.size ≤ p →
      s'.heap.get? p = some (seqObj "list" out c) → StrsAre out.toList ys → ys.Perm L → sortedS ys = true → Q (.ref p) s') :
    wpAny (model P w) A (call (.builtin "sorted") [.ref a]) Q E s := by
  obtain ⟨o, es, ep, t, r⟩ := R
  refine Calls.call_function_entry kind_sorted plain_sorted entry_sorted (args_sorted1 _) ?_
  unfold Builtin.«sorted»
  refine wpAny_bind (m := checkCount "sorted" 1 1 _) (wpAny_pure ?_)
  refine wpAny_bind (collect_set (A := A.in1) hh ⟨o, r.ob, r.ex.1, r.dt⟩ r.ft r.bd r.ri r.ld fun s1 vs k1 hz g1 o1 pm => ?_)
  obtain ⟨xs, hS, ex⟩ := strs_of_members vs fun v hv => by
    obtain ⟨e, he, q⟩ := List.mem_map.mp (pm.mem_iff.mp hv)
    obtain ⟨x, tk, h1, _⟩ := r.el e he
    exact ⟨x, tk, by rw [← q]; exact h1⟩
  have pk : xs.Perm L := by
    rw [ex]
    refine (pm.map fun v => txt (0, v)).trans ?_
    rw [List.map_map]
    exact r.pm
  have hvl : vs.length = L.length := by rw [StrsAre.length hS, pk.length_eq]
  refine wpAny_bind (wpAny_newList ?_ (by rw [hvl, sizeLine_eq]; omega))
  have hoL : (s1.heap.push (seqObj "list" vs.toArray 0)).get? s1.heap.objs.size = some (seqObj "list" vs.toArray 0) := Heap.get?_push_size _ rfl
  refine wpAny_bind (wpAny_holding (wpAny_call_entry slot_list_sort ⟨_, hoL, rfl⟩ entry_list_sort
    (list_sort_treeK strKind_oneLt hoL hS.keysOf (fun v₁ v₂ rest e => keyKind_strs (by rw [← e]; exact hS)) (by rw [hvl]; exact h64) fun st' hp hs => ?_) (args_list_sort _)))
  obtain ⟨ys, g1', g2, g3⟩ := sorted_out_str hS hp hs
  obtain ⟨c, hc⟩ := sortedHeap_at (vs := vs) (out := (arrOf st').map (·.2)) hoL
  refine ⟨_, rfl, wpAny_pure ⟨_, rfl, hQ _ s1.heap.objs.size _ c ys (fun b u e => ?_) g1 o1 hz hc g1' (g2.trans pk) g3⟩⟩
  have q := k1 b u e
  have hlt := Heap.lt_size q
  show (sortedHeap (s1.heap.push (seqObj "list" vs.toArray 0)) s1.heap.objs.size vs ((arrOf st').map (·.2))).get? b = some u
  rw [sortedHeap_old (Nat.ne_of_lt hlt) (by rw [size_push']; exact Nat.lt_succ_of_lt hlt)]
  exact Heap.get?_push_of_some _ q
end
/-! ### as tracked things -/
def TxO (w : World) (a : Addr) (L : List Str) : HO := .ext fun h => TxS w h a L
theorem txO_new {w : World} {P : Program} {H : Hp} {h : Heap} {a : Addr} {L : List Str} (R : TxS w h a L) : ObjOk P w H h a (TxO w a L) := by
  have R' := R
  obtain ⟨o, es, ep, t, r⟩ := R'
  exact ⟨R, ⟨o, r.ob⟩, fun h1 h2 p k => p.at k⟩
section
variable {X : Cx} {pins : List (Addr × Obj)} {σ : L2.St} {H : Hp} {s : Shared}
theorem txO_get {a : Addr} {L : List Str} (I : Inv X pins σ H s) (ha : H a = some (TxO X.w a L)) : TxS X.w s.heap a L := (I.hok a _ ha).1
theorem addTx_ok {E : Value → Shared → Prop} {D : Addr} {L : List Str} {x : Str} {tk : Tok} {Q : Value → Shared → Prop} (I : Inv X pins σ H s) (hD : H D = some (TxO X.w D L)) (room : L.length + 1 < scanBound)
    (h : ∀ s', Inv X pins σ (upd H D (TxO X.w D (addS L x))) s' → Q .none s') : wpAny (model X.prog X.w) X.A (call (.builtin "set.add") [.ref D, .str x tk]) Q E s := by
  have R := txO_get I hD
  refine tx_add R room fun h' sb new => ?_
  have he : ∃ u, h'.get? D = some u := by
    obtain ⟨o, es, ep, t, r⟩ := new
    exact ⟨o, r.ob⟩
  exact h _ (I.write (e := D) (t' := s.toks + 1) (by rw [hD]; trivial) (.inl rfl) (fun b u hb hu => (sb.2 b hb).trans hu) he (txO_new new))
/-- set(xs), xs a list of texts -/
def rSetTx (K : PySem.W.Frag) (w : World) : List V → Hp → VK → Prop := fun vs H Q => ∃ (l : Addr) (xs : List Str), vs = [V.ref l] ∧ SqL K H l (xs.map V.str) ∧ xs.length + 1 < scanBound ∧ ∀ p, H p = none → Q (.ref p) (upd H p (TxO w p (addAll [] xs)))
theorem cr_setTx (hc : X.calm = true) : CallR X (.type "set") (rSetTx X.K X.w) := by
  intro pins s σ H vs us Q I r h
  obtain ⟨l, xs, rfl, hs, hb, q⟩ := h
  obtain ⟨its, rv, hl, _⟩ := I.list hs
  rw [Vals.ref1 r]
  refine call_set_txt xs (I.ok.hd hc) hl.isList rv.strs hb fun h' tk new k => ?_
  have hn : H s.heap.objs.size = none := I.hok.fresh (Nat.le_refl _)
  exact ⟨.ref _, upd H s.heap.objs.size (TxO X.w s.heap.objs.size (addAll [] xs)), I.laid (t' := tk) k (Nat.le_refl _) (txO_new new), rfl, q _ hn⟩
def rSortedTx (w : World) : List V → Hp → VK → Prop := fun vs H Q => ∃ (a : Addr) (L : List Str), vs = [V.ref a] ∧ H a = some (TxO w a L) ∧ L.length < 64 ∧
  ∀ (ys : List Str) (p : Addr), ys.Perm L → sortedS ys = true → H p = none → Q (.ref p) (upd H p (.lst (ys.map V.str)))
theorem cr_sortedTx (hc : X.calm = true) : CallR X (.builtin "sorted") (rSortedTx X.w) := by
  intro pins s σ H vs us Q I r h
  obtain ⟨a, L, rfl, ha, h64, q⟩ := h
  rw [Vals.ref1 r]
  refine sorted_txt (txO_get I ha) (I.ok.hd hc) h64 fun s' p out c ys k g o hp hg hi pm hs => ?_
  have hlen : (ys.map V.str).length ≤ sizeLine := by rw [List.length_map, pm.length_eq, sizeLine_eq]; omega
  have hn : H p = none := I.hok.fresh hp
  have J : Inv X pins σ (upd H p (.lst (ys.map V.str))) { s with heap := s'.heap, gens := s'.gens, drawn := s'.drawn, toks := s'.toks } :=
    I.call (ch := []) (Un.laid k hp hn) (I.hok.laid k hp ⟨hlen, out.toList, c, vals_of_strs hi, hg⟩) (by rw [g]; exact I.bare) (fun _ z => nomatch z)
  have e : s' = { s with heap := s'.heap, gens := s'.gens, drawn := s'.drawn, toks := s'.toks } := by
    cases s'
    cases s
    cases o
    rfl
  rw [e]
  exact ⟨.ref p, _, J, rfl, q ys p pm hs hn⟩
end
end Stair
/-! ## StSet4 -/
set_option Elab.async false
set_option linter.all false
set_option maxRecDepth 100000
set_option maxHeartbeats 4000000
namespace Stair
open PySem PySem.Spec PyProof.Rows L2
theorem tcTurn2_out (elt t0 i0 t1 i1 : Expr) (ifs0 ifs1 : List Expr) (scope : Scope) (pos : Pos) (it acc : Value) (env : Env) :
    compTurn (.SetComp elt [⟨t0, i0, ifs0, 0⟩, ⟨t1, i1, ifs1, 0⟩] scope pos) 0 it acc env = (do
      standAt i0.pos
      match ← pyNext it with
      | none => pure (.done .next)
      | some v =>
        letOwnedTupleGo t0 it v
        assign t0 env v
        let mut ok := true
        for c in ifs0 do
          if ok then ok ← isTrue c env (eval c env)
        if ok then
          let x ← eval i1 env
          standAt i1.pos
          let x ← foldedSetIterable i1 env x
          let _ ← runOwn (.compStart (.SetComp elt [⟨t0, i0, ifs0, 0⟩, ⟨t1, i1, ifs1, 0⟩] scope pos) 1 (← holding [x] (pyIter x)) acc env) env
        again (.compLoop (.SetComp elt [⟨t0, i0, ifs0, 0⟩, ⟨t1, i1, ifs1, 0⟩] scope pos) 0 it acc env)) := by rfl
theorem tcTurn2_in (elt t0 i0 t1 i1 : Expr) (ifs0 ifs1 : List Expr) (scope : Scope) (pos : Pos) (it acc : Value) (env : Env) :
    compTurn (.SetComp elt [⟨t0, i0, ifs0, 0⟩, ⟨t1, i1, ifs1, 0⟩] scope pos) 1 it acc env = (do
      standAt i1.pos
      match ← pyNext it with
      | none => pure (.done .next)
      | some v =>
        letOwnedTupleGo t1 it v
        assign t1 env v
        let mut ok := true
        for c in ifs1 do
          if ok then ok ← isTrue c env (eval c env)
        if ok then
          (do let v ← eval elt env; standAt elt.pos; let _ ← call (.builtin "set.add") [acc, v])
        again (.compLoop (.SetComp elt [⟨t0, i0, ifs0, 0⟩, ⟨t1, i1, ifs1, 0⟩] scope pos) 1 it acc env)) := by rfl

section
variable {prog : Program} {w : World} {A : Around} {R : Result → Shared → Prop} {s : Shared} {elt t0 i0 t1 i1 : Expr} {ifs0 ifs1 : List Expr} {scope : Scope} {pos : Pos} {it acc : Value} {env : Env}
/-- the loop of the first clause -/
theorem tcLoop2_out (hs : ∀ x, foldedSetIterable i1 env x = pure x) (I : Nat → Shared → Prop)
    (turn : ∀ n s, I n s → wpAny (model prog w) A (pyNext it) (fun r s₁ => match r with
      | none => R (.ok .next) s₁
      | some v => wpAny (model prog w) A (letOwnedTupleGo t0 it v) (fun _ s₁' => wpAny (model prog w) A (assign t0 env v) (fun _ s₂ =>
          wpAny (model prog w) A (forIn ifs0 true fun c r => if r = true then do let ok ← isTrue c env (eval c env); pure (ForInStep.yield ok) else pure (ForInStep.yield r)) (fun ok s₃ =>
            if ok = true then wpAny (model prog w) A (eval i1 env) (fun x s₄ => wpAny (model prog w) A (pyIter x) (fun it1 s₅ =>
              codeAny (model prog w) A (.compStart (.SetComp elt [⟨t0, i0, ifs0, 0⟩, ⟨t1, i1, ifs1, 0⟩] scope pos) 1 it1 acc env) (fun r s' => match r with
                | .ok _ => ∃ m, m < n ∧ I m s'
                | .error _ => False) s₅) (notedBy (model prog w) A env fun e s' => R (.error e) s') s₄) (notedBy (model prog w) A env fun e s' => R (.error e) s') s₃
            else ∃ m, m < n ∧ I m s₃) (notedBy (model prog w) A env fun e s' => R (.error e) s') s₂) (notedBy (model prog w) A env fun e s' => R (.error e) s') s₁') (notedBy (model prog w) A env fun e s' => R (.error e) s') s₁) (notedBy (model prog w) A env fun e s' => R (.error e) s') s)
    (n : Nat) (h : I n s) :
    codeAny (model prog w) A (.compLoop (.SetComp elt [⟨t0, i0, ifs0, 0⟩, ⟨t1, i1, ifs1, 0⟩] scope pos) 0 it acc env) R s := by
  refine codeAny_loop rfl I (fun n s hI => ?_) n h
  show wpAny _ A ((compTurn (.SetComp elt [⟨t0, i0, ifs0, 0⟩, ⟨t1, i1, ifs1, 0⟩] scope pos) 0 it acc env).onRaise (fun x => do noteFrame x env; theTreesLotGoes x)) _ _ s
  refine wpAny_noted ?_
  rw [tcTurn2_out]
  refine wpAny_bind (wpAny_standAt (wpAny_bind (wpAny_mono (turn n s hI) (fun r s₁ h₁ => ?_) fun _ _ h' => h')))
  cases r with
  | none => exact wpAny_pure h₁
  | some v =>
    refine wpAny_bind (wpAny_mono h₁ (fun _ s₁' h₁' => ?_) fun _ _ h' => h')
    refine wpAny_bind (wpAny_mono h₁' (fun _ s₂ h₂ => wpAny_bind (wpAny_mono h₂ (fun ok s₃ h₃ => ?_) fun _ _ h' => h')) fun _ _ h' => h')
    cases ok with
    | false => exact wpAny_pure ⟨rfl, h₃⟩
    | true =>
      refine wpAny_bind (wpAny_mono h₃ (fun x s₄ h₄ => ?_) fun _ _ h' => h')
      refine wpAny_bind (wpAny_standAt (wpAny_bind (wpAny_of_eq (hs x) (wpAny_bind (wpAny_holding (wpAny_mono h₄ (fun it1 s₅ h₅ => ?_) fun _ _ h' => h'))))))
      refine wpAny_bind (wpAny_runOwn ?_)
      rw [Around.mark_none]
      refine codeAny_mono h₅ fun r s' hr => ?_
      cases r with
      | ok f =>
        first
          | exact wpAny_pure ⟨rfl, hr⟩
          | exact wpAny_bind (wpAny_pure (wpAny_pure ⟨rfl, hr⟩))
      | error e => exact hr.elim
/-- the loop of the second -/
theorem tcLoop2_in (I : Nat → Shared → Prop)
    (turn : ∀ n s, I n s → wpAny (model prog w) A (pyNext it) (fun r s₁ => match r with
      | none => R (.ok .next) s₁
      | some v => wpAny (model prog w) A (letOwnedTupleGo t1 it v) (fun _ s₁' => wpAny (model prog w) A (assign t1 env v) (fun _ s₂ =>
          wpAny (model prog w) A (forIn ifs1 true fun c r => if r = true then do let ok ← isTrue c env (eval c env); pure (ForInStep.yield ok) else pure (ForInStep.yield r)) (fun ok s₃ =>
            if ok = true then wpAny (model prog w) A (eval elt env) (fun x s₄ =>
              wpAny (model prog w) A (call (.builtin "set.add") [acc, x]) (fun _ s₅ => ∃ m, m < n ∧ I m s₅) (notedBy (model prog w) A env fun e s' => R (.error e) s') s₄) (notedBy (model prog w) A env fun e s' => R (.error e) s') s₃
            else ∃ m, m < n ∧ I m s₃) (notedBy (model prog w) A env fun e s' => R (.error e) s') s₂) (notedBy (model prog w) A env fun e s' => R (.error e) s') s₁') (notedBy (model prog w) A env fun e s' => R (.error e) s') s₁) (notedBy (model prog w) A env fun e s' => R (.error e) s') s)
    (n : Nat) (h : I n s) :
    codeAny (model prog w) A (.compLoop (.SetComp elt [⟨t0, i0, ifs0, 0⟩, ⟨t1, i1, ifs1, 0⟩] scope pos) 1 it acc env) R s := by
  refine codeAny_loop rfl I (fun n s hI => ?_) n h
  show wpAny _ A ((compTurn (.SetComp elt [⟨t0, i0, ifs0, 0⟩, ⟨t1, i1, ifs1, 0⟩] scope pos) 1 it acc env).onRaise (fun x => do noteFrame x env; theTreesLotGoes x)) _ _ s
  refine wpAny_noted ?_
  rw [tcTurn2_in]
  refine wpAny_bind (wpAny_standAt (wpAny_bind (wpAny_mono (turn n s hI) (fun r s₁ h₁ => ?_) fun _ _ h' => h')))
  cases r with
  | none => exact wpAny_pure h₁
  | some v =>
    refine wpAny_bind (wpAny_mono h₁ (fun _ s₁' h₁' => ?_) fun _ _ h' => h')
    refine wpAny_bind (wpAny_mono h₁' (fun _ s₂ h₂ => wpAny_bind (wpAny_mono h₂ (fun ok s₃ h₃ => ?_) fun _ _ h' => h')) fun _ _ h' => h')
    cases ok with
    | false => exact wpAny_pure ⟨rfl, h₃⟩
    | true =>
      exact wpAny_bind (wpAny_bind (wpAny_mono h₃ (fun x s₄ h₄ => wpAny_bind (wpAny_standAt (wpAny_bind (wpAny_mono h₄ (fun _ s₅ h₅ => wpAny_pure (wpAny_pure ⟨rfl, h₅⟩)) fun _ _ h' => h')))) fun _ _ h' => h'))
/-- the second clause's start -/
theorem tcStart1 (h0 : codeAny (model prog w) A (.compLoop (.SetComp elt [⟨t0, i0, ifs0, 0⟩, ⟨t1, i1, ifs1, 0⟩] scope pos) 1 it acc env) R s)
    (h : wpAny (model prog w) A (pyIter it) (fun it' s' => codeAny (model prog w) A (.compLoop (.SetComp elt [⟨t0, i0, ifs0, 0⟩, ⟨t1, i1, ifs1, 0⟩] scope pos) 1 it' acc env) R s')
      (notedBy (model prog w) A env fun x s' => R (.error x) s') s) :
    codeAny (model prog w) A (.compStart (.SetComp elt [⟨t0, i0, ifs0, 0⟩, ⟨t1, i1, ifs1, 0⟩] scope pos) 1 it acc env) R s := by
  refine codeAny_of_tree ?_
  show wpAny _ _ ((compStart (.SetComp elt [⟨t0, i0, ifs0, 0⟩, ⟨t1, i1, ifs1, 0⟩] scope pos) 1 it acc env).onRaise (fun x => do noteFrame x env; standAt theWindowsPlace)) _ _ s
  refine wpAny_notedAt ?_
  unfold compStart
  show wpAny _ _ (ask >>= _) _ _ s
  refine wpAny_bind (wpAny_askSetting (wpAny_ite ?_))
  split
  · first
      | exact wpAny_bind (wpAny_pure (wpAny_pure (And.intro rfl h0)))
      | exact wpAny_pure (And.intro rfl h0)
  · first
      | exact wpAny_bind (wpAny_rule (wpAny_bind (wpAny_standAt (wpAny_bind (wpAny_mono h (fun it' s' h' => wpAny_pure (And.intro rfl h')) fun _ _ x => x)))))
      | (refine wpAny_bind (wpAny_rule ?_); show wpAny _ _ (standAt i1.pos >>= _) _ _ s; exact wpAny_bind (wpAny_standAt (wpAny_bind (wpAny_mono h (fun it' s' h' => wpAny_pure (And.intro rfl h')) fun _ _ x => x))))
end

section
variable {X : Cx}
def tTc2 (w : World) (wi : TI) (g : TG) (tt : TT) (wi1 : TI) (g1 : TG) (tt1 : TT) (te : TE) (vs vs1 : List Nat) : TE := fun σ H Q => wi σ H fun J H1 => ∀ D, H1 D = none → ∃ W : Nat → Nat → Hp → Prop, (∃ m, W 0 m (upd H1 D (TxO w D []))) ∧ ∀ i m H, W i m H →
  (J.stop i H ∧ Q (.ref D) H) ∨ (J.go i H ∧ ∃ Nx : Hp → Prop, (∀ H', Nx H' → ∃ m', m' < m ∧ W (i + 1) m' H') ∧ ∀ x H', J.yld i H x H' → g x (wipe σ vs) H' fun σ2 H2 => wipe σ2 vs = wipe σ vs ∧ tt σ2 H2 fun b H3 =>
    if b = true then wi1 σ2 H3 fun J1 H4 => ∃ W1 : Nat → Nat → Hp → Prop, (∃ m, W1 0 m H4) ∧ ∀ j k H, W1 j k H →
      (J1.stop j H ∧ Nx H) ∨ (J1.go j H ∧ ∃ Nx1 : Hp → Prop, (∀ H', Nx1 H' → ∃ k', k' < k ∧ W1 (j + 1) k' H') ∧ ∀ x H', J1.yld j H x H' → g1 x (wipe σ2 vs1) H' fun σ3 H5 => wipe σ3 vs1 = wipe σ2 vs1 ∧ tt1 σ3 H5 fun b H6 =>
        if b = true then te σ3 H6 fun y H7 => ∃ (x : Str) (L : List Str), y = .str x ∧ H7 D = some (TxO w D L) ∧ L.length + 1 < scanBound ∧ Nx1 (upd H7 D (TxO w D (addS L x))) else Nx1 H6)
    else Nx H3)
theorem tc2_core {pins : List (Addr × Obj)} {s : Shared} {σ : L2.St} {H : Hp} {Q : VK} {elt tg iter tg1 iter1 : Expr} {ifs ifs1 : List Expr} {scope : Scope} {own : List (PySem.Str × Nat)} {vs1 : List Nat} {pos pos' : Pos} {wi wi1 : TI} {g g1 : TG} {tt tt1 : TT} {te : TE} {use : Option (Value → Sem Unit)} {Qf : Value → Shared → Prop}
    (hc : X.calm = true) (hN : X.N.Nodup) (I : Inv X pins σ H s) (hi : PI X tg iter wi) (ok : BlkOk X.N X.env.scope scope own) (hv : ∀ i ∈ vs1, i ∈ own.map (·.2))
    (hg : ∀ (s : Shared) (H : Hp) (C : Addr) (cl : List (PySem.Str × Addr)) (fp : List Addr), PG (X.blk s H scope (compEnvC scope cl C X.env) fp) tg g) (ht : ∀ (s : Shared) (H : Hp) (C : Addr) (cl : List (PySem.Str × Addr)) (fp : List Addr), PTs (X.blk s H scope (compEnvC scope cl C X.env) fp) ifs tt)
    (he : ∀ (s : Shared) (H : Hp) (C : Addr) (cl : List (PySem.Str × Addr)) (fp : List Addr), PE (X.blk s H scope (compEnvC scope cl C X.env) fp) elt te) (hs : ∀ x, foldedSetIterable iter X.env x = pure x)
    (hi1 : ∀ (s : Shared) (H : Hp) (C : Addr) (cl : List (PySem.Str × Addr)) (fp : List Addr), PI (X.blk s H scope (compEnvC scope cl C X.env) fp) tg1 iter1 wi1)
    (hg1 : ∀ (s : Shared) (H : Hp) (C : Addr) (cl : List (PySem.Str × Addr)) (fp : List Addr), PG (X.blk s H scope (compEnvC scope cl C X.env) fp) tg1 g1)
    (ht1 : ∀ (s : Shared) (H : Hp) (C : Addr) (cl : List (PySem.Str × Addr)) (fp : List Addr), PTs (X.blk s H scope (compEnvC scope cl C X.env) fp) ifs1 tt1)
    (hs1 : ∀ env x, foldedSetIterable iter1 env x = pure x)
    (h : tTc2 X.w wi g tt wi1 g1 tt1 te (own.map (·.2)) vs1 σ H Q)
    (hRR : ∀ D C s' m H', Inv X pins σ H' s' → Q (.ref D) H' → s'.heap.Ns C m → FpOk X pins H' C → compPost (model X.prog X.w) X.A X.xe use Qf (.ref D) C (.ok .next) s') :
    wpAny (model X.prog X.w) X.A (comprehension (.SetComp elt [⟨tg, iter, ifs, 0⟩, ⟨tg1, iter1, ifs1, 0⟩] scope pos) scope X.env pos' (newSet (.type "set")) false (eval iter X.env) use) Qf X.xe s := by
  have hfree : ∀ y ∈ scope.names, y.2 = .free → ∃ c, X.env.cells.lookup y.1 = some c := fun y hy e => by
    rcases ok.free y hy e with k | k
    · exact I.ok.has _ (.inl k)
    · exact I.ok.has _ (.inr k)
  refine wpAny_comprehension_free (use := use) rfl hs (closure_ok hfree) ok.kind (fun y hy e => by rw [ok.uniq y hy, e])
    (thn (hi.run pins s σ H _ I h) fun xv s1 hx => thn hx fun itv s2 h2 => ?_)
  obtain ⟨it, fp, tn, J, H2, e, I2, T, st2, f2, q⟩ := h2
  subst e
  refine PpSet.newSet_ok (newEnv_comp ?_)
  generalize hD : s2.heap.objs.size = D
  have hDn : H2 D = none := I2.hok.fresh (Nat.le_of_eq hD)
  obtain ⟨W, ⟨m0, w0⟩, turn⟩ := q D hDn
  -- the new list
  generalize hs3 : ({ s2 with heap := s2.heap.push (emptySet X.w) } : Shared) = s3
  have I3 : Inv X pins σ (upd H2 D (TxO X.w D [])) s3 := by
    rw [← hs3]
    refine I2.laid (t' := s2.toks) (fun b o e => Heap.get?_push_of_some _ e) (Nat.le_of_eq hD) ?_
    rw [← hD]
    exact txO_new (tx_fresh X.w _)
  have h3 : s3.heap = s2.heap.push (emptySet X.w) := by rw [← hs3]
  have sz : ∀ b ∈ fp, b < s2.heap.objs.size := fun b hb => by
    obtain ⟨o, e, _⟩ := T.obj _ _ st2 b hb
    exact Heap.lt_size e
  have f3 : ∀ b ∈ fp, FpOk X pins (upd H2 D (TxO X.w D [])) b ∧ b < s3.heap.objs.size := fun b hb => by
    have hlt := sz b hb
    refine ⟨⟨?_, (f2 b hb).2⟩, by rw [h3, Heap.size_push]; exact Nat.lt_succ_of_lt hlt⟩
    rw [upd_ne (by rw [← hD]; exact Nat.ne_of_lt hlt)]
    exact (f2 b hb).1
  have st3 : tn 0 s3.heap := T.keep _ _ _ st2 fun b _ o e => by rw [h3]; exact Heap.get?_push_of_some _ e
  have I4 := block_start I3 ok hN f3
  have pg := hg s3 (upd H2 D (TxO X.w D [])) s3.heap.objs.size (cellsFrom (s3.heap.objs.size + 1) scope.names (cloFrom X.env.cells scope.names [])) fp
  have pt := ht s3 (upd H2 D (TxO X.w D [])) s3.heap.objs.size (cellsFrom (s3.heap.objs.size + 1) scope.names (cloFrom X.env.cells scope.names [])) fp
  have pe := he s3 (upd H2 D (TxO X.w D [])) s3.heap.objs.size (cellsFrom (s3.heap.objs.size + 1) scope.names (cloFrom X.env.cells scope.names [])) fp
  have pi1 := hi1 s3 (upd H2 D (TxO X.w D [])) s3.heap.objs.size (cellsFrom (s3.heap.objs.size + 1) scope.names (cloFrom X.env.cells scope.names [])) fp
  have pg1 := hg1 s3 (upd H2 D (TxO X.w D [])) s3.heap.objs.size (cellsFrom (s3.heap.objs.size + 1) scope.names (cloFrom X.env.cells scope.names [])) fp
  have pt1 := ht1 s3 (upd H2 D (TxO X.w D [])) s3.heap.objs.size (cellsFrom (s3.heap.objs.size + 1) scope.names (cloFrom X.env.cells scope.names [])) fp
  show codeAny _ _ (.compStart (.SetComp elt [⟨tg, iter, ifs, 0⟩, ⟨tg1, iter1, ifs1, 0⟩] scope pos) 0 (.ref it) (.ref D) (compEnvC scope (cellsFrom (s3.heap.objs.size + 1) scope.names (cloFrom X.env.cells scope.names [])) s3.heap.objs.size X.env)) (compPost (model X.prog X.w) X.A X.xe use Qf (.ref D) s3.heap.objs.size) { s3 with heap := pushCells (s3.heap.push { cls := .type "dict", data := .dict #[] }) scope.names }
  have nfp : ∀ b ∈ fp, (upd H2 D (TxO X.w D [])) b = none := fun b hb => (f3 b hb).1.1
  generalize hce : compEnvC scope (cellsFrom (s3.heap.objs.size + 1) scope.names (cloFrom X.env.cells scope.names [])) s3.heap.objs.size X.env = ce at I4 pg pt pe pi1 pg1 pt1 ⊢
  have cL : ce.locals = s3.heap.objs.size := by subst hce; rfl
  generalize hH3 : upd H2 D (TxO X.w D []) = H3 at I3 I4 pg pt pe pi1 pg1 pt1 w0 nfp f3
  generalize hs4 : ({ s3 with heap := pushCells (s3.heap.push { cls := .type "dict", data := .dict #[] }) scope.names } : Shared) = s4 at I4 ⊢
  have st4 : tn 0 s4.heap := T.keep _ _ _ st3 fun b _ o e => by rw [← hs4]; exact pushCells_keeps _ _ _ _ (Heap.get?_push_of_some _ e)
  have stat : ∀ {σ' : L2.St} {H' : Hp} {s' : Shared}, Inv (X.blk s3 H3 scope ce fp) [] σ' H' s' → (∀ b ∈ fp, H' b = none) → ∀ b ∈ fp, FpOk (X.blk s3 H3 scope ce fp) [] H' b := fun {σ' H' s'} I' hn b hb =>
    ⟨hn b hb, (I'.ok.exf b hb).1, I'.ok.exfs b hb, .inl hb, fun x c e => (I'.ok.exf b hb).2 x c e, fun p hp => absurd (show p ∈ ([] : List (Addr × Obj)) ++ [] from hp) (by simp)⟩
  have loop : codeAny (model X.prog X.w) X.A (.compLoop (.SetComp elt [⟨tg, iter, ifs, 0⟩, ⟨tg1, iter1, ifs1, 0⟩] scope pos) 0 (.ref it) (.ref D) ce) (compPost (model X.prog X.w) X.A X.xe use Qf (.ref D) s3.heap.objs.size) s4 := by
    refine tcLoop2_out (hs1 ce) (fun n s' => ∃ i H', Inv (X.blk s3 H3 scope ce fp) [] (wipe σ (own.map (·.2))) H' s' ∧ tn i s'.heap ∧ (∀ b ∈ fp, H' b = none) ∧ W i n H') ?_ m0 ⟨0, H3, I4, st4, nfp, w0⟩
    rintro n s5 ⟨i, H5, I5, st5, n5, w5⟩
    rcases turn i n H5 w5 with ⟨stop, qq⟩ | ⟨go, Nx, hNx, step⟩
    · have td := T.done (X.blk s3 H3 scope ce fp) rfl rfl rfl hc i [] s5 _ H5 (fun _ _ => False) I5 (stat I5 n5) st5 stop
      refine thnF td fun r s6 ⟨hr, I6⟩ => ?_
      subst hr
      -- back in the def's context
      have I7 : Inv X pins σ H5 s6 := I3.call' (ch := fp) I6.os I6.base I6.hok I6.bare fun b hb => ⟨(f3 b hb).1.2.2.2.1, (f3 b hb).1.2.1, (f3 b hb).1.2.2.2.2.1, (f3 b hb).1.2.2.2.2.2⟩
      have nC : H5 s3.heap.objs.size = none := by
        have z : H5 ce.locals = none := I6.free
        rw [cL] at z
        exact z
      obtain ⟨m, hn, _⟩ := I6.loc
      have hn : s6.heap.Ns ce.locals m := hn
      rw [cL] at hn
      exact hRR D s3.heap.objs.size s6 m H5 I7 qq hn (I3.fpOk (Nat.le_refl _) nC)
    · have ti := T.item (X.blk s3 H3 scope ce fp) rfl rfl rfl hc i [] s5 _ H5 (fun _ _ => False) I5 (stat I5 n5) st5 go
      refine thnF ti fun r s6 ⟨u, hr, h6⟩ => ?_
      subst hr
      refine thnF h6 fun _ s7 ⟨x, H7, I7, r7, y7, st7, n7⟩ => ?_
      have I7' := I7.pinned (stat I7 n7) (T.obj _ _ st7)
      refine thnF (pg.run _ s7 _ H7 x u _ I7' r7 (step x H7 y7)) fun _ s8 ⟨σ8, H8, I8, hw8, q8⟩ => ?_
      refine thnF (pt.run _ s8 σ8 H8 _ I8 q8) fun b s9 ⟨H9, I9, q9⟩ => ?_
      -- the turn's end, from any slots that know what the block knew at its start
      have fin : ∀ {σ9 : L2.St} {s' : Shared} {H' : Hp}, Inv (X.blk s3 H3 scope ce fp) ([] ++ pinsAt fp s7.heap) σ9 H' s' → (wipe σ (own.map (·.2))).length = σ9.length → (∀ (j : Nat) v, (wipe σ (own.map (·.2)))[j]? = some (some v) → σ9[j]? = some (some v)) → Nx H' →
          ∃ m, m < n ∧ ∃ i H', Inv (X.blk s3 H3 scope ce fp) [] (wipe σ (own.map (·.2))) H' s' ∧ tn i s'.heap ∧ (∀ b ∈ fp, H' b = none) ∧ W i m H' := fun {σ9 s' H'} I' hl hk nx => by
        obtain ⟨m', hm, w'⟩ := hNx H' nx
        have pin' : ∀ b ∈ fp, ∀ o, s7.heap.get? b = some o → s'.heap.get? b = some o ∧ H' b = none := fun b hb o e =>
          let z := I'.pin (b, o) (List.mem_append_right _ (List.mem_append_right _ (mem_pinsAt hb e)))
          ⟨z.1, z.2.1⟩
        refine ⟨m', hm, i + 1, H', (I'.unpinned (pins := [])).weak hl hk, T.keep _ _ _ st7 fun b hb o e => (pin' b hb o e).1, fun b hb => ?_, w'⟩
        obtain ⟨o, e, _⟩ := T.obj _ _ st7 b hb
        exact (pin' b hb o e).2
      have hl8 : (wipe σ (own.map (·.2))).length = σ8.length := by rw [← hw8, wipe_length]
      have hk8 : ∀ (j : Nat) v, (wipe σ (own.map (·.2)))[j]? = some (some v) → σ8[j]? = some (some v) := fun j v e => by
        rw [← hw8] at e
        exact (wipe_some e).1
      have hk9 : ∀ (j : Nat) v, (wipe σ (own.map (·.2)))[j]? = some (some v) → (wipe σ8 vs1)[j]? = some (some v) := fun j v e => by
        rw [← hw8] at e
        obtain ⟨e1, e2⟩ := wipe_some e
        rw [wipe_out fun z => e2 (hv j z)]
        exact e1
      cases b with
      | false =>
        simp only [Bool.false_eq_true, if_false] at q9 ⊢
        exact fin I9 hl8 hk8 q9
      | true =>
        simp only [if_true] at q9 ⊢
        refine thnF (pi1.run _ s9 σ8 H9 _ I9 q9) fun xv s10 hx => thnF hx fun itv s11 h11 => ?_
        obtain ⟨it1, fp1, tn1, J1, H11, e1, I11, T1, st11, f11, W1, ⟨m1, w1⟩, turn1⟩ := h11
        subst e1
        -- the inner loop
        have stat1 : ∀ {H' : Hp}, (∀ b ∈ fp1, H' b = none) → ∀ b ∈ fp1, FpOk (X.blk s3 H3 scope ce fp) ([] ++ pinsAt fp s7.heap) H' b := fun hn b hb => ⟨hn b hb, (f11 b hb).2⟩
        have loop1 : codeAny (model X.prog X.w) X.A (.compLoop (.SetComp elt [⟨tg, iter, ifs, 0⟩, ⟨tg1, iter1, ifs1, 0⟩] scope pos) 1 (.ref it1) (.ref D) ce)
            (fun r s' => match r with
              | .ok _ => ∃ m, m < n ∧ ∃ i H', Inv (X.blk s3 H3 scope ce fp) [] (wipe σ (own.map (·.2))) H' s' ∧ tn i s'.heap ∧ (∀ b ∈ fp, H' b = none) ∧ W i m H'
              | .error _ => False) s11 := by
          refine tcLoop2_in (fun k s' => ∃ j H', Inv (X.blk s3 H3 scope ce fp) ([] ++ pinsAt fp s7.heap) (wipe σ8 vs1) H' s' ∧ tn1 j s'.heap ∧ (∀ b ∈ fp1, H' b = none) ∧ W1 j k H') ?_ m1 ⟨0, H11, I11.weak (wipe_length _ _) (fun j v e => (wipe_some e).1), st11, fun b hb => (f11 b hb).1, w1⟩
          rintro k s12 ⟨j, H12, I12, st12, n12, w12⟩
          rcases turn1 j k H12 w12 with ⟨stop1, nx1⟩ | ⟨go1, Nx1, hNx1, step1⟩
          · refine thnF (T1.done (X.blk s3 H3 scope ce fp) rfl rfl rfl hc j _ s12 (wipe σ8 vs1) H12 (fun _ _ => False) I12 (stat1 n12) st12 stop1) fun r s13 ⟨hr, I13⟩ => ?_
            subst hr
            exact fin I13 (hl8.trans (wipe_length σ8 vs1).symm) hk9 nx1
          · refine thnF (T1.item (X.blk s3 H3 scope ce fp) rfl rfl rfl hc j _ s12 (wipe σ8 vs1) H12 (fun _ _ => False) I12 (stat1 n12) st12 go1) fun r s13 ⟨u1, hr, h13⟩ => ?_
            subst hr
            refine thnF h13 fun _ s14 ⟨x1, H14, I14, r14, y14, st14, n14⟩ => ?_
            have I14' := I14.pinned (stat1 n14) (T1.obj _ _ st14)
            refine thnF (pg1.run _ s14 (wipe σ8 vs1) H14 x1 u1 _ I14' r14 (step1 x1 H14 y14)) fun _ s15 ⟨σ15, H15, I15, hw15, q15⟩ => ?_
            refine thnF (pt1.run _ s15 σ15 H15 _ I15 q15) fun b1 s16 ⟨H16, I16, q16⟩ => ?_
            have fin1 : ∀ {s' : Shared} {H' : Hp}, Inv (X.blk s3 H3 scope ce fp) (([] ++ pinsAt fp s7.heap) ++ pinsAt fp1 s14.heap) σ15 H' s' → Nx1 H' → ∃ m, m < k ∧ ∃ j H', Inv (X.blk s3 H3 scope ce fp) ([] ++ pinsAt fp s7.heap) (wipe σ8 vs1) H' s' ∧ tn1 j s'.heap ∧ (∀ b ∈ fp1, H' b = none) ∧ W1 j m H' := fun {s' H'} I' nx => by
              obtain ⟨m', hm, w'⟩ := hNx1 H' nx
              have pin' : ∀ b ∈ fp1, ∀ o, s14.heap.get? b = some o → s'.heap.get? b = some o ∧ H' b = none := fun b hb o e =>
                let z := I'.pin (b, o) (List.mem_append_right _ (List.mem_append_right _ (mem_pinsAt hb e)))
                ⟨z.1, z.2.1⟩
              refine ⟨m', hm, j + 1, H', I'.unpinned.weak (by rw [← hw15, wipe_length]) (fun j v e => by rw [← hw15] at e; exact (wipe_some e).1), T1.keep _ _ _ st14 fun b hb o e => (pin' b hb o e).1, fun b hb => ?_, w'⟩
              obtain ⟨o, e, _⟩ := T1.obj _ _ st14 b hb
              exact (pin' b hb o e).2
            cases b1 with
            | false =>
              simp only [Bool.false_eq_true, if_false] at q16 ⊢
              exact fin1 I16 q16
            | true =>
              simp only [if_true] at q16 ⊢
              refine thnF (pe.run _ s16 σ15 H16 _ I16 q16) fun z s17 ⟨yv, H17, I17, r17, xv17, L17, ey, hD17, hz17, nx⟩ => ?_
              subst ey
              obtain ⟨tk17, rfl⟩ := r17
              exact addTx_ok (X := X.blk s3 H3 scope ce fp) I17 hD17 hz17 fun s18 I18 => fin1 I18 nx
        exact tcStart1 loop1 (T1.self X.A 0 _ _ _ st11 loop1)
  exact PpSet.codeAny_compStart_set loop (T.self X.A 0 _ _ _ st4 loop)
/-- as a value -/
theorem pe_tc2 {elt tg iter tg1 iter1 : Expr} {ifs ifs1 : List Expr} {scope : Scope} {own : List (PySem.Str × Nat)} {vs1 : List Nat} {pos : Pos} {wi wi1 : TI} {g g1 : TG} {tt tt1 : TT} {te : TE} (hc : X.calm = true) (hN : X.N.Nodup) (hi : PI X tg iter wi) (ok : BlkOk X.N X.env.scope scope own) (hv : ∀ i ∈ vs1, i ∈ own.map (·.2))
    (hg : ∀ (s : Shared) (H : Hp) (C : Addr) (cl : List (PySem.Str × Addr)) (fp : List Addr), PG (X.blk s H scope (compEnvC scope cl C X.env) fp) tg g) (ht : ∀ (s : Shared) (H : Hp) (C : Addr) (cl : List (PySem.Str × Addr)) (fp : List Addr), PTs (X.blk s H scope (compEnvC scope cl C X.env) fp) ifs tt)
    (hi1 : ∀ (s : Shared) (H : Hp) (C : Addr) (cl : List (PySem.Str × Addr)) (fp : List Addr), PI (X.blk s H scope (compEnvC scope cl C X.env) fp) tg1 iter1 wi1)
    (hg1 : ∀ (s : Shared) (H : Hp) (C : Addr) (cl : List (PySem.Str × Addr)) (fp : List Addr), PG (X.blk s H scope (compEnvC scope cl C X.env) fp) tg1 g1) (ht1 : ∀ (s : Shared) (H : Hp) (C : Addr) (cl : List (PySem.Str × Addr)) (fp : List Addr), PTs (X.blk s H scope (compEnvC scope cl C X.env) fp) ifs1 tt1)
    (he : ∀ (s : Shared) (H : Hp) (C : Addr) (cl : List (PySem.Str × Addr)) (fp : List Addr), PE (X.blk s H scope (compEnvC scope cl C X.env) fp) elt te) (hs : ∀ x, foldedSetIterable iter X.env x = pure x := by intro _; rfl) (hs1 : ∀ env x, foldedSetIterable iter1 env x = pure x := by intro _ _; rfl) :
    PE X (.SetComp elt [⟨tg, iter, ifs, 0⟩, ⟨tg1, iter1, ifs1, 0⟩] scope pos) (tTc2 X.w wi g tt wi1 g1 tt1 te (own.map (·.2)) vs1) := by
  refine ⟨fun pins s σ H Q I h => ?_⟩
  rw [PpSet.eval_SetComp]
  refine tc2_core hc hN I hi ok hv hg ht he hs hi1 hg1 ht1 hs1 h fun D C s' m H' I' q hn f => ⟨m, hn, fun h'' sb => ?_⟩
  obtain ⟨f0, f1, f2, f3, f4, f5⟩ := f
  exact ⟨.ref D, H', I'.turned (t' := s'.toks) (fun b o hb e => (sb.2 b hb).trans e) f0 f1 f3 f4 f5, rfl, q⟩
end
end Stair
/-! ## StSet5 -/
set_option Elab.async false
set_option linter.all false
set_option maxRecDepth 100000
set_option maxHeartbeats 4000000
namespace Stair
open PySem PySem.Spec PyProof.Rows L2

section
variable {X : Cx}
def tTc (w : World) (wi : TI) (g : TG) (tt : TT) (te : TE) (vs : List Nat) : TE := fun σ H Q => wi σ H fun J H1 => ∀ D, H1 D = none → ∃ W : Nat → Nat → Hp → Prop, (∃ m, W 0 m (upd H1 D (TxO w D []))) ∧ ∀ i m H, W i m H →
  (J.stop i H ∧ Q (.ref D) H) ∨ (J.go i H ∧ ∃ Nx : Hp → Prop, (∀ H', Nx H' → ∃ m', m' < m ∧ W (i + 1) m' H') ∧ ∀ x H', J.yld i H x H' → g x (wipe σ vs) H' fun σ2 H2 => wipe σ2 vs = wipe σ vs ∧ tt σ2 H2 fun b H3 =>
    if b = true then te σ2 H3 fun y H4 => ∃ (x : Str) (L : List Str), y = .str x ∧ H4 D = some (TxO w D L) ∧ L.length + 1 < scanBound ∧ Nx (upd H4 D (TxO w D (addS L x))) else Nx H3)
theorem tc_core {pins : List (Addr × Obj)} {s : Shared} {σ : L2.St} {H : Hp} {Q : VK} {elt tg iter : Expr} {ifs : List Expr} {scope : Scope} {own : List (PySem.Str × Nat)} {pos pos' : Pos} {wi : TI} {g : TG} {tt : TT} {te : TE} {use : Option (Value → Sem Unit)} {Qf : Value → Shared → Prop}
    (hc : X.calm = true) (hN : X.N.Nodup) (I : Inv X pins σ H s) (hi : PI X tg iter wi) (ok : BlkOk X.N X.env.scope scope own)
    (hg : ∀ (s : Shared) (H : Hp) (C : Addr) (cl : List (PySem.Str × Addr)) (fp : List Addr), PG (X.blk s H scope (compEnvC scope cl C X.env) fp) tg g) (ht : ∀ (s : Shared) (H : Hp) (C : Addr) (cl : List (PySem.Str × Addr)) (fp : List Addr), PTs (X.blk s H scope (compEnvC scope cl C X.env) fp) ifs tt)
    (he : ∀ (s : Shared) (H : Hp) (C : Addr) (cl : List (PySem.Str × Addr)) (fp : List Addr), PE (X.blk s H scope (compEnvC scope cl C X.env) fp) elt te) (hs : ∀ x, foldedSetIterable iter X.env x = pure x)
    (h : tTc X.w wi g tt te (own.map (·.2)) σ H Q)
    (hRR : ∀ D C s' m H', Inv X pins σ H' s' → Q (.ref D) H' → s'.heap.Ns C m → FpOk X pins H' C → compPost (model X.prog X.w) X.A X.xe use Qf (.ref D) C (.ok .next) s') :
    wpAny (model X.prog X.w) X.A (comprehension (.SetComp elt [⟨tg, iter, ifs, 0⟩] scope pos) scope X.env pos' (newSet (.type "set")) false (eval iter X.env) use) Qf X.xe s := by
  have hfree : ∀ y ∈ scope.names, y.2 = .free → ∃ c, X.env.cells.lookup y.1 = some c := fun y hy e => by
    rcases ok.free y hy e with k | k
    · exact I.ok.has _ (.inl k)
    · exact I.ok.has _ (.inr k)
  refine wpAny_comprehension_free (use := use) rfl hs (closure_ok hfree) ok.kind (fun y hy e => by rw [ok.uniq y hy, e])
    (thn (hi.run pins s σ H _ I h) fun xv s1 hx => thn hx fun itv s2 h2 => ?_)
  obtain ⟨it, fp, tn, J, H2, e, I2, T, st2, f2, q⟩ := h2
  subst e
  refine PpSet.newSet_ok (newEnv_comp ?_)
  generalize hD : s2.heap.objs.size = D
  have hDn : H2 D = none := I2.hok.fresh (Nat.le_of_eq hD)
  obtain ⟨W, ⟨m0, w0⟩, turn⟩ := q D hDn
  -- the new list
  generalize hs3 : ({ s2 with heap := s2.heap.push (emptySet X.w) } : Shared) = s3
  have I3 : Inv X pins σ (upd H2 D (TxO X.w D [])) s3 := by
    rw [← hs3]
    refine I2.laid (t' := s2.toks) (fun b o e => Heap.get?_push_of_some _ e) (Nat.le_of_eq hD) ?_
    rw [← hD]
    exact txO_new (tx_fresh X.w _)
  have h3 : s3.heap = s2.heap.push (emptySet X.w) := by rw [← hs3]
  have sz : ∀ b ∈ fp, b < s2.heap.objs.size := fun b hb => by
    obtain ⟨o, e, _⟩ := T.obj _ _ st2 b hb
    exact Heap.lt_size e
  have f3 : ∀ b ∈ fp, FpOk X pins (upd H2 D (TxO X.w D [])) b ∧ b < s3.heap.objs.size := fun b hb => by
    have hlt := sz b hb
    refine ⟨⟨?_, (f2 b hb).2⟩, by rw [h3, Heap.size_push]; exact Nat.lt_succ_of_lt hlt⟩
    rw [upd_ne (by rw [← hD]; exact Nat.ne_of_lt hlt)]
    exact (f2 b hb).1
  have st3 : tn 0 s3.heap := T.keep _ _ _ st2 fun b _ o e => by rw [h3]; exact Heap.get?_push_of_some _ e
  have I4 := block_start I3 ok hN f3
  have pg := hg s3 (upd H2 D (TxO X.w D [])) s3.heap.objs.size (cellsFrom (s3.heap.objs.size + 1) scope.names (cloFrom X.env.cells scope.names [])) fp
  have pt := ht s3 (upd H2 D (TxO X.w D [])) s3.heap.objs.size (cellsFrom (s3.heap.objs.size + 1) scope.names (cloFrom X.env.cells scope.names [])) fp
  have pe := he s3 (upd H2 D (TxO X.w D [])) s3.heap.objs.size (cellsFrom (s3.heap.objs.size + 1) scope.names (cloFrom X.env.cells scope.names [])) fp
  show codeAny _ _ (.compStart (.SetComp elt [⟨tg, iter, ifs, 0⟩] scope pos) 0 (.ref it) (.ref D) (compEnvC scope (cellsFrom (s3.heap.objs.size + 1) scope.names (cloFrom X.env.cells scope.names [])) s3.heap.objs.size X.env)) (compPost (model X.prog X.w) X.A X.xe use Qf (.ref D) s3.heap.objs.size) { s3 with heap := pushCells (s3.heap.push { cls := .type "dict", data := .dict #[] }) scope.names }
  have nfp : ∀ b ∈ fp, (upd H2 D (TxO X.w D [])) b = none := fun b hb => (f3 b hb).1.1
  generalize hce : compEnvC scope (cellsFrom (s3.heap.objs.size + 1) scope.names (cloFrom X.env.cells scope.names [])) s3.heap.objs.size X.env = ce at I4 pg pt pe ⊢
  have cL : ce.locals = s3.heap.objs.size := by subst hce; rfl
  generalize hH3 : upd H2 D (TxO X.w D []) = H3 at I3 I4 pg pt pe w0 nfp f3
  generalize hs4 : ({ s3 with heap := pushCells (s3.heap.push { cls := .type "dict", data := .dict #[] }) scope.names } : Shared) = s4 at I4 ⊢
  have st4 : tn 0 s4.heap := T.keep _ _ _ st3 fun b _ o e => by rw [← hs4]; exact pushCells_keeps _ _ _ _ (Heap.get?_push_of_some _ e)
  have stat : ∀ {σ' : L2.St} {H' : Hp} {s' : Shared}, Inv (X.blk s3 H3 scope ce fp) [] σ' H' s' → (∀ b ∈ fp, H' b = none) → ∀ b ∈ fp, FpOk (X.blk s3 H3 scope ce fp) [] H' b := fun {σ' H' s'} I' hn b hb =>
    ⟨hn b hb, (I'.ok.exf b hb).1, I'.ok.exfs b hb, .inl hb, fun x c e => (I'.ok.exf b hb).2 x c e, fun p hp => absurd (show p ∈ ([] : List (Addr × Obj)) ++ [] from hp) (by simp)⟩
  have loop : codeAny (model X.prog X.w) X.A (.compLoop (.SetComp elt [⟨tg, iter, ifs, 0⟩] scope pos) 0 (.ref it) (.ref D) ce) (compPost (model X.prog X.w) X.A X.xe use Qf (.ref D) s3.heap.objs.size) s4 := by
    refine PpSet.compLoopS_any (fun n s' => ∃ i H', Inv (X.blk s3 H3 scope ce fp) [] (wipe σ (own.map (·.2))) H' s' ∧ tn i s'.heap ∧ (∀ b ∈ fp, H' b = none) ∧ W i n H') ?_ m0 ⟨0, H3, I4, st4, nfp, w0⟩
    rintro n s5 ⟨i, H5, I5, st5, n5, w5⟩
    rcases turn i n H5 w5 with ⟨stop, qq⟩ | ⟨go, Nx, hNx, step⟩
    · have td := T.done (X.blk s3 H3 scope ce fp) rfl rfl rfl hc i [] s5 _ H5 (fun _ _ => False) I5 (stat I5 n5) st5 stop
      refine thnF td fun r s6 ⟨hr, I6⟩ => ?_
      subst hr
      -- back in the def's context
      have I7 : Inv X pins σ H5 s6 := I3.call' (ch := fp) I6.os I6.base I6.hok I6.bare fun b hb => ⟨(f3 b hb).1.2.2.2.1, (f3 b hb).1.2.1, (f3 b hb).1.2.2.2.2.1, (f3 b hb).1.2.2.2.2.2⟩
      have nC : H5 s3.heap.objs.size = none := by
        have z : H5 ce.locals = none := I6.free
        rw [cL] at z
        exact z
      obtain ⟨m, hn, _⟩ := I6.loc
      have hn : s6.heap.Ns ce.locals m := hn
      rw [cL] at hn
      exact hRR D s3.heap.objs.size s6 m H5 I7 qq hn (I3.fpOk (Nat.le_refl _) nC)
    · have ti := T.item (X.blk s3 H3 scope ce fp) rfl rfl rfl hc i [] s5 _ H5 (fun _ _ => False) I5 (stat I5 n5) st5 go
      refine thnF ti fun r s6 ⟨u, hr, h6⟩ => ?_
      subst hr
      refine thnF h6 fun _ s7 ⟨x, H7, I7, r7, y7, st7, n7⟩ => ?_
      have I7' := I7.pinned (stat I7 n7) (T.obj _ _ st7)
      refine thnF (pg.run _ s7 _ H7 x u _ I7' r7 (step x H7 y7)) fun _ s8 ⟨σ8, H8, I8, hw8, q8⟩ => ?_
      refine thnF (pt.run _ s8 σ8 H8 _ I8 q8) fun b s9 ⟨H9, I9, q9⟩ => ?_
      -- the turn's end
      have fin : ∀ {s' : Shared} {H' : Hp}, Inv (X.blk s3 H3 scope ce fp) ([] ++ pinsAt fp s7.heap) σ8 H' s' → Nx H' → ∃ m, m < n ∧ ∃ i H', Inv (X.blk s3 H3 scope ce fp) [] (wipe σ (own.map (·.2))) H' s' ∧ tn i s'.heap ∧ (∀ b ∈ fp, H' b = none) ∧ W i m H' := fun {s' H'} I' nx => by
        obtain ⟨m', hm, w'⟩ := hNx H' nx
        have pin' : ∀ b ∈ fp, ∀ o, s7.heap.get? b = some o → s'.heap.get? b = some o ∧ H' b = none := fun b hb o e =>
          let z := I'.pin (b, o) (List.mem_append_right _ (List.mem_append_right _ (mem_pinsAt hb e)))
          ⟨z.1, z.2.1⟩
        have hl : (wipe σ (own.map (·.2))).length = σ8.length := by rw [← hw8, wipe_length]
        refine ⟨m', hm, i + 1, H', (I'.unpinned (pins := [])).weak hl (fun j v e => ?_), T.keep _ _ _ st7 fun b hb o e => (pin' b hb o e).1, fun b hb => ?_, w'⟩
        · rw [← hw8] at e
          exact (wipe_some e).1
        · obtain ⟨o, e, _⟩ := T.obj _ _ st7 b hb
          exact (pin' b hb o e).2
      cases b with
      | false =>
        simp only [Bool.false_eq_true, if_false] at q9 ⊢
        exact fin I9 q9
      | true =>
        simp only [if_true] at q9 ⊢
        refine thnF (pe.run _ s9 σ8 H9 _ I9 q9) fun z s10 ⟨yv, H10, I10, r10, x10, L10, ey, hD10, hz10, nx⟩ => ?_
        subst ey
        obtain ⟨tk10, rfl⟩ := r10
        exact addTx_ok (X := X.blk s3 H3 scope ce fp) I10 hD10 hz10 fun s11 I11 => fin I11 nx
  exact PpSet.codeAny_compStart_set loop (T.self X.A 0 _ _ _ st4 loop)
/-- as a value -/
theorem pe_tc {elt tg iter : Expr} {ifs : List Expr} {scope : Scope} {own : List (PySem.Str × Nat)} {pos : Pos} {wi : TI} {g : TG} {tt : TT} {te : TE} (hc : X.calm = true) (hN : X.N.Nodup) (hi : PI X tg iter wi) (ok : BlkOk X.N X.env.scope scope own)
    (hg : ∀ (s : Shared) (H : Hp) (C : Addr) (cl : List (PySem.Str × Addr)) (fp : List Addr), PG (X.blk s H scope (compEnvC scope cl C X.env) fp) tg g) (ht : ∀ (s : Shared) (H : Hp) (C : Addr) (cl : List (PySem.Str × Addr)) (fp : List Addr), PTs (X.blk s H scope (compEnvC scope cl C X.env) fp) ifs tt)
    (he : ∀ (s : Shared) (H : Hp) (C : Addr) (cl : List (PySem.Str × Addr)) (fp : List Addr), PE (X.blk s H scope (compEnvC scope cl C X.env) fp) elt te) (hs : ∀ x, foldedSetIterable iter X.env x = pure x := by intro _; rfl) :
    PE X (.SetComp elt [⟨tg, iter, ifs, 0⟩] scope pos) (tTc X.w wi g tt te (own.map (·.2))) := by
  refine ⟨fun pins s σ H Q I h => ?_⟩
  rw [PpSet.eval_SetComp]
  refine tc_core hc hN I hi ok hg ht he hs h fun D C s' m H' I' q hn f => ⟨m, hn, fun h'' sb => ?_⟩
  obtain ⟨f0, f1, f2, f3, f4, f5⟩ := f
  exact ⟨.ref D, H', I'.turned (t' := s'.toks) (fun b o hb e => (sb.2 b hb).trans e) f0 f1 f3 f4 f5, rfl, q⟩
end
end Stair
/-! ## StNames -/
set_option Elab.async false
set_option linter.all false
set_option maxRecDepth 100000
set_option maxHeartbeats 1000000
namespace Stair
open PySem PySem.Spec PyProof.Rows L2 Evl
/-! ### texts, sorted and told once -/
def insS (a : Str) : List Str → List Str
  | [] => [a]
  | b :: r => if a = b then b :: r else if a.cps.toList < b.cps.toList then a :: b :: r else b :: insS a r
def sortS (l : List Str) : List Str := l.foldr insS []
theorem mem_insS {a x : Str} : ∀ {l : List Str}, x ∈ insS a l ↔ x = a ∨ x ∈ l
  | [] => by simp [insS]
  | b :: r => by
    unfold insS
    split
    · rename_i h
      subst h
      simp
    · split
      · simp
      · rw [List.mem_cons, mem_insS (l := r), List.mem_cons]
        constructor
        · rintro (h | h | h)
          · exact .inr (.inl h)
          · exact .inl h
          · exact .inr (.inr h)
        · rintro (h | h | h)
          · exact .inr (.inl h)
          · exact .inl h
          · exact .inr (.inr h)
theorem mem_sortS {x : Str} : ∀ {l : List Str}, x ∈ sortS l ↔ x ∈ l
  | [] => Iff.rfl
  | a :: r => by
    show x ∈ insS a (sortS r) ↔ _
    rw [mem_insS, mem_sortS (l := r), List.mem_cons]
theorem lt_trans' {a b c : Str} (h1 : Str.lt a b) (h2 : Str.lt b c) : Str.lt a c := List.lt_trans h1 h2
theorem lt_total {a b : Str} (h1 : a ≠ b) (h2 : ¬ Str.lt a b) : Str.lt b a := by
  have h3 : b.cps.toList ≤ a.cps.toList := List.not_lt.mp h2
  rcases List.le_iff_lt_or_eq.mp h3 with h | h
  · exact h
  · exact absurd (Str.ext h.symm) h1
theorem srt_insS {a : Str} : ∀ {l : List Str}, l.Pairwise Str.lt → (insS a l).Pairwise Str.lt
  | [], _ => List.pairwise_singleton _ _
  | b :: r, h => by
    obtain ⟨h1, h2⟩ := List.pairwise_cons.mp h
    unfold insS
    split
    · exact h
    · rename_i ne
      split
      · rename_i hl
        refine List.pairwise_cons.mpr ⟨fun x hx => ?_, h⟩
        rcases List.mem_cons.mp hx with rfl | hx
        · exact hl
        · exact lt_trans' hl (h1 x hx)
      · rename_i hl
        refine List.pairwise_cons.mpr ⟨fun x hx => ?_, srt_insS h2⟩
        rcases mem_insS.mp hx with rfl | hx
        · exact lt_total ne hl
        · exact h1 x hx
theorem srt_sortS : ∀ l : List Str, (sortS l).Pairwise Str.lt
  | [] => .nil
  | a :: r => srt_insS (srt_sortS r)
/-- two sorted ones with the same members -/
theorem srt_ext : ∀ {l m : List Str}, l.Pairwise Str.lt → m.Pairwise Str.lt → (∀ x, x ∈ l ↔ x ∈ m) → l = m
  | [], [], _, _, _ => rfl
  | [], b :: r, _, _, h => absurd ((h b).mpr List.mem_cons_self) (by simp)
  | a :: r, [], _, _, h => absurd ((h a).mp List.mem_cons_self) (by simp)
  | a :: r, b :: q, h1, h2, h => by
    obtain ⟨a1, a2⟩ := List.pairwise_cons.mp h1
    obtain ⟨b1, b2⟩ := List.pairwise_cons.mp h2
    have irr : ∀ x : Str, ¬ Str.lt x x := fun x => List.lt_irrefl _
    have e : a = b := by
      rcases List.mem_cons.mp ((h a).mp List.mem_cons_self) with e | ha
      · exact e
      · rcases List.mem_cons.mp ((h b).mpr List.mem_cons_self) with e | hb
        · exact e.symm
        · exact absurd (lt_trans' (a1 b hb) (b1 a ha)) (irr a)
    subst e
    refine congrArg _ (srt_ext a2 b2 fun x => ⟨fun hx => ?_, fun hx => ?_⟩)
    · rcases List.mem_cons.mp ((h x).mp (List.mem_cons_of_mem _ hx)) with e | hx'
      · subst e
        exact absurd (a1 x hx) (irr x)
      · exact hx'
    · rcases List.mem_cons.mp ((h x).mpr (List.mem_cons_of_mem _ hx)) with e | hx'
      · subst e
        exact absurd (b1 x hx) (irr x)
      · exact hx'
theorem sortS_congr {l m : List Str} (h : ∀ x, x ∈ l ↔ x ∈ m) : sortS l = sortS m := srt_ext (srt_sortS l) (srt_sortS m) fun x => by rw [mem_sortS, mem_sortS, h]
theorem sortS_of_srt {l : List Str} (h : l.Pairwise Str.lt) : sortS l = l := srt_ext (srt_sortS l) h fun x => mem_sortS
theorem nodup_srt {l : List Str} (h : l.Pairwise Str.lt) : l.Nodup := h.imp fun {a b} hab e => by
  subst e
  exact List.lt_irrefl _ hab
theorem rising_iff : ∀ {l : List Str} {p : Str}, risingS p l = true → l.Nodup → p ∉ l → (p :: l).Pairwise Str.lt
  | [], p, _, _, _ => List.pairwise_singleton _ _
  | x :: r, p, h, n, hp => by
    have h' : (!ltCps x.cps.toList p.cps.toList && risingS x r) = true := h
    rw [Bool.and_eq_true, ltCps_eq] at h'
    obtain ⟨n1, n2⟩ := List.nodup_cons.mp n
    have ne : x ≠ p := fun e => hp (by rw [e]; exact List.mem_cons_self)
    have lt : Str.lt p x := lt_total ne fun hlt => by
      have q := h'.1
      rw [decide_eq_true (show x.cps.toList < p.cps.toList from hlt)] at q
      cases q
    have ih := rising_iff h'.2 n2 n1
    refine List.pairwise_cons.mpr ⟨fun y hy => ?_, ih⟩
    rcases List.mem_cons.mp hy with rfl | hy
    · exact lt
    · exact lt_trans' lt ((List.pairwise_cons.mp ih).1 y hy)
theorem srt_of {l : List Str} (h : sortedS l = true) (n : l.Nodup) : l.Pairwise Str.lt := by
  cases l with
  | nil => exact .nil
  | cons a r => exact rising_iff h (List.nodup_cons.mp n).2 (List.nodup_cons.mp n).1
/-! ### sets on the way -/
def EvS (w : World) (te : TE) (Γ : En) (l : List Str) : Prop := ∀ σ H, EOk H σ Γ → ∀ Q : VK, (∀ p H' L, Ex H H' → H' p = some (TxO w p L) → L.Nodup → (∀ a, a ∈ L ↔ a ∈ l) → Q (.ref p) H') → te σ H Q
section
variable {K : Kx} {w : World} {Γ : En} {te : TE}
theorem eg_sorted {l : List Str} (h : EvS w te Γ l) (h64 : (sortS l).length < 64) : EvG (tCB (rSortedTx w) (tCons te tNil)) Γ (.list ((sortS l).map .str)) := fun σ H ok Q q => h σ H ok _ fun p H1 L e hp nd hm => by
  have e2 : ∀ ys : List Str, ys.Perm L → sortedS ys = true → ys = sortS l := fun ys pm hs => by
    rw [← sortS_of_srt (srt_of hs (pm.nodup_iff.mpr nd))]
    exact sortS_congr fun x => pm.mem_iff.trans (hm x)
  have hlen : L.length = (sortS l).length := by
    have z : L.Perm (sortS l) := (List.perm_ext_iff_of_nodup nd (nodup_srt (srt_sortS l))).mpr fun x => (hm x).trans mem_sortS.symm
    exact z.length_eq
  refine ⟨p, L, rfl, hp, by rw [hlen]; exact h64, fun ys p2 pm hs hn => ?_⟩
  rw [e2 ys pm hs]
  exact q _ _ (e.trans (Ex.new hn)) (.lst upd_same (dts_strs _))
theorem es_set {l : List Str} (h : EvG te Γ (.list (l.map .str))) (hl : l.length + 1 < 4096) : EvS w (tCB (rSetTx K w) (tCons te tNil)) Γ l := fun σ H ok Q q => h σ H ok _ fun v H1 e d => by
  cases d with | lst a r =>
    have e2 := r.strs
    subst e2
    exact ⟨_, l, rfl, sq_of a, hl, fun p hp => q p _ (addAll [] l) (e.trans (Ex.new hp)) upd_same (addAll_nodup _ _ .nil) fun x => by rw [mem_addAll]; simp⟩
/-- {name for name in l} -/
theorem es_tc {wi : TI} {g : TG} {vs : List Nat} {l : List Str} (hi : ItG wi Γ (l.map .str)) (hl : l.length + 1 < 4096)
    (h : ∀ x, x ∈ l → ∃ ps, GpG g (.str x) ps ∧ (∀ p ∈ ps, p.1 ∈ vs) ∧ EvG te (setsE (wipeE Γ vs) ps) (.str x)) : EvS w (tTc w wi g tYes te vs) Γ l := fun σ H ok Q q => hi σ H ok _ fun J H1 x1 gv D hD => by
  obtain ⟨G, Y, wk, g1, gs, gy⟩ := gv
  rw [List.length_map] at wk
  refine ⟨fun i m H2 => m = l.length - i ∧ i ≤ l.length ∧ Ex H1 H2 ∧ H2 D = some (TxO w D (addAll [] (l.take i))), ⟨l.length, by simp, Nat.zero_le _, Ex.new hD, by rw [List.take_zero]; exact upd_same⟩, ?_⟩
  rintro i m H2 ⟨rfl, hi, e2, h2⟩
  rcases Nat.lt_or_ge i l.length with hlt | hge
  · refine .inr ⟨wk.goes i H2 hlt (gs _ _ e2 g1), fun H3 => i + 1 ≤ l.length ∧ Ex H1 H3 ∧ H3 D = some (TxO w D (addAll [] (l.take (i + 1)))), fun H3 q3 => ⟨l.length - (i + 1), by omega, rfl, q3⟩, fun x H3 y => ?_⟩
    obtain ⟨e3, d, hd, dx⟩ := gy i H2 x H3 (by rw [List.length_map]; exact hlt) (gs _ _ e2 g1) e2 (wk.yields i H2 x H3 hlt (gs _ _ e2 g1) y)
    rw [List.getElem?_map] at hd
    obtain ⟨z, hz, rfl⟩ := Option.map_eq_some_iff.mp hd
    obtain ⟨ps, hp, hv, he⟩ := h z (List.mem_of_getElem? hz)
    have ok3 : EOk H3 (L2.wipe σ vs) (wipeE Γ vs) := (ok.mono (x1.trans (e2.trans e3))).wipe vs
    refine hp x _ H3 dx _ fun xs px => ⟨by rw [px.wipe hv, wipe_two], et_yes _ H3 (px.ok ok3) _ fun H5 e5 => ifT (he _ H5 ((px.ok ok3).mono e5) _ fun v H4 e4 dv => ?_)⟩
    cases dv
    have d4 := e4 _ _ (e5 _ _ (e3 _ _ h2))
    have hb : (addAll [] (l.take i)).length + 1 < scanBound := by
      have := addAll_len (l.take i) []
      rw [List.length_take] at this
      show _ < 4096
      simp at this
      omega
    refine ⟨z, _, rfl, d4, hb, hlt, Ex.mut (((e2.trans e3).trans e5).trans e4) hD, ?_⟩
    rw [take_snoc hz, addAll_snoc]
    exact upd_same
  · have e : i = l.length := by omega
    subst e
    refine .inl ⟨wk.stops H2 (gs _ _ e2 g1), ?_⟩
    rw [List.take_length] at h2
    exact q D H2 _ (x1.trans e2) h2 (addAll_nodup _ _ .nil) fun x => by rw [mem_addAll]; simp
end
end Stair
/-! ## StF10 -/
set_option Elab.async false
set_option linter.all false
set_option maxRecDepth 100000
set_option maxHeartbeats 1000000
namespace Stair
open PySem PySem.Spec PyProof.Rows L2 Evl
/-- {name for x in xs for name in f x} -/
theorem es_tc2 {α : Type} {w : World} {Γ : En} {te : TE} {K : Kx} {wi : TI} {te1 : TE} {g g1 : TG} {vs vs1 : List Nat} {l : List α} {q : α → PD} {f : α → List Str} (hi : ItG wi Γ (l.map q)) (hl : (l.flatMap f).length + 1 < 4096)
    (h : ∀ x, x ∈ l → ∃ ps, GpG g (q x) ps ∧ (∀ p ∈ ps, p.1 ∈ vs) ∧ (∀ d, some d ∈ setsE (wipeE Γ vs) ps → td d = true) ∧ EvG te1 (setsE (wipeE Γ vs) ps) (namesD (f x)) ∧
      ∀ a, a ∈ f x → ∃ qs, GpG g1 (.str a) qs ∧ (∀ p ∈ qs, p.1 ∈ vs1) ∧ EvG te (setsE (wipeE (setsE (wipeE Γ vs) ps) vs1) qs) (.str a)) : EvS w (tTc2 w wi g tYes (iTup K te1) g1 tYes te vs vs1) Γ (l.flatMap f) := fun σ H ok Q k => hi σ H ok _ fun J H1 x1 gv D hD => by
  obtain ⟨G, Y, wk, gg, gs, gy⟩ := gv
  rw [List.length_map] at wk
  refine ⟨fun i m H2 => m = l.length - i ∧ i ≤ l.length ∧ Ex H1 H2 ∧ H2 D = some (TxO w D (addAll [] ((l.take i).flatMap f))), ⟨l.length, by simp, Nat.zero_le _, Ex.new hD, by rw [List.take_zero]; exact upd_same⟩, ?_⟩
  rintro i m H2 ⟨rfl, hi, e2, h2⟩
  rcases Nat.lt_or_ge i l.length with hlt | hge
  · refine .inr ⟨wk.goes i H2 hlt (gs _ _ e2 gg), fun H3 => i + 1 ≤ l.length ∧ Ex H1 H3 ∧ H3 D = some (TxO w D (addAll [] ((l.take (i + 1)).flatMap f))), fun H3 q3 => ⟨l.length - (i + 1), by omega, rfl, q3⟩, fun x H3 y => ?_⟩
    obtain ⟨e3, d, hd, dx⟩ := gy i H2 x H3 (by rw [List.length_map]; exact hlt) (gs _ _ e2 gg) e2 (wk.yields i H2 x H3 hlt (gs _ _ e2 gg) y)
    rw [List.getElem?_map] at hd
    obtain ⟨z, hz, rfl⟩ := Option.map_eq_some_iff.mp hd
    obtain ⟨ps, hp, hv, htd, hi1, hin⟩ := h z (List.mem_of_getElem? hz)
    have ok3 : EOk H3 (L2.wipe σ vs) (wipeE Γ vs) := (ok.mono (x1.trans (e2.trans e3))).wipe vs
    have htk : (l.take (i + 1)).flatMap f = (l.take i).flatMap f ++ f z := by rw [take_snoc hz, List.flatMap_append]; simp
    have hlen : ((l.take i).flatMap f ++ f z).length ≤ (l.flatMap f).length := by
      rw [← htk]
      have z1 : l.flatMap f = (l.take (i + 1)).flatMap f ++ (l.drop (i + 1)).flatMap f := by rw [← List.flatMap_append, List.take_append_drop]
      rw [z1, List.length_append]
      omega
    refine hp x _ H3 dx _ fun xs px => ⟨by rw [px.wipe hv, wipe_two], et_yes _ H3 (px.ok ok3) _ fun H5 e5 => ifT (hi1 _ H5 ((px.ok ok3).mono e5) _ fun v1 H6 e6 dv1 => ?_)⟩
    have ok6 := ((px.ok ok3).mono e5).mono e6
    have d6 := e6 _ _ (e5 _ _ (e3 _ _ h2))
    have x6 := ((e2.trans e3).trans e5).trans e6
    cases dv1 with | tup ha ra =>
      rename_i a us
      have hne : a ≠ D := fun z => by rw [z, d6] at ha; cases ha
      obtain ⟨G1, Y1, wk1, gg1, gy1⟩ := givesO_tup (K := K) (p := D) hne ha ra (td_strs (f z))
      rw [List.length_map] at wk1
      refine ⟨a, rfl, ⟨us, st_of ha⟩, fun j m H7 => m = (f z).length - j ∧ j ≤ (f z).length ∧ Ow D H6 H7 ∧ Tx H6 H7 ∧ Ex H1 H7 ∧ H7 D = some (TxO w D (addAll [] ((l.take i).flatMap f ++ (f z).take j))), ⟨(f z).length, by simp, Nat.zero_le _, Ow.refl _ _, Tx.refl _, x6, by rw [List.take_zero, List.append_nil]; exact d6⟩, ?_⟩
      rintro j m H7 ⟨rfl, hj, o7, t7, x7, h7⟩
      rcases Nat.lt_or_ge j (f z).length with hlt1 | hge1
      · refine .inr ⟨wk1.goes j H7 hlt1 (gg1 _ o7), fun H8 => j + 1 ≤ (f z).length ∧ Ow D H6 H8 ∧ Tx H6 H8 ∧ Ex H1 H8 ∧ H8 D = some (TxO w D (addAll [] ((l.take i).flatMap f ++ (f z).take (j + 1)))), fun H8 q8 => ⟨(f z).length - (j + 1), by omega, rfl, q8⟩, fun x' H8 y' => ?_⟩
        obtain ⟨e8, d', hd', dx'⟩ := gy1 j H7 x' H8 (by rw [List.length_map]; exact hlt1) o7 t7 (wk1.yields j H7 x' H8 hlt1 (gg1 _ o7) y')
        rw [List.getElem?_map] at hd'
        obtain ⟨nm, hnm, rfl⟩ := Option.map_eq_some_iff.mp hd'
        obtain ⟨qs, hq, hw, he⟩ := hin nm (List.mem_of_getElem? hnm)
        have ok8 : EOk H8 (L2.wipe (setsV (L2.wipe σ vs) xs) vs1) (wipeE (setsE (wipeE Γ vs) ps) vs1) := ((EOk.tx t7 htd ok6).mono e8).wipe vs1
        refine hq x' _ H8 dx' _ fun xs' px' => ⟨by rw [px'.wipe hw, wipe_two], et_yes _ H8 (px'.ok ok8) _ fun H9 e9 => ifT (he _ H9 ((px'.ok ok8).mono e9) _ fun v H10 e10 dv => ?_)⟩
        cases dv
        have d10 := e10 _ _ (e9 _ _ (e8 _ _ h7))
        have hb : (addAll [] ((l.take i).flatMap f ++ (f z).take j)).length + 1 < scanBound := by
          have q1 := addAll_len ((l.take i).flatMap f ++ (f z).take j) []
          rw [List.length_append, List.length_take] at q1
          rw [List.length_append] at hlen
          rw [List.length_nil, Nat.zero_add] at q1
          show _ < 4096
          omega
        refine ⟨nm, _, rfl, d10, hb, hlt1, ((o7.trans (Ex.ow e8)).trans (Ex.ow e9)).trans ((Ex.ow e10).trans Ow.put), ((t7.trans (Ex.tx e8)).trans (Ex.tx e9)).trans ((Ex.tx e10).trans (tx_upd fun us z => by rw [d10] at z; cases z)), Ex.mut (((x7.trans e8).trans e9).trans e10) hD, ?_⟩
        rw [take_snoc hnm, ← List.append_assoc, addAll_snoc]
        exact upd_same
      · have ej : j = (f z).length := by omega
        subst ej
        refine .inl ⟨wk1.stops H7 (gg1 _ o7), hlt, x7, ?_⟩
        rw [List.take_length] at h7
        rw [htk]
        exact h7
  · have e : i = l.length := by omega
    subst e
    refine .inl ⟨wk.stops H2 (gs _ _ e2 gg), ?_⟩
    rw [List.take_length] at h2
    exact k D H2 _ (x1.trans e2) h2 (addAll_nodup _ _ .nil) fun x => by rw [mem_addAll]; simp
/-! ### a def with a star parameter -/
def HasStar (P : Program) (w : World) (K : Kx) (mg : Str → Option Value) (base : Heap) (k : Nat) (x : Str) (sp : Sp) : Prop := ∃ f, mg x = some (.ref f) ∧ PySem.W.keepIn K (.ref f) = true ∧
  FnR P w K mg base CX0 k f (fun vs H Q E => vs.length ≤ sizeLine ∧ ∀ p, H p = none → sp [.ref p] (upd H p (.tup vs)) Q E)
def tStarC (K : Kx) (sp : Sp) (te : TE) : TE := fun σ H Q => te σ H fun y H1 => ∃ a xs, y = V.ref a ∧ (SqT K H1 a xs ∨ SqL K H1 a xs) ∧ xs.length ≤ sizeLine ∧ ∀ p, H1 p = none → sp [.ref p] (upd H1 p (.tup xs)) Q (fun _ _ _ => False)
theorem pe_star {X : Cx} {K : Kx} {x : Str} {sp : Sp} {k j : Nat} {e : Expr} {te : TE} {p sp_ pos : Pos} (h : HasStar X.prog X.w X.K X.mg X.base j x sp) (hr : Room k X.A) (he : PE X e te) (hj : j ≤ k := by decide) (hK : X.K = K := by rfl) (hg : Gl X x := by rfl) (hd : (x == ("__debug__" : Str)) = false := by decide)
    (hst : starEach [.Starred e sp_] X.env = [(true, eval e X.env)] := by rfl) : PE X (.Call (.Name x p) [.Starred e sp_] [] pos) (tStarC K sp te) := by
  subst hK
  obtain ⟨f, g, kp, F⟩ := h
  exact StX.pe_callS1 (E := fun _ _ _ => False) (F.mono hj) hr kp hg g C8.pass0 he hd hst
theorem eg_starC {K : Kx} {Γ : En} {R : List PD → PD → Prop} {te : TE} {ds : List PD} {f : PD} (h : EvG te Γ (.list ds)) (hl : ds.length ≤ 100000) (hr : R [.tuple ds] f) : EvG (tStarC K (spF R) te) Γ f := fun σ H ok Q q => h σ H ok _ fun v H1 e d => by
  cases d with | lst a r =>
    exact ⟨_, _, rfl, .inr (sq_of a), sz_of (by rw [r.length]; exact hl), fun p hp => ⟨[.tuple ds], f, .cons (.tup upd_same (r.mono (Ex.new hp))) .nil, hr, fun v' H' e' d' => q v' H' ((e.trans (Ex.new hp)).trans e') d'⟩⟩
theorem bind_star0 {B : List Value → Sem (List (Str × Value))} {pv : Str} (h0 : B [] = (newTuple [] >>= fun t => pure [(pv, t)])) (h1 : ∀ r rs, B (r :: rs) = (newTuple (r :: rs) >>= fun t => pure [(pv, t)])) :
    ∀ us rest : List Value, us.length = ([] : List Str).length → B (us ++ rest) = (newTuple rest >>= fun t => pure (([] : List Str).zip us ++ [(pv, t)]))
  | [], [], _ => h0
  | [], r :: rs, _ => h1 r rs
section
variable {X : Cx} {K : Kx} {mg : Str → Option Value} {e : Expr} {es : List Expr} {ta : TA} {p pos : Pos} {te : TE} (T : Tp K mg)
include T
theorem kb_sorted (ha : PA X (e :: es) ta) (w : World) (hw : X.w = w := by rfl) (hM : X.mg = mg := by rfl) (hc : X.calm = true := by rfl) (hg : Gl X "sorted" := by rfl) (he : starEach (e :: es) X.env = (false, eval e X.env) :: starEach es X.env := by rfl) (hpl : (backTo pos (starEach es X.env)).any (·.1) = false := by rfl) :
    PE X (.Call (.Name "sorted" p) (e :: es) [] pos) (tCB (rSortedTx w) ta) := by
  subst hw hM
  exact pe_callB (cr_sortedTx hc) hg T.f_sorted (by decide +kernel) ha (by decide) (by decide) he hpl
theorem kb_set (ha : PA X (e :: es) ta) (w : World) (hw : X.w = w := by rfl) (hK : X.K = K := by rfl) (hM : X.mg = mg := by rfl) (hc : X.calm = true := by rfl) (hg : Gl X "set" := by rfl) (he : starEach (e :: es) X.env = (false, eval e X.env) :: starEach es X.env := by rfl) (hpl : (backTo pos (starEach es X.env)).any (·.1) = false := by rfl) :
    PE X (.Call (.Name "set" p) (e :: es) [] pos) (tCB (rSetTx K w) ta) := by
  subst hw hK hM
  exact pe_callTy (cr_setTx hc) hg T.f_set (by decide +kernel) ha (by decide) (by decide) he hpl
end
def allNames (xs : List Deal) : List Str := xs.flatMap (·.names)
theorem allNames_len : ∀ {xs : List Deal}, (∀ x ∈ xs, GoodDeal x) → (allNames xs).length ≤ 6 * xs.length
  | [], _ => Nat.le_refl _
  | x :: r, h => by
    have h1 := (h x List.mem_cons_self).names.hi
    have h2 := allNames_len fun y hy => h y (List.mem_cons_of_mem _ hy)
    show (x.names ++ allNames r).length ≤ _
    rw [List.length_append, List.length_cons]
    omega
theorem insS_len (a : Str) : ∀ l : List Str, (insS a l).length ≤ l.length + 1
  | [] => Nat.le_refl _
  | b :: r => by
    unfold insS
    split
    · simp
    · split
      · simp
      · have := insS_len a r
        simp only [List.length_cons]
        omega
theorem sortS_len : ∀ l : List Str, (sortS l).length ≤ l.length
  | [] => Nat.le_refl _
  | a :: r => by
    have h1 := insS_len a (sortS r)
    have h2 := sortS_len r
    show (insS a (sortS r)).length ≤ _
    rw [List.length_cons]
    omega
section
variable {P : Program} {w : World} {K : Kx} {mg : Str → Option Value} {base : Heap} (T : Tp K mg)
include T
/-! names_of -/
def R_names_of (ds : List PD) (d : PD) : Prop := ∃ xs : List Deal, xs.length ≤ 8 ∧ (∀ x ∈ xs, GoodDeal x) ∧ ds = [.tuple (xs.map dealD)] ∧ d = .list ((sortS (allNames xs)).map .str)
theorem has_names_of : HasStar P w K mg base 1 "names_of" (spF R_names_of) := by
  obtain ⟨f, fd, F, g⟩ := T.dNamesOf
  refine ⟨f, g, F.kp, ?_⟩
  obtain ⟨oc, od, dV, kV, doc, pm, an, cdv, ct, osl, rfl, lk, hcd, hdf, _⟩ := F.ex
  have hdV : dV = .none := by
    rcases hdf with ⟨_, e⟩ | ⟨e, _⟩
    · exact e
    · exact absurd rfl e
  subst hdV
  have Z := StX.fn_star (P := P) (w := w) (mg := mg) (base := base) (CX := CX0) (k := 0) (ps := []) (pv := "deals") (N := ["deals", "deal", "name"]) (sp := spF R_names_of) lk hcd sc_names_of StX.cxUp_none (bind_star0 (B := fun l => bindArgs (PySem.W.fnOf "names_of" "names_of" (defArgs sNamesOf) (defBody sNamesOf) (defScope sNamesOf) .none kV doc pm an cdv ct) ⟨l, []⟩) rfl fun _ _ => rfl) ?_
  · intro A outer s H us vs Q E hr e0 r h
    exact Z A outer s H us vs Q E hr e0 r ⟨[], vs, rfl, rfl, h.1, h.2⟩
  · intro A outer s H vs Q E hr h
    obtain ⟨ds, d, hv, ⟨xs, h1, h2, rfl, rfl⟩, k⟩ := h
    refine ⟨_, pss_one (ps_ret (kb_sorted T (pa_cons (pe_tc2 (own := [("deal", 1), ("name", 2)]) (vs1 := [2]) (g := gName 1) (tt := tYes) (wi1 := iTup K (tOp (rIxT K) (tVar 1) (tC (.int 0)))) (g1 := gName 2) (tt1 := tYes) rfl sc_names_of.nd (kpi_tup K (pv 0)) (by exact blkOk_by (by kernel_rfl)) (by decide) (fun _ _ _ _ _ => pg_nm 1 sc_names_of.nd) (fun _ _ _ _ _ => pts_nil)
      (fun _ _ _ _ _ => kpi_tup K (pe_ix (kix_tup K) (pv 1) pe_int (fun _ _ => rfl))) (fun _ _ _ _ _ => pg_nm 2 sc_names_of.nd) (fun _ _ _ _ _ => pts_nil) (fun _ _ _ _ _ => pv 2)) pa_nil) w)), ?_⟩
    refine SG.body (sg_ret (eg_sorted (w := w) (l := allNames xs) (es_tc2 (K := K) (l := xs) (q := dealD) (it_tup (eg_var rfl)) ?_ (fun x hx => ⟨_, gp_name, by simp, fun d hd => ?_, eg_op (rg_ixT (atI_nat' (n := 0) rfl)) (eg_var rfl) eg_int, fun a ha => ⟨_, gp_name, by simp, eg_var rfl⟩⟩)) ?_)) hv k
    · have := allNames_len h2
      show (allNames xs).length + 1 < 4096
      omega
    · have hd : some d ∈ [some (PyData.tuple (xs.map dealD)), some (dealD x), none] := hd
      rcases List.mem_cons.mp hd with h | hd
      · cases h
        exact td_all fun y hy => by obtain ⟨z, _, rfl⟩ := List.mem_map.mp hy; exact td_deal z
      · rcases List.mem_cons.mp hd with h | hd
        · cases h
          exact td_deal x
        · cases List.mem_singleton.mp hd
    · have := allNames_len h2
      have := sortS_len (allNames xs)
      omega
end
end Stair
/-! ## StF11 -/
set_option Elab.async false
set_option linter.all false
set_option maxRecDepth 100000
set_option maxHeartbeats 1000000
namespace Stair
open PySem PySem.Spec PyProof.Rows L2 Evl
theorem has_fnN {P : Program} {w : World} {K : Kx} {mg : Str → Option Value} {base : Heap} {k : Nat} {x : Str} {ps N : List Str} {st : Stmt} {R : List PD → PD → Prop} (D : ∃ f fd, FnP K x st f fd ∧ mg x = some (.ref f)) (S : FnScope N ps (defScope st)) (hb : ∀ (kV doc pm : Value) (an : Option Addr) (cdv ct : Value) (us : List Value), us.length = ps.length → bindArgs (PySem.W.fnOf x x (defArgs st) (defBody st) (defScope st) .none kV doc pm an cdv ct) ⟨us, []⟩ = pure (ps.zip us))
    (len : ∀ ds d, R ds d → ds.length = ps.length) (hn : ∀ ds d, R ds d → d = .none)
    (hbody : ∀ (f : Addr) (cdv : Value) (A : Around) (outer : List Env) (s : Shared) (H : Hp) (E : XK) (ds : List PD) (d : PD), Room k (A.deeper (envOfC x (defScope st) s.heap.objs.size f cdv)) → R ds d →
      ∃ t, PSs (cxOf CX0 P w K mg base N x (defScope st) f cdv A outer s H E).nox (defBody st) t ∧ ∃ Γ, SG t (ds.map some ++ List.replicate (N.length - ds.length) none) (.nx Γ)) : Has P w K mg base CX0 (k + 1) x ps (spF R) :=
  has_of D S hb (fun vs H Q E ⟨ds, d, a, b, _⟩ => a.length.trans (len ds d b)) fun f cdv A outer s H vs Q E hr ⟨ds, d, a, b, c⟩ => let ⟨t, h1, Γ, h2⟩ := hbody f cdv A outer s H E ds d hr b; ⟨t, h1, h2.bodyN a fun H' e => c _ H' e (by rw [hn ds d b]; exact .non)⟩
def deals (n : Net) : List Deal := n.map (·.2)
def people (n : Net) : List Str := (sortS (allNames (deals n))).filter fun a => !decide (a ∈ n.map (·.1))
def natsD (l : List Nat) : PD := .tuple (l.map fun k => .int (k : Nat))
theorem td_nats (l : List Nat) : td (natsD l) = true := td_all fun d hd => by obtain ⟨a, _, rfl⟩ := List.mem_map.mp hd; rfl
section
variable {P : Program} {w : World} {K : Kx} {mg : Str → Option Value} {base : Heap} (T : Tp K mg)
include T
/-! people_in -/
def R_people_in (ds : List PD) (d : PD) : Prop := ∃ n : Net, GoodNet n ∧ ds = [netD n] ∧ d = .list ((people n).map .str)
theorem has_people_in : Has P w K mg base CX0 2 "people_in" ["net"] (spF R_people_in) :=
  has_fn T.dPeopleIn sc_people_in (fun _ _ _ _ _ _ us hl => match us, hl with | [_], _ => rfl) (fun ds d ⟨_, _, a, _⟩ => by rw [a]; rfl) fun f cdv A outer s H E ds d hr h => by
    obtain ⟨n, hn, rfl, rfl⟩ := h
    have G_houses_of := has_houses_of (P := P) (w := w) (base := base) T
    have G_names_of := has_names_of (P := P) (w := w) (base := base) T
    have h4 := hn.hi
    have hd : ∀ x ∈ deals n, GoodDeal x := fun x hx => by
      obtain ⟨p, hp, rfl⟩ := List.mem_map.mp hx
      exact hn.deal p hp
    have hl : (deals n).length = n.length := List.length_map ..
    refine ⟨_, (pss_cons (ps_asg (pe_tup (pa_cons (pe_has G_houses_of hr (pa_cons (pv 0) pa_nil)) (pa_cons (pe_lc (own := [("house", 3), ("deal", 4)]) (g := (gTup K 2 (gCons (gName 3) (gCons (gName 4) gNil)))) (tt := tYes) rfl sc_people_in.nd (kpi_tup K (pv 0)) (by exact blkOk_by (by kernel_rfl)) (fun _ _ _ _ _ => (kpg_tup K (pgs_cons (pg_nm 3 sc_people_in.nd) (pgs_cons (pg_nm 4 sc_people_in.nd) pgs_nil)))) (fun _ _ _ _ _ => pts_nil) (fun _ _ _ _ _ => (pv 4))) pa_nil))) (kpg_tup K (pgs_cons (pg_nm 1 sc_people_in.nd) (pgs_cons (pg_nm 2 sc_people_in.nd) pgs_nil)))) (pss_one (ps_ret (pe_lc (own := [("name", 5)]) (g := (gName 5)) rfl sc_people_in.nd (kpi_list K (pe_star G_names_of hr (pv 2))) (by exact blkOk_by (by kernel_rfl)) (fun _ _ _ _ _ => (pg_nm 5 sc_people_in.nd)) (fun _ _ _ _ _ => (pts_one (pt_cmpR (kop_nin K) (pv 5) (pv 1) rfl))) (fun _ _ _ _ _ => (pv 5)))))), ?_⟩
    refine sg_seq (sg_asgP (eg_tup (ea_cons (eg_call (spF_g ⟨n, by omega, .inl rfl, rfl⟩) (ea_cons (eg_var rfl) ea_nil)) (ea_cons (eg_lcM (K := K) (l := n) (q := houseD) (f := fun p => dealD p.2) (it_tup (eg_var rfl)) (by omega) fun p hp => ⟨_, gp2, by simp, eg_var rfl, td_deal _⟩) ea_nil)) (Nat.le_of_ble_eq_true rfl)) gp2) (sg_ret ?_)
    have hlen := sortS_len (allNames (deals n))
    have hlen2 := allNames_len hd
    show EvG _ _ (.list (((sortS (allNames (deals n))).filter fun a => !decide (a ∈ n.map (·.1))).map PyData.str))
    refine eg_lcF (K := K) (l := sortS (allNames (deals n))) (q := PyData.str) (f := PyData.str) (it_list (eg_starC (R := R_names_of) (ds := (deals n).map dealD) ((eg_var rfl).is (by unfold deals; rw [List.map_map] <;> rfl)) (by rw [List.length_map]; omega) ⟨deals n, by omega, hd, rfl, rfl⟩)) (by omega) fun a ha => ⟨_, gp_name, by simp, et_test (eg_op rg_ninL (eg_var rfl) (eg_var rfl)), fun _ => ⟨eg_var rfl, rfl⟩⟩
/-! need_house -/
def R_need_house (ds : List PD) (d : PD) : Prop := ∃ (n : Net) (a : Str), GoodNet n ∧ Opens n ∧ a ∈ n.map (·.1) ∧ ds = [netD n, .str a] ∧ d = .none
theorem has_need_house : Has P w K mg base CX0 7 "need_house" ["net", "house"] (spF R_need_house) :=
  has_fnN T.dNeedHouse sc_need_house (fun _ _ _ _ _ _ us hl => match us, hl with | [_, _], _ => rfl) (fun ds d ⟨_, _, _, _, _, a, _⟩ => by rw [a]; rfl) (fun ds d ⟨_, _, _, _, _, _, a⟩ => a) fun f cdv A outer s H E ds d hr h => by
    obtain ⟨n, a, hn, ho, ha, rfl, rfl⟩ := h
    have G_houses_of := has_houses_of (P := P) (w := w) (base := base) T
    have G_need_open := has_need_open (P := P) (w := w) (base := base) T
    have h4 := hn.hi
    refine ⟨_, (pss_cons (ps_expr (pe_has G_need_open hr (pa_cons (pv 0) pa_nil))) (pss_one (ps_if (PW.pt (pw_or (pt_not (pt_val (kb_isi T (pv 1) T.f_str bo_str))) (pw_or1 (pt_cmpR (kop_nin K) (pv 1) (pe_has G_houses_of hr (pa_cons (pv 0) pa_nil)) rfl)))) (pss_one ps_never) pss_nil))), ?_⟩
    exact ⟨_, sg_seq (sg_drop (eg_call (spF_g ⟨n, hn, ho, rfl, rfl⟩) (ea_cons (eg_var rfl) ea_nil))) (sg_ifF ((et_or (et_not (et_B (eg_isi (.inr (.inr (.inl rfl))) ⟨rfl, by simp⟩ (eg_var rfl)))) fun _ => et_test (eg_op rg_ninL (eg_var rfl) (eg_call (spF_g ⟨n, by omega, .inl rfl, rfl⟩) (ea_cons (eg_var rfl) ea_nil)))).is (by simp only [isA]; rw [decide_eq_true ha]; rfl)) sg_next)⟩
/-! need_amounts -/
def R_need_amounts (ds : List PD) (d : PD) : Prop := ∃ (n : Net) (l : List Nat), GoodNet n ∧ Opens n ∧ l.length = n.length ∧ (∀ k ∈ l, k ≤ 10 ^ 30) ∧ ds = [netD n, natsD l] ∧ d = .none
theorem has_need_amounts : Has P w K mg base CX0 7 "need_amounts" ["net", "amounts"] (spF R_need_amounts) :=
  has_fnN T.dNeedAmounts sc_need_amounts (fun _ _ _ _ _ _ us hl => match us, hl with | [_, _], _ => rfl) (fun ds d ⟨_, _, _, _, _, _, a, _⟩ => by rw [a]; rfl) (fun ds d ⟨_, _, _, _, _, _, _, a⟩ => a) fun f cdv A outer s H E ds d hr h => by
    obtain ⟨n, l, hn, ho, hl, ha, rfl, rfl⟩ := h
    have G_need_open := has_need_open (P := P) (w := w) (base := base) T
    have G_is_whole := has_is_whole (P := P) (w := w) (base := base) T
    have h4 := hn.hi
    refine ⟨_, (pss_cons (ps_expr (pe_has G_need_open hr (pa_cons (pv 0) pa_nil))) (pss_cons (ps_if (PW.pt (pw_or (pt_not (pt_val (kb_isi T (pv 1) T.f_tuple bo_tuple))) (pw_or1 (pt_cmpR op_ne (kb_len T (pa_cons (pv 1) pa_nil)) (kb_len T (pa_cons (pv 0) pa_nil)) (nomark _))))) (pss_one ps_never) pss_nil) (pss_one (ps_if (pt_not (pt_val (kb_all T (pa_cons (pe_lc (own := [("one", 2)]) (g := (gName 2)) (tt := tYes) rfl sc_need_amounts.nd (kpi_tup K (pv 1)) (by exact blkOk_by (by kernel_rfl)) (fun _ _ _ _ _ => (pg_nm 2 sc_need_amounts.nd)) (fun _ _ _ _ _ => pts_nil) (fun _ _ _ _ _ => (pe_has G_is_whole hr (pa_cons (pv 2) (pa_cons pe_int (pa_cons (pe_cI T.c_MOST_NUMBER) pa_nil)))))) pa_nil)))) (pss_one ps_never) pss_nil)))), ?_⟩
    refine ⟨_, sg_seq (sg_drop (eg_call (spF_g ⟨n, hn, ho, rfl, rfl⟩) (ea_cons (eg_var rfl) ea_nil))) (sg_seq (sg_ifF ((et_or (et_not (et_B (eg_isi (.inr (.inr (.inr rfl))) ⟨td_nats l, by simp [natsD]⟩ (eg_var rfl)))) fun _ => et_test (eg_op rg_neI (eg_cb cg_lenT (ea_cons (eg_var rfl) ea_nil)) (eg_cb cg_lenT (ea_cons (eg_var rfl) ea_nil)))).is ?_) sg_next)
      (sg_ifF ((et_not (et_B (eg_cb (cg_all (ns := l.map fun _ => true)) (ea_cons ?_ ea_nil)))).is (by simp)) sg_next))⟩
    · rw [List.length_map, List.length_map, hl]
      simp [isA, natsD]
    · rw [List.map_map]
      refine eg_lcM (K := K) (q := fun k : Nat => PyData.int (k : Nat)) (it_tup (eg_var rfl)) (by omega) fun k hk => ⟨_, gp_name, by simp, eg_call (spF_g ⟨k, 0, 1000000000000000000000000000000, rfl, ?_⟩) (ea_cons (eg_var rfl) (ea_cons eg_int (ea_cons eg_int ea_nil))), rfl⟩
      have e2 : ((k : Nat) : Int) ≤ 1000000000000000000000000000000 := by have := ha k hk; omega
      simp [e2]
end
end Stair
/-! ## StF12 -/
set_option Elab.async false
set_option linter.all false
set_option maxRecDepth 100000
set_option maxHeartbeats 1000000
namespace Stair
open PySem PySem.Spec PyProof.Rows L2 Evl
/-! ### what is handed on: a dict of sums -/
def stepF (f : Str → Option Nat) (q : Str × Nat) : Str → Option Nat := fun x => if x = q.1 then some ((f q.1).getD 0 + q.2) else f x
def handF (l : List (Str × Nat)) : Str → Option Nat := l.foldl stepF fun _ => none
theorem handF_snoc (l : List (Str × Nat)) (q : Str × Nat) : handF (l ++ [q]) = stepF (handF l) q := by simp [handF]
def pairs1 (q : (Str × Deal) × Nat) : List (Str × Nat) := q.1.2.names.zip (hasD q.1.2 q.2)
def pairsOf (n : Net) (come : List Nat) : List (Str × Nat) := (n.zip come).flatMap pairs1
/-- the dict at p tells f, in at most m rows -/
def DictIs (H : Hp) (p : Addr) (f : Str → Option Nat) (m : Nat) : Prop := ∃ kvs : List (Key × V), H p = some (.dK kvs) ∧ kvs.length ≤ m ∧ ∀ a : Str, valV kvs (.inr a) = (f a).map fun n => V.int (n : Nat)
theorem DictIs.at {H H' : Hp} {p : Addr} {f : Str → Option Nat} {m : Nat} (h : DictIs H p f m) (e : ∀ o, H p = some o → H' p = some o) : DictIs H' p f m := let ⟨kvs, a, b, c⟩ := h; ⟨kvs, e _ a, b, c⟩
theorem putK_le {κ : Type} [DecidableEq κ] (c : List (κ × V)) (k : κ) (x : V) : (putK c k x).length ≤ c.length + 1 := by
  unfold putK
  split
  · rw [List.length_map]
    omega
  · rw [List.length_append]
    exact Nat.le_refl _
theorem DictIs.put {H : Hp} {p : Addr} {f : Str → Option Nat} {m : Nat} {a : Str} {k : Nat} (h : DictIs H p f m) (hm : m < 1000) : ∃ kv2, DPut H p (.str a) (.int (((f a).getD 0 + k : Nat) : Int)) (upd H p (.dK kv2)) ∧ DictIs (upd H p (.dK kv2)) p (stepF f (a, k)) (m + 1) := by
  obtain ⟨kvs, h1, h2, h3⟩ := h
  refine ⟨_, DPut.k (k := .inr a) h1 (by rw [sizeLine_eq]; omega), _, upd_same, ?_, fun x => ?_⟩
  · have := putK_le kvs (.inr a : Key) (.int (((f a).getD 0 + k : Nat) : Int))
    omega
  · rw [valV_put]
    unfold stepF
    by_cases e : x = a
    · subst e
      simp
    · have e2 : (Sum.inr x : Key) ≠ .inr a := fun z => e (Sum.inr.inj z)
      rw [if_neg e2, if_neg e]
      exact h3 x
theorem td_pair {n : Net} {come : List Nat} : tds ((n.zip come).map fun q => PyData.tuple [houseD q.1, .int (q.2 : Nat)]) = true := td_all fun d hd => by
  obtain ⟨a, _, rfl⟩ := List.mem_map.mp hd
  show (td (houseD a.1) && (true && true)) = true
  rw [td_house]
  rfl
theorem natsD_zip (n : Net) (come : List Nat) : pairUp (n.map houseD) (come.map fun k => PyData.int (k : Nat)) = (n.zip come).map fun q => PyData.tuple [houseD q.1, .int (q.2 : Nat)] := pairUp_map _ _ _ _
/-- the promise of handed_parts -/
def spHand : Sp := fun vs H Q _ => ∃ (n : Net) (come : List Nat), (∀ p ∈ n, GoodDeal p.2) ∧ n.length ≤ 4 ∧ Dts H vs [netD n, natsD come] ∧ ∀ p H', Ex H H' → H p = none → DictIs H' p (handF (pairsOf n come)) 200 → Q (.ref p) H'
theorem dict_zip {K : Kx} {k1 k2 : Bool} : True := trivial
theorem pairs1_len {q : (Str × Deal) × Nat} (h : GoodDeal q.1.2) : (pairs1 q).length ≤ 6 := by
  unfold pairs1
  rw [List.length_zip]
  have := h.names.hi
  omega
section
variable {P : Program} {w : World} {K : Kx} {mg : Str → Option Value} {base : Heap} (T : Tp K mg)
include T
theorem has_handed_parts : Has P w K mg base CX0 4 "handed_parts" ["net", "come"] spHand := by
  refine has_of T.dHandedParts sc_handed_parts (fun _ _ _ _ _ _ us hl => match us, hl with | [_, _], _ => rfl) (fun vs H Q E ⟨_, _, _, _, a, _⟩ => a.length) fun f cdv A outer s H vs Q E hr h => ?_
  obtain ⟨n, come, hd, h4, hv, k⟩ := h
  have G_has_in := has_has_in (P := P) (w := w) (base := base) T
  have hu := hu_1 (X := (cxOf CX0 P w K mg base ["net", "come", "found", "house", "deal", "coins", "name", "part"] "handed_parts" (defScope sHandedParts) f cdv A outer s H E).nox) hr
  refine ⟨_, (pss_cons (ps_st 2 sc_handed_parts.nd pe_dnewK) (pss_cons (ps_for PassesOwn.never rfl (pi_zipM false false T.f_zip (pa_cons (pv 0) (pa_cons (pv 1) pa_nil))) (kpg_tup K (pgs_cons (kpg_tup K (pgs_cons (pg_nm 3 sc_handed_parts.nd) (pgs_cons (pg_nm 4 sc_handed_parts.nd) pgs_nil))) (pgs_cons (pg_nm 5 sc_handed_parts.nd) pgs_nil))) (pss_one (ps_for PassesOwn.never rfl (pi_zipM false false T.f_zip (pa_cons (pe_ix (kix_tup K) (pv 4) pe_int (fun _ _ => rfl)) (pa_cons (pe_has G_has_in hr (pa_cons (pv 4) (pa_cons (pv 5) pa_nil))) pa_nil))) (kpg_tup K (pgs_cons (pg_nm 6 sc_handed_parts.nd) (pgs_cons (pg_nm 7 sc_handed_parts.nd) pgs_nil))) (pss_one (ps_dput hu (pv 2) (pv 6) (pe_op op_add (km_get hu (pv 2) (pv 6) pe_int) (pv 7)) rfl))))) (pss_one (ps_ret (pv 2))))), ?_⟩
  cases hv with | cons hv t => cases t with | cons hc t =>
    cases t
    cases hv with | tup hA rA => cases hc with | tup hB rB =>
      rename_i a xs b ys
      intro p hp
      have na : a ≠ p := fun z => by rw [z, hp] at hA; cases hA
      have nb : b ≠ p := fun z => by rw [z, hp] at hB; cases hB
      have e0 : Ex H (upd H p (.dK [])) := Ex.new hp
      have gv := givesO_zipM (p := p) (k1 := false) (k2 := false) na nb (show Sq false (upd H p (.dK [])) a xs from e0 _ _ hA) (show Sq false (upd H p (.dK [])) b ys from e0 _ _ hB) (rA.mono e0) (rB.mono e0) (td_net n) (td_nats come)
      rw [natsD_zip] at gv
      refine ⟨.ref a, rfl, .ref b, rfl, a, b, xs, ys, rfl, e0 _ _ hA, e0 _ _ hB, for_own gv
        (fun i σ H' => ∃ o3 o4 o5 o6 o7, σ = [some (.ref a), some (.ref b), some (.ref p), o3, o4, o5, o6, o7] ∧ Ow p (upd H p (.dK [])) H' ∧ Tx (upd H p (.dK [])) H' ∧ DictIs H' p (handF (((n.zip come).take i).flatMap pairs1)) (6 * i))
        ⟨none, none, none, none, none, rfl, Ow.refl _ _, Tx.refl _, [], upd_same, Nat.le_refl _, fun x => rfl⟩ (fun i σ H' ⟨_, _, _, _, _, _, y, z, _⟩ => ⟨y, z⟩) ?_ ?_⟩
      · rintro i d x σ H1 H2 hdd ⟨o3, o4, o5, o6, o7, rfl, e1, e2, e3⟩ ex dx
        rw [List.getElem?_map] at hdd
        obtain ⟨⟨⟨hn, x0⟩, c⟩, hz, rfl⟩ := Option.map_eq_some_iff.mp hdd
        have hx : GoodDeal x0 := hd (hn, x0) (List.of_mem_zip (List.mem_of_getElem? hz)).1
        have gp : GpG (gTup K 2 (gCons (gTup K 2 (gCons (gName 3) (gCons (gName 4) gNil))) (gCons (gName 5) gNil))) (.tuple [houseD (hn, x0), .int (c : Nat)]) [(3, .str hn), (4, dealD x0), (5, .int (c : Nat))] := gp_tup (gs_cons gp2 (gs_cons gp_name gs_nil)) rfl
        refine gp x _ H2 dx _ fun us pu => ?_
        cases pu with | cons a1 t => cases t with | cons a2 t => cases t with | cons a3 t =>
          cases t
          rename_i v3 v4 v5
          have ok : EOk H2 [some (.ref a), some (.ref b), some (.ref p), some v3, some v4, some v5, o6, o7] [none, none, none, none, some (dealD x0), some (.int (c : Nat)), none, none] := .non (.non (.non (.non (.som a2 (.som a3 (.non (.non .nil)))))))
          have hargs : EaG (tCons (tOp (rIxT K) (tVar 4) (tC (.int 0))) (tCons (tCall (spF R_has_in) [] (fun _ _ _ => False) (tCons (tVar 4) (tCons (tVar 5) tNil))) tNil)) [none, none, none, none, some (dealD x0), some (.int (c : Nat)), none, none] [namesD x0.names, natsD (hasD x0 c)] :=
            ea_cons (eg_op (rg_ixT (atI_nat' (n := 0) rfl)) (eg_var rfl) eg_int) (ea_cons (eg_call (spF_g ⟨x0, c, hx, rfl, rfl⟩) (ea_cons (eg_var rfl) (ea_cons (eg_var rfl) ea_nil))) ea_nil)
          unfold tFor iZipM
          refine hargs _ _ ok _ fun vs' H3 e4 r3 => ?_
          cases r3 with | cons b1 t => cases t with | cons b2 t =>
            cases t
            cases b1 with | tup hC rC => cases b2 with | tup hD rD =>
              rename_i ca cs da dss
              have d3 : DictIs H3 p (handF (((n.zip come).take i).flatMap pairs1)) (6 * i) := e3.at fun o h => e4 _ _ (ex _ _ h)
              obtain ⟨kvs0, hk0, _, _⟩ := id d3
              have nc : ca ≠ p := fun z => by rw [z, hk0] at hC; cases hC
              have nd : da ≠ p := fun z => by rw [z, hk0] at hD; cases hD
              have gv1 := givesO_zipM (p := p) (k1 := false) (k2 := false) nc nd (show Sq false H3 ca cs from hC) (show Sq false H3 da dss from hD) rC rD (td_strs _) (td_nats _)
              rw [pairUp_map] at gv1
              have hi4 : i < 4 := by
                have := List.getElem?_eq_some_iff.mp hz
                obtain ⟨l, _⟩ := this
                rw [List.length_zip] at l
                omega
              have hp6 := pairs1_len (q := ((hn, x0), c)) hx
              refine ⟨ca, da, cs, dss, rfl, hC, hD, for_own gv1
                (fun j σ H' => ∃ o6 o7, σ = [some (.ref a), some (.ref b), some (.ref p), some v3, some v4, some v5, o6, o7] ∧ Ow p H3 H' ∧ Tx H3 H' ∧ DictIs H' p (handF (((n.zip come).take i).flatMap pairs1 ++ (pairs1 ((hn, x0), c)).take j)) (6 * i + j) ∧ j ≤ 6)
                ⟨o6, o7, rfl, Ow.refl _ _, Tx.refl _, by rw [List.take_zero, List.append_nil]; exact d3, by omega⟩ (fun j σ H' ⟨_, _, _, y, z, _⟩ => ⟨y, z⟩) ?_ ?_⟩
              · rintro j d' x' σ' H4 H5 hd' ⟨o6, o7, rfl, f1, f2, f3, _⟩ ex' dx'
                rw [List.getElem?_map] at hd'
                obtain ⟨⟨nm, part⟩, hnm, rfl⟩ := Option.map_eq_some_iff.mp hd'
                have hj : j < (pairs1 ((hn, x0), c)).length := (List.getElem?_eq_some_iff.mp hnm).1
                refine gp2 x' _ H5 dx' _ fun us pu => ?_
                cases pu with | cons c1 t => cases t with | cons c2 t =>
                  cases t
                  cases c1
                  cases c2
                  have d5 : DictIs H5 p (handF (((n.zip come).take i).flatMap pairs1 ++ (pairs1 ((hn, x0), c)).take j)) (6 * i + j) := f3.at fun o h => ex' _ _ h
                  obtain ⟨kvs, hk, hkl, hkv⟩ := id d5
                  obtain ⟨kv2, p1, p2⟩ := d5.put (a := nm) (k := part) (by omega)
                  refine ⟨.ref p, rfl, p, rfl, .inl ⟨kvs, .inl hk⟩, .str nm, rfl, valV kvs (.inr nm), DGet.k (k := .inr nm) hk, ?_⟩
                  refine ⟨.int (part : Nat), rfl, (((handF (((n.zip come).take i).flatMap pairs1 ++ (pairs1 ((hn, x0), c)).take j)) nm).getD 0 : Nat), (part : Nat), ?_, rfl, .ref p, rfl, .str nm, rfl, p, upd H5 p (.dK kv2), rfl, ?_, ?_⟩
                  · rw [hkv]
                    cases handF (((n.zip come).take i).flatMap pairs1 ++ (pairs1 ((hn, x0), c)).take j) nm <;> rfl
                  · refine (show ∀ {u v : V}, u = v → DPut H5 p (.str nm) v _ → DPut H5 p (.str nm) u _ from fun e h => by rw [e]; exact h) ?_ p1
                    exact congrArg V.int (Int.natCast_add _ _).symm
                  · refine ⟨some (.str nm), some (.int (part : Nat)), rfl, (f1.trans (Ex.ow ex')).trans Ow.put, (f2.trans (Ex.tx ex')).trans (tx_upd fun us z => by rw [hk] at z; cases z), ?_, by omega⟩
                    have hnm' : (pairs1 ((hn, x0), c))[j]? = some (nm, part) := hnm
                    rw [take_snoc hnm', ← List.append_assoc, handF_snoc]
                    exact p2
              · rintro σ' H' ⟨o6, o7, rfl, f1, f2, f3, _⟩
                rw [List.length_map] at f3
                refine ⟨some v3, some v4, some v5, o6, o7, rfl, ((e1.trans (Ex.ow ex)).trans (Ex.ow e4)).trans f1, ((e2.trans (Ex.tx ex)).trans (Ex.tx e4)).trans f2, ?_⟩
                have ft : (pairs1 ((hn, x0), c)).take (x0.names.zip (hasD x0 c)).length = pairs1 ((hn, x0), c) := List.take_length
                rw [ft] at f3
                rw [take_snoc hz, List.flatMap_append]
                obtain ⟨kvs', g1, g2, g3⟩ := f3
                refine ⟨kvs', g1, ?_, ?_⟩
                · have : (x0.names.zip (hasD x0 c)).length ≤ 6 := hp6
                  omega
                · have e5 : [((hn, x0), c)].flatMap pairs1 = pairs1 ((hn, x0), c) := by simp
                  rw [e5]
                  exact g3
      · rintro σ H' ⟨o3, o4, o5, o6, o7, rfl, e1, e2, e3⟩
        rw [List.length_map, List.take_length] at e3
        refine ⟨.ref p, rfl, k p H' (fun b o hb => e1 b o (fun z => by rw [z, hp] at hb; cases hb) (by rw [upd_ne (fun z => by rw [z, hp] at hb; cases hb)]; exact hb)) hp ?_⟩
        obtain ⟨kvs, a1, a2, a3⟩ := e3
        refine ⟨kvs, a1, ?_, a3⟩
        rw [List.length_zip] at a2
        omega
end
end Stair
/-! ## StF13 -/
set_option Elab.async false
set_option linter.all false
set_option maxRecDepth 100000
set_option maxHeartbeats 1000000
namespace Stair
open PySem PySem.Spec PyProof.Rows L2 Evl
/-! ### beside the data one thing more is known: slot k holds v0, of which F tells -/
def EvK (k : Nat) (v0 : V) (F : Hp → Prop) (te : TE) (Γ : En) (d : PD) : Prop := ∀ σ H, σ[k]? = some (some v0) → F H → EOk H σ Γ → ∀ Q : VK, (∀ v H', Ex H H' → Dt H' v d → Q v H') → te σ H Q
theorem setsV_get {i : Nat} {vs : List Nat} {H : Hp} : ∀ {xs : List (Nat × V)} {ps : List (Nat × PD)} {σ : L2.St}, Prs H xs ps → (∀ p ∈ ps, p.1 ∈ vs) → i ∉ vs → (setsV σ xs)[i]? = σ[i]?
  | _, _, _, .nil, _, _ => rfl
  | _, _, σ, .cons (i := j) (v := v) (xs := xs) a t, h, hi => by
    have hj : j ≠ i := fun z => hi (by rw [← z]; exact h _ List.mem_cons_self)
    show (setsV (σ.set j (some v)) xs)[i]? = _
    rw [setsV_get t (fun p hp => h p (List.mem_cons_of_mem _ hp)) hi, List.getElem?_set_ne hj]
theorem eg_lcK {α : Type} {K : Kx} {k : Nat} {v0 : V} {F : Hp → Prop} {Γ : En} {wi : TI} {g : TG} {te : TE} {vs : List Nat} {l : List α} {q f : α → PD} (hF : ∀ H H', Ex H H' → F H → F H') (hk : k ∉ vs) (hi : ItG wi Γ (l.map q)) (hl : l.length ≤ 16000000)
    (h : ∀ x, x ∈ l → ∃ ps, GpG g (q x) ps ∧ (∀ p ∈ ps, p.1 ∈ vs) ∧ EvK k v0 F te (setsE (wipeE Γ vs) ps) (f x) ∧ td (f x) = true) : EvK k v0 F (tLc wi g tYes te vs) Γ (.list (l.map f)) := fun σ H hσ hH ok Q kk => hi σ H ok _ fun J H1 x1 gv D hD => by
  obtain ⟨G, Y, w, g1, gs, gy⟩ := gv
  rw [List.length_map] at w
  have x2 := x1.trans (Ex.new (o := .lst []) hD)
  refine lc_it w (Pv := fun i H2 => Ex H1 H2 ∧ ∃ acc, H2 D = some (.lst acc) ∧ Dts H2 acc ((l.take i).map f) ∧ i ≤ l.length) ⟨Ex.new hD, [], upd_same, by exact .nil, Nat.zero_le _⟩ (fun i H2 _ p => gs _ _ p.1 g1) ?_ ?_
  · rintro i x H2 H3 hi ⟨e2, acc, ha, hacc, _⟩ y
    obtain ⟨e3, d, hd, dx⟩ := gy i H2 x H3 (by rw [List.length_map]; exact hi) (gs _ _ e2 g1) e2 y
    rw [List.getElem?_map] at hd
    obtain ⟨z, hz, rfl⟩ := Option.map_eq_some_iff.mp hd
    obtain ⟨ps, hp, hv, he, ht⟩ := h z (List.mem_of_getElem? hz)
    have ok3 : EOk H3 (L2.wipe σ vs) (wipeE Γ vs) := (ok.mono (x1.trans (e2.trans e3))).wipe vs
    have hlt : acc.length < sizeLine := by
      have z1 : acc.length ≤ l.length := by
        rw [hacc.length, List.length_map, List.length_take]
        exact Nat.min_le_right _ _
      have z2 : sizeLine = 16777216 := sizeLine_eq
      omega
    have htk : l.take (i + 1) = l.take i ++ [z] := by rw [List.take_add_one, hz]; rfl
    refine hp x _ H3 dx _ fun xs px => ⟨by rw [px.wipe hv, wipe_two], et_yes _ H3 (px.ok ok3) _ fun H4 e4 => ?_⟩
    have d3 : H3 D = some (.lst acc) := e3 _ _ ha
    have hs : (setsV (L2.wipe σ vs) xs)[k]? = some (some v0) := by rw [setsV_get px hv hk, L2.wipe_out hk]; exact hσ
    refine ifT (he _ H4 hs (hF _ _ (((x1.trans e2).trans e3).trans e4) hH) ((px.ok ok3).mono e4) _ fun v H5 e5 dv => ?_)
    have d5 : H5 D = some (.lst acc) := e5 _ _ (e4 _ _ d3)
    have tx : Tx H5 (upd H5 D (.lst (acc ++ [v]))) := tx_upd fun zs z => by rw [d5] at z; cases z
    have ht' : tds ((l.take i).map f) = true := td_all fun z hz => by
      obtain ⟨y, hy, rfl⟩ := List.mem_map.mp hz
      obtain ⟨_, _, _, _, kk⟩ := h y (List.mem_of_mem_take hy)
      exact kk
    refine ⟨acc, d5, hlt, Ex.mut (((e2.trans e3).trans e4).trans e5) hD, acc ++ [v], upd_same, ?_, hi⟩
    rw [htk, List.map_append]
    exact (Dts.tx tx _ ht' (hacc.mono ((e3.trans e4).trans e5))).append (.cons (Dt.tx tx _ ht dv) .nil)
  · rintro H2 ⟨e2, acc, ha, hacc, _⟩
    rw [List.take_length] at hacc
    exact kk _ H2 (x1.trans e2) (.lst ha hacc)
/-- f.get(a, 0), f[a] -/
theorem ek_get {k : Nat} {p : Addr} {f : Str → Option Nat} {m : Nat} {Γ : En} {ty : TE} {a : Str} (hy : EvG ty Γ (.str a)) : EvK k (.ref p) (fun H => DictIs H p f m) (tDGet2 (tVar k) ty (tC (.int 0))) Γ (.int ((f a).getD 0 : Nat)) := fun σ H hσ hH ok Q q => by
  obtain ⟨kvs, h1, h2, h3⟩ := hH
  refine ⟨.ref p, hσ, p, rfl, .inl ⟨kvs, .inl h1⟩, hy σ H ok _ fun v H1 e1 d1 => ?_⟩
  cases d1
  refine ⟨valV kvs (.inr a), DGet.k (k := .inr a) (e1 _ _ h1), ?_⟩
  rw [h3, show ((f a).map fun n => V.int (n : Nat)).getD (.int 0) = V.int ((f a).getD 0 : Nat) by cases f a <;> rfl]
  exact q _ H1 e1 (.int _)
theorem ek_at {k : Nat} {p : Addr} {f : Str → Option Nat} {m : Nat} {Γ : En} {ty : TE} {a : Str} {n : Nat} (hy : EvG ty Γ (.str a)) (hf : f a = some n) : EvK k (.ref p) (fun H => DictIs H p f m) (tDGet (tVar k) ty) Γ (.int (n : Nat)) := fun σ H hσ hH ok Q q => by
  obtain ⟨kvs, h1, h2, h3⟩ := hH
  refine ⟨.ref p, hσ, hy σ H ok _ fun v H1 e1 d1 => ?_⟩
  cases d1
  refine ⟨p, .int (n : Nat), rfl, ?_, q _ H1 e1 (.int _)⟩
  have z := DGet.k (k := (.inr a : Key)) (e1 _ _ h1)
  rw [h3, hf] at z
  exact z
section
variable {k : Nat} {v0 : V} {F : Hp → Prop} {Γ : En}
theorem EvG.toK {te : TE} {d : PD} (h : EvG te Γ d) : EvK k v0 F te Γ d := fun σ H _ _ ok Q q => h σ H ok Q q
theorem ek_op {r : R2} {ta tb : TE} {d e f : PD} (hF : ∀ H H', Ex H H' → F H → F H') (hr : RG r d e f) (ha : EvK k v0 F ta Γ d) (hb : EvK k v0 F tb Γ e) : EvK k v0 F (tOp r ta tb) Γ f := fun σ H hσ hH ok Q q =>
  ha σ H hσ hH ok _ fun x H1 x1 d1 => hb σ H1 hσ (hF _ _ x1 hH) (ok.mono x1) _ fun y H2 x2 d2 => hr x y H2 (d1.mono x2) d2 Q fun v H3 x3 d3 => q v H3 ((x1.trans x2).trans x3) d3
theorem ek_pair {ta tb : TE} {d e : PD} (hF : ∀ H H', Ex H H' → F H → F H') (ha : EvK k v0 F ta Γ d) (hb : EvK k v0 F tb Γ e) : EvK k v0 F (tTup (tCons ta (tCons tb tNil))) Γ (.tuple [d, e]) := fun σ H hσ hH ok Q q =>
  ha σ H hσ hH ok _ fun x H1 x1 d1 => hb σ H1 hσ (hF _ _ x1 hH) (ok.mono x1) _ fun y H2 x2 d2 => ⟨by show 2 ≤ sizeLine; decide, fun p hp => q _ _ ((x1.trans x2).trans (Ex.new hp)) (.tup upd_same (.cons ((d1.mono x2).mono (Ex.new hp)) (.cons (d2.mono (Ex.new hp)) .nil)))⟩
theorem ek_cb {r : List V → Hp → VK → Prop} {te : TE} {d f : PD} (hr : CG r [d] f) (h : EvK k v0 F te Γ d) : EvK k v0 F (tCB r (tCons te tNil)) Γ f := fun σ H hσ hH ok Q q =>
  h σ H hσ hH ok _ fun x H1 x1 d1 => hr [x] H1 (.cons d1 .nil) Q fun v H2 x2 d2 => q v H2 (x1.trans x2) d2
end
/-- x = f(..), f of any promise -/
theorem asg_callC {Γ : En} {ta : TA} {ds : List PD} {sp : Sp} {E : XK} {i : Nat} {rest : TS} {D : Ends} {σ : L2.St} {H : Hp} (ok : EOk H σ Γ) (h : EaG ta Γ ds) (hq : ∀ vs H1, Ex H H1 → Dts H1 vs ds → sp vs H1 (fun v H2 => rest D (σ.set i (some v)) H2) E) :
    tSeq (tAsg (tCall sp [] E ta) (gName i)) rest D σ H := h σ H ok _ fun vs H1 e r => by
  rw [List.append_nil]
  exact hq vs H1 e r
theorem dict_ex {p : Addr} {f : Str → Option Nat} {m : Nat} : ∀ H H', Ex H H' → DictIs H p f m → DictIs H' p f m := fun H H' e h => h.at fun o q => e _ _ q
/-! ### mirrors -/
def behind (n : Net) (am come : List Nat) : List Nat := ((n.map (·.1)).zip am).map fun q => q.2 + (handF (pairsOf n come) q.1).getD 0
/-- the totals after i rounds -/
def totAt (n : Net) (am : List Nat) : Nat → List Nat
  | 0 => List.replicate n.length 0
  | i + 1 => if i = 0 then am else behind n am (totAt n am i)
section
variable {P : Program} {w : World} {K : Kx} {mg : Str → Option Value} {base : Heap} (T : Tp K mg)
include T
/-! round_behind -/
def R_round_behind (ds : List PD) (d : PD) : Prop := ∃ (n : Net) (am come : List Nat), GoodNet n ∧ ds = [netD n, natsD am, natsD come] ∧ d = natsD (behind n am come)
theorem has_round_behind : Has P w K mg base CX0 5 "round_behind" ["net", "amounts", "come"] (spF R_round_behind) := by
  refine has_of T.dRoundBehind sc_round_behind (fun _ _ _ _ _ _ us hl => match us, hl with | [_, _, _], _ => rfl) (fun vs H Q E ⟨ds, d, a, ⟨_, _, _, _, e, _⟩, _⟩ => by rw [a.length, e]; rfl) fun f cdv A outer s H vs Q E hr h => ?_
  obtain ⟨ds, d, hv, ⟨n, am, come, hn, rfl, rfl⟩, k⟩ := h
  have G_handed_parts := has_handed_parts (P := P) (w := w) (base := base) T
  have G_houses_of := has_houses_of (P := P) (w := w) (base := base) T
  have hu := hu_1 (X := (cxOf CX0 P w K mg base ["net", "amounts", "come", "found", "house", "amount"] "round_behind" (defScope sRoundBehind) f cdv A outer s H E).nox) hr
  refine ⟨_, (pss_cons (ps_st 3 sc_round_behind.nd (pe_has G_handed_parts hr (pa_cons (pv 0) (pa_cons (pv 2) pa_nil)))) (pss_one (ps_ret (kb_tuple T (pa_cons (pe_lc (own := [("house", 4), ("amount", 5)]) (g := (gTup K 2 (gCons (gName 4) (gCons (gName 5) gNil)))) (tt := tYes) rfl sc_round_behind.nd (pi_zipM true false T.f_zip (pa_cons (pe_has G_houses_of hr (pa_cons (pv 0) pa_nil)) (pa_cons (pv 1) pa_nil))) (by exact blkOk_by (by kernel_rfl)) (fun _ _ _ _ _ => (kpg_tup K (pgs_cons (pg_nm 4 sc_round_behind.nd) (pgs_cons (pg_nm 5 sc_round_behind.nd) pgs_nil)))) (fun _ _ _ _ _ => pts_nil) (fun _ _ _ _ _ => (pe_op op_add (pv 5) (km_get hu (pv 3) (pv 4) pe_int)))) pa_nil))))), ?_⟩
  have h4 := hn.hi
  have ok0 := EOk.start (N := ["net", "amounts", "come", "found", "house", "amount"]) hv
  have ok : EOk H (L2.start ["net", "amounts", "come", "found", "house", "amount"] vs) [some (netD n), some (natsD am), some (natsD come), none, none, none] := by rw [hv.length] at ok0; exact ok0
  refine asg_callC ok (ds := [netD n, natsD come]) (ea_cons (eg_var rfl) (ea_cons (eg_var rfl) ea_nil)) fun us H1 e1 r1 => ?_
  refine ⟨n, come, fun p hp => hn.deal p hp, h4, r1, fun p H2 e2 hp hdic => ?_⟩
  refine ek_cb (k := 3) (v0 := .ref p) (F := fun H => DictIs H p (handF (pairsOf n come)) 200) (Γ := [some (netD n), some (natsD am), some (natsD come), none, none, none]) cg_tupleL (eg_lcK (K := K) (l := (n.map (·.1)).zip am) (q := fun z => PyData.tuple [.str z.1, .int (z.2 : Nat)]) (f := fun z => .int ((z.2 + (handF (pairsOf n come) z.1).getD 0 : Nat) : Int)) dict_ex (by decide) ((it_zip (ea_cons (eg_call (spF_g ⟨n, by omega, .inl rfl, rfl⟩) (ea_cons (eg_var rfl) ea_nil)) (ea_cons (eg_var rfl) ea_nil))).is ?_) ?_ fun z hz => ⟨_, gp2, by simp, ?_, rfl⟩) _ H2 ?_ hdic ?_ _ fun v H3 e3 d3 => k v H3 ((e1.trans e2).trans e3) ?_
  · rw [pairUp_map]
  · rw [List.length_zip, List.length_map]
    omega
  · have q := ek_op (k := 3) (v0 := .ref p) (F := fun H => DictIs H p (handF (pairsOf n come)) 200) (Γ := setsE (wipeE [some (netD n), some (natsD am), some (natsD come), none, none, none] (List.map (·.2) [(("house" : Str), 4), ("amount", 5)])) [(4, .str z.1), (5, .int (z.2 : Nat))]) dict_ex rg_add (EvG.toK (eg_var (i := 5) rfl)) (ek_get (m := 200) (eg_var (i := 4) rfl))
    rw [Int.natCast_add]
    exact q
  · cases hv with | cons a t => cases t with | cons b t => cases t with | cons c t => cases t; rfl
  · exact (((ok.mono (e1.trans e2)).set (i := 3) (d := .none) (v := .non) .non) |> fun _ => by
      cases hv with | cons a t => cases t with | cons b t => cases t with | cons c t =>
        cases t
        have e := e1.trans e2
        exact .som (a.mono e) (.som (b.mono e) (.som (c.mono e) (.non (.non (.non .nil))))))
  · unfold behind natsD
    rw [List.map_map]
    exact d3
end
end Stair
/-! ## StShape -/
set_option Elab.async false
set_option linter.all false
set_option maxRecDepth 100000
set_option maxHeartbeats 1000000
namespace Stair
open PySem PySem.Spec PyProof.Rows L2 Evl
/-! ### shapes: what == asks of data -/
theorem canAll : ∀ {ds : List PD}, (∀ d ∈ ds, PyData.canLay0 d = true) → PyData.canLayAll0 ds = true
  | [], _ => rfl
  | d :: r, h => by
    show (PyData.canLay0 d && PyData.canLayAll0 r) = true
    rw [h d List.mem_cons_self, canAll fun x hx => h x (List.mem_cons_of_mem _ hx)]
    rfl
theorem depAll {k : Nat} : ∀ {ds : List PD}, (∀ d ∈ ds, PyData.depth d ≤ k) → PyData.depthAll ds ≤ k
  | [], _ => Nat.zero_le _
  | d :: r, h => by
    show max (PyData.depth d) (PyData.depthAll r) ≤ k
    exact Nat.max_le.mpr ⟨h d List.mem_cons_self, depAll fun x hx => h x (List.mem_cons_of_mem _ hx)⟩
/-- of depth k at most -/
structure Shp (k : Nat) (d : PD) : Prop where
  can : PyData.canLay0 d = true
  dep : PyData.depth d ≤ k
theorem Shp.mono {j k : Nat} {d : PD} (h : Shp j d) (hk : j ≤ k) : Shp k d := ⟨h.can, Nat.le_trans h.dep hk⟩
theorem Shp.ok {k : Nat} {d : PD} (h : Shp k d) (hk : k ≤ 64 := by decide) : SeqAt.shaped d = true := by
  unfold SeqAt.shaped
  rw [h.can, decide_eq_true (Nat.le_trans h.dep hk)]
  rfl
theorem shp_int {i : Int} : Shp 0 (.int i) := ⟨rfl, Nat.le_refl _⟩
theorem shp_none : Shp 0 .none := ⟨rfl, Nat.le_refl _⟩
theorem shp_tup {k : Nat} {ds : List PD} (h : ∀ d ∈ ds, Shp k d) : Shp (k + 1) (.tuple ds) := ⟨canAll fun d hd => (h d hd).can, Nat.succ_le_succ (depAll fun d hd => (h d hd).dep)⟩
theorem shp_lst {k : Nat} {ds : List PD} (h : ∀ d ∈ ds, Shp k d) : Shp (k + 1) (.list ds) := ⟨canAll fun d hd => (h d hd).can, Nat.succ_le_succ (depAll fun d hd => (h d hd).dep)⟩
theorem eqvAll_iff {α : Type} [DecidableEq α] (f : α → PD) (hf : ∀ a b, PyData.eqv (f a) (f b) = decide (a = b)) : ∀ l m : List α, PyData.eqvAll (l.map f) (m.map f) = decide (l = m)
  | [], [] => by simp [PyData.eqvAll]
  | [], b :: m => by simp [PyData.eqvAll]
  | a :: l, [] => by simp [PyData.eqvAll]
  | a :: l, b :: m => by
    show (PyData.eqv (f a) (f b) && PyData.eqvAll (l.map f) (m.map f)) = _
    rw [hf, eqvAll_iff f hf l m]
    by_cases h : a = b <;> by_cases h2 : l = m <;> simp [h, h2]
theorem eqv_int (i j : Int) : PyData.eqv (.int i) (.int j) = decide (i = j) := by
  show (i == j) = _
  by_cases h : i = j <;> simp [h]
theorem eqv_str (i j : Str) : PyData.eqv (.str i) (.str j) = decide (i = j) := by
  show (i == j) = _
  by_cases h : i = j <;> simp [h]
theorem eqv_nat (i j : Nat) : PyData.eqv (.int (i : Nat)) (.int (j : Nat)) = decide (i = j) := by
  rw [eqv_int]
  by_cases h : i = j
  · simp [h]
  · have : (i : Int) ≠ j := by omega
    simp [h, this]
theorem eqv_tup (xs ys : List PD) : PyData.eqv (.tuple xs) (.tuple ys) = PyData.eqvAll xs ys := rfl
theorem eqv_lst (xs ys : List PD) : PyData.eqv (.list xs) (.list ys) = PyData.eqvAll xs ys := rfl
end Stair
/-! ## StF14 -/
set_option Elab.async false
set_option linter.all false
set_option maxRecDepth 100000
set_option maxHeartbeats 1000000
namespace Stair
open PySem PySem.Spec PyProof.Rows L2 Evl
theorem shp_nats (l : List Nat) : Shp 1 (natsD l) := shp_tup fun d hd => by
  obtain ⟨k, _, rfl⟩ := List.mem_map.mp hd
  exact shp_int
theorem eqv_nats (l m : List Nat) : PyData.eqv (natsD l) (natsD m) = decide (l = m) := eqvAll_iff (fun k : Nat => PyData.int (k : Nat)) eqv_nat l m
theorem handF_mem {l : List (Str × Nat)} {a : Str} : (handF l a).isSome = true ↔ a ∈ l.map (·.1) := by
  have go : ∀ (l : List (Str × Nat)) (f : Str → Option Nat), ((l.foldl stepF f) a).isSome = true ↔ (f a).isSome = true ∨ a ∈ l.map (·.1) := by
    intro l
    induction l with
    | nil => intro f; simp
    | cons q r ih =>
      intro f
      rw [List.foldl_cons, ih, List.map_cons, List.mem_cons]
      unfold stepF
      by_cases h : a = q.1
      · simp [h]
      · simp [h]
  rw [handF, go]
  simp
theorem people_in_pairs {n : Net} {come : List Nat} (hl : come.length = n.length) {a : Str} (ha : a ∈ people n) : a ∈ (pairsOf n come).map (·.1) := by
  have h1 := (List.mem_filter.mp ha).1
  rw [mem_sortS] at h1
  obtain ⟨x, hx, hax⟩ := List.mem_flatMap.mp h1
  obtain ⟨p, hp, rfl⟩ := List.mem_map.mp hx
  obtain ⟨i, hi⟩ := List.getElem?_of_mem hp
  have hlt : i < n.length := (List.getElem?_eq_some_iff.mp hi).1
  have hc : come[i]? = some come[i] := List.getElem?_eq_getElem (by omega)
  have hz : (n.zip come)[i]? = some (p, come[i]) := by rw [List.getElem?_zip_eq_some]; exact ⟨hi, hc⟩
  obtain ⟨j, hj⟩ := List.getElem?_of_mem hax
  have hjl : j < p.2.names.length := (List.getElem?_eq_some_iff.mp hj).1
  have hj2 : j < (hasD p.2 come[i]).length := by unfold hasD; rw [List.length_map, List.length_range]; exact hjl
  have hh : (hasD p.2 come[i])[j]? = some ((hasD p.2 come[i])[j]'hj2) := List.getElem?_eq_getElem hj2
  refine List.mem_map.mpr ⟨(a, (hasD p.2 come[i])[j]'hj2), List.mem_flatMap.mpr ⟨(p, come[i]), List.mem_of_getElem? hz, List.mem_of_getElem? (i := j) ?_⟩, rfl⟩
  · unfold pairs1
    rw [List.getElem?_zip_eq_some]
    exact ⟨hj, hh⟩
/-- the totals: they settle at round N -/
structure Settles (n : Net) (am : List Nat) (N : Nat) : Prop where
  stop : totAt n am N = totAt n am (N + 1)
  go : ∀ i, i < N → totAt n am i ≠ totAt n am (i + 1)
def paidD (n : Net) (tot : List Nat) : List PD := (people n).map fun a => PyData.tuple [.str a, .int ((handF (pairsOf n tot) a).getD 0 : Nat)]
theorem totAt_length {n : Net} {am : List Nat} (h : am.length = n.length) : ∀ i, (totAt n am i).length = n.length
  | 0 => List.length_replicate ..
  | 1 => h
  | i + 2 => by
    show (behind n am (totAt n am (i + 1))).length = _
    unfold behind
    rw [List.length_map, List.length_zip, List.length_map, h]
    omega
section
variable {P : Program} {w : World} {K : Kx} {mg : Str → Option Value} {base : Heap} (T : Tp K mg)
include T
/-! totals_in -/
def R_totals_in (ds : List PD) (d : PD) : Prop := ∃ (n : Net) (am : List Nat) (N : Nat), GoodNet n ∧ am.length = n.length ∧ Settles n am N ∧ ds = [netD n, natsD am] ∧ d = natsD (totAt n am N)
theorem has_totals_in : Has P w K mg base CX0 6 "totals_in" ["net", "amounts"] (spF R_totals_in) :=
  has_fn T.dTotalsIn sc_totals_in (fun _ _ _ _ _ _ us hl => match us, hl with | [_, _], _ => rfl) (fun ds d ⟨_, _, _, _, _, _, a, _⟩ => by rw [a]; rfl) fun f cdv A outer s H E ds d hr h => by
    obtain ⟨n, am, N, hn, hl, hs, rfl, rfl⟩ := h
    have G_round_behind := has_round_behind (P := P) (w := w) (base := base) T
    have hu64 := hu_64 (X := (cxOf CX0 P w K mg base ["net", "amounts", "here", "there"] "totals_in" (defScope sTotalsIn) f cdv A outer s H E).nox) hr
    have h1 := hn.lo
    have h4 := hn.hi
    refine ⟨_, (pss_cons (ps_par2A 2 3 sc_totals_in.nd (pa_cons (pe_op (kop_repT K) (pe_tup (pa_cons pe_int pa_nil)) (kb_len T (pa_cons (pv 0) pa_nil))) (pa_cons (pv 1) pa_nil))) (pss_cons (ps_while PassesOwn.never (pt_cmpR (kop_neD K hu64) (pv 2) (pv 3) (nomark _)) (pss_one (ps_par2A 2 3 sc_totals_in.nd (pa_cons (pv 3) (pa_cons (pe_has G_round_behind hr (pa_cons (pv 0) (pa_cons (pv 1) (pa_cons (pv 3) pa_nil)))) pa_nil))))) (pss_one (ps_ret (pv 2))))), ?_⟩
    have neq : ∀ {Γ : En} {a b : List Nat}, Γ[2]? = some (some (natsD a)) → Γ[3]? = some (some (natsD b)) → EtG (tTest (tOp (rNeD K) (tVar 2) (tVar 3))) Γ (!decide (a = b)) := fun {Γ a b} e1 e2 => (et_test (eg_op (rg_neD (shp_nats _).ok (shp_nats _).ok) (eg_var e1) (eg_var e2))).is (by rw [eqv_nats])
    refine sg_seq (sg_par (ea_cons (eg_op (rg_repT (n := n.length) (by simp) h1 (by omega) (by simp)) (eg_tup (ea_cons eg_int ea_nil) (by decide)) ((eg_cb cg_lenT (ea_cons (eg_var rfl) ea_nil)).is (by rw [List.length_map]))) (ea_cons (eg_var rfl) ea_nil)))
      (sg_seq (sg_while (fun i => [some (netD n), some (natsD am), some (natsD (totAt n am i)), some (natsD (totAt n am (i + 1)))]) N ?_ (fun i hi => (neq rfl rfl).is (by rw [decide_eq_false (hs.go i hi)]; rfl)) (fun i hi => ⟨_, sg_par (ea_cons (eg_var rfl) (ea_cons (eg_call (spF_g ⟨n, am, totAt n am (i + 1), hn, rfl, rfl⟩) (ea_cons (eg_var rfl) (ea_cons (eg_var rfl) (ea_cons (eg_var rfl) ea_nil)))) ea_nil)), Le.refl _⟩) ((neq rfl rfl).is (by rw [decide_eq_true hs.stop]; rfl))) (sg_ret (eg_var rfl)))
    have e : natsD (totAt n am 0) = .tuple (List.replicate n.length [PyData.int 0]).flatten := by
      show PyData.tuple _ = _
      unfold totAt
      rw [List.map_replicate]
      congr 1
      generalize n.length = m
      induction m with
      | zero => rfl
      | succ m ih => rw [List.replicate_succ, List.replicate_succ, List.flatten_cons, ← ih]; rfl
    show Le [some (netD n), some (natsD am), some (natsD (totAt n am 0)), some (natsD am)] _
    rw [e]
    exact Le.refl _
/-! paid_in -/
def R_paid_in (ds : List PD) (d : PD) : Prop := ∃ (n : Net) (am : List Nat) (N : Nat), GoodNet n ∧ am.length = n.length ∧ Settles n am N ∧ ds = [netD n, natsD am] ∧ d = .list (paidD n (totAt n am N))
theorem has_paid_in : Has P w K mg base CX0 7 "paid_in" ["net", "amounts"] (spF R_paid_in) := by
  refine has_of T.dPaidIn sc_paid_in (fun _ _ _ _ _ _ us hl => match us, hl with | [_, _], _ => rfl) (fun vs H Q E ⟨ds, d, a, ⟨_, _, _, _, _, _, e, _⟩, _⟩ => by rw [a.length, e]; rfl) fun f cdv A outer s H vs Q E hr h => ?_
  obtain ⟨ds, d, hv, ⟨n, am, N, hn, hl, hs, rfl, rfl⟩, k⟩ := h
  have G_handed_parts := has_handed_parts (P := P) (w := w) (base := base) T
  have G_totals_in := has_totals_in (P := P) (w := w) (base := base) T
  have G_people_in := has_people_in (P := P) (w := w) (base := base) T
  have hu := hu_1 (X := (cxOf CX0 P w K mg base ["net", "amounts", "found", "name"] "paid_in" (defScope sPaidIn) f cdv A outer s H E).nox) hr
  refine ⟨_, (pss_cons (ps_st 2 sc_paid_in.nd (pe_has G_handed_parts hr (pa_cons (pv 0) (pa_cons (pe_has G_totals_in hr (pa_cons (pv 0) (pa_cons (pv 1) pa_nil))) pa_nil)))) (pss_one (ps_ret (pe_lc (own := [("name", 3)]) (g := (gName 3)) (tt := tYes) rfl sc_paid_in.nd (kpi_list K (pe_has G_people_in hr (pa_cons (pv 0) pa_nil))) (by exact blkOk_by (by kernel_rfl)) (fun _ _ _ _ _ => (pg_nm 3 sc_paid_in.nd)) (fun _ _ _ _ _ => pts_nil) (fun _ _ _ _ _ => (pe_tup (pa_cons (pv 3) (pa_cons (pe_dget hu (pv 2) (pv 3) (fun _ _ => rfl)) pa_nil)))))))), ?_⟩
  have h4 := hn.hi
  have ok0 := EOk.start (N := ["net", "amounts", "found", "name"]) hv
  have ok : EOk H (L2.start ["net", "amounts", "found", "name"] vs) [some (netD n), some (natsD am), none, none] := by rw [hv.length] at ok0; exact ok0
  refine asg_callC ok (ds := [netD n, natsD (totAt n am N)]) (ea_cons (eg_var rfl) (ea_cons (eg_call (spF_g ⟨n, am, N, hn, hl, hs, rfl, rfl⟩) (ea_cons (eg_var rfl) (ea_cons (eg_var rfl) ea_nil))) ea_nil)) fun us H1 e1 r1 => ?_
  refine ⟨n, totAt n am N, fun p hp => hn.deal p hp, h4, r1, fun p H2 e2 hp hdic => ?_⟩
  have hd : ∀ x ∈ deals n, GoodDeal x := fun x hx => by
    obtain ⟨p, hp, rfl⟩ := List.mem_map.mp hx
    exact hn.deal p hp
  have hpl : (people n).length ≤ 24 := by
    have q1 := List.length_filter_le (fun a => !decide (a ∈ n.map (·.1))) (sortS (allNames (deals n)))
    have q2 := sortS_len (allNames (deals n))
    have q3 := allNames_len hd
    have q4 : (deals n).length = n.length := List.length_map ..
    unfold people
    omega
  refine eg_lcK (K := K) (k := 2) (v0 := .ref p) (F := fun H => DictIs H p (handF (pairsOf n (totAt n am N))) 200) (Γ := [some (netD n), some (natsD am), none, none]) (vs := [3]) (l := people n) (q := PyData.str) (f := fun a => PyData.tuple [.str a, .int ((handF (pairsOf n (totAt n am N)) a).getD 0 : Nat)]) dict_ex (by decide) (it_list (eg_call (spF_g ⟨n, hn, rfl, rfl⟩) (ea_cons (eg_var rfl) ea_nil))) (by omega) (fun a ha => ⟨_, gp_name, by simp, ?_, rfl⟩) _ H2 ?_ hdic ?_ _ fun v H3 e3 d3 => k v H3 ((e1.trans e2).trans e3) d3
  · have hm := handF_mem.mpr (people_in_pairs (come := totAt n am N) (totAt_length hl N) ha)
    obtain ⟨m, hm⟩ := Option.isSome_iff_exists.mp hm
    rw [hm]
    exact ek_pair dict_ex (EvG.toK (eg_var (i := 3) rfl)) (ek_at (m := 200) (eg_var (i := 3) rfl) hm)
  · cases hv with | cons a t => cases t with | cons b t => cases t; rfl
  · cases hv with | cons a t => cases t with | cons b t =>
      cases t
      have e := e1.trans e2
      exact .som (a.mono e) (.som (b.mono e) (.non (.non .nil)))
/-! paid_out -/
def R_paid_out (ds : List PD) (d : PD) : Prop := ∃ (n : Net) (am : List Nat) (N : Nat), GoodNet n ∧ Opens n ∧ am.length = n.length ∧ (∀ k ∈ am, k ≤ 10 ^ 30) ∧ Settles n am N ∧ ds = [netD n, natsD am] ∧ d = .tuple (paidD n (totAt n am N))
theorem has_paid_out : Has P w K mg base CX0 8 "paid_out" ["net", "amounts"] (spF R_paid_out) :=
  has_fn T.dPaidOut sc_paid_out (fun _ _ _ _ _ _ us hl => match us, hl with | [_, _], _ => rfl) (fun ds d ⟨_, _, _, _, _, _, _, _, a, _⟩ => by rw [a]; rfl) fun f cdv A outer s H E ds d hr h => by
    obtain ⟨n, am, N, hn, ho, hl, ha, hs, rfl, rfl⟩ := h
    have G_need_amounts := has_need_amounts (P := P) (w := w) (base := base) T
    have G_paid_in := has_paid_in (P := P) (w := w) (base := base) T
    refine ⟨_, (pss_cons (ps_expr (pe_has G_need_amounts hr (pa_cons (pv 0) (pa_cons (pv 1) pa_nil)))) (pss_one (ps_ret (kb_tuple T (pa_cons (pe_has G_paid_in hr (pa_cons (pv 0) (pa_cons (pv 1) pa_nil))) pa_nil))))), ?_⟩
    exact sg_seq (sg_drop (eg_call (spF_g ⟨n, am, hn, ho, hl, ha, rfl, rfl⟩) (ea_cons (eg_var rfl) (ea_cons (eg_var rfl) ea_nil)))) (sg_ret (eg_cb cg_tupleL (ea_cons (eg_call (spF_g ⟨n, am, N, hn, hl, hs, rfl, rfl⟩) (ea_cons (eg_var rfl) (ea_cons (eg_var rfl) ea_nil))) ea_nil)))
end
end Stair
/-! ## StTw -/
set_option Elab.async false
set_option linter.all false
set_option maxRecDepth 100000
set_option maxHeartbeats 1000000
namespace Stair
open PySem PySem.Spec PyProof.Rows L2 Evl
/-! # The class Walk: rules -/
structure Tw (K : Kx) (mg : Str → Option Value) (C : Addr) : Prop where
  g : mg "Walk" = some (.ref C)
  cl : Cls K C
  n_houses : NoAttr K C "houses"
  n_deals : NoAttr K C "deals"
  n_begin : NoAttr K C "begin"
  n_firsts : NoAttr K C "firsts"
  n_standing : NoAttr K C "standing"
  init : ∃ f fd, FunD K "__init__" "Walk.__init__" (defArgs sWInit) (defBody sWInit) (defScope sWInit) [] [] f fd ∧ Mk K C f
  dealt : ∃ f fd, FunD K "dealt_by" "Walk.dealt_by" (defArgs sWDealtBy) (defBody sWDealtBy) (defScope sWDealtBy) [] [] f fd ∧ Meth K C "dealt_by" f
  paid : ∃ f fd, FunD K "paid_one" "Walk.paid_one" (defArgs sWPaidOne) (defBody sWPaidOne) (defScope sWPaidOne) [] [] f fd ∧ Meth K C "paid_one" f
def HasM (P : Program) (w : World) (K : Kx) (mg : Str → Option Value) (base : Heap) (C : Addr) (k : Nat) (m : Str) (ps : List Str) (sp : Sp) : Prop :=
  ∃ f fd, Cls K C ∧ Meth K C m f ∧ Binds K fd ps [] ∧ FnOk P w K mg base CX0 k f fd ps sp
def HasK (P : Program) (w : World) (K : Kx) (mg : Str → Option Value) (base : Heap) (C : Addr) (k : Nat) (x : Str) (ps : List Str) (sp : Sp) : Prop :=
  ∃ f fd, mg x = some (.ref C) ∧ Mk K C f ∧ Binds K fd ps [] ∧ FnOk P w K mg base CX0 k f fd ps sp
section
variable {X : Cx} {C : Addr} {k j : Nat} {m x : Str} {ps : List Str} {sp : Sp} {o e value : Expr} {es : List Expr} {to ta tv : TE} {t : TA} {p apos pos pos' : Pos} {f : Str}
theorem kpe_meth1 {pl : Sem Bool} (h : HasM X.prog X.w X.K X.mg X.base C j m ps sp) (hr : Room k X.A) (ho : PE X o to) (ha : PA X (e :: es) t) (hj : j ≤ k := by decide)
    (hst : starEach (e :: es) X.env = (false, eval e X.env) :: starEach es X.env := by rfl) (hpl : (backTo pos (starEach es X.env)).any (·.1) = false := by rfl)
    (ht : eval (.Call (.Attribute o m apos) (e :: es) [] pos) X.env = (do
      let ov ← eval o X.env
      standAt apos.atName
      let (f, first) ← holding [ov] (getMethod ov m pl)
      callWith pos f first (backTo pos (starEach (e :: es) X.env)) (backToKw pos (keywordEach [] X.env))) := by rfl) :
    PE X (.Call (.Attribute o m apos) (e :: es) [] pos) (tMeth C m sp [] (fun _ _ _ => False) to t) := by
  obtain ⟨f, fd, c, hm, b, F⟩ := h
  exact pe_meth ho c hm F (hr.mono hj) b .nil C8.pass0 ha hst hpl ht
theorem kpe_meth0 {pl : Sem Bool} (h : HasM X.prog X.w X.K X.mg X.base C j m ps sp) (hr : Room k X.A) (ho : PE X o to) (hj : j ≤ k := by decide)
    (ht : eval (.Call (.Attribute o m apos) [] [] pos) X.env = (do
      let ov ← eval o X.env
      standAt apos.atName
      let (f, first) ← holding [ov] (getMethod ov m pl)
      callWith pos f first (backTo pos (starEach [] X.env)) (backToKw pos (keywordEach [] X.env))) := by rfl) :
    PE X (.Call (.Attribute o m apos) [] [] pos) (tMeth C m sp [] (fun _ _ _ => False) to tNil) := by
  obtain ⟨f, fd, c, hm, b, F⟩ := h
  exact pe_meth0 ho c hm F (hr.mono hj) b .nil C8.pass0 ht
theorem kpe_make (h : HasK X.prog X.w X.K X.mg X.base C j x ps sp) (hr : Room k X.A) (ha : PA X (e :: es) t) (hj : j + 1 ≤ k := by decide) (hg : Gl X x := by rfl) (hdb : (x == ("__debug__" : Str)) = false := by decide) (he : starEach (e :: es) X.env = (false, eval e X.env) :: starEach es X.env := by rfl) (hpl : (backTo pos (starEach es X.env)).any (·.1) = false := by rfl) :
    PE X (.Call (.Name x p) (e :: es) [] pos) (tMake C sp [] (fun _ _ _ => False) t) := by
  obtain ⟨f, fd, g, M, b, F⟩ := h
  exact pe_make M F (hr.mono hj) hg g b .nil C8.pass0 ha hdb he hpl
theorem kpe_fld (K : Kx) (he : PE X e ta) (hb : attributeBase e f X.env (eval e X.env) = eval e X.env := by rfl) (h : X.K = K := by rfl) : PE X (.Attribute e f pos) (tFld K ta f) := h ▸ pe_fld he hb
theorem kps_fld (K : Kx) (ha : PE X o ta) (hv : PE X value tv) (hs : swapsWith value (some (.Attribute o f pos')) pos.line X.env = pure false := by rfl) (h : X.K = K := by rfl) : PS X (.Assign [.Attribute o f pos'] value pos) (sFld K ta tv f) := h ▸ ps_fld ha hv hs
theorem get_listG : PGet X (rIxL X.K) := by
  intro pins s σ H x y v u Q I rx ry h
  obtain ⟨p, xs, i, z, rfl, rfl, hq, he, q⟩ := h
  cases rx
  obtain ⟨t, rfl⟩ := ry
  obtain ⟨its, r, pl, hz⟩ := I.list hq
  obtain ⟨j, h1, h2, h3, h4, h5⟩ := atI_get he
  obtain ⟨w, ew, rw'⟩ := r.get h2
  have hl := r.length
  have hn := line63
  have fin : EP X pins σ Q w s := ⟨z, H, I, rw', q⟩
  by_cases h0 : 0 ≤ i
  · have hj : i.toNat = j := by
      rw [seqIndex_of h0 h5] at h1
      exact Option.some.inj h1
    exact wpAny_getItem_list pl.isList h0 (by omega) (by rw [hj]; simpa using ew) fin
  · have hj : (i + (its.toArray.size : Int)).toNat = j := by
      rw [seqIndex_neg (by omega) h4] at h1
      rw [List.size_toArray, ← hl]
      exact Option.some.inj h1
    exact wpAny_getItem_list_neg pl.isList (by omega) (by rw [List.size_toArray] <;> omega) (by omega) (by rw [hj]; simpa using ew) fin
theorem kget_list (K : Kx) (h : X.K = K := by rfl) : PGet X (rIxL K) := h ▸ get_listG
end
/-! ### what a walk holds -/
def Deal.first (d : Deal) : Nat := (d.init.map (·.1)).sum
/-- the standing behind a standing -/
def Deal.nxt (d : Deal) (s : Nat) : Nat := if s + 1 = d.first + d.last.length then d.first else s + 1
def housesL (n : Net) : PD := .list ((n.map (·.1)).map .str)
def dealsL (n : Net) : PD := .list ((deals n).map dealD)
def natsL (l : List Nat) : PD := .list (l.map fun k => .int (k : Nat))
structure WA where
  w : Addr
  dx : Addr
  ph : Addr
  pd : Addr
  pf : Addr
  ls : Addr
structure WA.Off (A : WA) (q : Addr) : Prop where
  w : A.w ≠ q
  ph : A.ph ≠ q
  pd : A.pd ≠ q
  pf : A.pf ≠ q
  ls : A.ls ≠ q
def wflds (A : WA) (b : Nat) : List (Str × V) := [("houses", .ref A.ph), ("deals", .ref A.pd), ("begin", .int (b : Nat)), ("firsts", .ref A.pf), ("standing", .ref A.ls)]
structure Wk (C : Addr) (A : WA) (n : Net) (b : Nat) (st : List Nat) (H : Hp) : Prop where
  ob : H A.w = some (.ins C A.dx (wflds A b))
  h : Dt H (.ref A.ph) (housesL n)
  d : Dt H (.ref A.pd) (dealsL n)
  f : Dt H (.ref A.pf) (natsL ((deals n).map Deal.first))
  s : H A.ls = some (.lst (st.map fun k => .int (k : Nat)))
  nh : A.ph ≠ A.ls
  nd : A.pd ≠ A.ls
  nf : A.pf ≠ A.ls
theorem Dt.ref_lst {H : Hp} {a : Addr} {ds : List PD} (h : Dt H (.ref a) (.list ds)) : ∃ xs, H a = some (.lst xs) ∧ Dts H xs ds := by cases h with | lst h r => exact ⟨_, h, r⟩
theorem Wk.ex {C : Addr} {A : WA} {n : Net} {b : Nat} {st : List Nat} : ∀ H H', Ex H H' → Wk C A n b st H → Wk C A n b st H' := fun H H' e h =>
  ⟨e _ _ h.ob, h.h.mono e, h.d.mono e, h.f.mono e, e _ _ h.s, h.nh, h.nd, h.nf⟩
theorem Wk.nw {C : Addr} {A : WA} {n : Net} {b : Nat} {st : List Nat} {H : Hp} (h : Wk C A n b st H) : A.w ≠ A.ls := fun z => by
  have := h.ob
  rw [z, h.s] at this
  cases this
theorem Wk.off {C : Addr} {A : WA} {n : Net} {b : Nat} {st : List Nat} {H : Hp} {q : Addr} (h : Wk C A n b st H) (hq : H q = none) : A.Off q := by
  obtain ⟨_, h1, _⟩ := h.h.ref_lst
  obtain ⟨_, h2, _⟩ := h.d.ref_lst
  obtain ⟨_, h3, _⟩ := h.f.ref_lst
  refine ⟨fun z => ?_, fun z => ?_, fun z => ?_, fun z => ?_, fun z => ?_⟩
  · have := h.ob; rw [z, hq] at this; cases this
  · rw [z, hq] at h1; cases h1
  · rw [z, hq] at h2; cases h2
  · rw [z, hq] at h3; cases h3
  · have := h.s; rw [z, hq] at this; cases this
/-- it is kept by what keeps all but q and the tuples -/
theorem Wk.ow {C : Addr} {A : WA} {n : Net} {b : Nat} {st : List Nat} {H H' : Hp} {q : Addr} (h : Wk C A n b st H) (off : A.Off q) (e : Ow q H H') (tx : Tx H H') : Wk C A n b st H' := by
  obtain ⟨_, h1, r1⟩ := h.h.ref_lst
  obtain ⟨_, h2, r2⟩ := h.d.ref_lst
  obtain ⟨_, h3, r3⟩ := h.f.ref_lst
  exact ⟨e _ _ off.w h.ob, .lst (e _ _ off.ph h1) (Dts.tx tx _ (td_strs _) r1), .lst (e _ _ off.pd h2) (Dts.tx tx _ (td_all fun d hd => by obtain ⟨a, _, rfl⟩ := List.mem_map.mp hd; exact td_deal a) r2),
    .lst (e _ _ off.pf h3) (Dts.tx tx _ (td_all fun d hd => by obtain ⟨a, _, rfl⟩ := List.mem_map.mp hd; rfl) r3), e _ _ off.ls h.s, h.nh, h.nd, h.nf⟩
/-- and goes on by a new standing -/
theorem Wk.put {C : Addr} {A : WA} {n : Net} {b : Nat} {st st' : List Nat} {H : Hp} (h : Wk C A n b st H) : Wk C A n b st' (upd H A.ls (.lst (st'.map fun k => .int (k : Nat)))) := by
  obtain ⟨_, h1, r1⟩ := h.h.ref_lst
  obtain ⟨_, h2, r2⟩ := h.d.ref_lst
  obtain ⟨_, h3, r3⟩ := h.f.ref_lst
  have tx : Tx H (upd H A.ls (.lst (st'.map fun k => .int (k : Nat)))) := tx_upd fun xs z => by rw [h.s] at z; cases z
  exact ⟨by rw [upd_ne h.nw]; exact h.ob, .lst (by rw [upd_ne h.nh]; exact h1) (Dts.tx tx _ (td_strs _) r1), .lst (by rw [upd_ne h.nd]; exact h2) (Dts.tx tx _ (td_all fun d hd => by obtain ⟨a, _, rfl⟩ := List.mem_map.mp hd; exact td_deal a) r2),
    .lst (by rw [upd_ne h.nf]; exact h3) (Dts.tx tx _ (td_all fun d hd => by obtain ⟨a, _, rfl⟩ := List.mem_map.mp hd; rfl) r3), upd_same, h.nh, h.nd, h.nf⟩
theorem Wk.putTx {C : Addr} {A : WA} {n : Net} {b : Nat} {st : List Nat} {H : Hp} {o : HO} (h : Wk C A n b st H) : Tx H (upd H A.ls o) := tx_upd fun xs z => by rw [h.s] at z; cases z
section
variable {K : Kx} {C : Addr} {mg : Str → Option Value} {A : WA} {n : Net} {b : Nat} {st : List Nat} {k : Nat} {Γ : En}
theorem ek_fld {f : Str} {v : V} {d : PD} (cl : Cls K C) (hn : NoAttr K C f) (hl : (wflds A b).lookup f = some v) (hd : ∀ H, Wk C A n b st H → Dt H v d) : EvK k (.ref A.w) (Wk C A n b st) (tFld K (tVar k) f) Γ d := fun σ H hσ hH ok Q q =>
  ⟨.ref A.w, hσ, A.w, C, A.dx, _, v, rfl, hH.ob, cl, hn, hl, q v H (Ex.refl H) (hd H hH)⟩
theorem ek_houses (W : Tw K mg C) : EvK k (.ref A.w) (Wk C A n b st) (tFld K (tVar k) "houses") Γ (housesL n) := ek_fld W.cl W.n_houses rfl fun _ h => h.h
theorem ek_deals (W : Tw K mg C) : EvK k (.ref A.w) (Wk C A n b st) (tFld K (tVar k) "deals") Γ (dealsL n) := ek_fld W.cl W.n_deals rfl fun _ h => h.d
theorem ek_begin (W : Tw K mg C) : EvK k (.ref A.w) (Wk C A n b st) (tFld K (tVar k) "begin") Γ (.int (b : Nat)) := ek_fld W.cl W.n_begin rfl fun _ h => .int _
theorem ek_firsts (W : Tw K mg C) : EvK k (.ref A.w) (Wk C A n b st) (tFld K (tVar k) "firsts") Γ (natsL ((deals n).map Deal.first)) := ek_fld W.cl W.n_firsts rfl fun _ h => h.f
theorem dts_nats {H : Hp} (l : List Nat) : Dts H (l.map fun k => V.int (k : Nat)) (l.map fun k => PyData.int (k : Nat)) := by
  have e := dts_ints (H := H) (l.map fun k => ((k : Nat) : Int))
  rw [List.map_map, List.map_map] at e
  exact e
theorem ek_standing (W : Tw K mg C) : EvK k (.ref A.w) (Wk C A n b st) (tFld K (tVar k) "standing") Γ (natsL st) := ek_fld W.cl W.n_standing rfl fun _ h => .lst h.s (dts_nats _)
end
/-! ### more of EvK -/
def EaK (k : Nat) (v0 : V) (F : Hp → Prop) (t : TA) (Γ : En) (ds : List PD) : Prop := ∀ σ H, σ[k]? = some (some v0) → F H → EOk H σ Γ → ∀ Q : List V → Hp → Prop, (∀ vs H', Ex H H' → Dts H' vs ds → Q vs H') → t σ H Q
def EtK (k : Nat) (v0 : V) (F : Hp → Prop) (t : TT) (Γ : En) (b : Bool) : Prop := ∀ σ H, σ[k]? = some (some v0) → F H → EOk H σ Γ → ∀ Q : Bool → Hp → Prop, (∀ H', Ex H H' → Q b H') → t σ H Q
section
variable {k : Nat} {v0 : V} {F : Hp → Prop} {Γ : En}
theorem eak_nil : EaK k v0 F tNil Γ [] := fun σ H _ _ ok Q q => q [] H (Ex.refl H) .nil
theorem eak_cons {ta : TE} {tr : TA} {d : PD} {ds : List PD} (hF : ∀ H H', Ex H H' → F H → F H') (ha : EvK k v0 F ta Γ d) (hr : EaK k v0 F tr Γ ds) : EaK k v0 F (tCons ta tr) Γ (d :: ds) := fun σ H hσ hH ok Q q =>
  ha σ H hσ hH ok _ fun x H1 x1 d1 => hr σ H1 hσ (hF _ _ x1 hH) (ok.mono x1) _ fun xs H2 x2 d2 => q _ H2 (x1.trans x2) (.cons (d1.mono x2) d2)
theorem ek_call {sp : Sp} {E : XK} {ta : TA} {ds : List PD} {f : PD} (hs : SpG sp ds f) (h : EaK k v0 F ta Γ ds) : EvK k v0 F (tCall sp [] E ta) Γ f := fun σ H hσ hH ok Q q =>
  h σ H hσ hH ok _ fun vs H1 x1 d1 => by
    rw [List.append_nil]
    exact hs vs H1 Q E d1 fun v H2 x2 d2 => q v H2 (x1.trans x2) d2
theorem ek_cbA {r : List V → Hp → VK → Prop} {ta : TA} {ds : List PD} {f : PD} (hr : CG r ds f) (h : EaK k v0 F ta Γ ds) : EvK k v0 F (tCB r ta) Γ f := fun σ H hσ hH ok Q q =>
  h σ H hσ hH ok _ fun vs H1 x1 d1 => hr vs H1 d1 Q fun v H2 x2 d2 => q v H2 (x1.trans x2) d2
theorem etk_test {te : TE} {b : Bool} (h : EvK k v0 F te Γ (.bool b)) : EtK k v0 F (tTest te) Γ b := fun σ H hσ hH ok Q q => h σ H hσ hH ok _ fun x H1 x1 d1 => by
  cases d1
  exact ⟨b, rfl, q H1 x1⟩
theorem EvK.is {te : TE} {d d' : PD} (h : EvK k v0 F te Γ d) (e : d = d') : EvK k v0 F te Γ d' := e ▸ h
theorem ek_bm {K : Kx} {T : String} {r : V → List V → Hp → VK → Prop} {to : TE} {ta : TA} {d f : PD} {ds : List PD} (hF : ∀ H H', Ex H H' → F H → F H') (hr : MG K T r d ds f) (ho : EvK k v0 F to Γ d) (h : EaK k v0 F ta Γ ds) : EvK k v0 F (tBM K T r to ta) Γ f := fun σ H hσ hH ok Q q =>
  ho σ H hσ hH ok _ fun x H1 x1 d1 => ⟨(hr x H1 d1).1, h σ H1 hσ (hF _ _ x1 hH) (ok.mono x1) _ fun vs H2 x2 d2 => (hr x H1 d1).2 vs H2 x2 d2 Q fun v H3 x3 d3 => q v H3 ((x1.trans x2).trans x3) d3⟩
end
section
variable {k : Nat} {v0 : V} {F : Hp → Prop} {Γ : En} {σ : L2.St} {H : Hp} {D : Ends} {te : TE} {ta : TA} {rest : TS} {d : PD}
theorem asg_k {i : Nat} (h : EvK k v0 F te Γ d) (hσ : σ[k]? = some (some v0)) (hH : F H) (ok : EOk H σ Γ) (hq : ∀ v H1, Ex H H1 → Dt H1 v d → rest D (σ.set i (some v)) H1) : tSeq (tAsg te (gName i)) rest D σ H := h σ H hσ hH ok _ hq
theorem par_k {i j : Nat} {d1 d2 : PD} (h : EaK k v0 F ta Γ [d1, d2]) (hσ : σ[k]? = some (some v0)) (hH : F H) (ok : EOk H σ Γ) (hq : ∀ v w H1, Ex H H1 → Dt H1 v d1 → Dt H1 w d2 → rest D ((σ.set i (some v)).set j (some w)) H1) : tSeq (tPar i j ta) rest D σ H := h σ H hσ hH ok _ fun vs H1 e1 r1 => by
  cases r1 with | cons a t => cases t with | cons b t =>
    cases t
    exact ⟨_, _, rfl, hq _ _ H1 e1 a b⟩
theorem ifs_k {c : TT} {b : Bool} {t u : TS} (h : EtK k v0 F c Γ b) (hσ : σ[k]? = some (some v0)) (hH : F H) (ok : EOk H σ Γ) (h1 : b = true → ∀ H1, Ex H H1 → t { D with nx := rest D } σ H1) (h2 : b = false → ∀ H1, Ex H H1 → u { D with nx := rest D } σ H1) : tSeq (tIfS c t u) rest D σ H := h σ H hσ hH ok _ fun H1 e1 => by
  cases b with
  | true => exact ifT (h1 rfl H1 e1)
  | false => exact ifF (h2 rfl H1 e1)
theorem drop_k (h : EvK k v0 F te Γ d) (hσ : σ[k]? = some (some v0)) (hH : F H) (ok : EOk H σ Γ) (hq : ∀ H1, Ex H H1 → rest D σ H1) : tSeq (tDrop te) rest D σ H := h σ H hσ hH ok _ fun v H1 e _ => hq H1 e
theorem ret_k (h : EvK k v0 F te Γ d) (hσ : σ[k]? = some (some v0)) (hH : F H) (ok : EOk H σ Γ) (hq : ∀ v H1, Ex H H1 → Dt H1 v d → D.rt v H1) : tRet te D σ H := h σ H hσ hH ok _ hq
end
end Stair
/-! ## StW1 -/
set_option Elab.async false
set_option linter.all false
set_option maxRecDepth 100000
set_option maxHeartbeats 1000000
namespace Stair
open PySem PySem.Spec PyProof.Rows L2 Evl
section
variable {P : Program} {w : World} {K : Kx} {mg : Str → Option Value} {base : Heap} {C : Addr} (T : Tp K mg) (W : Tw K mg C)
include T W
def spDealt (C : Addr) : Sp := fun vs H Q _ => ∃ (A : WA) (n : Net) (b : Nat) (st : List Nat) (i : Nat) (h : Str) (d : Deal) (s : Nat), vs = [.ref A.w, .int (i : Nat)] ∧ Wk C A n b st H ∧ GoodDeal d ∧ n.length ≤ 4 ∧ n[i]? = some (h, d) ∧ st[i]? = some s ∧
  ∀ H', Wk C A n b (st.set i (d.nxt s)) H' → Ow A.ls H H' → Tx H H' → Q (.str (d.name s)) H'
theorem has_dealt_by : HasM P w K mg base C 3 "dealt_by" ["self", "number"] (spDealt C) := by
  obtain ⟨f, fd, F, hm⟩ := W.dealt
  refine ⟨f, fd, W.cl, hm, F.bindsN fun _ _ _ _ _ _ us hl => match us, hl with | [_, _], _ => rfl, F.ok sc_W_dealt_by (fun vs H Q E ⟨_, _, _, _, _, _, _, _, e, _⟩ => by rw [e]; rfl) fun cdv A outer s H vs Q E hr h => ?_⟩
  have G_name_in := has_name_in (P := P) (w := w) (base := base) T
  obtain ⟨A, n, b, st, i, h, d, s, rfl, hW, hd, hn, hi, hs, k⟩ := h
  suffices hh : ∃ t, PSs (cxOf CX0 P w K mg base ["self", "number", "deal", "first", "name"] "Walk.dealt_by" (defScope sWDealtBy) f cdv _ outer _ H E).nox (defBody sWDealtBy) t ∧ t { nx := fun _ H' => Q .non H', rt := Q } (L2.start _ [.ref A.w, .int (i : Nat)]) H from
    let ⟨t, a, b⟩ := hh; ⟨t, a.nox, b⟩
  refine ⟨_, (pss_cons (ps_par2A 2 3 sc_W_dealt_by.nd (pa_cons (pe_ix (kix_list K) (kpe_fld K (pv 0)) (pv 1) (fun _ _ => rfl)) (pa_cons (pe_ix (kix_list K) (kpe_fld K (pv 0)) (pv 1) (fun _ _ => rfl)) pa_nil))) (pss_cons (ps_st 4 sc_W_dealt_by.nd (pe_has G_name_in hr (pa_cons (pv 2) (pa_cons (pe_ix (kix_list K) (kpe_fld K (pv 0)) (pv 1) (fun _ _ => rfl)) pa_nil)))) (pss_cons (ps_augS (kpe_fld K (pv 0)) (pv 1) (kget_list K) pe_int ip_add set_list) (pss_cons (ps_if (pt_cmpR op_eq (pe_ix (kix_list K) (kpe_fld K (pv 0)) (pv 1) (fun _ _ => rfl)) (pe_op op_add (pv 3) (kb_len T (pa_cons (pe_ix (kix_tup K) (pe_ix (kix_tup K) (pe_ix (kix_tup K) (pv 2) pe_int (fun _ _ => rfl)) (pe_un un_neg pe_int) (fun _ _ => rfl)) pe_int (fun _ _ => rfl)) pa_nil))) (nomark _)) (pss_one (ps_asg (pv 3) (pg_sub (kpe_fld K (pv 0)) (pv 1) set_list))) pss_nil) (pss_one (ps_ret (pv 4))))))), ?_⟩
  have hdl : (deals n)[i]? = some d := by unfold deals; rw [List.getElem?_map, hi]; rfl
  have ok : EOk H (L2.start ["self", "number", "deal", "first", "name"] [.ref A.w, .int (i : Nat)]) [none, some (.int (i : Nat)), none, none, none] := .non (.som (.int _) (.non (.non (.non .nil))))
  have q1 : EaK 0 (.ref A.w) (Wk C A n b st) (tCons (tOp (rIxL K) (tFld K (tVar 0) "deals") (tVar 1)) (tCons (tOp (rIxL K) (tFld K (tVar 0) "firsts") (tVar 1)) tNil)) [none, some (.int (i : Nat)), none, none, none] [dealD d, .int (d.first : Nat)] :=
    eak_cons Wk.ex (ek_op Wk.ex (rg_ixL (atI_nat' (by rw [List.getElem?_map, hdl]; rfl))) (ek_deals W) (EvG.toK (eg_var rfl))) (eak_cons Wk.ex (ek_op Wk.ex (rg_ixL (atI_nat' (by rw [List.getElem?_map, List.getElem?_map, hdl]; rfl))) (ek_firsts W) (EvG.toK (eg_var rfl))) eak_nil)
  refine par_k q1 rfl hW ok fun v u H1 e1 dv du => ?_
  cases du
  · skip
    have W1 := Wk.ex _ _ e1 hW
    have ok1 : EOk H1 [some (.ref A.w), some (.int (i : Nat)), some v, some (.int (d.first : Nat)), none] [none, some (.int (i : Nat)), some (dealD d), some (.int (d.first : Nat)), none] := .non (.som (.int _) (.som dv (.som (.int _) (.non .nil))))
    have q2 : EvK 0 (.ref A.w) (Wk C A n b st) (tCall (spF R_name_in) [] (fun _ _ _ => False) (tCons (tVar 2) (tCons (tOp (rIxL K) (tFld K (tVar 0) "standing") (tVar 1)) tNil))) [none, some (.int (i : Nat)), some (dealD d), some (.int (d.first : Nat)), none] (.str (d.name s)) :=
      ek_call (spF_g ⟨d, s, hd, rfl, rfl⟩) (eak_cons Wk.ex (EvG.toK (eg_var rfl)) (eak_cons Wk.ex (ek_op Wk.ex (rg_ixL (atI_nat' (by rw [List.getElem?_map, hs]; rfl))) (ek_standing W) (EvG.toK (eg_var rfl))) eak_nil))
    refine asg_k q2 rfl W1 ok1 fun v4 H2 e2 d2 => ?_
    cases d2
    have W2 := Wk.ex _ _ e2 W1
    have hil : i < st.length := (List.getElem?_eq_some_iff.mp hs).1
    have hix : ixN (st.map fun k => V.int (k : Nat)).length (i : Int) = some i := ixN_nat (by rw [List.length_map]; exact hil)
    have hat : L2.atI (st.map fun k => V.int (k : Nat)) (i : Int) = some (.int (s : Nat)) := atI_nat' (by rw [List.getElem?_map, hs]; rfl)
    have set_nat : ∀ (l : List Nat) (x : Nat), (l.map fun k => V.int (k : Nat)).set i (.int (x : Nat)) = (l.set i x).map fun k => V.int (k : Nat) := fun l x => by rw [List.map_set]
    refine ⟨.ref A.w, rfl, A.w, C, A.dx, _, _, rfl, W2.ob, W.cl, W.n_standing, rfl, .int i, rfl, A.ls, _, (i : Int), _, rfl, rfl, sq_of W2.s, hat, ⟨(s : Nat), 1, rfl, rfl, A.ls, _, (i : Int), i, rfl, rfl, W2.s, hix, ?_⟩⟩
    rw [show V.int ((s : Nat) + 1 : Int) = V.int ((s + 1 : Nat) : Int) from rfl, set_nat]
    have W3 : Wk C A n b (st.set i (s + 1)) _ := W2.put
    have ow3 : Ow A.ls H (upd H2 A.ls (.lst ((st.set i (s + 1)).map fun k => V.int (k : Nat)))) := (Ex.ow (e1.trans e2)).trans Ow.put
    have tx3 : Tx H (upd H2 A.ls (.lst ((st.set i (s + 1)).map fun k => V.int (k : Nat)))) := (Ex.tx (e1.trans e2)).trans W2.putTx
    have tx3' : Tx H2 (upd H2 A.ls (.lst ((st.set i (s + 1)).map fun k => V.int (k : Nat)))) := W2.putTx
    generalize upd H2 A.ls (.lst ((st.set i (s + 1)).map fun k => V.int (k : Nat))) = H3 at W3 ow3 tx3 tx3' ⊢
    have ok3 : EOk H3 [some (.ref A.w), some (.int (i : Nat)), some v, some (.int (d.first : Nat)), some (.str (d.name s))] [none, some (.int (i : Nat)), some (dealD d), some (.int (d.first : Nat)), some (.str (d.name s))] := .non (.som (.int _) (.som (Dt.tx tx3' _ (td_deal d) (dv.mono e2)) (.som (.int _) (.som (.str _) .nil))))
    have hat3 : (st.set i (s + 1))[i]? = some (s + 1) := by rw [List.getElem?_set_self hil]
    have lst : (d.runs.map runD).getLast? = some (.tuple [.none, .str d.last]) := by unfold Deal.runs; rw [List.map_append, List.getLast?_append]; rfl
    have ct : EtK 0 (.ref A.w) (Wk C A n b (st.set i (s + 1))) _ [none, some (.int (i : Nat)), some (dealD d), some (.int (d.first : Nat)), some (.str (d.name s))] _ :=
      etk_test (ek_op Wk.ex rg_eqI (ek_op Wk.ex (rg_ixL (K := K) (i := (i : Int)) (atI_nat' (by rw [List.getElem?_map, hat3]; rfl))) (ek_standing W) (EvG.toK (eg_var (i := 1) rfl)))
        (EvG.toK (eg_op rg_add (eg_var (i := 3) rfl) (eg_cb (cg_lenS (K := K) (Nat.le_trans hd.last.hi (by decide))) (ea_cons (eg_op (rg_ixT (K := K) (i := 1) rfl) (eg_op (rg_ixT (K := K) (i := -1) (atI_last lst)) (eg_op (rg_ixT (K := K) (i := 1) rfl) (eg_var (i := 2) rfl) eg_int) (eg_un ug_neg eg_int)) eg_int) ea_nil)))))
    have fin : ∀ H4, Wk C A n b (st.set i (d.nxt s)) H4 → Ow A.ls H H4 → Tx H H4 → tRet (tVar 4) { nx := fun _ H' => Q .non H', rt := Q } [some (.ref A.w), some (.int (i : Nat)), some v, some (.int (d.first : Nat)), some (.str (d.name s))] H4 := fun H4 a b c => ⟨_, rfl, k H4 a b c⟩
    refine ifs_k ct rfl W3 ok3 (fun hb H4 e4 => ?_) fun hb H4 e4 => ?_
    · have W4 := Wk.ex _ _ e4 W3
      have hix4 : ixN ((st.set i (s + 1)).map fun k => V.int (k : Nat)).length (i : Int) = some i := ixN_nat (by rw [List.length_map, List.length_set]; exact hil)
      refine ⟨_, rfl, .ref A.w, rfl, A.w, C, A.dx, _, _, rfl, W4.ob, W.cl, W.n_standing, rfl, .int i, rfl, A.ls, _, (i : Int), i, rfl, rfl, W4.s, hix4, ?_⟩
      rw [set_nat, List.set_set]
      have e : d.nxt s = d.first := by
        unfold Deal.nxt
        rw [if_pos (by have := of_decide_eq_true hb; omega)]
      refine fin _ ?_ ((ow3.trans (Ex.ow e4)).trans Ow.put) ((tx3.trans (Ex.tx e4)).trans W4.putTx)
      rw [e]
      exact W4.put
    · refine fin _ ?_ (ow3.trans (Ex.ow e4)) (tx3.trans (Ex.tx e4))
      have e : d.nxt s = s + 1 := by
        unfold Deal.nxt
        rw [if_neg (by have := of_decide_eq_false hb; omega)]
      rw [e]
      exact Wk.ex _ _ e4 W3
end
end Stair
/-! ## StW2 -/
set_option Elab.async false
set_option linter.all false
set_option maxRecDepth 100000
set_option maxHeartbeats 1000000
namespace Stair
open PySem PySem.Spec PyProof.Rows L2 Evl
/-- m steps of dealing: from a name and a standing to a name that is no house -/
inductive PaidTo (n : Net) : Nat → Str → List Nat → Str → List Nat → Prop
  | out {a : Str} {st : List Nat} : a ∉ n.map (·.1) → PaidTo n 0 a st a st
  | step {m i : Nat} {a b : Str} {d : Deal} {s : Nat} {st st' : List Nat} : n[i]? = some (a, d) → st[i]? = some s → PaidTo n m (d.name s) (st.set i (d.nxt s)) b st' → PaidTo n (m + 1) a st b st'
theorem GoodNet.nodup {n : Net} (h : GoodNet n) : (n.map (·.1)).Nodup := h.srt.imp fun {a b} hab => fun z => by
  subst z
  exact absurd hab (List.lt_irrefl _)
theorem GoodNet.first {n : Net} (h : GoodNet n) {i : Nat} {a : Str} (hi : (n.map (·.1))[i]? = some a) : ∀ m, m < i → (n.map (·.1))[m]? ≠ some a := fun m hm z => by
  have e := h.nodup
  have l1 : i < (n.map (·.1)).length := (List.getElem?_eq_some_iff.mp hi).1
  have l2 : m < (n.map (·.1)).length := by omega
  have := (List.getElem?_inj l2 e).mp (z.trans hi.symm)
  omega
section
variable {P : Program} {w : World} {K : Kx} {mg : Str → Option Value} {base : Heap} {C : Addr} (T : Tp K mg) (W : Tw K mg C)
include T W
def spPaid (C : Addr) : Sp := fun vs H Q _ => ∃ (A : WA) (n : Net) (b m : Nat) (st st' : List Nat) (h a : Str), vs = [.ref A.w] ∧ Wk C A n b st H ∧ GoodNet n ∧ (n.map (·.1))[b]? = some h ∧ PaidTo n m h st a st' ∧
  ∀ H', Wk C A n b st' H' → Ow A.ls H H' → Tx H H' → Q (.str a) H'
theorem has_paid_one : HasM P w K mg base C 4 "paid_one" ["self"] (spPaid C) := by
  obtain ⟨f, fd, F, hm⟩ := W.paid
  refine ⟨f, fd, W.cl, hm, F.bindsN fun _ _ _ _ _ _ us hl => match us, hl with | [_], _ => rfl, F.ok sc_W_paid_one (fun vs H Q E ⟨_, _, _, _, _, _, _, _, e, _⟩ => by rw [e]; rfl) fun cdv A outer s H vs Q E hr h => ?_⟩
  have G_dealt_by := has_dealt_by (P := P) (w := w) (base := base) T W
  obtain ⟨A, n, b, m, st, st', h, res, rfl, hW, hn, hb, hp, k⟩ := h
  suffices hh : ∃ t, PSs (cxOf CX0 P w K mg base ["self", "name"] "Walk.paid_one" (defScope sWPaidOne) f cdv _ outer _ H E).nox (defBody sWPaidOne) t ∧ t { nx := fun _ H' => Q .non H', rt := Q } (L2.start _ [.ref A.w]) H from
    let ⟨t, a, b⟩ := hh; ⟨t, a.nox, b⟩
  refine ⟨_, (pss_cons (ps_st 1 sc_W_paid_one.nd (pe_ix (kix_list K) (kpe_fld K (pv 0)) (kpe_fld K (pv 0)) (fun _ _ => rfl))) (pss_cons (ps_while PassesOwn.never (pt_cmpR (kop_in K) (pv 1) (kpe_fld K (pv 0)) rfl) (pss_one (ps_st 1 sc_W_paid_one.nd (kpe_meth1 G_dealt_by hr (pv 0) (pa_cons (km_index K (kpe_fld K (pv 0)) (pa_cons (pv 1) pa_nil)) pa_nil))))) (pss_one (ps_ret (pv 1))))), ?_⟩
  have ok : EOk H (L2.start ["self", "name"] [.ref A.w]) [none, none] := .non (.non .nil)
  have q1 : EvK 0 (.ref A.w) (Wk C A n b st) (tOp (rIxL K) (tFld K (tVar 0) "houses") (tFld K (tVar 0) "begin")) [none, none] (.str h) := ek_op Wk.ex (rg_ixL (atI_nat' (by rw [List.getElem?_map, hb]; rfl))) (ek_houses W) (ek_begin W)
  refine asg_k q1 rfl hW ok fun v H1 e1 dv => ?_
  cases dv
  have W1 := Wk.ex _ _ e1 hW
  refine ⟨fun m σ H2 => ∃ a cur, σ = [some (.ref A.w), some (.str a)] ∧ Wk C A n b cur H2 ∧ PaidTo n m a cur res st' ∧ Ow A.ls H H2 ∧ Tx H H2, ⟨m, h, st, rfl, W1, hp, Ex.ow e1, Ex.tx e1⟩, ?_⟩
  rintro m σ H2 ⟨a, cur, rfl, W2, hp, ow2, tx2⟩
  have ok2 : EOk H2 [some (.ref A.w), some (.str a)] [none, some (.str a)] := .non (.som (.str _) .nil)
  have ct : EtK 0 (.ref A.w) (Wk C A n b cur) (tTest (tOp (rIn K false) (tVar 1) (tFld K (tVar 0) "houses"))) [none, some (.str a)] (decide (a ∈ n.map (·.1))) := etk_test (ek_op Wk.ex rg_inL (EvG.toK (eg_var rfl)) (ek_houses W))
  refine ct _ H2 rfl W2 ok2 _ fun H3 e3 => ?_
  have W3 := Wk.ex _ _ e3 W2
  have ok3 := ok2.mono e3
  cases hp with
  | out ha =>
    rw [decide_eq_false ha]
    refine ifF ⟨_, rfl, k _ W3 (ow2.trans (Ex.ow e3)) (tx2.trans (Ex.tx e3))⟩
  | step hi hs hp =>
    rename_i m i d s
    have hi' : (n.map (·.1))[i]? = some a := by rw [List.getElem?_map, hi]; rfl
    rw [decide_eq_true (List.mem_of_getElem? hi')]
    refine ifT ⟨fun σ H4 => ∃ a cur, σ = [some (.ref A.w), some (.str a)] ∧ Wk C A n b cur H4 ∧ PaidTo n m a cur res st' ∧ Ow A.ls H H4 ∧ Tx H H4, fun σ H4 q => ⟨m, Nat.lt_succ_self m, q⟩, ?_⟩
    have ea : EaK 0 (.ref A.w) (Wk C A n b cur) (tCons (tBM K "list" (rIndex K) (tFld K (tVar 0) "houses") (tCons (tVar 1) tNil)) tNil) [none, some (.str a)] [.int (i : Nat)] := eak_cons Wk.ex (ek_bm Wk.ex (mg_index hi' (hn.first hi')) (ek_houses W) (eak_cons Wk.ex (EvG.toK (eg_var rfl)) eak_nil)) eak_nil
    refine ⟨.ref A.w, rfl, A.w, A.dx, _, rfl, W3.ob, rfl, ea _ H3 rfl W3 ok3 _ fun vs H4 e4 r4 => ?_⟩
    cases r4 with | cons x t =>
      cases t
      cases x
      exact ⟨A, n, b, cur, i, a, d, s, rfl, Wk.ex _ _ e4 W3, hn.deal _ (List.mem_of_getElem? hi), hn.hi, hi, hs, fun H5 W5 ow5 tx5 => ⟨_, _, rfl, W5, hp, (((ow2.trans (Ex.ow e3)).trans (Ex.ow e4)).trans ow5), (((tx2.trans (Ex.tx e3)).trans (Ex.tx e4)).trans tx5)⟩⟩
end
end Stair
/-! ## StW3 -/
set_option Elab.async false
set_option linter.all false
set_option maxRecDepth 100000
set_option maxHeartbeats 1000000
namespace Stair
open PySem PySem.Spec PyProof.Rows L2 Evl
/-! ### the fields of an instance may change -/
def Lx (H H' : Hp) : Prop := (∀ a xs, H a = some (.lst xs) → H' a = some (.lst xs)) ∧ Tx H H'
mutual
theorem Dt.lx {H H' : Hp} (e : Lx H H') : ∀ (d : PD) {v : V}, Dt H v d → Dt H' v d
  | .none, _, h => by cases h; exact .non
  | .bool b, _, h => by cases h; exact .bl b
  | .int i, _, h => by cases h; exact .int i
  | .str x, _, h => by cases h; exact .str x
  | .list ds, _, h => by cases h with | lst a b => exact .lst (e.1 _ _ a) (Dts.lx e ds b)
  | .tuple ds, _, h => by cases h with | tup a b => exact .tup (e.2 _ _ a) (Dts.lx e ds b)
  | .dict kvs, _, h => by cases h
theorem Dts.lx {H H' : Hp} (e : Lx H H') : ∀ (ds : List PD) {vs : List V}, Dts H vs ds → Dts H' vs ds
  | [], _, h => by cases h; exact .nil
  | d :: ds, _, h => by cases h with | cons a b => exact .cons (Dt.lx e d a) (Dts.lx e ds b)
end
theorem EOk.lx {H H' : Hp} (e : Lx H H') : ∀ {σ : L2.St} {Γ : En}, EOk H σ Γ → EOk H' σ Γ
  | _, _, .nil => .nil
  | _, _, .non t => .non (EOk.lx e t)
  | _, _, .som a t => .som (Dt.lx e _ a) (EOk.lx e t)
theorem Lx.ins {H : Hp} {p C dx : Addr} {fs : List (Str × V)} {o : HO} (h : H p = some (.ins C dx fs)) : Lx H (upd H p o) :=
  ⟨fun a xs e => by rw [upd_ne (fun z => by rw [z, h] at e; cases e)]; exact e, fun a xs e => by rw [upd_ne (fun z => by rw [z, h] at e; cases e)]; exact e⟩
/-- an iterator beside which one thing more is known -/
def ItK (k : Nat) (v0 : V) (F : Hp → Prop) (wi : TI) (Γ : En) (ds : List PD) : Prop := ∀ σ H, σ[k]? = some (some v0) → F H → EOk H σ Γ → ∀ R : It → Hp → Prop, (∀ J H1, Ex H H1 → Gives J ds H1 → R J H1) → wi σ H R
theorem itk_list {K : Kx} {k : Nat} {v0 : V} {F : Hp → Prop} {Γ : En} {te : TE} {ds : List PD} (h : EvK k v0 F te Γ (.list ds)) : ItK k v0 F (iList K te) Γ ds := fun σ H hσ hH ok R q => h σ H hσ hH ok _ fun v H1 x1 d1 => by
  cases d1 with | lst a b => exact ⟨_, rfl, ⟨_, sq_of a⟩, q _ H1 x1 (gives_list a b)⟩
theorem eg_lcKK {α : Type} {K : Kx} {k : Nat} {v0 : V} {F : Hp → Prop} {Γ : En} {wi : TI} {g : TG} {te : TE} {vs : List Nat} {l : List α} {q f : α → PD} (hF : ∀ H H', Ex H H' → F H → F H') (hk : k ∉ vs) (hi : ItK k v0 F wi Γ (l.map q)) (hl : l.length ≤ 16000000)
    (h : ∀ x, x ∈ l → ∃ ps, GpG g (q x) ps ∧ (∀ p ∈ ps, p.1 ∈ vs) ∧ EvK k v0 F te (setsE (wipeE Γ vs) ps) (f x) ∧ td (f x) = true) : EvK k v0 F (tLc wi g tYes te vs) Γ (.list (l.map f)) := fun σ H hσ hH ok Q kk => hi σ H hσ hH ok _ fun J H1 x1 gv D hD => by
  obtain ⟨G, Y, w, g1, gs, gy⟩ := gv
  rw [List.length_map] at w
  have x2 := x1.trans (Ex.new (o := .lst []) hD)
  refine lc_it w (Pv := fun i H2 => Ex H1 H2 ∧ ∃ acc, H2 D = some (.lst acc) ∧ Dts H2 acc ((l.take i).map f) ∧ i ≤ l.length) ⟨Ex.new hD, [], upd_same, by exact .nil, Nat.zero_le _⟩ (fun i H2 _ p => gs _ _ p.1 g1) ?_ ?_
  · rintro i x H2 H3 hi ⟨e2, acc, ha, hacc, _⟩ y
    obtain ⟨e3, d, hd, dx⟩ := gy i H2 x H3 (by rw [List.length_map]; exact hi) (gs _ _ e2 g1) e2 y
    rw [List.getElem?_map] at hd
    obtain ⟨z, hz, rfl⟩ := Option.map_eq_some_iff.mp hd
    obtain ⟨ps, hp, hv, he, ht⟩ := h z (List.mem_of_getElem? hz)
    have ok3 : EOk H3 (L2.wipe σ vs) (wipeE Γ vs) := (ok.mono (x1.trans (e2.trans e3))).wipe vs
    have hlt : acc.length < sizeLine := by
      have z1 : acc.length ≤ l.length := by
        rw [hacc.length, List.length_map, List.length_take]
        exact Nat.min_le_right _ _
      have z2 : sizeLine = 16777216 := sizeLine_eq
      omega
    have htk : l.take (i + 1) = l.take i ++ [z] := by rw [List.take_add_one, hz]; rfl
    refine hp x _ H3 dx _ fun xs px => ⟨by rw [px.wipe hv, wipe_two], et_yes _ H3 (px.ok ok3) _ fun H4 e4 => ?_⟩
    have d3 : H3 D = some (.lst acc) := e3 _ _ ha
    have hs : (setsV (L2.wipe σ vs) xs)[k]? = some (some v0) := by rw [setsV_get px hv hk, L2.wipe_out hk]; exact hσ
    refine ifT (he _ H4 hs (hF _ _ (((x1.trans e2).trans e3).trans e4) hH) ((px.ok ok3).mono e4) _ fun v H5 e5 dv => ?_)
    have d5 : H5 D = some (.lst acc) := e5 _ _ (e4 _ _ d3)
    have tx : Tx H5 (upd H5 D (.lst (acc ++ [v]))) := tx_upd fun zs z => by rw [d5] at z; cases z
    have ht' : tds ((l.take i).map f) = true := td_all fun z hz => by
      obtain ⟨y, hy, rfl⟩ := List.mem_map.mp hz
      obtain ⟨_, _, _, _, kk⟩ := h y (List.mem_of_mem_take hy)
      exact kk
    refine ⟨acc, d5, hlt, Ex.mut (((e2.trans e3).trans e4).trans e5) hD, acc ++ [v], upd_same, ?_, hi⟩
    rw [htk, List.map_append]
    exact (Dts.tx tx _ ht' (hacc.mono ((e3.trans e4).trans e5))).append (.cons (Dt.tx tx _ ht dv) .nil)
  · rintro H2 ⟨e2, acc, ha, hacc, _⟩
    rw [List.take_length] at hacc
    exact kk _ H2 (x1.trans e2) (.lst ha hacc)
/-- self.f = e -/
theorem fld_k {K : Kx} {k : Nat} {p C dx : Addr} {fs : List (Str × V)} {F : Hp → Prop} {Γ : En} {σ : L2.St} {H : Hp} {D : Ends} {te : TE} {rest : TS} {d : PD} {f : Str} (h : EvK k (.ref p) F te Γ d) (hσ : σ[k]? = some (some (.ref p))) (hH : F H) (ok : EOk H σ Γ)
    (hp : ∀ H, F H → H p = some (.ins C dx fs)) (hF : ∀ H H', Ex H H' → F H → F H') (cl : Cls K C) (hn : NoAttr K C f) (hl : fs.length < 1000)
    (hq : ∀ v H1, Ex H H1 → Dt H1 v d → F H1 → rest D σ (upd H1 p (.ins C dx (putF f v fs)))) : tSeq (sFld K (tVar k) te f) rest D σ H := h σ H hσ hH ok _ fun v H1 e1 dv =>
  ⟨.ref p, hσ, p, C, dx, fs, rfl, hp _ (hF _ _ e1 hH), cl, hn, hl, hq v H1 e1 dv (hF _ _ e1 hH)⟩
theorem ek_own {K : Kx} {k : Nat} {p C dx : Addr} {fs : List (Str × V)} {F : Hp → Prop} {Γ : En} {v : V} {d : PD} {f : Str} (hp : ∀ H, F H → H p = some (.ins C dx fs)) (cl : Cls K C) (hn : NoAttr K C f) (hl : fs.lookup f = some v) (hd : ∀ H, F H → Dt H v d) : EvK k (.ref p) F (tFld K (tVar k) f) Γ d := fun σ H hσ hH ok Q q =>
  ⟨.ref p, hσ, p, C, dx, fs, v, rfl, hp H hH, cl, hn, hl, q v H (Ex.refl H) (hd H hH)⟩
section
variable {P : Program} {w : World} {K : Kx} {mg : Str → Option Value} {base : Heap} {C : Addr} (T : Tp K mg) (W : Tw K mg C)
include T W
def spInit (C : Addr) : Sp := fun vs H Q _ => ∃ (p dx : Addr) (n : Net) (b : Nat) (h : Str) (vn : V), vs = [.ref p, vn, .str h] ∧ H p = some (.ins C dx []) ∧ Dt H vn (netD n) ∧ GoodNet n ∧ (n.map (·.1))[b]? = some h ∧
  ∀ A H', A.w = p → Wk C A n b (List.replicate n.length 0) H' → H A.ls = none → Ow p H H' → Q .non H'
theorem has_init : HasK P w K mg base C 2 "Walk" ["self", "net", "house"] (spInit C) := by
  obtain ⟨f, fd, F, hm⟩ := W.init
  refine ⟨f, fd, W.g, hm, F.bindsN fun _ _ _ _ _ _ us hl => match us, hl with | [_, _, _], _ => rfl, F.ok sc_W___init__ (fun vs H Q E ⟨_, _, _, _, _, _, e, _⟩ => by rw [e]; rfl) fun cdv A outer s H vs Q E hr h => ?_⟩
  have G_houses_of := has_houses_of (P := P) (w := w) (base := base) T
  obtain ⟨p, dx, n, b, h, vn, rfl, hp, dn, hn, hb, k⟩ := h
  suffices hh : ∃ t, PSs (cxOf CX0 P w K mg base ["self", "net", "house", "name", "deal", "coins", "figures"] "Walk.__init__" (defScope sWInit) f cdv _ outer _ H E).nox (defBody sWInit) t ∧ t { nx := fun _ H' => Q .non H', rt := Q } (L2.start _ [.ref p, vn, .str h]) H from
    let ⟨t, a, b⟩ := hh; ⟨t, a.nox, b⟩
  refine ⟨_, (pss_cons (kps_fld K (pv 0) (pe_has G_houses_of hr (pa_cons (pv 1) pa_nil))) (pss_cons (kps_fld K (pv 0) (pe_lc (own := [("name", 3), ("deal", 4)]) (g := (gTup K 2 (gCons (gName 3) (gCons (gName 4) gNil)))) (tt := tYes) rfl sc_W___init__.nd (kpi_tup K (pv 1)) (by exact blkOk_by (by kernel_rfl)) (fun _ _ _ _ _ => (kpg_tup K (pgs_cons (pg_nm 3 sc_W___init__.nd) (pgs_cons (pg_nm 4 sc_W___init__.nd) pgs_nil)))) (fun _ _ _ _ _ => pts_nil) (fun _ _ _ _ _ => (pv 4)))) (pss_cons (kps_fld K (pv 0) (km_index K (kpe_fld K (pv 0)) (pa_cons (pv 2) pa_nil))) (pss_cons (kps_fld K (pv 0) (pe_lc (own := [("deal", 4)]) (g := (gName 4)) (tt := tYes) rfl sc_W___init__.nd (kpi_list K (kpe_fld K (pv 0))) (by exact blkOk_by (by kernel_rfl)) (fun _ _ _ _ _ => (pg_nm 4 sc_W___init__.nd)) (fun _ _ _ _ _ => pts_nil) (fun _ _ _ _ _ => (kb_sum T (pa_cons (pe_lc (own := [("coins", 5), ("figures", 6)]) (g := (gTup K 2 (gCons (gName 5) (gCons (gName 6) gNil)))) (tt := tYes) rfl sc_W___init__.nd (kpi_tup K (pe_slice (ksl_tup K) (pe_ix (kix_tup K) (pv 4) pe_int (fun _ _ => rfl)) po_none (po_some (pe_un un_neg pe_int)))) (by exact blkOk_by (by kernel_rfl)) (fun _ _ _ _ _ => (kpg_tup K (pgs_cons (pg_nm 5 sc_W___init__.nd) (pgs_cons (pg_nm 6 sc_W___init__.nd) pgs_nil)))) (fun _ _ _ _ _ => pts_nil) (fun _ _ _ _ _ => (pv 5))) pa_nil))))) (pss_one (kps_fld K (pv 0) (pe_op op_rep (pe_lst (pa_cons pe_int pa_nil)) (kb_len T (pa_cons (pv 1) pa_nil))))))))), ?_⟩
  have h4 := hn.hi
  have ok : EOk H (L2.start ["self", "net", "house", "name", "deal", "coins", "figures"] [.ref p, vn, .str h]) [none, some (netD n), some (.str h), none, none, none, none] := .non (.som dn (.som (.str _) (.non (.non (.non (.non .nil))))))
  refine fld_k (p := p) (C := C) (dx := dx) (fs := []) (F := fun H => H p = some (.ins C dx [])) (EvG.toK (eg_call (spF_g ⟨n, by omega, .inl rfl, rfl⟩) (ea_cons (eg_var rfl) ea_nil))) rfl hp ok (fun _ h => h) (fun H H' e h => e _ _ h) W.cl W.n_houses (by simp) fun v1 H1 e1 d1 i1 => ?_
  -- the second: deals
  have l1 := Lx.ins (o := .ins C dx (putF "houses" v1 [])) i1
  have ow1 : Ow p H (upd H1 p (.ins C dx (putF "houses" v1 []))) := (Ex.ow e1).trans Ow.put
  have ok1 := (ok.mono e1).lx l1
  have dv1 := Dt.lx l1 _ d1
  have p1 : upd H1 p (.ins C dx (putF "houses" v1 [])) p = some (.ins C dx [("houses", v1)]) := upd_same
  generalize upd H1 p (.ins C dx (putF "houses" v1 [])) = H1' at ow1 ok1 dv1 p1 ⊢
  refine fld_k (p := p) (C := C) (dx := dx) (fs := [("houses", v1)]) (F := fun H => H p = some (.ins C dx [("houses", v1)])) (EvG.toK (eg_lcM (K := K) (l := n) (q := houseD) (f := fun p => dealD p.2) (it_tup (eg_var rfl)) (by omega) fun p hp => ⟨_, gp2, by simp, eg_var rfl, td_deal _⟩)) rfl p1 ok1 (fun _ h => h) (fun H H' e h => e _ _ h) W.cl W.n_deals (by simp) fun v2 H2 e2 d2 i2 => ?_
  have l2 := Lx.ins (o := .ins C dx (putF "deals" v2 [("houses", v1)])) i2
  have ow2 : Ow p H (upd H2 p (.ins C dx (putF "deals" v2 [("houses", v1)]))) := (ow1.trans (Ex.ow e2)).trans Ow.put
  have ok2 := (ok1.mono e2).lx l2
  have dv1 := Dt.lx l2 _ (dv1.mono e2)
  have dv2 := Dt.lx l2 _ d2
  have p2 : upd H2 p (.ins C dx (putF "deals" v2 [("houses", v1)])) p = some (.ins C dx [("houses", v1), ("deals", v2)]) := upd_same
  generalize upd H2 p (.ins C dx (putF "deals" v2 [("houses", v1)])) = H2' at ow2 ok2 dv1 dv2 p2 ⊢
  -- begin
  let F2 : Hp → Prop := fun H => H p = some (.ins C dx [("houses", v1), ("deals", v2)]) ∧ Dt H v1 (housesL n)
  have F2x : ∀ H H', Ex H H' → F2 H → F2 H' := fun H H' e h => ⟨e _ _ h.1, h.2.mono e⟩
  have q3 : EvK 0 (.ref p) F2 (tBM K "list" (rIndex K) (tFld K (tVar 0) "houses") (tCons (tVar 2) tNil)) [none, some (netD n), some (.str h), none, none, none, none] (.int (b : Nat)) :=
    ek_bm F2x (mg_index hb (hn.first hb)) (ek_own (fun _ h => h.1) W.cl W.n_houses rfl fun _ h => h.2) (eak_cons F2x (EvG.toK (eg_var rfl)) eak_nil)
  refine fld_k q3 rfl ⟨p2, dv1⟩ ok2 (fun _ h => h.1) F2x W.cl W.n_begin (by simp) fun v3 H3 e3 d3 i3 => ?_
  cases d3
  have l3 := Lx.ins (o := .ins C dx (putF "begin" (.int (b : Nat)) [("houses", v1), ("deals", v2)])) i3.1
  have ow3 : Ow p H (upd H3 p (.ins C dx (putF "begin" (.int (b : Nat)) [("houses", v1), ("deals", v2)]))) := (ow2.trans (Ex.ow e3)).trans Ow.put
  have ok3 := (ok2.mono e3).lx l3
  have dv1 := Dt.lx l3 _ (dv1.mono e3)
  have dv2 := Dt.lx l3 _ (dv2.mono e3)
  have p3 : upd H3 p (.ins C dx (putF "begin" (.int (b : Nat)) [("houses", v1), ("deals", v2)])) p = some (.ins C dx [("houses", v1), ("deals", v2), ("begin", .int (b : Nat))]) := upd_same
  generalize upd H3 p (.ins C dx (putF "begin" (.int (b : Nat)) [("houses", v1), ("deals", v2)])) = H3' at ow3 ok3 dv1 dv2 p3 ⊢
  -- firsts
  let F3 : Hp → Prop := fun H => H p = some (.ins C dx [("houses", v1), ("deals", v2), ("begin", .int (b : Nat))]) ∧ Dt H v2 (dealsL n)
  have F3x : ∀ H H', Ex H H' → F3 H → F3 H' := fun H H' e h => ⟨e _ _ h.1, h.2.mono e⟩
  have dv2' : Dt H3' v2 (dealsL n) := by
    unfold dealsL deals
    rw [List.map_map]
    exact dv2
  have hinner : ∀ x, x ∈ deals n → EvG (tLc (iTup K (tSl (rSlA K) (tOp (rIxT K) (tVar 4) (tC (.int 1))) tNoPart (tPart (tUn (rU fun i => .int (-i)) (tC (.int 1)))))) (gTup K 2 (gCons (gName 5) (gCons (gName 6) gNil))) tYes (tVar 5) [5, 6]) (setsE (wipeE [none, some (netD n), some (.str h), none, none, none, none] [4]) [(4, dealD x)]) (.list ((x.init.map fun r => (r.1 : Int)).map .int)) := fun x hx => by
    have hx' : GoodDeal x := by obtain ⟨p, hp, rfl⟩ := List.mem_map.mp hx; exact hn.deal p hp
    have := hx'.few
    rw [List.map_map]
    exact eg_lcM (K := K) (q := fun r : Nat × Str => PyData.tuple [.int (r.1 : Nat), .str r.2]) (it_tup ((eg_slT (eg_op (rg_ixT (d := runsD x.runs) (atI_nat' (n := 1) rfl)) (eg_var rfl) eg_int) eo_none (eo_some (eg_un ug_neg eg_int))).is (by rw [cutP_init, x.runs_init]))) (by omega) fun r hr' => ⟨_, gp2, by simp, eg_var rfl, rfl⟩
  have hsum : ∀ x : Deal, (x.init.map fun r => (r.1 : Int)).sum = (x.first : Nat) := fun x => by
    unfold Deal.first
    induction x.init with
    | nil => rfl
    | cons a l ih => simp only [List.map_cons, List.sum_cons]; rw [ih]; simp
  refine fld_k (eg_lcKK (K := K) (k := 0) (v0 := .ref p) (F := F3) (Γ := [none, some (netD n), some (.str h), none, none, none, none]) (vs := [4]) (l := deals n) (q := dealD) (f := fun d => .int (d.first : Nat)) F3x (by decide) (itk_list (K := K) (ek_own (fun _ h => h.1) W.cl W.n_deals rfl fun _ h => h.2)) (by unfold deals; rw [List.length_map]; omega) fun x hx => ⟨_, gp_name, by simp, EvG.toK ((eg_cb (cg_sum (K := K) (ns := x.init.map fun r => (r.1 : Int))) (ea_cons (hinner x hx) ea_nil)).is (by rw [hsum])), rfl⟩) rfl ⟨p3, dv2'⟩ ok3 (fun _ h => h.1) F3x W.cl W.n_firsts (by simp) fun v4 H4 e4 d4 i4 => ?_
  have l4 := Lx.ins (o := .ins C dx (putF "firsts" v4 [("houses", v1), ("deals", v2), ("begin", .int (b : Nat))])) i4.1
  have ow4 : Ow p H (upd H4 p (.ins C dx (putF "firsts" v4 [("houses", v1), ("deals", v2), ("begin", .int (b : Nat))]))) := (ow3.trans (Ex.ow e4)).trans Ow.put
  have ok4 := (ok3.mono e4).lx l4
  have dv1 := Dt.lx l4 _ (dv1.mono e4)
  have dv2 := Dt.lx l4 _ (dv2'.mono e4)
  have dv4 := Dt.lx l4 _ d4
  have p4 : upd H4 p (.ins C dx (putF "firsts" v4 [("houses", v1), ("deals", v2), ("begin", .int (b : Nat))])) p = some (.ins C dx [("houses", v1), ("deals", v2), ("begin", .int (b : Nat)), ("firsts", v4)]) := upd_same
  generalize upd H4 p (.ins C dx (putF "firsts" v4 [("houses", v1), ("deals", v2), ("begin", .int (b : Nat))])) = H4' at ow4 ok4 dv1 dv2 dv4 p4 ⊢
  -- standing: the list is new
  refine ⟨by show 1 ≤ sizeLine; decide, fun q hq => ?_⟩
  have e5 := Ex.new (o := .lst [.int 0]) hq
  refine (eg_cb (cg_lenT (K := K)) (ea_cons (eg_var (i := 1) rfl) ea_nil) : EvG _ [none, some (netD n), some (.str h), none, none, none, none] _) _ _ (ok4.mono e5) _ fun v5 H6 e6 d6 => ?_
  cases d6
  rw [List.length_map]
  have e56 := e5.trans e6
  have p6 := e56 _ _ p4
  refine ⟨q, (n.length : Int), [.int 0], rfl, rfl, e6 _ _ upd_same, by omega, by omega, by rw [Int.toNat_natCast, sizeLine_eq]; simp; omega, fun r hr' => ?_⟩
  have e7 := e56.trans (Ex.new (o := .lst (List.replicate (n.length : Int).toNat [V.int 0]).flatten) hr')
  have p7 := e7 _ _ p4
  refine ⟨.ref p, rfl, p, C, dx, _, rfl, p7, W.cl, W.n_standing, by simp, ?_⟩
  cases hv1 : v1 with
  | ref ph =>
    cases hv2 : v2 with
    | ref pd =>
      cases hv4 : v4 with
      | ref pf =>
        subst hv1 hv2 hv4
        have l8 := Lx.ins (o := .ins C dx (putF "standing" (.ref r) [("houses", .ref ph), ("deals", .ref pd), ("begin", .int (b : Nat)), ("firsts", .ref pf)])) p7
        obtain ⟨_, g1, _⟩ := dv1.ref_lst
        obtain ⟨_, g2, _⟩ := dv2.ref_lst
        obtain ⟨_, g4, _⟩ := dv4.ref_lst
        have ne : ∀ {a : Addr} {o : HO}, H4' a = some o → a ≠ r := fun {a o} h z => by rw [z] at h; rw [e56 _ _ h] at hr'; cases hr'
        have npr : r ≠ p := (ne p4).symm
        have er : (List.replicate (n.length : Int).toNat [V.int 0]).flatten = (List.replicate n.length 0).map fun k => V.int (k : Nat) := by
          rw [Int.toNat_natCast, List.map_replicate]
          generalize n.length = m
          induction m with
          | zero => rfl
          | succ m ih => rw [List.replicate_succ, List.replicate_succ, List.flatten_cons, ih]; rfl
        refine k ⟨p, dx, ph, pd, pf, r⟩ _ rfl ⟨upd_same, Dt.lx l8 _ (dv1.mono e7), Dt.lx l8 _ (dv2.mono e7), ?_, ?_, ne g1, ne g2, ne g4⟩ (by
          cases z : H r with
          | none => rfl
          | some o =>
            have q := (ow4.trans (Ex.ow e56)) _ _ npr z
            rw [hr'] at q
            cases q) ((ow4.trans (Ex.ow e7)).trans Ow.put)
        · unfold natsL
          rw [List.map_map]
          exact Dt.lx l8 _ (dv4.mono e7)
        · show upd _ p _ r = _
          rw [upd_ne npr, upd_same, er]
      | _ => subst hv4; cases dv4
    | _ => subst hv2; cases dv2
  | _ => subst hv1; cases dv1
omit T W in
/-- Walk(net, house) -/
theorem make_k {Γ : En} {σ : L2.St} {H : Hp} {ta : TA} {E : XK} {Q : VK} {n : Net} {b : Nat} {h : Str} (ha : EaG ta Γ [netD n, .str h]) (ok : EOk H σ Γ) (hn : GoodNet n) (hb : (n.map (·.1))[b]? = some h)
    (k : ∀ A H', Ex H H' → Wk C A n b (List.replicate n.length 0) H' → H A.ls = none → Q (.ref A.w) H') : tMake C (spInit C) [] E ta σ H Q := ha σ H ok _ fun vs H1 e1 r1 x dx hx hdx hne => by
  rw [List.append_nil]
  cases r1 with | cons d1 t => cases t with | cons d2 t =>
    cases t
    cases d2
    have e2 : Ex H1 (upd (upd H1 dx (.own x)) x (.ins C dx [])) := (Ex.new hdx).trans (Ex.new (by rw [upd_ne hne.symm]; exact hx))
    refine ⟨x, dx, n, b, h, _, rfl, upd_same, d1.mono e2, hn, hb, fun A H' hA W1 hl ow => ⟨rfl, ?_⟩⟩
    subst hA
    refine k A H' (fun a o z => ?_) W1 ?_
    · have z1 := e1 _ _ z
      have z2 := e2 _ _ z1
      exact ow _ _ (fun y => by rw [y, hx] at z1; cases z1) z2
    · cases z : H A.ls with
      | none => rfl
      | some o =>
        rw [(e1.trans e2) _ _ z] at hl
        cases hl
omit T W in
theorem make_a {Γ : En} {σ : L2.St} {H : Hp} {D : Ends} {rest : TS} {i : Nat} {ta : TA} {E : XK} {n : Net} {b : Nat} {h : Str} (ha : EaG ta Γ [netD n, .str h]) (ok : EOk H σ Γ) (hn : GoodNet n) (hb : (n.map (·.1))[b]? = some h)
    (k : ∀ A H', Ex H H' → Wk C A n b (List.replicate n.length 0) H' → H A.ls = none → rest D (σ.set i (some (.ref A.w))) H') : tSeq (tAsg (tMake C (spInit C) [] E ta) (gName i)) rest D σ H :=
  make_k (Q := fun v H' => rest D (σ.set i (some v)) H') ha ok hn hb k
end
end Stair
/-! ## StW4 -/
set_option Elab.async false
set_option linter.all false
set_option maxRecDepth 100000
set_option maxHeartbeats 1000000
namespace Stair
open PySem PySem.Spec PyProof.Rows L2 Evl
/-- the walk of a house: its standings, the names that its coins come to -/
structure Goes (n : Net) (h : Str) (sts : Nat → List Nat) (nm : Nat → Str) (N : Nat) : Prop where
  zero : sts 0 = List.replicate n.length 0
  go : ∀ i, i < N → ∃ m, PaidTo n m h (sts i) (nm i) (sts (i + 1))
theorem Ow.ex {p : Addr} {H0 H1 H2 : Hp} (e : Ex H0 H1) (o : Ow p H1 H2) (h : H0 p = none) : Ex H0 H2 := fun a u z => o a u (fun y => by rw [y, h] at z; cases z) (e a u z)
theorem drop_g {Γ : En} {σ : L2.St} {H : Hp} {D : Ends} {te : TE} {rest : TS} {d : PD} (h : EvG te Γ d) (ok : EOk H σ Γ) (hq : ∀ H1, Ex H H1 → rest D σ H1) : tSeq (tDrop te) rest D σ H := h σ H ok _ fun v H1 e _ => hq H1 e
theorem ifF_g {Γ : En} {σ : L2.St} {H : Hp} {D : Ends} {c : TT} {t rest : TS} (h : EtG c Γ false) (ok : EOk H σ Γ) (hq : ∀ H1, Ex H H1 → rest D σ H1) : tSeq (tIfS c t tNext) rest D σ H := h σ H ok _ fun H1 e => ifF (hq H1 e)
theorem lc_walk {C : Addr} {A : WA} {n : Net} {b : Nat} {h : Str} {sts : Nat → List Nat} {nm : Nat → Str} {N : Nat} {E : XK} {σ : L2.St} {H : Hp} {Q : VK} {ta : TA} {Γ : En}
    (hn : GoodNet n) (hb : (n.map (·.1))[b]? = some h) (hg : Goes n h sts nm N) (hN : N ≤ 1000) (ok : EOk H σ Γ) (ha : EaG ta Γ [.int (N : Nat)]) (hσ : σ[3]? = some (some (.ref A.w))) (hW : Wk C A n b (sts 0) H)
    (k : ∀ v H', Ow A.ls H H' → Tx H H' → Wk C A n b (sts N) H' → Dt H' v (.list (((List.range N).map nm).map .str)) → Q v H') :
    tLc (iRng1 ta) (gName 4) tYes (tMeth C "paid_one" (spPaid C) [] E (tVar 3) tNil) [4] σ H Q := ha σ H ok _ fun vs H1 e1 r1 => by
  cases r1 with | cons d t =>
    cases t
    cases d
    refine ⟨(N : Nat), rfl, by omega, by omega, fun D hD => ?_⟩
    rw [Int.toNat_natCast]
    have W1 := Wk.ex _ _ e1 hW
    have off := W1.off hD
    have e2 := e1.trans (Ex.new (o := .lst []) hD)
    refine lc_it (walk_range (lo := 0) (n := N)) (Pv := fun i H2 => Ow A.ls H H2 ∧ Tx H H2 ∧ Wk C A n b (sts i) H2 ∧ H2 D = some (.lst (((List.range i).map nm).map V.str))) ⟨Ex.ow e2, Ex.tx e2, Wk.ex _ _ (Ex.new hD) W1, upd_same⟩ (fun _ _ _ _ => trivial) ?_ ?_
    · rintro i x H2 H3 hi ⟨o2, t2, W2, hd⟩ ⟨rfl, rfl⟩
      refine ⟨?_, ?_⟩
      · show wipe ((wipe σ [4]).set 4 _) [4] = wipe σ [4]
        rw [wipe_set (by simp), wipe_two]
      · have hs : ((wipe σ [4]).set 4 (some (V.int (0 + (i : Nat))) : Option V))[3]? = some (some (.ref A.w)) := by
          rw [List.getElem?_set_ne (by decide), L2.wipe_out (by decide)]
          exact hσ
        obtain ⟨m, hp⟩ := hg.go i hi
        unfold tYes
        refine (if_pos rfl).mpr ?_
        refine ⟨.ref A.w, hs, A.w, A.dx, _, rfl, W2.ob, rfl, A, n, b, m, sts i, sts (i + 1), h, nm i, rfl, W2, hn, hb, hp, fun H4 W4 o4 t4 => ?_⟩
        have hd4 : H4 D = some (.lst (((List.range i).map nm).map V.str)) := o4 _ _ (off.ls.symm) hd
        have tx : Tx H4 (upd H4 D (.lst ((((List.range i).map nm).map V.str) ++ [.str (nm i)]))) := tx_upd fun zs z => by rw [hd4] at z; cases z
        refine ⟨_, hd4, by rw [List.length_map, List.length_map, List.length_range, sizeLine_eq]; omega, ?_, (t2.trans t4).trans tx, W4.ow off Ow.put tx, ?_⟩
        · intro a o hne z
          rw [upd_ne (fun y => by rw [y, (show H D = none from by
            cases q : H D with
            | none => rfl
            | some o => rw [e1 _ _ q] at hD; cases hD)] at z; cases z)]
          exact o4 _ _ hne (o2 _ _ hne z)
        · rw [upd_same, List.range_succ, List.map_append, List.map_append]
          rfl
    · rintro H2 ⟨o2, t2, W2, hd⟩
      refine k _ H2 o2 t2 W2 (.lst hd (dts_strs _))
section
variable {P : Program} {w : World} {K : Kx} {mg : Str → Option Value} {base : Heap} {C : Addr} (T : Tp K mg) (W : Tw K mg C)
include T W
/-! melted_part -/
def R_melted_part (ds : List PD) (d : PD) : Prop := ∃ (n : Net) (b : Nat) (h : Str) (sts : Nat → List Nat) (nm : Nat → Str) (N : Nat), GoodNet n ∧ Opens n ∧ (n.map (·.1))[b]? = some h ∧ N ≤ 1000 ∧ Goes n h sts nm N ∧ ds = [netD n, .str h, .int (N : Nat)] ∧ d = namesD ((List.range N).map nm)
theorem has_melted_part : Has P w K mg base CX0 8 "melted_part" ["net", "house", "size"] (spF R_melted_part) := by
  refine has_of T.dMeltedPart sc_melted_part (fun _ _ _ _ _ _ us hl => match us, hl with | [_, _, _], _ => rfl) (fun vs H Q E ⟨ds, d, a, ⟨_, _, _, _, _, _, _, _, _, _, _, e, _⟩, _⟩ => by rw [a.length, e]; rfl) fun f cdv A outer s H vs Q E hr h => ?_
  obtain ⟨ds, d, hv, ⟨n, b, h, sts, nm, N, hn, ho, hb, hN, hg, rfl, rfl⟩, k⟩ := h
  have G_need_house := has_need_house (P := P) (w := w) (base := base) T
  have G_is_whole := has_is_whole (P := P) (w := w) (base := base) T
  have G_Walk := has_init (P := P) (w := w) (base := base) T W
  have G_paid_one := has_paid_one (P := P) (w := w) (base := base) T W
  refine ⟨_, (pss_cons (ps_expr (pe_has G_need_house hr (pa_cons (pv 0) (pa_cons (pv 1) pa_nil)))) (pss_cons (ps_if (pt_not (pt_val (pe_has G_is_whole hr (pa_cons (pv 2) (pa_cons pe_int (pa_cons (pe_cI T.c_MOST_ROW) pa_nil)))))) (pss_one ps_never) pss_nil) (pss_cons (ps_st 3 sc_melted_part.nd (kpe_make G_Walk hr (pa_cons (pv 0) (pa_cons (pv 1) pa_nil)))) (pss_one (ps_ret (kb_tuple T (pa_cons (pe_lc (own := [("coin", 4)]) (g := (gName 4)) (tt := tYes) rfl sc_melted_part.nd (pi_range1 rfl T.f_range (pa_cons (pv 2) pa_nil)) (by exact blkOk_by (by kernel_rfl)) (fun _ _ _ _ _ => (pg_nm 4 sc_melted_part.nd)) (fun _ _ _ _ _ => pts_nil) (fun _ _ _ _ _ => (kpe_meth0 G_paid_one hr (pv 3)))) pa_nil))))))), ?_⟩
  have ok0 := EOk.start (N := ["net", "house", "size", "walk", "coin"]) hv
  have ok : EOk H (L2.start ["net", "house", "size", "walk", "coin"] vs) [some (netD n), some (.str h), some (.int (N : Nat)), none, none] := by rw [hv.length] at ok0; exact ok0
  have hsh : ∃ x y z, vs = [x, y, z] := by cases hv with | cons a t => cases t with | cons b t => cases t with | cons c t => cases t; exact ⟨_, _, _, rfl⟩
  obtain ⟨x, y, z, rfl⟩ := hsh
  refine drop_g (eg_call (spF_g ⟨n, h, hn, ho, List.mem_of_getElem? hb, rfl, rfl⟩) (ea_cons (eg_var rfl) (ea_cons (eg_var rfl) ea_nil))) ok fun H1 e1 => ?_
  have ok1 := ok.mono e1
  have hw : EtG (tNot (tB (tCall (spF R_is_whole) [] (fun _ _ _ => False) (tCons (tVar 2) (tCons (tC (.int 0)) (tCons (tC (.int 1000)) tNil)))))) [some (netD n), some (.str h), some (.int (N : Nat)), none, none] false :=
    (et_not (et_B (eg_call (spF_g ⟨(N : Nat), 0, 1000, rfl, rfl⟩) (ea_cons (eg_var rfl) (ea_cons eg_int (ea_cons eg_int ea_nil)))))).is (by rw [decide_eq_true (by omega : (0 : Int) ≤ (N : Nat)), decide_eq_true (by omega : ((N : Nat) : Int) ≤ 1000)]; rfl)
  refine ifF_g hw ok1 fun H2 e2 => ?_
  have ok2 := ok1.mono e2
  refine make_a (ea_cons (eg_var rfl) (ea_cons (eg_var rfl) ea_nil)) ok2 hn hb fun A H3 e3 W3 hls => ?_
  have ok3 : EOk H3 (List.set (L2.start ["net", "house", "size", "walk", "coin"] [x, y, z]) 3 (some (.ref A.w))) [some (netD n), some (.str h), some (.int (N : Nat)), none, none] := by
    have q := ok2.mono e3
    cases q with | som a q => cases q with | som b q => cases q with | som c q => exact .som a (.som b (.som c (.non (.non .nil))))
  refine lc_walk (Q := fun v H' => rTupleA K [v] H' Q) hn hb hg hN ok3 (ea_cons (eg_var rfl) ea_nil) rfl (by rw [hg.zero]; exact W3) fun v H4 o4 t4 W4 d4 => ?_
  refine cg_tupleL [v] H4 (.cons d4 .nil) _ fun u H5 e5 d5 => ?_
  exact k u H5 ((Ow.ex ((e1.trans e2).trans e3) o4 (by
    cases q : H A.ls with
    | none => rfl
    | some o => rw [(e1.trans e2) _ _ q] at hls; cases hls)).trans e5) d5
end
end Stair
/-! ## StW5 -/
set_option Elab.async false
set_option linter.all false
set_option maxRecDepth 100000
set_option maxHeartbeats 1000000
namespace Stair
open PySem PySem.Spec PyProof.Rows L2 Evl
theorem PS.nox {X : Cx} {st : Stmt} {t : TS} (h : PS X.nox st t) : PS X st t := ⟨fun pins s σ H D I hw =>
  wpAny_mono (h.run pins s σ H D (I.wish _) hw) (fun _ _ q => q.unwish) fun _ _ z => False.elim z⟩
/-- a def that hands out data, or lets TooGreat (its class at Ce) out with a number -/
def spR (Ce : Addr) (R : List PD → PD → Prop) (RE : List PD → Int → Prop) : Sp := fun vs H Q E => ∃ ds, Dts H vs ds ∧
  ((∃ f, R ds f ∧ ∀ v H', Ex H H' → Dt H' v f → Q v H') ∨ ∃ k, RE ds k ∧ ∀ H' d, Ex H H' → H' d = none → E (.ref Ce) (some d) (upd H' d (.xd [(("most" : Str), .int k)])))
theorem spR_g {Ce : Addr} {R : List PD → PD → Prop} {RE : List PD → Int → Prop} {ds : List PD} {f : PD} (h : R ds f) : SpG (spR Ce R RE) ds f := fun vs H Q _ a k => ⟨ds, a, .inl ⟨f, h, k⟩⟩
/-- the fate: after N coins the standing of coin b comes again -/
structure Fate (n : Net) (h : Str) (sts : Nat → List Nat) (nm : Nat → Str) (b N : Nat) : Prop where
  goes : Goes n h sts nm N
  lt : b < N
  hi : N ≤ 2000
  dist : ∀ j k, j < k → k < N → sts j ≠ sts k
  back : sts N = sts b
structure NoFate (n : Net) (h : Str) (sts : Nat → List Nat) (nm : Nat → Str) : Prop where
  goes : Goes n h sts nm 2001
  dist : ∀ j k, j < k → k < 2001 → sts j ≠ sts k
def fateD (b : Nat) (row : List Str) : PD := .tuple [.int (b : Nat), .list (row.map .str)]
def R_fate_in (ds : List PD) (d : PD) : Prop := ∃ (n : Net) (c : Nat) (h : Str) (sts : Nat → List Nat) (nm : Nat → Str) (b N : Nat), GoodNet n ∧ (n.map (·.1))[c]? = some h ∧ Fate n h sts nm b N ∧ ds = [netD n, .str h] ∧ d = fateD b ((List.range N).map nm)
def RE_fate_in (ds : List PD) (k : Int) : Prop := k = 2000 ∧ ∃ (n : Net) (c : Nat) (h : Str) (sts : Nat → List Nat) (nm : Nat → Str), GoodNet n ∧ (n.map (·.1))[c]? = some h ∧ NoFate n h sts nm ∧ ds = [netD n, .str h]
theorem make_p3 {C : Addr} {Γ : En} {σ : L2.St} {H : Hp} {D : Ends} {rest : TS} {i j l : Nat} {ta tr : TA} {E : XK} {n : Net} {b : Nat} {h : Str} (ha : EaG ta Γ [netD n, .str h]) (ok : EOk H σ Γ) (hn : GoodNet n) (hb : (n.map (·.1))[b]? = some h)
    (k : ∀ A H', Ex H H' → Wk C A n b (List.replicate n.length 0) H' → H A.ls = none → tr σ H' fun xs H2 => ∃ u v w', V.ref A.w :: xs = [u, v, w'] ∧ rest D (((σ.set i (some u)).set j (some v)).set l (some w')) H2) : tSeq (tPar3 i j l (tCons (tMake C (spInit C) [] E ta) tr)) rest D σ H :=
  make_k (Q := fun x H' => tr σ H' fun xs H2 => ∃ u v w', x :: xs = [u, v, w'] ∧ rest D (((σ.set i (some u)).set j (some v)).set l (some w')) H2) ha ok hn hb k
/-! ### the standings that are known -/
def keyOf (st : List Nat) : List Key := st.map fun k => .inl (k : Nat)
theorem keyOf_inj {a b : List Nat} (h : keyOf a = keyOf b) : a = b := by
  unfold keyOf at h
  exact (List.map_inj_right (fun x y (e : (Sum.inl ((x : Nat) : Int) : Key) = .inl ((y : Nat) : Int)) => by
    have := Sum.inl.inj e
    omega)).mp h
theorem keyOf_kV (st : List Nat) : (keyOf st).map kV = st.map fun k => V.int (k : Nat) := by
  unfold keyOf
  rw [List.map_map]
  rfl
structure Known (sts : Nat → List Nat) (i : Nat) (kvs : List (List Key × V)) : Prop where
  len : kvs.length ≤ i
  yes : ∀ j, j < i → valV kvs (keyOf (sts j)) = some (.int (j : Nat))
  no : ∀ st, (∀ j, j < i → sts j ≠ st) → valV kvs (keyOf st) = none
theorem putK_leT {κ : Type} [DecidableEq κ] (c : List (κ × V)) (k : κ) (x : V) : (putK c k x).length ≤ c.length + 1 := putK_le c k x
theorem Known.put {sts : Nat → List Nat} {i : Nat} {kvs : List (List Key × V)} (h : Known sts i kvs) (hd : ∀ j, j < i → sts j ≠ sts i) : Known sts (i + 1) (putK kvs (keyOf (sts i)) (.int (i : Nat))) := by
  refine ⟨Nat.le_trans (putK_le _ _ _) (Nat.succ_le_succ h.len), fun j hj => ?_, fun st hst => ?_⟩
  · rw [valV_put]
    rcases Nat.lt_succ_iff_lt_or_eq.mp hj with hj | rfl
    · rw [if_neg (fun z => hd j hj (keyOf_inj z)), h.yes j hj]
    · rw [if_pos rfl]
  · rw [valV_put, if_neg (fun z => hst i (Nat.lt_succ_self i) (keyOf_inj z).symm), h.no st fun j hj => hst j (Nat.lt_succ_of_lt hj)]
section
variable {P : Program} {w : World} {K : Kx} {mg : Str → Option Value} {base : Heap} {C Ce fe : Addr} (T : Tp K mg) (W : Tw K mg C) (Te : PySem.TgX.TgTxt P K mg Ce fe)
include T W Te
theorem has_fate_in : Has P w K mg base (L2.CX P w) 5 "fate_in" ["net", "house"] (spR Ce R_fate_in RE_fate_in) := by
  obtain ⟨f, fd, F, g⟩ := T.dFateIn
  refine ⟨f, fd, g, F.kp, F.bindsN (fun _ _ _ _ _ _ us hl => match us, hl with | [_, _], _ => rfl), F.ok sc_fate_in (fun vs H Q E ⟨ds, a, h⟩ => ?_) fun cdv A outer s H vs Q E hr h => ?_⟩
  · rcases h with ⟨f, ⟨_, _, _, _, _, _, _, _, _, _, e, _⟩, _⟩ | ⟨k, ⟨_, _, _, _, _, _, _, _, _, e⟩, _⟩ <;> rw [a.length, e] <;> rfl
  have G_Walk := has_init (P := P) (w := w) (base := base) T W
  have G_paid_one := has_paid_one (P := P) (w := w) (base := base) T W
  have hu := hu_1 (X := (cxOf (L2.CX P w) P w K mg base ["net", "house", "walk", "found", "known", "here"] "fate_in" (defScope sFateIn) f cdv A outer s H E)) hr
  refine ⟨_, (pss_cons (ps_par3A 2 3 4 sc_fate_in.nd (pa_cons (kpe_make G_Walk hr (pa_cons (pv 0) (pa_cons (pv 1) pa_nil))) (pa_cons (pe_lst pa_nil) (pa_cons pe_dnewT pa_nil)))) (pss_cons (PS.nox (ps_while PassesOwn.never (pt_cmpR op_le (kb_len T (pa_cons (pv 3) pa_nil)) (pe_cI T.c_MOST_STANDINGS) (nomark _)) (pss_cons (ps_st 5 sc_fate_in.nd (kb_tuple T (pa_cons (kpe_fld K (pv 2)) pa_nil))) (pss_cons (ps_if (pt_cmp (pc_din hu (pv 5) (pv 4))) (pss_one (ps_ret (pe_tup (pa_cons (pe_dget hu (pv 4) (pv 5) (fun _ _ => rfl)) (pa_cons (pv 3) pa_nil))))) pss_nil) (pss_cons (ps_dput hu (pv 4) (pv 5) (kb_len T (pa_cons (pv 3) pa_nil)) rfl) (pss_one (ps_expr (km_append K (pv 3) (pa_cons (kpe_meth0 G_paid_one hr (pv 2)) pa_nil)))))))))
    (pss_one (ps_raiseTg rfl Te hr (takes_of rfl rfl rfl rfl) (pa_cons (pe_cI T.c_MOST_STANDINGS) pa_nil))))), ?_⟩
  obtain ⟨ds, a, h⟩ := h
  have hh : ∃ (n : Net) (c : Nat) (h : Str) (sts : Nat → List Nat) (nm : Nat → Str) (N : Nat), GoodNet n ∧ (n.map (·.1))[c]? = some h ∧ Goes n h sts nm N ∧ (∀ j k, j < k → k < N → sts j ≠ sts k) ∧ ds = [netD n, .str h] ∧
      ((∃ b, b < N ∧ N ≤ 2000 ∧ sts N = sts b ∧ ∀ v H', Ex H H' → Dt H' v (fateD b ((List.range N).map nm)) → Q v H') ∨
       (N = 2001 ∧ ∀ H' d, Ex H H' → H' d = none → E (.ref Ce) (some d) (upd H' d (.xd [(("most" : Str), .int 2000)])))) := by
    rcases h with ⟨f, ⟨n, c, h, sts, nm, b, N, hn, hb, hf, e, rfl⟩, k⟩ | ⟨_, ⟨rfl, n, c, h, sts, nm, hn, hb, hf, e⟩, k⟩
    · exact ⟨n, c, h, sts, nm, N, hn, hb, hf.goes, hf.dist, e, .inl ⟨b, hf.lt, hf.hi, hf.back, k⟩⟩
    · exact ⟨n, c, h, sts, nm, 2001, hn, hb, hf.goes, hf.dist, e, .inr ⟨rfl, k⟩⟩
  clear h
  obtain ⟨n, c, h, sts, nm, N, hn, hb, hg, hdist, rfl, fin⟩ := hh
  have hN : N ≤ 2001 := by rcases fin with ⟨b, h1, h2, _⟩ | ⟨h1, _⟩ <;> omega
  have ok : EOk H (L2.start ["net", "house", "walk", "found", "known", "here"] vs) [some (netD n), some (.str h), none, none, none, none] := by
    have ok0 := EOk.start (N := ["net", "house", "walk", "found", "known", "here"]) a
    rw [a.length] at ok0
    exact ok0
  have hsh : ∃ x y, vs = [x, y] := by cases a with | cons a t => cases t with | cons b t => cases t; exact ⟨_, _, rfl⟩
  obtain ⟨x, y, rfl⟩ := hsh
  refine make_p3 (ea_cons (eg_var rfl) (ea_cons (eg_var rfl) ea_nil)) ok hn hb fun A H1 e1 W1 hls => ?_
  refine ⟨Nat.zero_le _, fun p hp q hq => ⟨_, _, _, rfl, ?_⟩⟩
  have offp := W1.off hp
  have W1' := Wk.ex _ _ (Ex.new (o := .lst []) hp) W1
  have offq := W1'.off hq
  have hpq : p ≠ q := fun z => by rw [z, upd_same] at hq; cases hq
  have hq1 : H1 q = none := by rw [upd_ne hpq.symm] at hq; exact hq
  have hpH : H p = none := by
    cases z : H p with
    | none => rfl
    | some o => rw [e1 _ _ z] at hp; cases hp
  have hqH : H q = none := by
    cases z : H q with
    | none => rfl
    | some o => rw [e1 _ _ z] at hq1; cases hq1
  refine ⟨fun m σ H2 => ∃ (i : Nat) (o5 : Option V) (kvs : List (List Key × V)), m + i = N ∧ σ = [some x, some y, some (.ref A.w), some (.ref p), some (.ref q), o5] ∧ Wk C A n c (sts i) H2 ∧ H2 p = some (.lst (((List.range i).map nm).map V.str)) ∧ H2 q = some (.dT kvs) ∧ Known sts i kvs ∧ Ex H H2,
    ⟨N, 0, none, [], by omega, rfl, ?_, by rw [upd_ne hpq, upd_same]; rfl, upd_same, ⟨Nat.zero_le _, fun j hj => absurd hj (Nat.not_lt_zero _), fun _ _ => rfl⟩, (e1.trans (Ex.new hp)).trans (Ex.new hq)⟩, ?_⟩
  · rw [hg.zero]
    exact Wk.ex _ _ (Ex.new hq) W1'
  rintro m σ H2 ⟨i, o5, kvs, hm, rfl, W2, hp2, hq2, kn, e2⟩
  have hl : (((List.range i).map nm).map V.str).length = i := by rw [List.length_map, List.length_map, List.length_range]
  refine ⟨.ref p, rfl, .ref p, i, rfl, .inl ⟨_, sq_of hp2, hl.symm⟩, (i : Int), 2000, rfl, rfl, _, rfl, ?_⟩
  by_cases hi : i ≤ 2000
  · rw [decide_eq_true (by omega : (i : Int) ≤ 2000)]
    refine (if_pos rfl).mpr ?_
    -- here
    refine ⟨fun σ H4 => ∃ (o5 : Option V) (kvs : List (List Key × V)), i < N ∧ σ = [some x, some y, some (.ref A.w), some (.ref p), some (.ref q), o5] ∧ Wk C A n c (sts (i + 1)) H4 ∧ H4 p = some (.lst (((List.range (i + 1)).map nm).map V.str)) ∧ H4 q = some (.dT kvs) ∧ Known sts (i + 1) kvs ∧ Ex H H4,
      fun σ H4 ⟨o5, kvs, hi, e⟩ => ⟨m - 1, by omega, i + 1, o5, kvs, by omega, e⟩, ?_⟩
    refine ⟨.ref A.w, rfl, A.w, C, A.dx, _, _, rfl, W2.ob, W.cl, W.n_standing, rfl, A.ls, _, rfl, .inl ⟨sq_of W2.s, fun r hr2 => ?_⟩⟩
    have e3 := Ex.new (o := .tup ((sts i).map fun k => V.int (k : Nat))) hr2
    have W3 := Wk.ex _ _ e3 W2
    have hp3 := e3 _ _ hp2
    have hq3 := e3 _ _ hq2
    have hr3 : upd H2 r (.tup ((sts i).map fun k => V.int (k : Nat))) r = some (.tup ((keyOf (sts i)).map kV)) := by rw [upd_same, keyOf_kV]
    have e03 := e2.trans e3
    generalize upd H2 r (.tup ((sts i).map fun k => V.int (k : Nat))) = H3 at e3 W3 hp3 hq3 hr3 e03 ⊢
    refine ⟨.ref r, rfl, .ref q, rfl, q, _, rfl, DGet.t hq3 hr3, _, rfl, ?_⟩
    by_cases hiN : i = N
    · subst hiN
      rcases fin with ⟨b, h1, h2, h3, k⟩ | ⟨h1, _⟩
      · have hv := kn.yes b h1
        rw [← h3] at hv
        rw [hv]
        refine ifT ?_
        refine ⟨.ref q, rfl, .ref r, rfl, q, _, rfl, hv ▸ DGet.t hq3 hr3, .ref p, rfl, by show 2 ≤ sizeLine; decide, fun t ht => ?_⟩
        exact k _ _ (e03.trans (Ex.new ht)) (.tup upd_same (.cons (.int _) (.cons (.lst (Ex.new ht _ _ hp3) (dts_strs _)) .nil)))
      · omega
    · have hlt : i < N := by omega
      have hv := kn.no (sts i) fun j hj => hdist j i hj hlt
      rw [hv]
      refine ifF ?_
      have hlk := kn.len
      refine ⟨.ref p, rfl, .ref p, i, rfl, .inl ⟨_, sq_of hp3, hl.symm⟩, .ref q, rfl, .ref r, rfl, q, _, rfl, DPut.t hq3 hr3 (by rw [sizeLine_eq]; omega), ?_⟩
      have tx4 : Tx H3 (upd H3 q (.dT (putK kvs (keyOf (sts i)) (.int (i : Nat))))) := tx_upd fun zs z => by rw [hq3] at z; cases z
      have W4 := W3.ow offq (Ow.put (o := .dT (putK kvs (keyOf (sts i)) (.int (i : Nat))))) tx4
      have hp4 : upd H3 q (.dT (putK kvs (keyOf (sts i)) (.int (i : Nat)))) p = some (.lst (((List.range i).map nm).map V.str)) := by rw [upd_ne hpq]; exact hp3
      have hq4 : upd H3 q (.dT (putK kvs (keyOf (sts i)) (.int (i : Nat)))) q = some (.dT (putK kvs (keyOf (sts i)) (.int (i : Nat)))) := upd_same
      have e4 : Ex H (upd H3 q (.dT (putK kvs (keyOf (sts i)) (.int (i : Nat))))) := e03.mut hqH
      generalize upd H3 q (.dT (putK kvs (keyOf (sts i)) (.int (i : Nat)))) = H4 at tx4 W4 hp4 hq4 e4 ⊢
      obtain ⟨mm, hpd⟩ := hg.go i hlt
      refine ⟨.ref p, rfl, .inl ⟨rfl, _, sq_of hp4⟩, .ref A.w, rfl, A.w, A.dx, _, rfl, W4.ob, rfl, A, n, c, mm, sts i, sts (i + 1), h, nm i, rfl, W4, hn, hb, hpd, fun H5 W5 o5' t5 => ?_⟩
      have hp5 := o5' _ _ offp.ls.symm hp4
      have hq5 := o5' _ _ offq.ls.symm hq4
      have tx6 : Tx H5 (upd H5 p (.lst ((((List.range i).map nm).map V.str) ++ [.str (nm i)]))) := tx_upd fun zs z => by rw [hp5] at z; cases z
      refine ⟨p, _, .str (nm i), rfl, rfl, hp5, by rw [hl, sizeLine_eq]; omega, _, _, hlt, rfl, W5.ow offp Ow.put tx6, ?_, by rw [upd_ne hpq.symm]; exact hq5, kn.put fun j hj => hdist j i hj hlt, (Ow.ex e4 o5' hls).mut hpH⟩
      rw [upd_same, List.range_succ, List.map_append, List.map_append]
      rfl
  · rw [decide_eq_false (by omega : ¬ (i : Int) ≤ 2000)]
    refine ifF ?_
    rcases fin with ⟨b, h1, h2, _⟩ | ⟨h1, k⟩
    · omega
    · exact ⟨.int 2000, rfl, fun d hd => k H2 d e2 hd⟩
end
end Stair
/-! ## StW6 -/
set_option Elab.async false
set_option linter.all false
set_option maxRecDepth 100000
set_option maxHeartbeats 1000000
namespace Stair
open PySem PySem.Spec PyProof.Rows L2 Evl
section
variable {P : Program} {w : World} {K : Kx} {mg : Str → Option Value} {base : Heap} {k : Nat} {x : Str} {ps N : List Str} {sp : Sp} {st : Stmt}
theorem has_ofX (D : ∃ f fd, FnP K x st f fd ∧ mg x = some (.ref f)) (S : FnScope N ps (defScope st)) (hb : ∀ (kV doc pm : Value) (an : Option Addr) (cdv ct : Value) (us : List Value), us.length = ps.length → bindArgs (PySem.W.fnOf x x (defArgs st) (defBody st) (defScope st) .none kV doc pm an cdv ct) ⟨us, []⟩ = pure (ps.zip us))
    (len : ∀ vs H Q E, sp vs H Q E → vs.length = ps.length)
    (hbody : ∀ (f : Addr) (cdv : Value) (A : Around) (outer : List Env) (s : Shared) (H : Hp) (vs : List V) (Q : VK) (E : XK), Room k (A.deeper (envOfC x (defScope st) s.heap.objs.size f cdv)) → sp vs H Q E →
      ∃ t, PSs (cxOf (L2.CX P w) P w K mg base N x (defScope st) f cdv A outer s H E) (defBody st) t ∧ t { nx := fun _ H' => Q .non H', rt := Q } (L2.start N vs) H) : Has P w K mg base (L2.CX P w) (k + 1) x ps sp := by
  obtain ⟨f, fd, F, g⟩ := D
  exact ⟨f, fd, g, F.kp, F.bindsN hb, F.ok S len fun cdv A outer s H vs Q E hr h => hbody f cdv A outer s H vs Q E hr h⟩
end
section
variable {X : Cx} {j k : Nat} {x : Str} {ps : List Str} {sp : Sp} {e : Expr} {es : List Expr} {ta : TA} {p pos : Pos} {W : WX}
/-- a call that may let out, in a def that lets it out -/
theorem pe_hasX (h : Has X.prog X.w X.K X.mg X.base (L2.CX X.prog X.w) j x ps sp) (hr : Room k X.A) (tk : Takes X W) (ha : PA X (e :: es) ta) (hj : j ≤ k := by decide) (hg : Gl X x := by rfl) (hdb : (x == ("__debug__" : Str)) = false := by decide)
    (he : starEach (e :: es) X.env = (false, eval e X.env) :: starEach es X.env := by rfl) (hpl : (backTo pos (starEach es X.env)).any (·.1) = false := by rfl) : PE X (.Call (.Name x p) (e :: es) [] pos) (tCallS sp (WE W) ta) := by
  obtain ⟨f, fd, g, kp, b, F⟩ := h
  exact pe_callS F (hr.mono hj) hg g kp b (fun σ => passAt tk σ) ha hdb he hpl
/-- .. where nothing is let out -/
theorem pe_hasY (h : Has X.prog X.w X.K X.mg X.base (L2.CX X.prog X.w) j x ps sp) (hr : Room k X.A) (ha : PA X (e :: es) ta) (hj : j ≤ k := by decide) (hg : Gl X x := by rfl) (hdb : (x == ("__debug__" : Str)) = false := by decide)
    (he : starEach (e :: es) X.env = (false, eval e X.env) :: starEach es X.env := by rfl) (hpl : (backTo pos (starEach es X.env)).any (·.1) = false := by rfl) : PE X (.Call (.Name x p) (e :: es) [] pos) (tCall sp [] E0 ta) := by
  obtain ⟨f, fd, g, kp, b, F⟩ := h
  exact pe_call F (hr.mono hj) hg g kp b .nil passL ha hdb he hpl
end
theorem asgX_g {Γ : En} {σ : L2.St} {H : Hp} {D : Ends} {sp : Sp} {E : L2.St → XK} {ta : TA} {g : TG} {rest : TS} {ds : List PD} (h : EaG ta Γ ds) (ok : EOk H σ Γ) (hq : ∀ vs H1, Ex H H1 → Dts H1 vs ds → sp vs H1 (fun v H2 => g v σ H2 (rest D)) (E σ)) : tSeq (tAsg (tCallS sp E ta) g) rest D σ H := h σ H ok _ hq
theorem then_g {Γ Γ1 : En} {σ : L2.St} {H : Hp} {D : Ends} {t u : TS} (h : SG t Γ (.nx Γ1)) (ok : EOk H σ Γ) (k : ∀ σ' H', Ex H H' → EOk H' σ' Γ1 → u D σ' H') : tSeq t u D σ H := h { D with nx := u D } σ H ok k
theorem last_g {Γ : En} {σ : L2.St} {H : Hp} {D : Ends} {t : TS} {d : PD} (h : SG t Γ (.rt d)) (ok : EOk H σ Γ) (k : ∀ v H', Ex H H' → Dt H' v d → D.rt v H') : t D σ H := h D σ H ok k
theorem if_g {Γ : En} {σ : L2.St} {H : Hp} {D : Ends} {c : TT} {b : Bool} {t rest : TS} (h : EtG c Γ b) (ok : EOk H σ Γ) (h1 : b = true → ∀ H1, Ex H H1 → t { D with nx := rest D } σ H1) (h2 : b = false → ∀ H1, Ex H H1 → rest D σ H1) : tSeq (tIfS c t tNext) rest D σ H := h σ H ok _ fun H1 e => by
  cases b with
  | true => exact ifT (h1 rfl H1 e)
  | false => exact ifF (h2 rfl H1 e)
section
variable {P : Program} {w : World} {K : Kx} {mg : Str → Option Value} {base : Heap} {C Ce fe : Addr} (T : Tp K mg) (W : Tw K mg C) (Te : PySem.TgX.TgTxt P K mg Ce fe)
include T W Te
/-! melted_fate -/
def R_melted_fate (ds : List PD) (d : PD) : Prop := ∃ (n : Net) (c : Nat) (h : Str) (sts : Nat → List Nat) (nm : Nat → Str) (b N : Nat), GoodNet n ∧ Opens n ∧ (n.map (·.1))[c]? = some h ∧ Fate n h sts nm b N ∧ ds = [netD n, .str h] ∧ d = .tuple [.int (b : Nat), .int ((N - b : Nat) : Int)]
def RE_melted_fate (ds : List PD) (k : Int) : Prop := k = 2000 ∧ ∃ (n : Net) (c : Nat) (h : Str) (sts : Nat → List Nat) (nm : Nat → Str), GoodNet n ∧ Opens n ∧ (n.map (·.1))[c]? = some h ∧ NoFate n h sts nm ∧ ds = [netD n, .str h]
theorem has_melted_fate : Has P w K mg base (L2.CX P w) 8 "melted_fate" ["net", "house"] (spR Ce R_melted_fate RE_melted_fate) := by
  refine has_ofX T.dMeltedFate sc_melted_fate (fun _ _ _ _ _ _ us hl => match us, hl with | [_, _], _ => rfl) (fun vs H Q E ⟨ds, a, h⟩ => ?_) fun f cdv A outer s H vs Q E hr h => ?_
  · rcases h with ⟨f, ⟨_, _, _, _, _, _, _, _, _, _, _, e, _⟩, _⟩ | ⟨k, ⟨_, _, _, _, _, _, _, _, _, _, e⟩, _⟩ <;> rw [a.length, e] <;> rfl
  have G_need_house := has_need_house (P := P) (w := w) (base := base) T
  have G_fate_in := has_fate_in (P := P) (w := w) (base := base) T W Te
  refine ⟨_, (pss_cons (PS.nox (ps_expr (pe_has G_need_house hr (pa_cons (pv 0) (pa_cons (pv 1) pa_nil))))) (pss_cons (ps_asg (pe_hasX G_fate_in hr (takes_of rfl rfl rfl rfl) (pa_cons (pv 0) (pa_cons (pv 1) pa_nil))) (kpg_tup K (pgs_cons (pg_nm 2 sc_melted_fate.nd) (pgs_cons (pg_nm 3 sc_melted_fate.nd) pgs_nil)))) (pss_one (PS.nox (ps_ret (pe_tup (pa_cons (pv 2) (pa_cons (pe_op op_sub (kb_len T (pa_cons (pv 3) pa_nil)) (pv 2)) pa_nil)))))))), ?_⟩
  obtain ⟨ds, a, h⟩ := h
  have hh : ∃ (n : Net) (c : Nat) (h : Str), GoodNet n ∧ Opens n ∧ (n.map (·.1))[c]? = some h ∧ ds = [netD n, .str h] ∧
      ((∃ (sts : Nat → List Nat) (nm : Nat → Str) (b N : Nat), Fate n h sts nm b N ∧ ∀ v H', Ex H H' → Dt H' v (.tuple [.int (b : Nat), .int ((N - b : Nat) : Int)]) → Q v H') ∨
       (∃ (sts : Nat → List Nat) (nm : Nat → Str), NoFate n h sts nm ∧ ∀ H' d, Ex H H' → H' d = none → E (.ref Ce) (some d) (upd H' d (.xd [(("most" : Str), .int 2000)])))) := by
    rcases h with ⟨f, ⟨n, c, h, sts, nm, b, N, hn, ho, hb, hf, e, rfl⟩, k⟩ | ⟨_, ⟨rfl, n, c, h, sts, nm, hn, ho, hb, hf, e⟩, k⟩
    · exact ⟨n, c, h, hn, ho, hb, e, .inl ⟨sts, nm, b, N, hf, k⟩⟩
    · exact ⟨n, c, h, hn, ho, hb, e, .inr ⟨sts, nm, hf, k⟩⟩
  clear h
  obtain ⟨n, c, h, hn, ho, hb, rfl, fin⟩ := hh
  have ok : EOk H (L2.start ["net", "house", "begin", "found"] vs) [some (netD n), some (.str h), none, none] := by
    have ok0 := EOk.start (N := ["net", "house", "begin", "found"]) a
    rw [a.length] at ok0
    exact ok0
  refine drop_g (eg_call (spF_g ⟨n, h, hn, ho, List.mem_of_getElem? hb, rfl, rfl⟩) (ea_cons (eg_var rfl) (ea_cons (eg_var rfl) ea_nil))) ok fun H1 e1 => ?_
  have ok1 := ok.mono e1
  refine asgX_g (ds := [netD n, .str h]) (ea_cons (eg_var rfl) (ea_cons (eg_var rfl) ea_nil)) ok1 fun us H2 e2 r2 => ⟨_, r2, ?_⟩
  rcases fin with ⟨sts, nm, b, N, hf, k⟩ | ⟨sts, nm, hf, k⟩
  · refine .inl ⟨_, ⟨n, c, h, sts, nm, b, N, hn, hb, hf, rfl, rfl⟩, fun v H3 e3 d3 => ?_⟩
    refine gp2 v _ H3 d3 _ fun xs px => ?_
    have hlt := hf.lt
    refine last_g (sg_ret (eg_tup (ea_cons (eg_var (i := 2) rfl) (ea_cons (eg_op rg_sub (eg_cb (cg_lenL (K := K)) (ea_cons (eg_var (i := 3) rfl) ea_nil)) (eg_var (i := 2) rfl)) ea_nil)) (Nat.le_of_ble_eq_true rfl))) (px.ok (ok1.mono (e2.trans e3))) fun u H4 e4 d4 => k u H4 (((e1.trans e2).trans e3).trans e4) ?_
    rw [List.length_map, List.length_map, List.length_range, show ((N : Nat) : Int) - (b : Nat) = ((N - b : Nat) : Int) by omega] at d4
    exact d4
  · exact .inr ⟨_, ⟨rfl, n, c, h, sts, nm, hn, hb, hf, rfl⟩, fun H' d e hd => k H' d ((e1.trans e2).trans e) hd⟩
end
end Stair
/-! ## StW7 -/
set_option Elab.async false
set_option linter.all false
set_option maxRecDepth 100000
set_option maxHeartbeats 1000000
namespace Stair
open PySem PySem.Spec PyProof.Rows L2 Evl
/-! # The melted deal -/
def digs (row : List Str) : List Nat := row.map fun a => 48 + (sortS row).idxOf a
def partAtB (l : List Nat) (b i : Nat) : List Nat := (l.drop (400 * i)).take (min b (400 * i + 400) - 400 * i)
def meltInit (l : List Nat) (b : Nat) : List (Nat × Str) := (List.range ((b + 399) / 400)).map fun i => ((partAtB l b i).length, mk (partAtB l b i))
def meltDeal (row : List Str) (b : Nat) : Deal := ⟨sortS row, meltInit (digs row) b, mk (leastRoot ((digs row).drop b))⟩
theorem digs_length (row : List Str) : (digs row).length = row.length := List.length_map _
theorem rgc400 {b : Nat} (h : b ≤ 2000) : RgC 0 (b : Nat) 400 ((b + 399) / 400) := by
  have e : Builtin.Range.rangeSize 0 (b : Nat) 400 = (((b + 399) / 400 : Nat) : Int) := by
    unfold Builtin.Range.rangeSize
    simp only [show (400 : Int) > 0 by decide, if_true]
    split <;> omega
  refine ⟨by decide, by decide, ?_, e⟩
  have fits : ∀ {i : Int}, 0 ≤ i → i < 10000 → Builtin.Range.rangeFitsLong i = true := fun {i} h1 h2 => by
    unfold Builtin.Range.rangeFitsLong
    rw [decide_eq_true (by omega), decide_eq_true (by omega)]
    rfl
  unfold Builtin.Range.small
  rw [e, if_pos (by decide), fits (by decide) (by decide), fits (by omega) (by omega), fits (by decide) (by decide), fits (by omega) (by omega), fits (by omega) (by omega), Bool.or_true]
  rfl
theorem idx_at {ns : List Str} {a : Str} (h : a ∈ ns) : ns[ns.idxOf a]? = some a := by
  rw [List.getElem?_eq_getElem (List.idxOf_lt_length_iff.mpr h), List.getElem_idxOf]
theorem rootN_lt {n k r : Nat} {l : List Nat} (h : rootN l k n = some r) : r < k + n := by
  obtain ⟨i, rfl, hi, _⟩ := rootN_some h
  omega
section
variable {P : Program} {w : World} {K : Kx} {mg : Str → Option Value} {base : Heap} {C Ce fe : Addr} (T : Tp K mg) (W : Tw K mg C) (Te : PySem.TgX.TgTxt P K mg Ce fe)
include T W Te
def R_melt (ds : List PD) (d : PD) : Prop := ∃ (n : Net) (c : Nat) (h : Str) (sts : Nat → List Nat) (nm : Nat → Str) (b N : Nat), GoodNet n ∧ Opens n ∧ (n.map (·.1))[c]? = some h ∧ Fate n h sts nm b N ∧ ds = [netD n, .str h] ∧
  (sortS ((List.range N).map nm)).length ≤ 6 ∧ (meltDeal ((List.range N).map nm) b).last.length ≤ 400 ∧ d = dealD (meltDeal ((List.range N).map nm) b)
def RE_melt (ds : List PD) (k : Int) : Prop := ∃ (n : Net) (c : Nat) (h : Str) (sts : Nat → List Nat) (nm : Nat → Str), GoodNet n ∧ Opens n ∧ (n.map (·.1))[c]? = some h ∧ ds = [netD n, .str h] ∧
  ((k = 2000 ∧ NoFate n h sts nm) ∨ ∃ b N, Fate n h sts nm b N ∧ (sortS ((List.range N).map nm)).length ≤ 24 ∧ ((k = 6 ∧ 6 < (sortS ((List.range N).map nm)).length) ∨ (k = 400 ∧ (sortS ((List.range N).map nm)).length ≤ 6 ∧ 400 < (meltDeal ((List.range N).map nm) b).last.length)))
theorem has_melt : Has P w K mg base (L2.CX P w) 8 "melt" ["net", "house"] (spR Ce R_melt RE_melt) := by
  refine has_ofX T.dMelt sc_melt (fun _ _ _ _ _ _ us hl => match us, hl with | [_, _], _ => rfl) (fun vs H Q E ⟨ds, a, h⟩ => ?_) fun f cdv A outer s H vs Q E hr h => ?_
  · rcases h with ⟨f, ⟨_, _, _, _, _, _, _, _, _, _, _, e, _⟩, _⟩ | ⟨k, ⟨_, _, _, _, _, _, _, _, e, _⟩, _⟩ <;> rw [a.length, e] <;> rfl
  have G_need_house := has_need_house (P := P) (w := w) (base := base) T
  have G_least_root := has_least_root (P := P) (w := w) (base := base) T
  have G_fate_in := has_fate_in (P := P) (w := w) (base := base) T W Te
  refine ⟨_, (pss_cons (PS.nox (ps_expr (pe_has G_need_house hr (pa_cons (pv 0) (pa_cons (pv 1) pa_nil))))) (pss_cons (ps_asg (pe_hasX G_fate_in hr (takes_of rfl rfl rfl rfl) (pa_cons (pv 0) (pa_cons (pv 1) pa_nil))) (kpg_tup K (pgs_cons (pg_nm 2 sc_melt.nd) (pgs_cons (pg_nm 3 sc_melt.nd) pgs_nil)))) (pss_cons (PS.nox (ps_st 4 sc_melt.nd (kb_sorted T (pa_cons (pe_tc (own := [("name", 5)]) (g := (gName 5)) (tt := tYes) rfl sc_melt.nd (kpi_list K (pv 3)) (by exact blkOk_by (by kernel_rfl)) (fun _ _ _ _ _ => (pg_nm 5 sc_melt.nd)) (fun _ _ _ _ _ => pts_nil) (fun _ _ _ _ _ => (pv 5))) pa_nil) w))) (pss_cons (ps_if (pt_cmpR op_gt (kb_len T (pa_cons (pv 4) pa_nil)) (pe_cI T.c_MOST_NAMES) (nomark _)) (pss_one (ps_raiseTg rfl Te hr (takes_of rfl rfl rfl rfl) (pa_cons (pe_cI T.c_MOST_NAMES) pa_nil))) pss_nil) (pss_cons (PS.nox (ps_st 6 sc_melt.nd (km_join K pe_str (pa_cons (pe_lc (own := [("name", 5)]) (g := (gName 5)) (tt := tYes) rfl sc_melt.nd (kpi_list K (pv 3)) (by exact blkOk_by (by kernel_rfl)) (fun _ _ _ _ _ => (pg_nm 5 sc_melt.nd)) (fun _ _ _ _ _ => pts_nil) (fun _ _ _ _ _ => (pe_ix ix_str (pe_cS T.c_SIGNS) (km_index K (pv 4) (pa_cons (pv 5) pa_nil)) (fun _ _ => rfl)))) pa_nil)))) (pss_cons (PS.nox (ps_st 7 sc_melt.nd (pe_has G_least_root hr (pa_cons (pe_slice sl_str (pv 6) (po_some (pv 2)) po_none) pa_nil)))) (pss_cons (ps_if (pt_cmpR op_gt (kb_len T (pa_cons (pv 7) pa_nil)) (pe_cI T.c_MOST_FIGURES_deals) (nomark _)) (pss_one (ps_raiseTg rfl Te hr (takes_of rfl rfl rfl rfl) (pa_cons (pe_cI T.c_MOST_FIGURES_deals) pa_nil))) pss_nil) (pss_cons (PS.nox (ps_slc 8 (own := [("place", 9)]) (g := (gName 9)) (tt := tYes) sc_melt.nd (pi_range3 rfl T.f_range (pa_cons pe_int (pa_cons (pv 2) (pa_cons (pe_cI T.c_MOST_FIGURES_deals) pa_nil)))) (by exact blkOk_by (by kernel_rfl)) (fun _ _ _ _ _ => (pg_nm 9 sc_melt.nd)) (fun _ _ _ _ _ => pts_nil) (fun _ _ _ _ _ => (pe_slice sl_str (pv 6) (po_some (pv 9)) (po_some (kb_min T (pa_cons (pv 2) (pa_cons (pe_op op_add (pv 9) (pe_cI T.c_MOST_FIGURES_deals)) pa_nil)))))))) (pss_one (PS.nox (ps_ret (pe_tup (pa_cons (kb_tuple T (pa_cons (pv 4) pa_nil)) (pa_cons (pe_tup (kpa_star K (pe_lc (own := [("part", 10)]) (g := (gName 10)) (tt := tYes) rfl sc_melt.nd (kpi_list K (pv 8)) (by exact blkOk_by (by kernel_rfl)) (fun _ _ _ _ _ => (pg_nm 10 sc_melt.nd)) (fun _ _ _ _ _ => pts_nil) (fun _ _ _ _ _ => (pe_tup (pa_cons (kb_len T (pa_cons (pv 10) pa_nil)) (pa_cons (pv 10) pa_nil))))) (pa_cons (pe_tup (pa_cons pe_non (pa_cons (pv 7) pa_nil))) pa_nil))) pa_nil)))))))))))))), ?_⟩
  obtain ⟨ds, a, h⟩ := h
  have hh : ∃ (n : Net) (c : Nat) (h : Str) (sts : Nat → List Nat) (nm : Nat → Str), GoodNet n ∧ Opens n ∧ (n.map (·.1))[c]? = some h ∧ ds = [netD n, .str h] ∧
      ((NoFate n h sts nm ∧ ∀ H' d, Ex H H' → H' d = none → E (.ref Ce) (some d) (upd H' d (.xd [(("most" : Str), .int 2000)]))) ∨
       (∃ (b N : Nat), Fate n h sts nm b N ∧ (sortS ((List.range N).map nm)).length ≤ 24 ∧
        ((6 < (sortS ((List.range N).map nm)).length ∧ ∀ H' d, Ex H H' → H' d = none → E (.ref Ce) (some d) (upd H' d (.xd [(("most" : Str), .int 6)]))) ∨
         ((sortS ((List.range N).map nm)).length ≤ 6 ∧ ((400 < (meltDeal ((List.range N).map nm) b).last.length ∧ ∀ H' d, Ex H H' → H' d = none → E (.ref Ce) (some d) (upd H' d (.xd [(("most" : Str), .int 400)]))) ∨
          ((meltDeal ((List.range N).map nm) b).last.length ≤ 400 ∧ ∀ v H', Ex H H' → Dt H' v (dealD (meltDeal ((List.range N).map nm) b)) → Q v H')))))) := by
    rcases h with ⟨f, ⟨n, c, h, sts, nm, b, N, hn, ho, hb, hf, e, h1, h2, rfl⟩, k⟩ | ⟨k0, ⟨n, c, h, sts, nm, hn, ho, hb, e, q⟩, k⟩
    · exact ⟨n, c, h, sts, nm, hn, ho, hb, e, .inr ⟨b, N, hf, by omega, .inr ⟨h1, .inr ⟨h2, k⟩⟩⟩⟩
    · rcases q with ⟨rfl, hf⟩ | ⟨b, N, hf, h24, ⟨rfl, h6⟩ | ⟨rfl, h6, h4⟩⟩
      · exact ⟨n, c, h, sts, nm, hn, ho, hb, e, .inl ⟨hf, k⟩⟩
      · exact ⟨n, c, h, sts, nm, hn, ho, hb, e, .inr ⟨b, N, hf, h24, .inl ⟨h6, k⟩⟩⟩
      · exact ⟨n, c, h, sts, nm, hn, ho, hb, e, .inr ⟨b, N, hf, h24, .inr ⟨h6, .inl ⟨h4, k⟩⟩⟩⟩
  clear h
  obtain ⟨n, c, h, sts, nm, hn, ho, hb, rfl, fin⟩ := hh
  have ok : EOk H (L2.start ["net", "house", "begin", "found", "names", "name", "row", "root", "parts", "place", "part"] vs) [some (netD n), some (.str h), none, none, none, none, none, none, none, none, none] := by
    have ok0 := EOk.start (N := ["net", "house", "begin", "found", "names", "name", "row", "root", "parts", "place", "part"]) a
    rw [a.length] at ok0
    exact ok0
  refine drop_g (eg_call (spF_g ⟨n, h, hn, ho, List.mem_of_getElem? hb, rfl, rfl⟩) (ea_cons (eg_var rfl) (ea_cons (eg_var rfl) ea_nil))) ok fun H1 e1 => ?_
  have ok1 := ok.mono e1
  refine asgX_g (ds := [netD n, .str h]) (ea_cons (eg_var rfl) (ea_cons (eg_var rfl) ea_nil)) ok1 fun us H2 e2 r2 => ⟨_, r2, ?_⟩
  rcases fin with ⟨hf, k⟩ | ⟨b, N, hf, h24, fin⟩
  · exact .inr ⟨_, ⟨rfl, n, c, h, sts, nm, hn, hb, hf, rfl⟩, fun H' d e hd => k H' d ((e1.trans e2).trans e) hd⟩
  refine .inl ⟨_, ⟨n, c, h, sts, nm, b, N, hn, hb, hf, rfl, rfl⟩, fun v H3 e3 d3 => ?_⟩
  refine gp2 v _ H3 d3 _ fun xs px => ?_
  have hlt := hf.lt
  have hhi := hf.hi
  have hrl : ((List.range N).map nm).length = N := by rw [List.length_map, List.length_range]
  generalize hrow : (List.range N).map nm = row at fin h24 hrl px
  have ok3 := px.ok (ok1.mono (e2.trans e3))
  have e03 := (e1.trans e2).trans e3
  -- names
  refine then_g (sg_asg (eg_sorted (es_tc (it_list (eg_var (i := 3) rfl)) (by omega) fun x hx => ⟨_, gp_name, by simp, eg_var rfl⟩) (by omega))) ok3 fun σ4 H4 e4 ok4 => ?_
  have e04 := e03.trans e4
  -- too many names?
  refine if_g (et_test (eg_op rg_gt (eg_cb (cg_lenL (K := K)) (ea_cons (eg_var (i := 4) rfl) ea_nil)) eg_int)) ok4 (fun hb5 H5 e5 => ?_) fun hb5 H5 e5 => ?_
  · have h6 : 6 < (sortS row).length := by
      have z := of_decide_eq_true hb5
      rw [List.length_map] at z
      omega
    rcases fin with ⟨_, k⟩ | ⟨z, _⟩
    · exact ⟨.int 6, rfl, fun d hd => k H5 d (e04.trans e5) hd⟩
    · omega
  have h6 : (sortS row).length ≤ 6 := by
    have z := of_decide_eq_false hb5
    rw [List.length_map] at z
    omega
  have fin2 : ((400 < (meltDeal row b).last.length ∧ ∀ H' d, Ex H H' → H' d = none → E (.ref Ce) (some d) (upd H' d (.xd [(("most" : Str), .int 400)]))) ∨
          ((meltDeal row b).last.length ≤ 400 ∧ ∀ v H', Ex H H' → Dt H' v (dealD (meltDeal row b)) → Q v H')) := by
    rcases fin with ⟨z, _⟩ | ⟨_, k⟩
    · omega
    · exact k
  clear fin
  have ok5 := ok4.mono e5
  -- the row's signs
  have nd := nodup_srt (srt_sortS row)
  have hdl := digs_length row
  refine then_g (sg_asg (d := .str (mk (digs row))) ((eg_bm (mg_join (ys := (digs row).map fun c => ⟨#[c]⟩) ?_) eg_str (ea_cons ?_ ea_nil)).is (congrArg PyData.str (join_signs (digs row))))) ok5 fun σ6 H6 e6 ok6 => ?_
  · have h3 : Str.length (Str.ofString "") = 0 := by decide
    have hlen : (((digs row).map fun c => (⟨#[c]⟩ : Str)).map (·.length)).sum = (digs row).length := by
      rw [List.map_map]
      induction digs row with
      | nil => rfl
      | cons a l ih => rw [List.map_cons, List.sum_cons, ih, List.length_cons]; show 1 + _ = _; omega
    rw [hlen, h3]
    omega
  · unfold digs
    rw [List.map_map, List.map_map]
    refine eg_lcM (K := K) (l := row) (q := PyData.str) (it_list (eg_var (i := 3) rfl)) (by omega) fun x hx => ⟨_, gp_name, by simp, ?_, rfl⟩
    have hx' : x ∈ sortS row := mem_sortS.mpr hx
    have hk := idx_at hx'
    have hlt2 : (sortS row).idxOf x < 6 := Nat.lt_of_lt_of_le (List.idxOf_lt_length_iff.mpr hx') h6
    exact eg_op (rg_ixS (by decide) (atI_nat' (signs_at _ (by omega)))) eg_str (eg_bm (mg_index hk (idx_first nd hk)) (eg_var (i := 4) rfl) (ea_cons (eg_var (i := 5) rfl) ea_nil))
  -- the root
  have hml : (mk (digs row)).length = N := by rw [mk_length, hdl, hrl]
  refine then_g (sg_asg (d := .str (mk (leastRoot ((digs row).drop b)))) (eg_call (spF_g ⟨(digs row).drop b, by rw [List.length_drop]; omega, rfl, rfl⟩) (ea_cons ((eg_slS (by omega) (eg_var (i := 6) rfl) (eo_some (eg_var (i := 2) rfl)) eo_none).is (by rw [cutS_drop, sg_mk])) ea_nil))) ok6 fun σ7 H7 e7 ok7 => ?_
  have e07 := (((e04.trans e5).trans e6).trans e7)
  have hrt : (meltDeal row b).last.length ≤ 2000 := by
    show (mk (leastRoot ((digs row).drop b))).length ≤ 2000
    rw [mk_length]
    have z := leastRoot_len (l := (digs row).drop b) (by rw [List.length_drop, hdl]; omega)
    rw [List.length_drop, hdl] at z
    omega
  refine if_g (et_test (eg_op rg_gt (eg_cb (cg_lenS (K := K) (Nat.le_trans hrt (by decide))) (ea_cons (eg_var (i := 7) rfl) ea_nil)) eg_int)) ok7 (fun hb8 H8 e8 => ?_) fun hb8 H8 e8 => ?_
  · have h4 : 400 < (meltDeal row b).last.length := by
      have z := of_decide_eq_true hb8
      omega
    rcases fin2 with ⟨_, k⟩ | ⟨z, _⟩
    · exact ⟨.int 400, rfl, fun d hd => k H8 d (e07.trans e8) hd⟩
    · omega
  rcases fin2 with ⟨z, _⟩ | ⟨_, k⟩
  · have z2 := of_decide_eq_false hb8
    omega
  have ok8 := ok7.mono e8
  have e08 := e07.trans e8
  -- the parts
  have hb2 : b ≤ 2000 := by omega
  refine then_g (sg_asg (d := .list (((List.range ((b + 399) / 400)).map fun i => mk (partAtB (digs row) b i)).map .str)) ?_) ok8 fun σ9 H9 e9 ok9 => ?_
  · rw [List.map_map]
    refine eg_lcM (K := K) (l := List.range ((b + 399) / 400)) (q := fun i : Nat => PyData.int (0 + (i : Nat) * 400)) (it_range3 (ea_cons eg_int (ea_cons (eg_var (i := 2) rfl) (ea_cons eg_int ea_nil))) (rgc400 hb2)) (by rw [List.length_range]; omega) fun i hi => ⟨_, gp_name, by simp, ?_, rfl⟩
    refine (eg_slS (by omega) (eg_var (i := 6) rfl) (eo_some (eg_var (i := 9) rfl)) (eo_some (eg_cb cg_min (ea_cons (eg_var (i := 2) rfl) (ea_cons (eg_op rg_add (eg_var (i := 9) rfl) eg_int) ea_nil))))).is ?_
    have z1 : (0 + (i : Nat) * 400 : Int) = ((400 * i : Nat) : Int) := by omega
    have z2 : min ((b : Nat) : Int) (0 + (i : Nat) * 400 + 400) = ((min b (400 * i + 400) : Nat) : Int) := by omega
    rw [z1, show min ((b : Nat) : Int) (((400 * i : Nat) : Int) + 400) = ((min b (400 * i + 400) : Nat) : Int) by omega, cutS_two, sg_mk]
    rfl
  refine last_g (sg_ret (eg_tup (ea_cons (eg_cb cg_tupleL (ea_cons (eg_var (i := 4) rfl) ea_nil)) (ea_cons (eg_tup (ea_star (es := (meltInit (digs row) b).map fun r => runD (some r.1, r.2)) ?_ (ea_cons (eg_tup (ea_cons eg_non (ea_cons (eg_var (i := 7) rfl) ea_nil)) (Nat.le_of_ble_eq_true rfl)) ea_nil)) ?_) ea_nil)) (Nat.le_of_ble_eq_true rfl))) ok9 fun u H10 e10 d10 => k u H10 ((e08.trans e9).trans e10) ?_
  · unfold meltInit
    refine EvG.is (eg_lcM (K := K) (l := List.range ((b + 399) / 400)) (q := fun i : Nat => PyData.str (mk (partAtB (digs row) b i))) (f := fun i : Nat => PyData.tuple [.int ((mk (partAtB (digs row) b i)).length : Nat), .str (mk (partAtB (digs row) b i))]) (it_list ((eg_var (i := 8) rfl).is (by rw [List.map_map]; rfl))) (by rw [List.length_range]; omega) fun i hi => ⟨_, gp_name, by simp, eg_tup (ea_cons (eg_cb (cg_lenS (K := K) ?_) (ea_cons (eg_var (i := 10) rfl) ea_nil)) (ea_cons (eg_var (i := 10) rfl) ea_nil)) (Nat.le_of_ble_eq_true rfl), rfl⟩) ?_
    · rw [mk_length]
      unfold partAtB
      rw [List.length_take, List.length_drop]
      omega
    · rw [List.map_map]
      refine congrArg PyData.list (List.map_congr_left fun i hi => ?_)
      show PyData.tuple [.int ((mk (partAtB (digs row) b i)).length : Nat), .str (mk (partAtB (digs row) b i))] = PyData.tuple [.int ((partAtB (digs row) b i).length : Nat), .str (mk (partAtB (digs row) b i))]
      rw [mk_length]
  · rw [List.length_append, List.length_map]
    unfold meltInit
    rw [List.length_map, List.length_range]
    show _ + 1 ≤ _
    omega
  · have e : dealD (meltDeal row b) = .tuple [.tuple ((sortS row).map .str), .tuple (((meltInit (digs row) b).map fun r => runD (some r.1, r.2)) ++ [.tuple [.none, .str (mk (leastRoot ((digs row).drop b)))]])] := by
      unfold dealD meltDeal namesD runsD Deal.runs
      rw [List.map_append, List.map_map]
      rfl
    rw [e]
    exact d10
end
end Stair
/-! ## StL1 -/
set_option Elab.async false
set_option linter.all false
set_option maxRecDepth 100000
set_option maxHeartbeats 1000000
namespace Stair
open PySem PySem.Spec PyProof.Rows L2 Evl
/-! # The law's own walk -/
/-- the standing of a count -/
def Deal.norm (d : Deal) (c : Nat) : Nat := if c < d.first then c else d.first + (c - d.first) % d.last.length
def stdOf (n : Net) (come : List Nat) : List Nat := (n.zip come).map fun q => q.1.2.norm q.2
theorem stdOf_length {n : Net} {come : List Nat} (h : come.length = n.length) : (stdOf n come).length = n.length := by
  unfold stdOf
  rw [List.length_map, List.length_zip, h, Nat.min_self]
theorem first_cast (x : Deal) : (x.init.map fun r => (r.1 : Int)).sum = (x.first : Nat) := by
  unfold Deal.first
  induction x.init with
  | nil => rfl
  | cons a l ih => simp only [List.map_cons, List.sum_cons]; rw [ih]; simp
theorem pair_netL (n : Net) (come : List Nat) : pairUp (n.map houseD) (come.map fun k => PyData.int (k : Nat)) = (n.zip come).map fun q => PyData.tuple [houseD q.1, .int (q.2 : Nat)] := pairUp_map _ _ _ _
theorem asg_g {Γ : En} {σ : L2.St} {H : Hp} {D : Ends} {te : TE} {rest : TS} {d : PD} {i : Nat} (h : EvG te Γ d) (ok : EOk H σ Γ) (hq : ∀ v H1, Ex H H1 → Dt H1 v d → rest D (σ.set i (some v)) H1) : tSeq (tAsg te (gName i)) rest D σ H := h σ H ok _ hq
section
variable {P : Program} {w : World} {K : Kx} {mg : Str → Option Value} {base : Heap} (T : Tp K mg)
include T
/-! _law_standing -/
def R_law_standing (ds : List PD) (d : PD) : Prop := ∃ (n : Net) (come : List Nat), GoodNet n ∧ ds = [netD n, natsL come] ∧ d = natsL (stdOf n come)
theorem has_law_standing : Has P w K mg base CX0 1 "_law_standing" ["_law_net_here", "_law_come"] (spF R_law_standing) := by
  refine has_of T.dLawStanding sc__law_standing (fun _ _ _ _ _ _ us hl => match us, hl with | [_, _], _ => rfl) (fun vs H Q E ⟨ds, d, a, ⟨_, _, _, e, _⟩, _⟩ => by rw [a.length, e]; rfl) fun f cdv A outer s H vs Q E hr h => ?_
  obtain ⟨ds, d, hv, ⟨n, come, hn, rfl, rfl⟩, k⟩ := h
  refine ⟨_, (pss_cons (ps_st 2 sc__law_standing.nd (pe_lst pa_nil)) (pss_cons (ps_for PassesOwn.never rfl (pi_zipM false true T.f_zip (pa_cons (pv 0) (pa_cons (pv 1) pa_nil))) (kpg_tup K (pgs_cons (kpg_tup K (pgs_cons (pg_nm 3 sc__law_standing.nd) (pgs_cons (kpg_tup K (pgs_cons (pg_nm 4 sc__law_standing.nd) (pgs_cons (pg_nm 5 sc__law_standing.nd) pgs_nil))) pgs_nil))) (pgs_cons (pg_nm 6 sc__law_standing.nd) pgs_nil))) (pss_cons (ps_st 7 sc__law_standing.nd (kb_sum T (pa_cons (pe_lc (own := [("_law_run", 8)]) (g := (gName 8)) (tt := tYes) rfl sc__law_standing.nd (kpi_tup K (pe_slice (ksl_tup K) (pv 5) po_none (po_some (pe_un un_neg pe_int)))) (by exact blkOk_by (by kernel_rfl)) (fun _ _ _ _ _ => (pg_nm 8 sc__law_standing.nd)) (fun _ _ _ _ _ => pts_nil) (fun _ _ _ _ _ => (pe_ix (kix_tup K) (pv 8) pe_int (fun _ _ => rfl)))) pa_nil))) (pss_one (ps_expr (km_append K (pv 2) (pa_cons (pe_ifExp (pt_cmpR op_lt (pv 6) (pv 7) (nomark _)) (pv 6) (pe_op op_add (pv 7) (pe_op op_mod (kb_int T (pa_cons (pe_op op_sub (pv 6) (pv 7)) pa_nil)) (kb_len T (pa_cons (pe_ix (kix_tup K) (pe_ix (kix_tup K) (pv 5) (pe_un un_neg pe_int) (fun _ _ => rfl)) pe_int (fun _ _ => rfl)) pa_nil))))) pa_nil)))))) (pss_one (ps_ret (pv 2))))), ?_⟩
  have h4 := hn.hi
  cases hv with | cons hv t => cases t with | cons hc t =>
    cases t
    cases hv with | tup hA rA => cases hc with | lst hB rB =>
      rename_i a xs b ys
      refine ⟨Nat.zero_le _, fun p hp => ?_⟩
      have na : a ≠ p := fun z => by rw [z, hp] at hA; cases hA
      have nb : b ≠ p := fun z => by rw [z, hp] at hB; cases hB
      have e0 : Ex H (upd H p (.lst [])) := Ex.new hp
      have gv := givesO_zipM (p := p) (k1 := false) (k2 := true) na nb (show Sq false (upd H p (.lst [])) a xs from e0 _ _ hA) (show Sq true (upd H p (.lst [])) b ys from e0 _ _ hB) (rA.mono e0) (rB.mono e0) (td_net n) (td_nats come)
      rw [pair_netL] at gv
      have hzl : (n.zip come).length ≤ 4 := by rw [List.length_zip]; omega
      refine ⟨.ref a, rfl, .ref b, rfl, a, b, xs, ys, rfl, e0 _ _ hA, e0 _ _ hB, for_own gv
        (fun i σ H' => ∃ o3 o4 o5 o6 o7 o8, σ = [some (.ref a), some (.ref b), some (.ref p), o3, o4, o5, o6, o7, o8] ∧ Ow p (upd H p (.lst [])) H' ∧ Tx (upd H p (.lst [])) H' ∧ H' p = some (.lst (((stdOf n come).take i).map fun k => V.int (k : Nat))))
        ⟨none, none, none, none, none, none, rfl, Ow.refl _ _, Tx.refl _, upd_same⟩ (fun i σ H' ⟨_, _, _, _, _, _, _, y, z, _⟩ => ⟨y, z⟩) ?_ ?_⟩
      · rintro i d x σ H1 H2 hdd ⟨o3, o4, o5, o6, o7, o8, rfl, e1, e2, e3⟩ ex dx
        rw [List.getElem?_map] at hdd
        obtain ⟨⟨⟨hs, x0⟩, c⟩, hz, rfl⟩ := Option.map_eq_some_iff.mp hdd
        have hx : GoodDeal x0 := hn.deal (hs, x0) (List.of_mem_zip (List.mem_of_getElem? hz)).1
        have hfew := hx.few
        have gp : GpG (gTup K 2 (gCons (gTup K 2 (gCons (gName 3) (gCons (gTup K 2 (gCons (gName 4) (gCons (gName 5) gNil))) gNil))) (gCons (gName 6) gNil))) (.tuple [houseD (hs, x0), .int (c : Nat)]) [(3, .str hs), (4, namesD x0.names), (5, runsD x0.runs), (6, .int (c : Nat))] :=
          gp_tup (gs_cons (gp_tup (gs_cons gp_name (gs_cons gp2 gs_nil)) rfl) (gs_cons gp_name gs_nil)) rfl
        refine gp x _ H2 dx _ fun us pu => ?_
        cases pu with | cons a1 t => cases t with | cons a2 t => cases t with | cons a3 t => cases t with | cons a4 t =>
          cases t
          rename_i v3 v4 v5 v6
          have ok : EOk H2 [some (.ref a), some (.ref b), some (.ref p), some v3, some v4, some v5, some v6, o7, o8] [none, none, none, none, none, some (runsD x0.runs), some (.int (c : Nat)), none, none] := .non (.non (.non (.non (.non (.som a3 (.som a4 (.non (.non .nil))))))))
          refine asg_g (d := .int (x0.first : Nat)) ((eg_cb (cg_sum (K := K) (ns := x0.init.map fun r => (r.1 : Int))) (ea_cons ?_ ea_nil)).is (by rw [first_cast])) ok fun v7 H3 e4 d7 => ?_
          · rw [List.map_map]
            exact eg_lcM (K := K) (q := fun r : Nat × Str => PyData.tuple [.int (r.1 : Nat), .str r.2]) (it_tup ((eg_slT (eg_var rfl) eo_none (eo_some (eg_un ug_neg eg_int))).is (by rw [cutP_init, x0.runs_init]))) (by omega) fun r hr' => ⟨_, gp_name, by simp, eg_op (rg_ixT (atI_nat' (n := 0) rfl)) (eg_var rfl) eg_int, rfl⟩
          cases d7
          cases a4
          have h3 := e4 _ _ (ex _ _ e3)
          have hlen : (((stdOf n come).take i).map fun k => V.int (k : Nat)).length < sizeLine := by
            have : (stdOf n come).length = (n.zip come).length := List.length_map _
            rw [List.length_map, List.length_take, sizeLine_eq]
            omega
          have ok3 : EOk H3 [some (.ref a), some (.ref b), some (.ref p), some v3, some v4, some v5, some (.int (c : Nat)), some (.int (x0.first : Nat)), o8] [none, none, none, none, none, some (runsD x0.runs), some (.int (c : Nat)), some (.int (x0.first : Nat)), none] := .non (.non (.non (.non (.non (.som (a3.mono e4) (.som (.int _) (.som (.int _) (.non .nil))))))))
          have lst : (x0.runs.map runD).getLast? = some (.tuple [.none, .str x0.last]) := by unfold Deal.runs; rw [List.map_append, List.getLast?_append]; rfl
          have hlo := hx.last.lo
          have hhi := hx.last.hi
          have ev : EvG (tIf (tTest (tOp (rI0 fun i j => .bl (decide (i < j))) (tVar 6) (tVar 7))) (tVar 6) (tOp (rI0 fun i j => .int (i + j)) (tVar 7) (tOp (rI (fun _ j => 0 < j) fun i j => .int (i % j)) (tCB rIntA (tCons (tOp (rI0 fun i j => .int (i - j)) (tVar 6) (tVar 7)) tNil)) (tCB (rLenA K) (tCons (tOp (rIxT K) (tOp (rIxT K) (tVar 5) (tUn (rU fun i => .int (-i)) (tC (.int 1)))) (tC (.int 1))) tNil)))))
              [none, none, none, none, none, some (runsD x0.runs), some (.int (c : Nat)), some (.int (x0.first : Nat)), none] (.int (x0.norm c : Nat)) := by
            refine eg_if (et_test (eg_op rg_lt (eg_var rfl) (eg_var rfl))) (fun hb => ?_) (fun hb => ?_)
            · have hlt : c < x0.first := by have := of_decide_eq_true hb; omega
              exact (eg_var rfl).is (by unfold Deal.norm; rw [if_pos hlt])
            · have hge : ¬ c < x0.first := by have := of_decide_eq_false hb; omega
              refine (eg_op rg_add (eg_var rfl) (eg_op (rg_mod (by omega)) (eg_cb cg_int (ea_cons (eg_op rg_sub (eg_var rfl) (eg_var rfl)) ea_nil)) (eg_cb (cg_lenS (K := K) (Nat.le_trans hhi (by decide))) (ea_cons (eg_op (rg_ixT (i := 1) (atI_nat' (n := 1) rfl)) (eg_op (rg_ixT (i := -1) (atI_last lst)) (eg_var rfl) (eg_un ug_neg eg_int)) eg_int) ea_nil)))).is ?_
              unfold Deal.norm
              rw [if_neg hge]
              congr 1
              push_cast
              rw [Int.natCast_sub (by omega)]
          refine ⟨.ref p, rfl, .inl ⟨rfl, _, sq_of h3⟩, ev _ H3 ok3 _ fun v H4 e5 dv => ?_⟩
          cases dv
          have h4p := e5 _ _ h3
          refine ⟨p, _, _, rfl, rfl, h4p, hlen, some v3, some v4, some v5, some (.int (c : Nat)), some (.int (x0.first : Nat)), o8, rfl, (((e1.trans (Ex.ow ex)).trans (Ex.ow e4)).trans (Ex.ow e5)).trans Ow.put, (((e2.trans (Ex.tx ex)).trans (Ex.tx e4)).trans (Ex.tx e5)).trans (tx_upd fun us z => by rw [h4p] at z; cases z), ?_⟩
          have hst : (stdOf n come)[i]? = some (x0.norm c) := by unfold stdOf; rw [List.getElem?_map, hz]; rfl
          rw [upd_same, List.take_add_one, hst, List.map_append]
          rfl
      · rintro σ H2 ⟨o3, o4, o5, o6, o7, o8, rfl, e1, e2, e3⟩
        have hlz : ((n.zip come).map fun q => PyData.tuple [houseD q.1, .int (q.2 : Nat)]).length = (stdOf n come).length := by unfold stdOf; rw [List.length_map, List.length_map]
        rw [hlz, List.take_length] at e3
        exact ⟨_, rfl, k _ H2 (Ow.ex e0 e1 hp) (.lst e3 (dts_nats _))⟩
end
end Stair
/-! ## StP1 -/
set_option Elab.async false
set_option linter.all false
set_option maxRecDepth 100000
set_option maxHeartbeats 1000000
namespace Stair
open PySem PySem.Spec PyProof.Rows L2 Evl
/-! # Plain: standings -/
theorem place_late : ∀ (l : List (Nat × Str)) (f : Str) (c : Nat), (l.map (·.1)).sum ≤ c → placeIn (l.map (fun r => (some r.1, r.2)) ++ [(none, f)]) c = some (l.length, c - (l.map (·.1)).sum)
  | [], f, c, _ => rfl
  | (n, g) :: l, f, c, h => by
    simp only [List.map_cons, List.sum_cons] at h
    show (if c < n then some (0, c) else (placeIn (l.map (fun r => (some r.1, r.2)) ++ [(none, f)]) (c - n)).map fun p => (p.1 + 1, p.2)) = _
    rw [if_neg (by omega), place_late l f (c - n) (by omega)]
    simp only [Option.map_some, List.length_cons, List.map_cons, List.sum_cons]
    congr 2
    omega
theorem Deal.place_late {d : Deal} {c : Nat} (h : d.first ≤ c) : d.place c = (d.init.length, c - d.first) := by
  unfold Deal.place
  rw [show placeIn d.runs c = some (d.init.length, c - d.first) from Stair.place_late d.init d.last c h]
  rfl
theorem Deal.figs_last (d : Deal) : d.figs d.init.length = d.last := by
  unfold Deal.figs Deal.runs
  rw [List.getD_eq_getElem?_getD, List.getElem?_append_right (by simp)]
  simp
theorem Deal.fig_late {d : Deal} {c : Nat} (h : d.first ≤ c) : d.fig c = figAt d.last (c - d.first) := by
  unfold Deal.fig
  rw [Deal.place_late h]
  dsimp only
  rw [d.figs_last]
theorem Deal.fig_norm (d : Deal) (c : Nat) : d.fig (d.norm c) = d.fig c := by
  unfold Deal.norm
  by_cases h : c < d.first
  · rw [if_pos h]
  · rw [if_neg h, Deal.fig_late (by omega), Deal.fig_late (by omega)]
    unfold figAt
    rw [show d.first + (c - d.first) % d.last.length - d.first = (c - d.first) % d.last.length by omega, Nat.mod_mod]
theorem Deal.name_norm (d : Deal) (c : Nat) : d.name (d.norm c) = d.name c := by
  unfold Deal.name
  rw [d.fig_norm]
theorem Deal.norm_succ {d : Deal} (hl : 1 ≤ d.last.length) (c : Nat) : d.norm (c + 1) = d.nxt (d.norm c) := by
  unfold Deal.nxt Deal.norm
  by_cases h : c < d.first
  · rw [if_pos h]
    by_cases h2 : c + 1 < d.first
    · rw [if_pos h2, if_neg (by omega)]
    · rw [if_neg h2, show c + 1 - d.first = 0 by omega, Nat.zero_mod]
      by_cases h3 : c + 1 = d.first + d.last.length
      · omega
      · rw [if_neg h3]
        omega
  · rw [if_neg h, if_neg (by omega), show c + 1 - d.first = (c - d.first) + 1 by omega]
    have hm : (c - d.first) % d.last.length < d.last.length := Nat.mod_lt _ hl
    generalize c - d.first = x at hm ⊢
    by_cases h3 : d.first + x % d.last.length + 1 = d.first + d.last.length
    · rw [if_pos h3]
      have e : (x + 1) % d.last.length = 0 := by
        rw [Nat.add_mod]
        rcases Nat.lt_or_ge 1 d.last.length with h4 | h4
        · rw [Nat.mod_eq_of_lt h4, show x % d.last.length + 1 = d.last.length by omega, Nat.mod_self]
        · have : d.last.length = 1 := by omega
          rw [this]
          exact Nat.mod_one _
      rw [e]
      rfl
    · rw [if_neg h3]
      have e : (x + 1) % d.last.length = x % d.last.length + 1 := by
        rw [Nat.add_mod]
        rw [Nat.mod_eq_of_lt (show 1 < d.last.length by omega), Nat.mod_eq_of_lt (by omega)]
      omega
theorem Deal.norm_lt {d : Deal} (hl : 1 ≤ d.last.length) (c : Nat) : d.norm c < d.first + d.last.length := by
  unfold Deal.norm
  have hm : (c - d.first) % d.last.length < d.last.length := Nat.mod_lt _ hl
  split <;> omega
theorem Deal.norm_of_lt {d : Deal} {c : Nat} (h : c < d.first + d.last.length) : d.norm c = c := by
  unfold Deal.norm
  by_cases h2 : c < d.first
  · rw [if_pos h2]
  · rw [if_neg h2, Nat.mod_eq_of_lt (by omega)]
    omega
theorem stdOf_get {n : Net} {cur : List Nat} {i c : Nat} {p : Str × Deal} (h1 : n[i]? = some p) (h2 : cur[i]? = some c) : (stdOf n cur)[i]? = some (p.2.norm c) := by
  unfold stdOf
  have e : (n.zip cur)[i]? = some (p, c) := by rw [List.getElem?_zip_eq_some]; exact ⟨h1, h2⟩
  rw [List.getElem?_map, e]
  rfl
theorem stdOf_set {n : Net} {cur : List Nat} {i c : Nat} {p : Str × Deal} (h1 : n[i]? = some p) (hl : cur.length = n.length) : stdOf n (cur.set i c) = (stdOf n cur).set i (p.2.norm c) := by
  apply List.ext_getElem?
  intro j
  have hi : i < n.length := (List.getElem?_eq_some_iff.mp h1).1
  by_cases hij : i = j
  · subst hij
    rw [stdOf_get h1 (List.getElem?_set_self (by omega)), List.getElem?_set_self (by rw [stdOf_length hl]; exact hi)]
  · rw [List.getElem?_set_ne hij]
    unfold stdOf
    rw [List.getElem?_map, List.getElem?_map]
    congr 1
    unfold List.zip
    rw [List.getElem?_zipWith, List.getElem?_zipWith, List.getElem?_set_ne hij]
end Stair
/-! ## StKeep -/
set_option Elab.async false
set_option linter.all false
set_option maxRecDepth 100000
set_option maxHeartbeats 1000000
namespace Stair
open PySem PySem.Spec PyProof.Rows L2 Evl
/-! # statements that leave slot j as it is -/
def AccK (j : Nat) (v : V) (D : Ends) (H : Hp) : Out → Prop
  | .nx Γ => ∀ σ' H', σ'[j]? = some (some v) → Ex H H' → EOk H' σ' Γ → D.nx σ' H'
  | .rt d => ∀ u H', Ex H H' → Dt H' u d → D.rt u H'
  | .bk Γ => ∀ σ' H', σ'[j]? = some (some v) → Ex H H' → EOk H' σ' Γ → D.bk σ' H'
def SGk (j : Nat) (v : V) (ts : TS) (Γ : En) (o : Out) : Prop := ∀ D σ H, σ[j]? = some (some v) → EOk H σ Γ → AccK j v D H o → ts D σ H
theorem AccK.mono {j : Nat} {v : V} {D : Ends} {H H' : Hp} (e : Ex H H') : ∀ {o : Out}, AccK j v D H o → AccK j v D H' o
  | .nx _, a => fun σ' H'' k e' => a σ' H'' k (e.trans e')
  | .rt _, a => fun v H'' e' => a v H'' (e.trans e')
  | .bk _, a => fun σ' H'' k e' => a σ' H'' k (e.trans e')
theorem set_keep {σ : L2.St} {i j : Nat} {o o' : Option V} (h : σ[j]? = some o) (n : i ≠ j) : (σ.set i o')[j]? = some o := by rw [List.getElem?_set_ne n]; exact h
theorem setsV_keep {H : Hp} {j : Nat} {o : Option V} : ∀ {xs : List (Nat × V)} {ps : List (Nat × PD)} {σ : L2.St}, Prs H xs ps → (∀ p ∈ ps, p.1 ≠ j) → σ[j]? = some o → (setsV σ xs)[j]? = some o
  | _, _, _, .nil, _, h => h
  | _, _, σ, .cons (i := i) (v := v) (xs := xs) a t, hn, h => setsV_keep (σ := σ.set i (some v)) t (fun p hp => hn p (List.mem_cons_of_mem _ hp)) (set_keep h (hn _ List.mem_cons_self))
section
variable {j : Nat} {v : V} {K : Kx} {Γ Γ1 Γ2 : En} {t u : TS} {te : TE} {o : Out} {d : PD}
theorem sgk_seq (h : SGk j v t Γ (.nx Γ1)) (h2 : SGk j v u Γ1 o) : SGk j v (tSeq t u) Γ o := fun D σ H k ok a =>
  h { D with nx := u D } σ H k ok fun σ' H' k' e ok' => h2 D σ' H' k' ok' (a.mono e)
theorem sgk_seqB (h : SGk j v t Γ (.bk Γ1)) : SGk j v (tSeq t u) Γ (.bk Γ1) := fun D σ H k ok a => h { D with nx := u D } σ H k ok a
theorem sgk_next : SGk j v tNext Γ (.nx Γ) := fun D σ H k ok a => a σ H k (Ex.refl H) ok
theorem sgk_brk : SGk j v tBreak Γ (.bk Γ) := fun D σ H k ok a => a σ H k (Ex.refl H) ok
theorem sgk_asg {i : Nat} (h : EvG te Γ d) (n : i ≠ j := by decide) : SGk j v (tAsg te (gName i)) Γ (.nx (Γ.set i (some d))) := fun D σ H k ok a =>
  h σ H ok _ fun w H1 e1 d1 => a _ H1 (set_keep k n) e1 ((ok.mono e1).set d1 i)
theorem sgk_par3 {i l m : Nat} {ta : TA} {d1 d2 d3 : PD} (h : EaG ta Γ [d1, d2, d3]) (n1 : i ≠ j := by decide) (n2 : l ≠ j := by decide) (n3 : m ≠ j := by decide) : SGk j v (tPar3 i l m ta) Γ (.nx (((Γ.set i (some d1)).set l (some d2)).set m (some d3))) := fun D σ H k ok a =>
  h σ H ok _ fun vs H1 e1 r1 => by
    cases r1 with | cons x t => cases t with | cons y t => cases t with | cons z t =>
      cases t
      exact ⟨_, _, _, rfl, a _ H1 (set_keep (set_keep (set_keep k n1) n2) n3) e1 ((((ok.mono e1).set x i).set y l).set z m)⟩
theorem sgk_if {c : TT} {b : Bool} (h : EtG c Γ b) (h1 : b = true → SGk j v t Γ o) (h2 : b = false → SGk j v u Γ o) : SGk j v (tIfS c t u) Γ o := fun D σ H k ok a =>
  h σ H ok _ fun H1 e1 => by
    cases b with
    | true => exact ifT (h1 rfl D σ H1 k (ok.mono e1) (a.mono e1))
    | false => exact ifF (h2 rfl D σ H1 k (ok.mono e1) (a.mono e1))
theorem sgk_ifF {c : TT} (h : EtG c Γ false) (h2 : SGk j v u Γ o) : SGk j v (tIfS c t u) Γ o := sgk_if h (fun z => by cases z) fun _ => h2
theorem sgk_ifT {c : TT} (h : EtG c Γ true) (h2 : SGk j v t Γ o) : SGk j v (tIfS c t u) Γ o := sgk_if h (fun _ => h2) fun z => by cases z
theorem SGk.weak (h : SGk j v t Γ (.nx Γ1)) (l : Le Γ2 Γ1) : SGk j v t Γ (.nx Γ2) := fun D σ H k ok a => h D σ H k ok fun σ' H' k' e ok' => a σ' H' k' e (ok'.le l)
theorem sgk_forB {wi : TI} {g : TG} {ds : List PD} {dn : PD} (Γs : Nat → En) (n : Nat) (hn : ds[n]? = some dn) (hi : ItG wi Γ ds) (h0 : Le (Γs 0) Γ)
    (h : ∀ i d, i < n → ds[i]? = some d → ∃ ps Γ', GpG g d ps ∧ (∀ p ∈ ps, p.1 ≠ j) ∧ SGk j v t (setsE (Γs i) ps) (.nx Γ') ∧ Le (Γs (i + 1)) Γ') (hr : ∃ ps, GpG g dn ps ∧ (∀ p ∈ ps, p.1 ≠ j) ∧ SGk j v t (setsE (Γs n) ps) (.bk Γ1)) : SGk j v (tFor wi g t) Γ (.nx Γ1) := fun D σ H k ok a =>
  hi σ H ok _ fun J H1 x1 gv => by
    obtain ⟨G, Y, w, g1, gs, gy⟩ := gv
    have hlt : n < ds.length := by
      rcases Nat.lt_or_ge n ds.length with z | z
      · exact z
      · rw [List.getElem?_eq_none z] at hn; cases hn
    refine for_it w (fun i σ' H' => i ≤ n ∧ Ex H1 H' ∧ EOk H' σ' (Γs i) ∧ σ'[j]? = some (some v)) ⟨Nat.zero_le _, Ex.refl _, (ok.mono x1).le h0, k⟩ (fun i σ' H' _ p => gs _ _ p.2.1 g1) ?_ (fun σ' H' p => absurd p.1 (Nat.not_le_of_lt hlt))
    rintro i x σ2 H2 H3 hi ⟨hin, e2, ok2, k2⟩ y
    obtain ⟨e3, d, hd, dx⟩ := gy i H2 x H3 hi (gs _ _ e2 g1) e2 y
    by_cases hlt' : i < n
    · obtain ⟨ps, Γ', hp, hj, hs, hl⟩ := h i d hlt' hd
      exact hp x σ2 H3 dx _ fun xs px => hs _ _ H3 (setsV_keep px hj k2) (px.ok (ok2.mono e3)) fun σ' H' k' e' ok' => ⟨hlt', (e2.trans e3).trans e', ok'.le hl, k'⟩
    · have e : i = n := by omega
      subst e
      rw [hn] at hd
      cases hd
      obtain ⟨ps, hp, hj, hs⟩ := hr
      exact hp x σ2 H3 dx _ fun xs px => hs _ _ H3 (setsV_keep px hj k2) (px.ok (ok2.mono e3)) fun σ' H' k' e' ok' => a σ' H' k' (x1.trans ((e2.trans e3).trans e')) ok'
end
end Stair
/-! ## StL2 -/
set_option Elab.async false
set_option linter.all false
set_option maxRecDepth 100000
set_option maxHeartbeats 1000000
namespace Stair
open PySem PySem.Spec PyProof.Rows L2 Evl
theorem par3_g {i j l : Nat} {t1 : TE} {tr : TA} {rest : TS} {D : Ends} {Γ : En} {σ : L2.St} {H : Hp} {d : PD} (h : EvG t1 Γ d) (ok : EOk H σ Γ)
    (k : ∀ v H1, Ex H H1 → Dt H1 v d → tr σ H1 fun xs H2 => ∃ u v' w', v :: xs = [u, v', w'] ∧ rest D (((σ.set i (some u)).set j (some v')).set l (some w')) H2) : tSeq (tPar3 i j l (tCons t1 tr)) rest D σ H := h σ H ok _ k
theorem thenk_g {j : Nat} {v : V} {Γ Γ1 : En} {σ : L2.St} {H : Hp} {D : Ends} {t u : TS} (h : SGk j v t Γ (.nx Γ1)) (hσ : σ[j]? = some (some v)) (ok : EOk H σ Γ) (k : ∀ σ' H', σ'[j]? = some (some v) → Ex H H' → EOk H' σ' Γ1 → u D σ' H') : tSeq t u D σ H := h { D with nx := u D } σ H hσ ok k
section
variable {P : Program} {w : World} {K : Kx} {mg : Str → Option Value} {base : Heap} (T : Tp K mg)
include T
/-! _law_next -/
def R_law_next (ds : List PD) (d : PD) : Prop := ∃ (n : Net) (st st' : List Nat) (h a : Str) (m : Nat), GoodNet n ∧ st.length = n.length ∧ PaidTo n m h (stdOf n st) a st' ∧ ds = [netD n, natsL st, .str h] ∧ d = .tuple [.str a, natsL st']
theorem has_law_next : Has P w K mg base CX0 2 "_law_next" ["_law_net_here", "_law_come", "_law_begin"] (spF R_law_next) := by
  refine has_of T.dLawNext sc__law_next (fun _ _ _ _ _ _ us hl => match us, hl with | [_, _, _], _ => rfl) (fun vs H Q E ⟨ds, d, a, ⟨_, _, _, _, _, _, _, _, _, e, _⟩, _⟩ => by rw [a.length, e]; rfl) fun f cdv A outer s H vs Q E hr h => ?_
  obtain ⟨ds, d, hv, ⟨n, st, st', h, res, m, hn, hl, hp, rfl, rfl⟩, k⟩ := h
  have G__law_standing := has_law_standing (P := P) (w := w) (base := base) T
  refine ⟨_, (pss_cons (ps_par3A 3 4 1 sc__law_next.nd (pa_cons (pe_lc (own := [("_law_pair", 5)]) (g := (gName 5)) (tt := tYes) rfl sc__law_next.nd (kpi_tup K (pv 0)) (by exact blkOk_by (by kernel_rfl)) (fun _ _ _ _ _ => (pg_nm 5 sc__law_next.nd)) (fun _ _ _ _ _ => pts_nil) (fun _ _ _ _ _ => (pe_ix (kix_tup K) (pv 5) pe_int (fun _ _ => rfl)))) (pa_cons (pv 2) (pa_cons (kb_list T (pa_cons (pv 1) pa_nil)) pa_nil)))) (pss_cons (ps_while PassesOwn.never (pt_cmpR (kop_in K) (pv 4) (pv 3) rfl) (pss_cons (ps_st 6 sc__law_next.nd (km_index K (pv 3) (pa_cons (pv 4) pa_nil))) (pss_cons (ps_par3A 7 8 9 sc__law_next.nd (pa_cons (pe_ix (kix_list K) (pv 1) (pv 6) (fun _ _ => rfl)) (pa_cons (pe_ix (kix_tup K) (pe_ix (kix_tup K) (pe_ix (kix_tup K) (pv 0) (pv 6) (fun _ _ => rfl)) pe_int (fun _ _ => rfl)) pe_int (fun _ _ => rfl)) (pa_cons (pe_ix (kix_tup K) (pe_ix (kix_tup K) (pe_ix (kix_tup K) (pv 0) (pv 6) (fun _ _ => rfl)) pe_int (fun _ _ => rfl)) pe_int (fun _ _ => rfl)) pa_nil)))) (pss_cons (ps_for PassesOwn.never rfl (kpi_tup K (pv 9)) (kpg_tup K (pgs_cons (pg_nm 10 sc__law_next.nd) (pgs_cons (pg_nm 11 sc__law_next.nd) pgs_nil))) (pss_cons (ps_if (PW.pt (pw_or (pt_cmpR op_isN (pv 10) pe_non (nomark _)) (pw_or1 (pt_cmpR op_lt (pv 7) (pv 10) (nomark _))))) (pss_one ps_break) pss_nil) (pss_one (ps_st 7 sc__law_next.nd (pe_op op_sub (pv 7) (pv 10)))))) (pss_cons (ps_st 4 sc__law_next.nd (pe_ix (kix_tup K) (pv 8) (kb_intS T (pa_cons (pe_ix ix_str (pv 11) (pe_op op_mod (kb_int T (pa_cons (pv 7) pa_nil)) (kb_len T (pa_cons (pv 11) pa_nil))) (fun _ _ => rfl)) pa_nil)) (fun _ _ => rfl))) (pss_one (ps_asg (pe_op op_add (pe_ix (kix_list K) (pv 1) (pv 6) (fun _ _ => rfl)) pe_int) (pg_sub (pv 1) (pv 6) set_list)))))))) (pss_one (ps_ret (pe_tup (pa_cons (pv 4) (pa_cons (pe_has G__law_standing hr (pa_cons (pv 0) (pa_cons (pv 1) pa_nil))) pa_nil))))))), ?_⟩
  have h4 := hn.hi
  have h1 := hn.lo
  cases hv with | cons hv t => cases t with | cons hc t => cases t with | cons hb t =>
    cases t
    cases hb
    rename_i v0 v1
    have ok : EOk H (L2.start ["_law_net_here", "_law_come", "_law_begin", "_law_houses", "_law_name", "_law_pair", "_law_k", "_law_left", "_law_names", "_law_runs", "_law_size", "_law_figures_here"] [v0, v1, .str h]) [some (netD n), some (natsL st), some (.str h), none, none, none, none, none, none, none, none, none] :=
      .som hv (.som hc (.som (.str _) (.non (.non (.non (.non (.non (.non (.non (.non (.non .nil)))))))))))
    have ev1 : EvG (tLc (iTup K (tVar 0)) (gName 5) tYes (tOp (rIxT K) (tVar 5) (tC (.int 0))) (List.map (·.2) [(("_law_pair" : Str), 5)])) [some (netD n), some (natsL st), some (.str h), none, none, none, none, none, none, none, none, none] (housesL n) := by
      unfold housesL
      rw [List.map_map]
      exact eg_lcM (K := K) (l := n) (q := houseD) (it_tup (eg_var rfl)) (by omega) fun p hp => ⟨_, gp_name, by simp, eg_op (rg_ixT (atI_nat' (n := 0) rfl)) (eg_var rfl) eg_int, rfl⟩
    refine par3_g ev1 ok fun v3 H1 e1 d3 => ?_
    refine ⟨_, rfl, v1, rfl, ?_⟩
    cases hc with | lst hB rB =>
      rename_i b ys
      refine ⟨b, ys, rfl, .inl (sq_of (e1 _ _ hB)), fun q hq => ⟨_, _, _, rfl, ?_⟩⟩
      have e2 := Ex.new (o := .lst ys) hq
      have hqH : H q = none := by
        cases z : H q with
        | none => rfl
        | some o => rw [e1 _ _ z] at hq; cases hq
      have hq2 : upd H1 q (.lst ys) q = some (.lst (st.map fun k => V.int (k : Nat))) := by
        rw [upd_same]
        congr 2
        have r := rB
        have e := (show Dts H ys ((st.map fun k => ((k : Nat) : Int)).map PyData.int) by rw [List.map_map]; exact r).ints
        rw [e, List.map_map]
        rfl
      -- the loop
      refine ⟨fun m σ H2 => ∃ (a : Str) (cur : List Nat), EOk H2 σ [some (netD n), some (natsL cur), none, some (housesL n), some (.str a), none, none, none, none, none, none, none] ∧ σ[1]? = some (some (.ref q)) ∧ cur.length = n.length ∧ PaidTo n m a (stdOf n cur) res st' ∧ Ex H H2,
        ⟨m, h, st, ?_, rfl, hl, hp, e1.trans e2⟩, ?_⟩
      · exact .som (hv.mono (e1.trans e2)) (.som (.lst hq2 (dts_nats _)) (.non (.som (d3.mono e2) (.som (.str _) (.non (.non (.non (.non (.non (.non (.non .nil)))))))))))
      rintro m σ H2 ⟨a, cur, ok2, hσ, hcl, hpd, e02⟩
      refine (et_test (eg_op rg_inL (eg_var (i := 4) rfl) (eg_var (i := 3) rfl)) : EtG _ _ (decide (a ∈ n.map (·.1)))) _ _ ok2 _ fun H3 e3 => ?_
      cases hpd with
      | out hout =>
        rw [decide_eq_false hout]
        refine ifF ?_
        have fin : SG (tRet (tTup (tCons (tVar 4) (tCons (tCall (spF R_law_standing) [] (fun _ _ _ => False) (tCons (tVar 0) (tCons (tVar 1) tNil))) tNil)))) [some (netD n), some (natsL cur), none, some (housesL n), some (.str res), none, none, none, none, none, none, none] (.rt (.tuple [.str res, natsL (stdOf n cur)])) :=
          sg_ret (eg_tup (ea_cons (eg_var (i := 4) rfl) (ea_cons (eg_call (spF_g ⟨n, cur, hn, rfl, rfl⟩) (ea_cons (eg_var (i := 0) rfl) (ea_cons (eg_var (i := 1) rfl) ea_nil))) ea_nil)) (Nat.le_of_ble_eq_true rfl))
        exact fin { nx := fun _ H' => Q .non H', rt := Q } _ H3 (ok2.mono e3) fun u H4 e4 d4 => k u H4 ((e02.trans e3).trans e4) d4
      | step hi hs hp' =>
        rename_i m i d s
        have hi' : (n.map (·.1))[i]? = some a := by rw [List.getElem?_map, hi]; rfl
        rw [decide_eq_true (List.mem_of_getElem? hi')]
        refine ifT ⟨fun σ H4 => ∃ (a : Str) (cur : List Nat), EOk H4 σ [some (netD n), some (natsL cur), none, some (housesL n), some (.str a), none, none, none, none, none, none, none] ∧ σ[1]? = some (some (.ref q)) ∧ cur.length = n.length ∧ PaidTo n m a (stdOf n cur) res st' ∧ Ex H H4, fun σ H4 q => ⟨m, Nat.lt_succ_self m, q⟩, ?_⟩
        have ok3 := ok2.mono e3
        have hin : i < n.length := (List.getElem?_eq_some_iff.mp hi).1
        have hci : cur[i]? = some (cur[i]'(by omega)) := List.getElem?_eq_getElem _
        generalize cur[i]'(by omega) = c at hci
        have hsc : s = d.norm c := by
          have := stdOf_get hi hci
          rw [hs] at this
          exact Option.some.inj this
        subst hsc
        have hd : GoodDeal d := hn.deal _ (List.mem_of_getElem? hi)
        have hnd : (n.map houseD)[i]? = some (houseD (a, d)) := by rw [List.getElem?_map, hi]; rfl
        obtain ⟨hp1, ⟨o, z, hp2, hp3⟩, hp4⟩ := place_spec (k := (d.place c).1) (l := (d.place c).2) (d.place_some c)
        obtain ⟨o', hf1, gf⟩ := figs_at hd c
        obtain ⟨j, hc1, hc2, hc3⟩ := fig_code hd c
        have hna := name_at hd c
        have h6 := hd.names.hi
        have hz : z = d.figs (d.place c).1 := by
          rw [hp2] at hf1
          exact congrArg Prod.snd (Option.some.inj hf1)
        have hoo : o = o' := by
          rw [hp2] at hf1
          exact congrArg Prod.fst (Option.some.inj hf1)
        subst hz hoo
        have hlo := gf.lo
        have hhi := gf.hi
        refine thenk_g (sgk_asg (eg_bm (mg_index hi' (hn.first hi')) (eg_var (i := 3) rfl) (ea_cons (eg_var (i := 4) rfl) ea_nil))) hσ ok3 fun σ4 H4 hσ4 e4 ok4 => ?_
        refine thenk_g (sgk_par3 (ea_cons (eg_op (rg_ixL (atI_nat' (by rw [List.getElem?_map, hci]; rfl))) (eg_var (i := 1) rfl) (eg_var (i := 6) rfl)) (ea_cons (eg_op (rg_ixT (d := namesD d.names) (atI_nat' (n := 0) rfl)) (eg_op (rg_ixT (d := dealD d) (atI_nat' (n := 1) rfl)) (eg_op (rg_ixT (d := houseD (a, d)) (atI_nat' hnd)) (eg_var (i := 0) rfl) (eg_var (i := 6) rfl)) eg_int) eg_int) (ea_cons (eg_op (rg_ixT (d := runsD d.runs) (atI_nat' (n := 1) rfl)) (eg_op (rg_ixT (d := dealD d) (atI_nat' (n := 1) rfl)) (eg_op (rg_ixT (d := houseD (a, d)) (atI_nat' hnd)) (eg_var (i := 0) rfl) (eg_var (i := 6) rfl)) eg_int) eg_int) ea_nil)))) hσ4 ok4 fun σ5 H5 hσ5 e5 ok5 => ?_
        refine thenk_g (Γ1 := [some (netD n), some (natsL cur), none, some (housesL n), some (.str a), none, some (.int (i : Nat)), some (.int ((d.place c).2 : Nat)), some (namesD d.names), some (runsD d.runs), some (optD o), some (.str (d.figs (d.place c).1))])
          (sgk_forB (fun t => [some (netD n), some (natsL cur), none, some (housesL n), some (.str a), none, some (.int (i : Nat)), some (.int (leftAt d.runs c t : Nat)), some (namesD d.names), some (runsD d.runs), none, none]) (d.place c).1 (dn := runD (o, d.figs (d.place c).1)) (by rw [List.getElem?_map, hp2]; rfl) (it_tup (eg_var (i := 9) rfl)) (by rw [leftAt_zero]; exact Le.refl _) ?_ ?_) hσ5 ok5 fun σ6 H6 hσ6 e6 ok6 => ?_
        · intro t dd ht hdd
          obtain ⟨n0, f0, q1, q2, q3⟩ := hp1 t ht
          rw [List.getElem?_map, q1] at hdd
          cases hdd
          have ha : ((n0 : Nat) : Int) ≤ (leftAt d.runs c t : Nat) := by omega
          refine ⟨[(10, .int (n0 : Nat)), (11, .str f0)], _, gp2, by simp, sgk_seq (sgk_ifF ((et_or (et_test (eg_op rg_isN (eg_var (i := 10) rfl) eg_non)) fun _ => et_test (eg_op rg_lt (eg_var (i := 7) rfl) (eg_var (i := 10) rfl))).is ?_) sgk_next) (sgk_asg (eg_op rg_sub (eg_var (i := 7) rfl) (eg_var (i := 10) rfl))), ?_⟩
          · simp [isNone]
            omega
          · rw [show (PyData.int ((leftAt d.runs c t : Nat) - (n0 : Int))) = PyData.int (leftAt d.runs c (t + 1) : Nat) by rw [q3]; congr 1; omega]
            exact .keep (.keep (.non (.keep (.keep (.non (.keep (.keep (.keep (.keep (.non (.non .nil)))))))))))
        · refine ⟨[(10, optD o), (11, .str (d.figs (d.place c).1))], gp2, by simp, sgk_seqB ?_⟩
          rw [hp4]
          refine sgk_ifT ?_ sgk_brk
          rcases hp3 with rfl | ⟨n0, rfl, hl0⟩
          · exact (et_or (b := false) (et_test (eg_op rg_isN (eg_var (i := 10) rfl) eg_non)) fun z => by cases z).is rfl
          · have hl' : (((d.place c).2 : Nat) : Int) < (n0 : Nat) := by omega
            exact (et_or (et_test (eg_op rg_isN (eg_var (i := 10) rfl) eg_non)) fun _ => et_test (eg_op rg_lt (eg_var (i := 7) rfl) (eg_var (i := 10) rfl))).is (by simp [isNone, optD]; omega)
        refine thenk_g (sgk_asg (d := .str (d.name c)) (eg_op (rg_ixT (atI_nat' (n := j) (by rw [List.getElem?_map, ← hc2, hna]; rfl))) (eg_var (i := 8) rfl) (eg_cb (cg_intS (int_digit j (by omega)) (by show 1 ≤ 640; decide)) (ea_cons (eg_op (rg_ixS (c := 48 + j) (i := (((d.place c).2 % (d.figs (d.place c).1).length : Nat) : Int)) (by omega) (atI_nat' hc1)) (eg_var (i := 11) rfl)
          ((eg_op (rg_mod (by omega)) (eg_cb cg_int (ea_cons (eg_var (i := 7) rfl) ea_nil)) (eg_cb (cg_lenS (K := K) (by omega)) (ea_cons (eg_var (i := 11) rfl) ea_nil))).is (by rw [Int.natCast_emod]))) ea_nil)))) hσ6 ok6 fun σ7 H7 hσ7 e7 ok7 => ?_
        cases ok7 with | som x0 t => cases t with | som x1 t => cases t with | non t => cases t with | som x3 t => cases t with | som x4 t => cases t with | non t => cases t with | som x6 t => cases t with | som x7 t => cases t with | som x8 t => cases t with | som x9 t => cases t with | som x10 t => cases t with | som x11 t =>
          cases t
          cases x6
          cases x4
          cases Option.some.inj (Option.some.inj hσ7)
          obtain ⟨zs, hq7, rz⟩ := x1.ref_lst
          have ezs : zs = cur.map fun k => V.int (k : Nat) := by
            have e := (show Dts H7 zs ((cur.map fun k => ((k : Nat) : Int)).map PyData.int) by rw [List.map_map]; exact rz).ints
            rw [e, List.map_map]
            rfl
          subst ezs
          have hat : L2.atI (cur.map fun k => V.int (k : Nat)) (i : Int) = some (.int (c : Nat)) := atI_nat' (by rw [List.getElem?_map, hci]; rfl)
          have hix : ixN (cur.map fun k => V.int (k : Nat)).length (i : Int) = some i := ixN_nat (by rw [List.length_map]; omega)
          refine ⟨_, rfl, .int (i : Nat), rfl, q, _, (i : Int), _, rfl, rfl, sq_of hq7, hat, (c : Nat), 1, rfl, rfl, _, rfl, .int (i : Nat), rfl, q, _, (i : Int), i, rfl, rfl, hq7, hix, ?_⟩
          have eset : (cur.map fun k => V.int (k : Nat)).set i (.int ((c : Nat) + 1 : Int)) = (cur.set i (c + 1)).map fun k => V.int (k : Nat) := by rw [List.map_set]; rfl
          rw [eset]
          have tx : Tx H7 (upd H7 q (.lst ((cur.set i (c + 1)).map fun k => V.int (k : Nat)))) := tx_upd fun us z => by rw [hq7] at z; cases z
          refine ⟨d.name c, cur.set i (c + 1), .som (Dt.tx tx _ (td_net n) x0) (.som (.lst upd_same (dts_nats _)) (.non (.som ?_ (.som (.str _) (.non (.non (.non (.non (.non (.non (.non .nil))))))))))), rfl, by rw [List.length_set]; exact hcl, ?_, ((((((e02.trans e3).trans e4).trans e5).trans e6).trans e7).mut hqH)⟩
          · have gen : ∀ {w3 : V}, Dt H7 w3 (housesL n) → Dt (upd H7 q (.lst ((cur.set i (c + 1)).map fun k => V.int (k : Nat)))) w3 (housesL n) := fun {w3} hw => by
              unfold housesL at hw ⊢
              cases hw with | lst ha ra =>
                rename_i ph xs
                have hne : ph ≠ q := fun z => by
                  rw [z, hq7] at ha
                  have e := ra.strs
                  have e2 := HO.lst.inj (Option.some.inj ha)
                  rw [e] at e2
                  have l1 : 0 < cur.length := by omega
                  have g1 := congrArg (fun l : List V => l[0]?) e2
                  simp only [List.getElem?_map] at g1
                  rw [List.getElem?_eq_getElem l1] at g1
                  cases g2 : (n.map (·.1))[0]? with
                  | none =>
                    rw [List.getElem?_map] at g2
                    rw [g2] at g1
                    cases g1
                  | some y =>
                    rw [List.getElem?_map] at g2
                    rw [g2] at g1
                    cases g1
                exact .lst (by rw [upd_ne hne]; exact ha) (Dts.tx tx _ (td_strs _) ra)
            exact gen x3
          · rw [stdOf_set hi hcl, Deal.norm_succ hd.last.lo, ← d.name_norm c]
            exact hp'
end
end Stair
/-! ## StL3 -/
set_option Elab.async false
set_option linter.all false
set_option maxRecDepth 100000
set_option maxHeartbeats 1000000
namespace Stair
open PySem PySem.Spec PyProof.Rows L2 Evl
section
variable {X : Cx} {o e : Expr} {to : TE} {ta : TA} {apos cpos : Pos}
theorem km_indexD (K : Kx) (hu : X.A.units + 65 < cLine) (ho : PE X o to) (ha : PA X (e :: []) ta) (hK : X.K = K := by rfl) (hbase : attributeBase o "index" X.env (eval o X.env) = eval o X.env := by rfl) (hfew : ((backTo cpos (starEach (e :: []) X.env)).all (fun x => !x.1) && (backToKw cpos (keywordEach [] X.env)).all (fun x => x.1.isSome) && decide ((e :: ([] : List Expr)).length + ([] : List Keyword).length + (if ([] : List Keyword).isEmpty then 0 else 1) < 30)) = true := by rfl)
    (hst : starEach (e :: []) X.env = (false, eval e X.env) :: starEach [] X.env := by rfl) (hpl : (backTo cpos (starEach [] X.env)).any (·.1) = false := by rfl) (hline : (apos.endLine == cpos.line) = true := by rfl) :
    PE X (.Call (.Attribute o "index" apos) (e :: []) [] cpos) (tBM K "list" (rIndexD K) to ta) := by
  subst hK
  exact pe_bm PySem.F.plainAttrs_list PySem.F.slot_list_index PySem.F.type_list_index (mt_indexD hu) ho ha hbase hfew hline hst hpl
end
theorem eqv_natsL (a b : List Nat) : PyData.eqv (natsL a) (natsL b) = decide (a = b) := eqvAll_iff (fun k : Nat => PyData.int (k : Nat)) eqv_nat a b
theorem shp_natsL (a : List Nat) : Shp 1 (natsL a) := shp_lst fun d hd => by
  obtain ⟨k, _, rfl⟩ := List.mem_map.mp hd
  exact shp_int
theorem any_natsL (l : List (List Nat)) (a : List Nat) : ((l.map natsL).any fun z => PyData.eqv z (natsL a)) = decide (a ∈ l) := by
  rw [List.any_map]
  rw [Bool.eq_iff_iff, List.any_eq_true, decide_eq_true_iff]
  constructor
  · rintro ⟨x, hx, h⟩
    have h2 : PyData.eqv (natsL x) (natsL a) = true := h
    rw [eqv_natsL, decide_eq_true_iff] at h2
    exact h2 ▸ hx
  · intro h
    exact ⟨a, h, by show PyData.eqv (natsL a) (natsL a) = true; rw [eqv_natsL]; simp⟩
theorem rg_ninLL {K : Kx} {l : List (List Nat)} {a : List Nat} : RG (rNotInD K) (natsL a) (.list (l.map natsL)) (.bool (!decide (a ∈ l))) := fun x y H h1 h2 Q q =>
  ⟨_, _, h1.dp, h2.dp, (shp_natsL a).ok, (shp_lst (k := 1) fun d hd => by obtain ⟨x, _, rfl⟩ := List.mem_map.mp hd; exact shp_natsL x).ok, by rw [any_natsL]; exact q _ H (Ex.refl H) (.bl _)⟩
theorem mg_indexLL {K : Kx} {l : List (List Nat)} {a : List Nat} {j : Nat} (h : l[j]? = some a) (h2 : ∀ m, m < j → l[m]? ≠ some a) : MG K "list" (rIndexD K) (.list (l.map natsL)) [natsL a] (.int (j : Nat)) := fun x H hx => by
  refine ⟨?_, fun vs H' e r Q q => ?_⟩
  · cases hx with | lst p r => exact .inl ⟨rfl, _, sq_of p⟩
  · cases hx with | lst p rr =>
      cases r with | cons y t =>
        cases t
        refine ⟨_, _, natsL a, l.map natsL, j, natsL a, rfl, rfl, Dt.dp _ (Dt.mono e _ (.lst p rr)), y.dp, (shp_lst (k := 1) fun d hd => by obtain ⟨x, _, rfl⟩ := List.mem_map.mp hd; exact shp_natsL x).ok, (shp_natsL a).ok, by rw [List.getElem?_map, h]; rfl, by rw [eqv_natsL]; simp, fun m z hm hz => ?_, q _ H' (Ex.refl _) (.int _)⟩
        rw [List.getElem?_map] at hz
        obtain ⟨z', hz', rfl⟩ := Option.map_eq_some_iff.mp hz
        rw [eqv_natsL, decide_eq_false]
        intro w
        exact h2 m hm (by rw [hz', w])
/-- a list of numbers at a, off two lists -/
structure ListAt (p q : Addr) (H : Hp) (v : V) (l : List Nat) : Prop where
  ex : ∃ a, v = .ref a ∧ H a = some (.lst (l.map fun k => .int (k : Nat))) ∧ a ≠ p ∧ a ≠ q
theorem ListAt.dt {p q : Addr} {H : Hp} {v : V} {l : List Nat} (h : ListAt p q H v l) : Dt H v (natsL l) := by
  obtain ⟨a, rfl, h1, _⟩ := h.ex
  exact .lst h1 (dts_nats _)
inductive ListsAt (p q : Addr) (H : Hp) : List V → List (List Nat) → Prop
  | nil : ListsAt p q H [] []
  | snoc {vs : List V} {ls : List (List Nat)} {v : V} {l : List Nat} : ListsAt p q H vs ls → ListAt p q H v l → ListsAt p q H (vs ++ [v]) (ls ++ [l])
theorem ListAt.to {p q : Addr} {H H' : Hp} (e : ∀ a o, a ≠ p → a ≠ q → H a = some o → H' a = some o) {v : V} {l : List Nat} (h : ListAt p q H v l) : ListAt p q H' v l := by
  obtain ⟨a, rfl, h1, h2, h3⟩ := h.ex
  exact ⟨a, rfl, e _ _ h2 h3 h1, h2, h3⟩
theorem ListsAt.to {p q : Addr} {H H' : Hp} (e : ∀ a o, a ≠ p → a ≠ q → H a = some o → H' a = some o) : ∀ {vs : List V} {ls : List (List Nat)}, ListsAt p q H vs ls → ListsAt p q H' vs ls
  | _, _, .nil => .nil
  | _, _, .snoc a b => .snoc (a.to e) (b.to e)
theorem ListsAt.dts {p q : Addr} {H : Hp} : ∀ {vs : List V} {ls : List (List Nat)}, ListsAt p q H vs ls → Dts H vs (ls.map natsL)
  | _, _, .nil => .nil
  | _, _, .snoc a b => by
    rw [List.map_append]
    exact a.dts.append (.cons b.dt .nil)
theorem listsAt_refs {p q : Addr} {H : Hp} : ∀ {vs : List V} {ls : List (List Nat)}, ListsAt p q H vs ls → ∀ v ∈ vs, ∃ a, v = .ref a
  | _, _, .nil, v, h => by cases h
  | _, _, .snoc a b, v, h => by
    rcases List.mem_append.mp h with h | h
    · exact listsAt_refs a v h
    · obtain ⟨x, hx, _⟩ := b.ex
      exact ⟨x, by rw [List.mem_singleton.mp h, hx]⟩
/-! film -/
/-- the film goes round within 500 coins -/
structure Film (n : Net) (h : Str) (sts : Nat → List Nat) (nm : Nat → Str) (most b N : Nat) : Prop where
  goes : Goes n h sts nm N
  lt : b < N
  hi : N ≤ most
  dist : ∀ j k, j < k → k < N → sts j ≠ sts k
  back : sts N = sts b
section
variable {P : Program} {w : World} {K : Kx} {mg : Str → Option Value} {base : Heap} (T : Tp K mg)
include T
def R_law_film (ds : List PD) (d : PD) : Prop := ∃ (n : Net) (h : Str) (sts : Nat → List Nat) (nm : Nat → Str) (N most : Nat), GoodNet n ∧ most ≤ 2000 ∧ Goes n h sts nm N ∧ (∀ j k, j < k → k < N → sts j ≠ sts k) ∧ (∀ i, i ≤ N → stdOf n (sts i) = sts i ∧ (sts i).length = n.length) ∧ ds = [netD n, .str h, .int (most : Nat)] ∧
  ((∃ b, b < N ∧ N ≤ most ∧ sts N = sts b ∧ d = .tuple [.list (((List.range N).map nm).map .str), .int (b : Nat)]) ∨ (N = most ∧ (∀ j, j < N → sts j ≠ sts N) ∧ d = .none))
theorem has_law_film : Has P w K mg base CX0 3 "_law_film" ["_law_net_here", "_law_begin", "_law_most"] (spF R_law_film) := by
  refine has_of T.dLawFilm sc__law_film (fun _ _ _ _ _ _ us hl => match us, hl with | [_, _, _], _ => rfl) (fun vs H Q E ⟨ds, d, a, ⟨_, _, _, _, _, _, _, _, _, _, _, e, _⟩, _⟩ => by rw [a.length, e]; rfl) fun f cdv A outer s H vs Q E hr h => ?_
  obtain ⟨ds, d, hv, ⟨n, h, sts, nm, N, most, hn, hmost, hg, hdist, hstd, rfl, fin⟩, k⟩ := h
  have G__law_next := has_law_next (P := P) (w := w) (base := base) T
  have hu65 := hu_65 (X := (cxOf CX0 P w K mg base ["_law_net_here", "_law_begin", "_law_most", "_law_come", "_law_known", "_law_found", "_law_name"] "_law_film" (defScope sLawFilm) f cdv A outer s H E).nox) hr
  refine ⟨_, (pss_cons (ps_par3A 3 4 5 sc__law_film.nd (pa_cons (pe_op op_rep (pe_lst (pa_cons pe_int pa_nil)) (kb_len T (pa_cons (pv 0) pa_nil))) (pa_cons (pe_lst pa_nil) (pa_cons (pe_lst pa_nil) pa_nil)))) (pss_cons (ps_while PassesOwn.never (pt_cmpR (kop_ninD K hu65) (pv 3) (pv 4) rfl) (pss_cons (ps_if (pt_cmpR op_eq (kb_len T (pa_cons (pv 5) pa_nil)) (pv 2) (nomark _)) (pss_one (ps_ret pe_non)) pss_nil) (pss_cons (ps_expr (km_append K (pv 4) (pa_cons (pv 3) pa_nil))) (pss_cons (ps_asg (pe_has G__law_next hr (pa_cons (pv 0) (pa_cons (pv 3) (pa_cons (pv 1) pa_nil)))) (kpg_tup K (pgs_cons (pg_nm 6 sc__law_film.nd) (pgs_cons (pg_nm 3 sc__law_film.nd) pgs_nil)))) (pss_one (ps_expr (km_append K (pv 5) (pa_cons (pv 6) pa_nil)))))))) (pss_one (ps_ret (pe_tup (pa_cons (pv 5) (pa_cons (km_indexD K hu65 (pv 4) (pa_cons (pv 3) pa_nil)) pa_nil))))))), ?_⟩
  have h4 := hn.hi
  have h1n := hn.lo
  have hN : N ≤ most := by rcases fin with ⟨b, h1, h2, _⟩ | ⟨h1, _⟩ <;> omega
  cases hv with | cons hv t => cases t with | cons hb t => cases t with | cons hm t =>
    cases t
    cases hb
    cases hm
    rename_i v0
    have ok : EOk H (L2.start ["_law_net_here", "_law_begin", "_law_most", "_law_come", "_law_known", "_law_found", "_law_name"] [v0, .str h, .int (most : Nat)]) [some (netD n), some (.str h), some (.int (most : Nat)), none, none, none, none] := .som hv (.som (.str _) (.som (.int _) (.non (.non (.non (.non .nil))))))
    have ev1 : EvG (tOp rRep (tLst (tCons (tC (.int 0)) tNil)) (tCB (rLenA K) (tCons (tVar 0) tNil))) [some (netD n), some (.str h), some (.int (most : Nat)), none, none, none, none] (natsL (sts 0)) := by
      refine (eg_op (rg_rep (k := n.length) (by omega) (by simp; omega)) (eg_lst (ea_cons eg_int ea_nil) (by decide)) ((eg_cb (cg_lenT (K := K)) (ea_cons (eg_var (i := 0) rfl) ea_nil)).is (by rw [List.length_map]))).is ?_
      rw [hg.zero]
      unfold natsL
      rw [List.map_replicate]
      congr 1
      generalize n.length = m
      induction m with
      | zero => rfl
      | succ m ih => rw [List.replicate_succ, List.replicate_succ, List.flatten_cons, ih]; rfl
    refine par3_g ev1 ok fun v3 H1 e1 d3 => ?_
    refine ⟨Nat.zero_le _, fun kp hkp => ⟨Nat.zero_le _, fun fp hfp => ⟨_, _, _, rfl, ?_⟩⟩⟩
    have hkf : kp ≠ fp := fun z => by rw [← z, upd_same] at hfp; cases hfp
    have hfp1 : H1 fp = none := by rw [upd_ne hkf.symm] at hfp; exact hfp
    have hkH : H kp = none := by
      cases z : H kp with
      | none => rfl
      | some o => rw [e1 _ _ z] at hkp; cases hkp
    have hfH : H fp = none := by
      cases z : H fp with
      | none => rfl
      | some o => rw [e1 _ _ z] at hfp1; cases hfp1
    have e2 := (Ex.new (o := .lst []) hkp).trans (Ex.new (o := .lst []) hfp)
    have natsAt : ∀ {H : Hp} {v : V} {l : List Nat}, Dt H v (natsL l) → ∃ a, v = .ref a ∧ H a = some (.lst (l.map fun k => V.int (k : Nat))) := fun {H v l} hd => by
      unfold natsL at hd
      cases hd with | lst ha ra =>
        have e := (show Dts H _ ((l.map fun k => ((k : Nat) : Int)).map PyData.int) by rw [List.map_map]; exact ra).ints
        rw [List.map_map] at e
        exact ⟨_, rfl, by rw [ha, e]; rfl⟩
    have l3 : ListAt kp fp (upd (upd H1 kp (.lst [])) fp (.lst [])) v3 (sts 0) := by
      obtain ⟨a3, rfl, h3⟩ := natsAt d3
      exact ⟨a3, rfl, e2 _ _ h3, fun z => (by rw [z, hkp] at h3; cases h3), fun z => (by rw [z, hfp1] at h3; cases h3)⟩
    refine ⟨fun m σ H2 => ∃ (i : Nat) (o6 : Option V) (vs : List V) (vc : V), i ≤ N ∧ m + i = N ∧ σ = [some v0, some (.str h), some (.int (most : Nat)), some vc, some (.ref kp), some (.ref fp), o6] ∧ ListAt kp fp H2 vc (sts i) ∧ H2 kp = some (.lst vs) ∧ ListsAt kp fp H2 vs ((List.range i).map sts) ∧ H2 fp = some (.lst (((List.range i).map nm).map V.str)) ∧ Ex H H2,
      ⟨N, 0, none, [], v3, Nat.zero_le _, rfl, rfl, l3, by rw [upd_ne hkf, upd_same], .nil, upd_same, e1.trans e2⟩, ?_⟩
    rintro m σ H2 ⟨i, o6, us, vc, hiN, hmi, rfl, lc, hk2, lk, hf2, e02⟩
    have ok2 : EOk H2 [some v0, some (.str h), some (.int (most : Nat)), some vc, some (.ref kp), some (.ref fp), o6] [some (netD n), some (.str h), some (.int (most : Nat)), some (natsL (sts i)), some (.list (((List.range i).map sts).map natsL)), some (.list (((List.range i).map nm).map .str)), none] :=
      .som (hv.mono e02) (.som (.str _) (.som (.int _) (.som lc.dt (.som (.lst hk2 lk.dts) (.som (.lst hf2 (dts_strs _)) (.non .nil))))))
    refine (et_test (eg_op rg_ninLL (eg_var (i := 3) rfl) (eg_var (i := 4) rfl)) : EtG _ _ (!decide (sts i ∈ (List.range i).map sts))) _ _ ok2 _ fun H3 e3 => ?_
    have ok3 := ok2.mono e3
    have e03 := e02.trans e3
    by_cases hin : sts i ∈ (List.range i).map sts
    · -- known: the round is closed
      obtain ⟨j, hj, hjs⟩ := List.mem_map.mp hin
      have hji := List.mem_range.mp hj
      have hiN2 : i = N := by
        rcases Nat.lt_or_ge i N with z | z
        · exact absurd hjs (hdist j i hji z)
        · omega
      rw [decide_eq_true hin]
      refine ifF ?_
      subst hiN2
      rcases fin with ⟨b, h1, h2, h3, rfl⟩ | ⟨h1, h2, _⟩
      · have fin2 : SG (tRet (tTup (tCons (tVar 5) (tCons (tBM K "list" (rIndexD K) (tVar 4) (tCons (tVar 3) tNil)) tNil)))) [some (netD n), some (.str h), some (.int (most : Nat)), some (natsL (sts i)), some (.list (((List.range i).map sts).map natsL)), some (.list (((List.range i).map nm).map .str)), none] (.rt (.tuple [.list (((List.range i).map nm).map .str), .int (b : Nat)])) :=
          sg_ret (eg_tup (ea_cons (eg_var (i := 5) rfl) (ea_cons (eg_bm (mg_indexLL (j := b) (by rw [List.getElem?_map, List.getElem?_range h1]; exact congrArg some h3.symm) (fun m hm z => by
            rw [List.getElem?_map, List.getElem?_range (by omega)] at z
            exact hdist m b hm h1 ((Option.some.inj z).trans h3))) (eg_var (i := 4) rfl) (ea_cons (eg_var (i := 3) rfl) ea_nil)) ea_nil)) (Nat.le_of_ble_eq_true rfl))
        exact fin2 { nx := fun _ H' => Q .non H', rt := Q } _ H3 ok3 fun u H4 e4 d4 => k u H4 (e03.trans e4) d4
      · exact absurd hjs (h2 j hji)
    · rw [decide_eq_false hin]
      refine ifT ⟨fun σ H4 => ∃ (o6 : Option V) (vs : List V) (vc : V), i < N ∧ σ = [some v0, some (.str h), some (.int (most : Nat)), some vc, some (.ref kp), some (.ref fp), o6] ∧ ListAt kp fp H4 vc (sts (i + 1)) ∧ H4 kp = some (.lst vs) ∧ ListsAt kp fp H4 vs ((List.range (i + 1)).map sts) ∧ H4 fp = some (.lst (((List.range (i + 1)).map nm).map V.str)) ∧ Ex H H4,
        fun σ H4 ⟨o6, vs, vc, hi, e⟩ => ⟨m - 1, by omega, i + 1, o6, vs, vc, hi, by omega, e⟩, ?_⟩
      have hlen : (((List.range i).map nm).map PyData.str).length = i := by rw [List.length_map, List.length_map, List.length_range]
      refine if_g (et_test (eg_op rg_eqI (eg_cb (cg_lenL (K := K)) (ea_cons (eg_var (i := 5) rfl) ea_nil)) (eg_var (i := 2) rfl))) ok3 (fun hb H4 e4 => ?_) fun hb H4 e4 => ?_
      · have him : i = most := by
          have z := of_decide_eq_true hb
          rw [hlen] at z
          omega
        rcases fin with ⟨b, h1, h2, h3, _⟩ | ⟨h1, h2, rfl⟩
        · have hiN2 : i = N := by omega
          subst hiN2
          exact absurd (List.mem_map.mpr ⟨b, List.mem_range.mpr h1, h3.symm⟩) hin
        · exact k .non H4 (e03.trans e4) .non
      · have him : i ≠ most := by
          intro z
          have z2 := of_decide_eq_false hb
          rw [hlen] at z2
          omega
        have hlt : i < N := by
          rcases Nat.lt_or_ge i N with z | z
          · exact z
          · have hiN2 : i = N := by omega
            rcases fin with ⟨b, h1, h2, h3, _⟩ | ⟨h1, h2, _⟩
            · subst hiN2
              exact absurd (List.mem_map.mpr ⟨b, List.mem_range.mpr h1, h3.symm⟩) hin
            · omega
        -- known.append(come)
        have e04 := e03.trans e4
        have hk4 := (e3.trans e4) _ _ hk2
        have hf4 := (e3.trans e4) _ _ hf2
        have hul : us.length = i := by
          have z := lk.dts.length
          rw [List.length_map, List.length_map, List.length_range] at z
          exact z
        have lc4 := lc.to fun a o _ _ z => (e3.trans e4) _ _ z
        have lk4 := lk.to fun a o _ _ z => (e3.trans e4) _ _ z
        refine ⟨.ref kp, rfl, .inl ⟨rfl, _, sq_of hk4⟩, vc, rfl, kp, us, vc, rfl, rfl, hk4, by rw [sizeLine_eq]; omega, ?_⟩
        have keep5 : ∀ a o, a ≠ kp → a ≠ fp → H4 a = some o → upd H4 kp (.lst (us ++ [vc])) a = some o := fun a o n1 _ z => by rw [upd_ne n1]; exact z
        have tx5 : Tx H4 (upd H4 kp (.lst (us ++ [vc]))) := tx_upd fun zs z => by rw [hk4] at z; cases z
        have lc5 := lc4.to keep5
        have lk5 := (ListsAt.snoc lk4 lc4).to keep5
        have hk5 : upd H4 kp (.lst (us ++ [vc])) kp = some (.lst (us ++ [vc])) := upd_same
        have hf5 : upd H4 kp (.lst (us ++ [vc])) fp = some (.lst (((List.range i).map nm).map V.str)) := by rw [upd_ne hkf.symm]; exact hf4
        have hv5 := Dt.tx tx5 _ (td_net n) (hv.mono e04)
        have e05 : Ex H (upd H4 kp (.lst (us ++ [vc]))) := e04.mut hkH
        generalize upd H4 kp (.lst (us ++ [vc])) = H5 at tx5 lc5 lk5 hk5 hf5 hv5 e05 ⊢
        have ok5 : EOk H5 [some v0, some (.str h), some (.int (most : Nat)), some vc, some (.ref kp), some (.ref fp), o6] [some (netD n), some (.str h), some (.int (most : Nat)), some (natsL (sts i)), none, none, none] :=
          .som hv5 (.som (.str _) (.som (.int _) (.som lc5.dt (.non (.non (.non .nil))))))
        obtain ⟨mm, hpd⟩ := hg.go i hlt
        have hs1 := hstd i hiN
        have evn : EvG (tCall (spF R_law_next) [] (fun _ _ _ => False) (tCons (tVar 0) (tCons (tVar 3) (tCons (tVar 1) tNil)))) [some (netD n), some (.str h), some (.int (most : Nat)), some (natsL (sts i)), none, none, none] (.tuple [.str (nm i), natsL (sts (i + 1))]) :=
          eg_call (spF_g ⟨n, sts i, sts (i + 1), h, nm i, mm, hn, hs1.2, by rw [hs1.1]; exact hpd, rfl, rfl⟩) (ea_cons (eg_var (i := 0) rfl) (ea_cons (eg_var (i := 3) rfl) (ea_cons (eg_var (i := 1) rfl) ea_nil)))
        refine evn _ H5 ok5 _ fun v6 H6 e6 d6 => ?_
        refine gp2 v6 _ H6 d6 _ fun xs px => ?_
        cases px with | cons a1 t => cases t with | cons a2 t =>
          cases t
          cases a1
          rename_i vn
          obtain ⟨an, rfl, han⟩ := natsAt a2
          have hk6 := e6 _ _ hk5
          have hf6 := e6 _ _ hf5
          have hsl := (hstd (i + 1) hlt).2
          have h0 : ∃ c, (sts (i + 1))[0]? = some c := ⟨_, List.getElem?_eq_getElem (by omega : 0 < (sts (i + 1)).length)⟩
          obtain ⟨c0, hc0⟩ := h0
          have nak : an ≠ kp := fun z => by
            rw [z, hk6] at han
            have e2 := HO.lst.inj (Option.some.inj han)
            have g1 := congrArg (fun l : List V => l[0]?) e2
            simp only [List.getElem?_map, hc0] at g1
            have hne : ∃ y, (us ++ [vc])[0]? = some y := ⟨_, List.getElem?_eq_getElem (by simp)⟩
            obtain ⟨y, hy⟩ := hne
            obtain ⟨ay, hay⟩ := listsAt_refs lk5 y (List.mem_of_getElem? hy)
            rw [hy, hay] at g1
            cases g1
          have naf : an ≠ fp := fun z => by
            rw [z, hf6] at han
            have e2 := HO.lst.inj (Option.some.inj han)
            have g1 := congrArg (fun l : List V => l[0]?) e2
            simp only [List.getElem?_map, hc0] at g1
            cases g2 : (List.range i)[0]? with
            | none => rw [g2] at g1; cases g1
            | some y => rw [g2] at g1; cases g1
          have keep7 : ∀ a o, a ≠ kp → a ≠ fp → H5 a = some o → upd H6 fp (.lst ((((List.range i).map nm).map V.str) ++ [.str (nm i)])) a = some o := fun a o _ n2 z => by rw [upd_ne n2]; exact e6 _ _ z
          refine ⟨.ref fp, rfl, .inl ⟨rfl, _, sq_of hf6⟩, .str (nm i), rfl, fp, _, .str (nm i), rfl, rfl, hf6, by rw [List.length_map, List.length_map, List.length_range, sizeLine_eq]; omega, ?_⟩
          refine ⟨some (.str (nm i)), us ++ [vc], .ref an, hlt, rfl, ⟨an, rfl, by rw [upd_ne naf]; exact han, nak, naf⟩, by rw [upd_ne hkf]; exact hk6, ?_, ?_, (e05.trans e6).mut hfH⟩
          · rw [List.range_succ, List.map_append]
            exact lk5.to keep7
          · rw [upd_same, List.range_succ, List.map_append, List.map_append]
            rfl
end
end Stair
/-! ## StL4 -/
set_option Elab.async false
set_option linter.all false
set_option maxRecDepth 100000
set_option maxHeartbeats 1000000
namespace Stair
open PySem PySem.Spec PyProof.Rows L2 Evl
structure LeastTurn (l : List Str) (r : Nat) : Prop where
  lo : 1 ≤ r
  hi : r ≤ l.length
  yes : r < l.length → l.drop r ++ l.take r = l
  no : ∀ s, 1 ≤ s → s < r → l.drop s ++ l.take s ≠ l
def strsL (l : List Str) : PD := .list (l.map .str)
theorem eqv_strsL (a b : List Str) : PyData.eqv (strsL a) (strsL b) = decide (a = b) := eqvAll_iff PyData.str eqv_str a b
theorem letter_lt {c : Nat} (h : c ∈ letters.cps.toList) : c < 123 := by
  have e : letters.cps.toList.all (fun c => decide (c < 123)) = true := by decide +kernel
  exact of_decide_eq_true (List.all_eq_true.mp e c h)
theorem GoodWord.ok {a : Str} (h : GoodWord a) : PySem.Str.cps a |>.all (· < 0x110000) := by
  rw [Array.all_eq_true]
  intro i hi
  exact decide_eq_true (Nat.lt_trans (letter_lt (h.all _ (by simp))) (by decide))
theorem shp_str {a : Str} (h : GoodWord a) : Shp 0 (.str a) := ⟨h.ok, Nat.le_refl _⟩
theorem shp_strsL (a : List Str) (h : ∀ x ∈ a, GoodWord x) : Shp 1 (strsL a) := shp_lst fun d hd => by
  obtain ⟨k, hk, rfl⟩ := List.mem_map.mp hd
  exact shp_str (h k hk)
section
variable {P : Program} {w : World} {K : Kx} {mg : Str → Option Value} {base : Heap} (T : Tp K mg)
include T
/-! _law_least -/
def R_law_least (ds : List PD) (d : PD) : Prop := ∃ (row : List Str) (b r : Nat), row.length ≤ 2000 ∧ (∀ x ∈ row, GoodWord x) ∧ LeastTurn (row.drop b) r ∧ ds = [strsL row, .int (b : Nat)] ∧ d = .int (r : Nat)
theorem has_law_least : Has P w K mg base CX0 1 "_law_least" ["_law_some", "_law_spot"] (spF R_law_least) :=
  has_fn T.dLawLeast sc__law_least (fun _ _ _ _ _ _ us hl => match us, hl with | [_, _], _ => rfl) (fun ds d ⟨_, _, _, _, _, _, a, _⟩ => by rw [a]; rfl) fun f cdv A outer s H E ds d hr h => by
    obtain ⟨row, b, r, hlen, hgw, hr2, rfl, rfl⟩ := h
    have hu64 := hu_64 (X := (cxOf CX0 P w K mg base ["_law_some", "_law_spot", "_law_tail", "_law_size"] "_law_least" (defScope sLawLeast) f cdv A outer s H E).nox) hr
    refine ⟨_, (pss_cons (ps_st 2 sc__law_least.nd (pe_slice (ksl_list K) (pv 0) (po_some (pv 1)) po_none)) (pss_cons (ps_for PassesOwn.never rfl (pi_range2 rfl T.f_range (pa_cons pe_int (pa_cons (kb_len T (pa_cons (pv 2) pa_nil)) pa_nil))) (pg_nm 3 sc__law_least.nd) (pss_one (ps_if (pt_cmpR (kop_eqD K hu64) (pe_op op_cat (pe_slice (ksl_list K) (pv 2) (po_some (pv 3)) po_none) (pe_slice (ksl_list K) (pv 2) po_none (po_some (pv 3)))) (pv 2) (nomark _)) (pss_one (ps_ret (pv 3))) pss_nil))) (pss_one (ps_ret (kb_len T (pa_cons (pv 2) pa_nil)))))), ?_⟩
    have htl : (row.drop b).length ≤ 2000 := by rw [List.length_drop]; omega
    have hgt : ∀ x ∈ row.drop b, GoodWord x := fun x hx => hgw x (List.mem_of_mem_drop hx)
    generalize htail : row.drop b = tail at hr2 htl hgt
    have h1 := hr2.lo
    have h2 := hr2.hi
    have ecut : cutP (row.map PyData.str) (some (b : Int)) none = tail.map PyData.str := by rw [cutP_map, cutP_drop, htail]
    refine sg_seq (sg_asg ((eg_slL (eg_var (i := 0) rfl) (eo_some (eg_var (i := 1) rfl)) eo_none).is (by rw [ecut]))) ?_
    have test : ∀ s : Nat, EtG (tTest (tOp (rEqD K) (tOp rCat (tSl (rSlL K) (tVar 2) (tPart (tVar 3)) tNoPart) (tSl (rSlL K) (tVar 2) tNoPart (tPart (tVar 3)))) (tVar 2))) [some (strsL row), some (.int (b : Nat)), some (strsL tail), some (.int (s : Nat))] (decide (tail.drop s ++ tail.take s = tail)) := fun s => by
      refine (et_test (eg_op (rg_eqD (d := strsL (tail.drop s ++ tail.take s)) (shp_strsL _ fun x hx => by
        rcases List.mem_append.mp hx with hx | hx
        · exact hgt x (List.mem_of_mem_drop hx)
        · exact hgt x (List.mem_of_mem_take hx)).ok (shp_strsL _ hgt).ok) ((eg_op (rg_cat ?_) (eg_slL (eg_var (i := 2) rfl) (eo_some (eg_var (i := 3) rfl)) eo_none) (eg_slL (eg_var (i := 2) rfl) eo_none (eo_some (eg_var (i := 3) rfl)))).is ?_) (eg_var (i := 2) rfl))).is (by rw [eqv_strsL])
      · rw [cutP_map, cutP_map, cutP_drop, cutP_take, List.length_map, List.length_map, List.length_drop, List.length_take]
        omega
      · rw [cutP_map, cutP_map, cutP_drop, cutP_take, ← List.map_append]
        rfl
    have hrng : ItG (iRng2 (tCons (tC (.int 1)) (tCons (tCB (rLenA K) (tCons (tVar 2) tNil)) tNil))) [some (strsL row), some (.int (b : Nat)), some (strsL tail), none] (upto ((1 : Nat) : Int) (tail.length - 1)) := by
      have q := it_range2 (Γ := [some (strsL row), some (.int (b : Nat)), some (strsL tail), none]) (ea_cons (eg_int (i := 1)) (ea_cons ((eg_cb (cg_lenL (K := K)) (ea_cons (eg_var (i := 2) rfl) ea_nil)).is (by rw [List.length_map])) ea_nil)) (by omega)
      rw [show ((tail.length : Nat) - 1 : Int).toNat = tail.length - 1 by omega] at q
      exact q
    by_cases hlt : r < tail.length
    · refine sg_seqR (sg_forR (fun i => [some (strsL row), some (.int (b : Nat)), some (strsL tail), none]) (r - 1) (upto_get (lo := 1) (by omega)) hrng (Le.refl _) ?_ ?_)
      · intro i d hi hd
        obtain ⟨hi2, rfl⟩ := upto_at hd
        exact ⟨[(3, .int ((1 + i : Nat) : Int))], _, gp_name, sg_ifF ((test (1 + i)).is (decide_eq_false (hr2.no (1 + i) (by omega) (by omega)))) sg_next, .keep (.keep (.keep (.non .nil)))⟩
      · rw [show 1 + (r - 1) = r by omega]
        exact ⟨[(3, .int (r : Nat))], gp_name, sg_ifT ((test r).is (decide_eq_true (hr2.yes hlt))) (sg_ret (eg_var rfl))⟩
    · have hre : r = tail.length := by omega
      refine sg_seq (sg_for (fun i => [some (strsL row), some (.int (b : Nat)), some (strsL tail), none]) hrng (Le.refl _) ?_) ((sg_ret (eg_cb (cg_lenL (K := K)) (ea_cons (eg_var (i := 2) rfl) ea_nil))).is (by rw [List.length_map, hre]))
      intro i d hd
      obtain ⟨hi2, rfl⟩ := upto_at hd
      exact ⟨[(3, .int ((1 + i : Nat) : Int))], _, gp_name, sg_ifF ((test (1 + i)).is (decide_eq_false (hr2.no (1 + i) (by omega) (by omega)))) sg_next, .keep (.keep (.keep (.non .nil)))⟩
end
end Stair
/-! ## StL5 -/
set_option Elab.async false
set_option linter.all false
set_option maxRecDepth 100000
set_option maxHeartbeats 1000000
namespace Stair
open PySem PySem.Spec PyProof.Rows L2 Evl
def wideNear : Deal := ⟨["h", "p", "q", "r", "s"], [], "01234"⟩
def wide6 : Net := [("g", wideNear), ("h", ⟨["t", "u"], [], "01"⟩)]
def wide7 : Net := [("g", wideNear), ("h", ⟨["t", "u", "v"], [], "012"⟩)]
section
variable {P : Program} {w : World} {K : Kx} {mg : Str → Option Value} {base : Heap} (T : Tp K mg)
include T
/-! _law_wide -/
def R_law_wide (ds : List PD) (d : PD) : Prop := (ds = [.int 6] ∧ d = netD wide6) ∨ (ds = [.int 7] ∧ d = netD wide7)
theorem has_law_wide : Has P w K mg base CX0 1 "_law_wide" ["_law_total"] (spF R_law_wide) :=
  has_fn T.dLawWide sc__law_wide (fun _ _ _ _ _ _ us hl => match us, hl with | [_], _ => rfl) (fun ds d h => by rcases h with ⟨a, _⟩ | ⟨a, _⟩ <;> rw [a] <;> rfl) fun f cdv A outer s H E ds d hr h => by
    refine ⟨_, (pss_cons (ps_st 1 sc__law_wide.nd (pe_slice (ksl_tup K) (pe_tup (pa_cons pe_str (pa_cons pe_str (pa_cons pe_str (pa_cons pe_str (pa_cons pe_str (pa_cons pe_str (pa_cons pe_str pa_nil)))))))) po_none (po_some (pv 0)))) (pss_cons (ps_st 2 sc__law_wide.nd (pe_tup (pa_cons (pe_op (kop_cat K) (pe_tup (pa_cons pe_str pa_nil)) (pe_slice (ksl_tup K) (pv 1) po_none (po_some pe_int))) (pa_cons (pe_tup (pa_cons (pe_tup (pa_cons pe_non (pa_cons pe_str pa_nil))) pa_nil)) pa_nil)))) (pss_one (ps_ret (pe_tup (pa_cons (pe_tup (pa_cons pe_str (pa_cons (pv 2) pa_nil))) (pa_cons (pe_tup (pa_cons pe_str (pa_cons (pe_tup (pa_cons (pe_slice (ksl_tup K) (pv 1) (po_some pe_int) po_none) (pa_cons (pe_tup (pa_cons (pe_tup (pa_cons pe_non (pa_cons (pe_slice sl_str pe_str po_none (po_some (pe_op op_sub (pv 0) pe_int))) pa_nil))) pa_nil)) pa_nil))) pa_nil))) pa_nil))))))), ?_⟩
    rcases h with ⟨rfl, rfl⟩ | ⟨rfl, rfl⟩
    · refine sg_seq (sg_asg (d := .tuple [.str "p", .str "q", .str "r", .str "s", .str "t", .str "u"]) ((eg_slT (K := K) (eg_tup (ea_cons eg_str (ea_cons eg_str (ea_cons eg_str (ea_cons eg_str (ea_cons eg_str (ea_cons eg_str (ea_cons eg_str ea_nil))))))) (Nat.le_of_ble_eq_true rfl)) eo_none (eo_some (eg_var (i := 0) rfl))).is rfl))
        (sg_seq (sg_asg (d := .tuple [.tuple [.str "h", .str "p", .str "q", .str "r", .str "s"], .tuple [.tuple [.none, .str "01234"]]]) (eg_tup (ea_cons (eg_op (rg_catT (K := K) (ds := [.str "h"]) (es := [.str "p", .str "q", .str "r", .str "s"]) (by decide)) (eg_tup (ea_cons eg_str ea_nil) (Nat.le_of_ble_eq_true rfl)) ((eg_slT (K := K) (eg_var (i := 1) rfl) eo_none (eo_some eg_int)).is rfl)) (ea_cons (eg_tup (ea_cons (eg_tup (ea_cons eg_non (ea_cons eg_str ea_nil)) (Nat.le_of_ble_eq_true rfl)) ea_nil) (Nat.le_of_ble_eq_true rfl)) ea_nil)) (Nat.le_of_ble_eq_true rfl)))
        (sg_ret (eg_tup (ds := [.tuple [.str "g", .tuple [.tuple [.str "h", .str "p", .str "q", .str "r", .str "s"], .tuple [.tuple [.none, .str "01234"]]]], .tuple [.str "h", .tuple [.tuple [.str "t", .str "u"], .tuple [.tuple [.none, .str "01"]]]]]) (ea_cons (eg_tup (ea_cons eg_str (ea_cons (eg_var (i := 2) rfl) ea_nil)) (Nat.le_of_ble_eq_true rfl)) (ea_cons (eg_tup (ea_cons eg_str (ea_cons (eg_tup (ea_cons ((eg_slT (K := K) (eg_var (i := 1) rfl) (eo_some eg_int) eo_none).is rfl) (ea_cons (eg_tup (ea_cons (eg_tup (ea_cons eg_non (ea_cons ((eg_slS (a := "012") (by decide) eg_str eo_none (eo_some (eg_op rg_sub (eg_var (i := 0) rfl) eg_int))).is rfl) ea_nil)) (Nat.le_of_ble_eq_true rfl)) ea_nil) (Nat.le_of_ble_eq_true rfl)) ea_nil)) (Nat.le_of_ble_eq_true rfl)) ea_nil)) (Nat.le_of_ble_eq_true rfl)) ea_nil)) (Nat.le_of_ble_eq_true rfl))))
    · refine sg_seq (sg_asg (d := .tuple [.str "p", .str "q", .str "r", .str "s", .str "t", .str "u", .str "v"]) ((eg_slT (K := K) (eg_tup (ea_cons eg_str (ea_cons eg_str (ea_cons eg_str (ea_cons eg_str (ea_cons eg_str (ea_cons eg_str (ea_cons eg_str ea_nil))))))) (Nat.le_of_ble_eq_true rfl)) eo_none (eo_some (eg_var (i := 0) rfl))).is rfl))
        (sg_seq (sg_asg (d := .tuple [.tuple [.str "h", .str "p", .str "q", .str "r", .str "s"], .tuple [.tuple [.none, .str "01234"]]]) (eg_tup (ea_cons (eg_op (rg_catT (K := K) (ds := [.str "h"]) (es := [.str "p", .str "q", .str "r", .str "s"]) (by decide)) (eg_tup (ea_cons eg_str ea_nil) (Nat.le_of_ble_eq_true rfl)) ((eg_slT (K := K) (eg_var (i := 1) rfl) eo_none (eo_some eg_int)).is rfl)) (ea_cons (eg_tup (ea_cons (eg_tup (ea_cons eg_non (ea_cons eg_str ea_nil)) (Nat.le_of_ble_eq_true rfl)) ea_nil) (Nat.le_of_ble_eq_true rfl)) ea_nil)) (Nat.le_of_ble_eq_true rfl)))
        (sg_ret (eg_tup (ds := [.tuple [.str "g", .tuple [.tuple [.str "h", .str "p", .str "q", .str "r", .str "s"], .tuple [.tuple [.none, .str "01234"]]]], .tuple [.str "h", .tuple [.tuple [.str "t", .str "u", .str "v"], .tuple [.tuple [.none, .str "012"]]]]]) (ea_cons (eg_tup (ea_cons eg_str (ea_cons (eg_var (i := 2) rfl) ea_nil)) (Nat.le_of_ble_eq_true rfl)) (ea_cons (eg_tup (ea_cons eg_str (ea_cons (eg_tup (ea_cons ((eg_slT (K := K) (eg_var (i := 1) rfl) (eo_some eg_int) eo_none).is rfl) (ea_cons (eg_tup (ea_cons (eg_tup (ea_cons eg_non (ea_cons ((eg_slS (a := "012") (by decide) eg_str eo_none (eo_some (eg_op rg_sub (eg_var (i := 0) rfl) eg_int))).is rfl) ea_nil)) (Nat.le_of_ble_eq_true rfl)) ea_nil) (Nat.le_of_ble_eq_true rfl)) ea_nil)) (Nat.le_of_ble_eq_true rfl)) ea_nil)) (Nat.le_of_ble_eq_true rfl)) ea_nil)) (Nat.le_of_ble_eq_true rfl))))
end
end Stair
/-! ## StM1 -/
set_option Elab.async false
set_option linter.all false
set_option maxRecDepth 100000
set_option maxHeartbeats 1000000
namespace Stair
open PySem PySem.Spec PyProof.Rows L2 Evl
/-! # The draws: what comes is any -/
structure Mach (p ca : Addr) (S : Nat) (H : Hp) : Prop where
  ne : ca ≠ p
  ex : ∃ (kvs : List (Key × V)) (cells : List Int) (left : Int) (spot : Nat), H p = some (.dK kvs) ∧ kvs.length ≤ 3 + S ∧ valV kvs (.inr "cells") = some (.ref ca) ∧ valV kvs (.inr "left") = some (.int left) ∧ valV kvs (.inr "spot") = some (.int (spot : Nat)) ∧
    spot ≤ S ∧ H ca = some (.lst (cells.map V.int)) ∧ 1 ≤ cells.length ∧ cells.length ≤ 1000
theorem Mach.mono {p ca : Addr} {S S' : Nat} {H : Hp} (h : Mach p ca S H) (e : S ≤ S') : Mach p ca S' H := by
  obtain ⟨ne, kvs, cells, left, spot, a, b, c, d, f, g, i⟩ := h
  exact ⟨ne, kvs, cells, left, spot, a, by omega, c, d, f, by omega, i⟩
theorem Mach.ex' {p ca : Addr} {S : Nat} {H H' : Hp} (e : Ex H H') (h : Mach p ca S H) : Mach p ca S H' := by
  obtain ⟨ne, kvs, cells, left, spot, a, b, c, d, f, g, i, j⟩ := h
  exact ⟨ne, kvs, cells, left, spot, e _ _ a, b, c, d, f, g, e _ _ i, j⟩
theorem Mach.ow {p ca q : Addr} {S : Nat} {H H' : Hp} (h : Mach p ca S H) (e : Ow q H H') (n1 : p ≠ q) (n2 : ca ≠ q) : Mach p ca S H' := by
  obtain ⟨ne, kvs, cells, left, spot, a, b, c, d, f, g, i, j⟩ := h
  exact ⟨ne, kvs, cells, left, spot, e _ _ n1 a, b, c, d, f, g, e _ _ n2 i, j⟩
theorem Mach.off {p ca q : Addr} {S : Nat} {H : Hp} (h : Mach p ca S H) (hq : H q = none) : p ≠ q ∧ ca ≠ q := by
  obtain ⟨ne, kvs, cells, left, spot, a, b, c, d, f, g, i, j⟩ := h
  exact ⟨fun z => (by rw [z, hq] at a; cases a), fun z => (by rw [z, hq] at i; cases i)⟩
/-- a draw: p's dict alone may change -/
def spDraw : Sp := fun vs H Q _ => ∃ (p ca : Addr) (S many : Nat), vs = [.ref p, .int (many : Nat)] ∧ Mach p ca S H ∧ 1 ≤ many ∧ many < 1073741824 ∧ S < 1000000 ∧
  ∀ (r : Nat) H', r < many → Mach p ca (S + 1) H' → Ow p H H' → Tx H H' → Q (.int (r : Nat)) H'
section
variable {P : Program} {w : World} {K : Kx} {mg : Str → Option Value} {base : Heap} (T : Tp K mg)
include T
theorem has_law_draw : Has P w K mg base CX0 1 "_law_draw" ["_law_m", "_law_many"] spDraw := by
  refine has_of T.dLawDraw sc__law_draw (fun _ _ _ _ _ _ us hl => match us, hl with | [_, _], _ => rfl) (fun vs H Q E ⟨_, _, _, _, e, _⟩ => by rw [e]; rfl) fun f cdv A outer s H vs Q E hr h => ?_
  obtain ⟨p, ca, S, many, rfl, M, h1, h2, hS, k⟩ := h
  have hu := hu_1 (X := (cxOf CX0 P w K mg base ["_law_m", "_law_many", "_law_found", "_law_spot", "_law_cell", "_law_mixed"] "_law_draw" (defScope sLawDraw) f cdv A outer s H E).nox) hr
  refine ⟨_, (pss_cons (ps_if (pt_cmpR op_gt (pe_dget hu (pv 0) pe_str (fun _ _ => rfl)) pe_int (nomark _)) (pss_cons (ps_st 2 sc__law_draw.nd (pe_op op_mod (kb_int T (pa_cons (pe_dget hu (pv 0) pe_str (fun _ _ => rfl)) pa_nil)) (pv 1))) (pss_cons (ps_dput hu (pv 0) pe_str (pe_op op_fdiv (pe_dget hu (pv 0) pe_str (fun _ _ => rfl)) (pv 1)) rfl) (pss_one (ps_ret (pv 2))))) pss_nil) (pss_cons (ps_st 3 sc__law_draw.nd (pe_op op_add (pe_dget hu (pv 0) pe_str (fun _ _ => rfl)) pe_int)) (pss_cons (ps_dput hu (pv 0) pe_str (pv 3) rfl) (pss_cons (ps_st 4 sc__law_draw.nd (pe_ix (kix_list K) (pe_dget hu (pv 0) pe_str (fun _ _ => rfl)) (pe_op op_mod (kb_int T (pa_cons (pv 3) pa_nil)) (kb_len T (pa_cons (pe_dget hu (pv 0) pe_str (fun _ _ => rfl)) pa_nil))) (fun _ _ => rfl))) (pss_cons (ps_st 5 sc__law_draw.nd (pe_op op_mul (kb_int T (pa_cons (pe_op op_add (pe_op op_add (pe_op op_mod (kb_int T (pa_cons (pv 4) pa_nil)) pe_int) (pe_op op_mul pe_int (pv 3))) (pe_op op_mul (pe_op op_mul pe_int (pv 3)) (pv 3))) pa_nil)) pe_int)) (pss_cons (ps_st 5 sc__law_draw.nd (pe_op op_mul (kb_int T (pa_cons (pe_op op_add (pe_op op_mod (kb_int T (pa_cons (pv 5) pa_nil)) pe_int) (pe_op op_mul pe_int (pv 3))) pa_nil)) pe_int)) (pss_one (ps_ret (pe_op op_mod (kb_int T (pa_cons (pe_op op_fdiv (pe_op op_mod (kb_int T (pa_cons (pv 5) pa_nil)) pe_int) pe_int) pa_nil)) (pv 1)))))))))), ?_⟩
  have M0 := M
  obtain ⟨ne, kvs, cells, left, spot, hp, hkl, hc, hl, hs, hsp, hca, hn1, hn2⟩ := M
  have gC : DGet H p (.str "cells") (some (.ref ca)) := by rw [← hc]; exact DGet.k (k := .inr "cells") hp
  have gL : DGet H p (.str "left") (some (.int left)) := by rw [← hl]; exact DGet.k (k := .inr "left") hp
  have gS : DGet H p (.str "spot") (some (.int (spot : Nat))) := by rw [← hs]; exact DGet.k (k := .inr "spot") hp
  have txp : ∀ {o : HO}, Tx H (upd H p o) := fun {o} => tx_upd fun xs z => by rw [hp] at z; cases z
  have k' : ∀ (x : Int) H', 0 ≤ x → x < (many : Nat) → Mach p ca (S + 1) H' → Ow p H H' → Tx H H' → Q (.int x) H' := fun x H' a b => by
    have e : x = ((x.toNat : Nat) : Int) := by omega
    rw [e]
    exact k x.toNat H' (by omega)
  refine ⟨.ref p, rfl, p, _, rfl, gL, left, 0, rfl, rfl, _, rfl, ?_⟩
  refine ite2 (fun hb => ?_) (fun hb => ?_)
  · refine ⟨.ref p, rfl, p, _, rfl, gL, .inl ⟨left, rfl, _, rfl, left, (many : Nat), rfl, rfl, by omega, ?_⟩⟩
    refine ⟨.ref p, rfl, p, _, rfl, gL, _, rfl, left, (many : Nat), rfl, rfl, ⟨by omega, by omega⟩, .ref p, rfl, p, _, rfl, DPut.k (k := .inr "left") hp (by rw [sizeLine_eq]; omega), _, rfl, ?_⟩
    have hm : 0 ≤ left % (many : Nat) ∧ left % (many : Nat) < (many : Nat) := ⟨Int.emod_nonneg _ (by omega), Int.emod_lt_of_pos _ (by omega)⟩
    refine k' _ _ hm.1 hm.2 ⟨ne, _, cells, left / (many : Nat), spot, upd_same, Nat.le_trans (putK_le _ _ _) (by omega), by rw [valV_put, if_neg (by decide)]; exact hc, by rw [valV_put, if_pos rfl], by rw [valV_put, if_neg (by decide)]; exact hs, by omega, by rw [upd_ne ne]; exact hca, hn1, hn2⟩ Ow.put txp
  · refine ⟨.ref p, rfl, p, _, rfl, gS, (spot : Nat), 1, rfl, rfl, ?_⟩
    refine ⟨_, rfl, .ref p, rfl, p, _, rfl, DPut.k (k := .inr "spot") hp (by rw [sizeLine_eq]; omega), ?_⟩
    have hp2 : upd H p (.dK (putK kvs (.inr "spot") (.int ((spot : Nat) + 1 : Int)))) p = some (.dK (putK kvs (.inr "spot") (.int ((spot : Nat) + 1 : Int)))) := upd_same
    have hca2 : upd H p (.dK (putK kvs (.inr "spot") (.int ((spot : Nat) + 1 : Int)))) ca = some (.lst (cells.map V.int)) := by rw [upd_ne ne]; exact hca
    have M2 : Mach p ca (S + 1) (upd H p (.dK (putK kvs (.inr "spot") (.int ((spot : Nat) + 1 : Int))))) := ⟨ne, _, cells, left, spot + 1, hp2, Nat.le_trans (putK_le _ _ _) (by omega), by rw [valV_put, if_neg (by decide)]; exact hc, by rw [valV_put, if_neg (by decide)]; exact hl, by rw [valV_put, if_pos rfl]; rfl, by omega, hca2, hn1, hn2⟩
    have gC2 : DGet (upd H p (.dK (putK kvs (.inr "spot") (.int ((spot : Nat) + 1 : Int))))) p (.str "cells") (some (.ref ca)) := by
      have z : valV (putK kvs (.inr "spot") (.int ((spot : Nat) + 1 : Int))) (.inr "cells") = some (.ref ca) := by rw [valV_put, if_neg (by decide)]; exact hc
      rw [← z]
      exact DGet.k (k := .inr "cells") hp2
    have o2 : Ow p H (upd H p (.dK (putK kvs (.inr "spot") (.int ((spot : Nat) + 1 : Int))))) := Ow.put
    have t2 : Tx H (upd H p (.dK (putK kvs (.inr "spot") (.int ((spot : Nat) + 1 : Int))))) := txp
    show tSeq _ _ _ _ (upd H p (.dK (putK kvs (.inr "spot") (.int ((spot : Nat) + 1 : Int)))))
    generalize upd H p (.dK (putK kvs (.inr "spot") (.int ((spot : Nat) + 1 : Int)))) = H2 at hp2 hca2 M2 gC2 o2 t2 ⊢
    have hmod : 0 ≤ ((spot : Nat) + 1 : Int) % (cells.length : Nat) ∧ ((spot : Nat) + 1 : Int) % (cells.length : Nat) < (cells.length : Nat) := ⟨Int.emod_nonneg _ (by omega), Int.emod_lt_of_pos _ (by omega)⟩
    have hlc : (cells.map V.int).length = cells.length := List.length_map _
    have hat : ∃ c, L2.atI (cells.map V.int) (((spot : Nat) + 1 : Int) % (cells.length : Nat)) = some (.int c) := by
      have e : ((spot : Nat) + 1 : Int) % (cells.length : Nat) = (((((spot : Nat) + 1 : Int) % (cells.length : Nat)).toNat : Nat) : Int) := by omega
      rw [e]
      refine ⟨cells[(((spot : Nat) + 1 : Int) % (cells.length : Nat)).toNat]'(by omega), atI_nat' ?_⟩
      rw [List.getElem?_map, List.getElem?_eq_getElem (by omega)]
      rfl
    obtain ⟨cell, hcell⟩ := hat
    refine ⟨.ref p, rfl, p, _, rfl, gC2, _, rfl, .inl ⟨_, rfl, .ref p, rfl, p, _, rfl, gC2, .ref ca, cells.length, rfl, .inl ⟨_, sq_of hca2, hlc.symm⟩, ((spot : Nat) + 1 : Int), (cells.length : Nat), rfl, rfl, by omega, ca, _, _, _, rfl, rfl, sq_of hca2, hcell, ?_⟩⟩
    have ok : EOk H2 [some (.ref p), some (.int (many : Nat)), none, some (.int ((spot : Nat) + 1 : Int)), some (.int cell), none] [none, some (.int (many : Nat)), none, some (.int ((spot : Nat) + 1 : Int)), some (.int cell), none] := .non (.som (.int _) (.non (.som (.int _) (.som (.int _) (.non .nil)))))
    refine asg_g (eg_op (rg_mul (.inr (by omega))) (eg_cb cg_int (ea_cons (eg_op rg_add (eg_op rg_add (eg_op (rg_mod (by decide)) (eg_cb cg_int (ea_cons (eg_var (i := 4) rfl) ea_nil)) eg_int) (eg_op (rg_mul (.inl (by omega))) eg_int (eg_var (i := 3) rfl))) (eg_op (rg_mul (.inr (by omega))) (eg_op (rg_mul (.inl (by omega))) eg_int (eg_var (i := 3) rfl)) (eg_var (i := 3) rfl))) ea_nil)) eg_int) ok fun v5 H3 e3 d5 => ?_
    cases d5
    generalize (_ : Int) * 48271 = mx
    have ok3 : EOk H3 [some (.ref p), some (.int (many : Nat)), none, some (.int ((spot : Nat) + 1 : Int)), some (.int cell), some (.int mx)] [none, some (.int (many : Nat)), none, some (.int ((spot : Nat) + 1 : Int)), some (.int cell), some (.int mx)] := .non (.som (.int _) (.non (.som (.int _) (.som (.int _) (.som (.int _) .nil)))))
    refine asg_g (eg_op (rg_mul (.inr (by omega))) (eg_cb cg_int (ea_cons (eg_op rg_add (eg_op (rg_mod (by decide)) (eg_cb cg_int (ea_cons (eg_var (i := 5) rfl) ea_nil)) eg_int) (eg_op (rg_mul (.inl (by omega))) eg_int (eg_var (i := 3) rfl))) ea_nil)) eg_int) ok3 fun v6 H4 e4 d6 => ?_
    cases d6
    generalize (_ : Int) * 69621 = my
    have ok4 : EOk H4 [some (.ref p), some (.int (many : Nat)), none, some (.int ((spot : Nat) + 1 : Int)), some (.int cell), some (.int my)] [none, some (.int (many : Nat)), none, some (.int ((spot : Nat) + 1 : Int)), some (.int cell), some (.int my)] := .non (.som (.int _) (.non (.som (.int _) (.som (.int _) (.som (.int _) .nil)))))
    refine last_g (sg_ret (eg_op (rg_mod (by omega)) (eg_cb cg_int (ea_cons (eg_op (rg_fdiv ⟨by decide, by decide⟩) (eg_op (rg_mod (by decide)) (eg_cb cg_int (ea_cons (eg_var (i := 5) rfl) ea_nil)) eg_int) eg_int) ea_nil)) (eg_var (i := 1) rfl))) ok4 fun u H5 e5 d5 => ?_
    cases d5
    exact k' _ _ (Int.emod_nonneg _ (by omega)) (Int.emod_lt_of_pos _ (by omega)) (((M2.ex' e3).ex' e4).ex' e5) (((o2.trans (Ex.ow e3)).trans (Ex.ow e4)).trans (Ex.ow e5)) (((t2.trans (Ex.tx e3)).trans (Ex.tx e4)).trans (Ex.tx e5))
end
end Stair
/-! ## StM2 -/
set_option Elab.async false
set_option linter.all false
set_option maxRecDepth 100000
set_option maxHeartbeats 1000000
namespace Stair
open PySem PySem.Spec PyProof.Rows L2 Evl
/-- one of a list or of a tuple, any -/
def spOf : Sp := fun vs H Q _ => ∃ (p ca : Addr) (S : Nat) (v : V) (ds : List PD), vs = [.ref p, v] ∧ Mach p ca S H ∧ (Dt H v (.tuple ds) ∨ Dt H v (.list ds)) ∧ tds ds = true ∧ 1 ≤ ds.length ∧ ds.length ≤ 1000 ∧ S < 1000000 ∧
  ∀ (d : PD) u H', d ∈ ds → Dt H' u d → Mach p ca (S + 1) H' → Ow p H H' → Tx H H' → Q u H'
def spFigures : Sp := fun vs H Q _ => ∃ (p ca : Addr) (S total long : Nat), vs = [.ref p, .int (total : Nat), .int (long : Nat)] ∧ Mach p ca S H ∧ 1 ≤ total ∧ total ≤ 6 ∧ 1 ≤ long ∧ long ≤ 10 ∧ S < 900000 ∧
  ∀ (l : List Nat) H', 1 ≤ l.length → l.length ≤ long → (∀ c ∈ l, 48 ≤ c ∧ c < 48 + total) → Mach p ca (S + 1 + long) H' → Ow p H H' → Tx H H' → Q (.str (mk l)) H'
section
variable {P : Program} {w : World} {K : Kx} {mg : Str → Option Value} {base : Heap} (T : Tp K mg)
include T
theorem has_law_of : Has P w K mg base CX0 2 "_law_of" ["_law_m", "_law_some"] spOf := by
  refine has_of T.dLawOf sc__law_of (fun _ _ _ _ _ _ us hl => match us, hl with | [_, _], _ => rfl) (fun vs H Q E ⟨_, _, _, _, _, e, _⟩ => by rw [e]; rfl) fun f cdv A outer s H vs Q E hr h => ?_
  obtain ⟨p, ca, S, v, ds, rfl, M, hd, ht, h1, h2, hS, k⟩ := h
  have G__law_draw := has_law_draw (P := P) (w := w) (base := base) T
  refine ⟨_, (pss_one (ps_ret (pe_ix (IxR.or (kix_tup K) (kix_list K)) (pv 1) (pe_has G__law_draw hr (pa_cons (pv 0) (pa_cons (kb_len T (pa_cons (pv 1) pa_nil)) pa_nil))) (fun _ _ => rfl)))), ?_⟩
  have M0 := M
  obtain ⟨ne, kvs, cells, left, spot, hp, _⟩ := M0
  have go : ∀ (a : Addr) (xs : List V), v = .ref a → a ≠ p → Dts H xs ds → (H a = some (.tup xs) ∨ H a = some (.lst xs)) → tRet (tOp (fun x y H Q => rIxT K x y H Q ∨ rIxL K x y H Q) (tVar 1) (tCall spDraw [] (fun _ _ _ => False) (tCons (tVar 0) (tCons (tCB (rLenA K) (tCons (tVar 1) tNil)) tNil)))) { nx := fun _ H' => Q .non H', rt := Q } (L2.start ["_law_m", "_law_some"] [.ref p, v]) H := by
    rintro a xs rfl na r hl
    have hlen := r.length
    have hln : LenV K (.ref a) H ds.length := by
      rcases hl with hl | hl
      · exact .inr ⟨xs, st_of hl, hlen.symm⟩
      · exact .inl ⟨xs, sq_of hl, hlen.symm⟩
    refine ⟨.ref a, rfl, .ref p, rfl, .ref a, rfl, .ref a, ds.length, rfl, hln, p, ca, S, ds.length, rfl, M, h1, by omega, hS, fun j H' hj M' o t => ?_⟩
    have hj' : xs[j]? = some (xs[j]'(by omega)) := List.getElem?_eq_getElem _
    obtain ⟨d, hd1, hd2⟩ := r.getV hj'
    have fin := k d (xs[j]'(by omega)) H' (List.mem_of_getElem? hd1) (Dt.tx t _ (by
      have z := ht
      exact (show ∀ {ds : List PD}, tds ds = true → ∀ d ∈ ds, td d = true from fun {ds} => by
        induction ds with
        | nil => intro _ d hd; cases hd
        | cons x r ih =>
          intro hx d hd
          have hx' : (td x && tds r) = true := hx
          rw [Bool.and_eq_true] at hx'
          rcases List.mem_cons.mp hd with rfl | hd
          · exact hx'.1
          · exact ih hx'.2 d hd) z d (List.mem_of_getElem? hd1)) hd2) M' o t
    rcases hl with hl | hl
    · exact .inl ⟨a, xs, (j : Int), _, rfl, rfl, st_of (o _ _ na hl), atI_nat' hj', fin⟩
    · exact .inr ⟨a, xs, (j : Int), _, rfl, rfl, sq_of (o _ _ na hl), atI_nat' hj', fin⟩
  rcases hd with hd | hd
  · cases hd with | tup ha ra => exact go _ _ rfl (fun z => by rw [z, hp] at ha; cases ha) ra (.inl ha)
  · cases hd with | lst ha ra => exact go _ _ rfl (fun z => by rw [z, hp] at ha; cases ha) ra (.inr ha)
theorem has_law_figures : Has P w K mg base CX0 2 "_law_figures" ["_law_m", "_law_total", "_law_long"] spFigures := by
  refine has_of T.dLawFigures sc__law_figures (fun _ _ _ _ _ _ us hl => match us, hl with | [_, _, _], _ => rfl) (fun vs H Q E ⟨_, _, _, _, _, e, _⟩ => by rw [e]; rfl) fun f cdv A outer s H vs Q E hr h => ?_
  obtain ⟨p, ca, S, total, long, rfl, M, t1, t2, l1, l2, hS, k⟩ := h
  have G__law_draw := has_law_draw (P := P) (w := w) (base := base) T
  refine ⟨_, (pss_one (ps_ret (km_join K pe_str (pa_cons (pe_lc (own := [("_law_k", 3)]) (g := (gName 3)) (tt := tYes) rfl sc__law_figures.nd (pi_range1 rfl T.f_range (pa_cons (pe_op op_add pe_int (pe_has G__law_draw hr (pa_cons (pv 0) (pa_cons (pv 2) pa_nil)))) pa_nil)) (by exact blkOk_by (by kernel_rfl)) (fun _ _ _ _ _ => (pg_nm 3 sc__law_figures.nd)) (fun _ _ _ _ _ => pts_nil) (fun _ _ _ _ _ => (pe_ix ix_str pe_str (pe_has G__law_draw hr (pa_cons (pv 0) (pa_cons (pv 1) pa_nil))) (fun _ _ => rfl)))) pa_nil)))), ?_⟩
  refine ⟨rfl, .ref p, rfl, _, rfl, p, ca, S, long, rfl, M, l1, by omega, by omega, fun r H1 hr1 M1 o1 tx1 => ?_⟩
  refine ⟨1, (r : Nat), rfl, rfl, _, rfl, by omega, by omega, fun D hD => ?_⟩
  rw [show ((1 : Int) + (r : Nat)).toNat = 1 + r by omega]
  obtain ⟨np, nc⟩ := M1.off hD
  have M1' := M1.ow (q := D) (Ow.put (o := .lst [])) np nc
  have hDH : ∀ o, H D = some o → D = p := fun o z => by
    by_cases h : D = p
    · exact h
    · have := o1 _ _ h z
      rw [hD] at this
      cases this
  have txD : ∀ {H : Hp} {o : HO} {xs : List V}, H D = some (.lst xs) → Tx H (upd H D o) := fun {H o xs} h => tx_upd fun us z => by rw [h] at z; cases z
  refine lc_it (walk_range (lo := 0) (n := 1 + r)) (Pv := fun i H2 => ∃ l : List Nat, l.length = i ∧ (∀ c ∈ l, 48 ≤ c ∧ c < 48 + total) ∧ Mach p ca (S + 1 + i) H2 ∧ (∀ a o, a ≠ p → H a = some o → H2 a = some o) ∧ Tx H H2 ∧ H2 D = some (.lst (l.map fun c => V.str ⟨#[c]⟩)))
    ⟨[], rfl, fun c hc => absurd hc List.not_mem_nil, M1', fun a o n z => by
      have z1 := o1 _ _ n z
      rw [upd_ne (fun y => by rw [y, hD] at z1; cases z1)]
      exact z1, fun a xs z => by
      have z1 := tx1 _ _ z
      rw [upd_ne (fun y => by rw [y, hD] at z1; cases z1)]
      exact z1, upd_same⟩ (fun _ _ _ _ => trivial) ?_ ?_
  · rintro i x H2 H3 hi ⟨l, hl, hc, M2, o2, t2', hd⟩ ⟨rfl, rfl⟩
    refine ⟨?_, ?_⟩
    · show wipe ((wipe _ [3]).set 3 _) [3] = wipe _ [3]
      rw [wipe_set (by simp), wipe_two]
    · unfold tYes
      refine (if_pos rfl).mpr ?_
      refine ⟨.ref p, rfl, _, rfl, p, ca, S + 1 + i, total, rfl, M2, t1, by omega, by omega, fun j H4 hj M4 o4 t4 => ?_⟩
      have hcj : ∀ j : Nat, j < 6 → (sg "012345")[j]? = some (48 + j) := by decide +kernel
      refine ⟨"012345", (j : Nat), 48 + j, rfl, rfl, by decide, atI_nat' (hcj j (by omega)), ?_⟩
      have hd4 := o4 _ _ np.symm hd
      refine ⟨_, hd4, by rw [List.length_map, sizeLine_eq]; omega, l ++ [48 + j], by rw [List.length_append, hl]; rfl, fun c hc' => ?_, M4.ow (Ow.put) np nc, fun a o n z => ?_, (t2'.trans t4).trans (txD hd4), by rw [upd_same, List.map_append]; rfl⟩
      · rcases List.mem_append.mp hc' with h | h
        · exact hc c h
        · rw [List.mem_singleton.mp h]
          omega
      · have z1 := o4 _ _ n (o2 _ _ n z)
        rw [upd_ne (fun (y : a = D) => n (by rw [y] at z ⊢; exact hDH o z))]
        exact z1
  · rintro H2 ⟨l, hl, hc, M2, o2, t2', hd⟩
    have e : (l.map fun c => V.str ⟨#[c]⟩) = (l.map fun c => (⟨#[c]⟩ : Str)).map V.str := by rw [List.map_map]; rfl
    rw [e] at hd
    refine ⟨_, _, _, rfl, rfl, .inl (sq_of hd), ?_, ?_⟩
    · have h3 : Str.length (Str.ofString "") = 0 := by decide
      have hlen : ((l.map fun c => (⟨#[c]⟩ : Str)).map (·.length)).sum = l.length := by
        rw [List.map_map]
        clear hl hc hd e
        induction l with
        | nil => rfl
        | cons a l ih => rw [List.map_cons, List.sum_cons, ih, List.length_cons]; show 1 + _ = _; omega
      rw [hlen, h3]
      omega
    · have j := join_signs l
      have j2 : Txt.join (Str.ofString "") (l.map fun c => (⟨#[c]⟩ : Str)) = mk l := j
      rw [j2]
      exact k l H2 (by omega) (by omega) hc (M2.mono (by omega)) o2 t2'
end
end Stair
/-! ## StM3 -/
set_option Elab.async false
set_option linter.all false
set_option maxRecDepth 100000
set_option maxHeartbeats 1000000
namespace Stair
open PySem PySem.Spec PyProof.Rows L2 Evl
/-! # Expressions that draw -/
theorem Lx.refl (H : Hp) : Lx H H := ⟨fun _ _ h => h, Tx.refl H⟩
theorem Lx.trans {H H1 H2 : Hp} (a : Lx H H1) (b : Lx H1 H2) : Lx H H2 := ⟨fun x xs h => b.1 x xs (a.1 x xs h), a.2.trans b.2⟩
theorem Ex.lx {H H' : Hp} (e : Ex H H') : Lx H H' := ⟨fun a xs h => e a _ h, Ex.tx e⟩
theorem Mach.dict {p ca : Addr} {S : Nat} {H : Hp} (h : Mach p ca S H) : ∃ kvs, H p = some (.dK kvs) := by
  obtain ⟨ne, kvs, cells, left, spot, a, _⟩ := h
  exact ⟨kvs, a⟩
theorem Mach.lx {p ca : Addr} {S : Nat} {H H' : Hp} (h : Mach p ca S H) (o : Ow p H H') : Lx H H' := by
  obtain ⟨kvs, hp⟩ := h.dict
  exact ⟨fun a xs z => o _ _ (fun y => by rw [y, hp] at z; cases z) z, fun a xs z => o _ _ (fun y => by rw [y, hp] at z; cases z) z⟩
/-- a step of the machine -/
structure Step (p ca : Addr) (S S' : Nat) (H H' : Hp) : Prop where
  m : Mach p ca S' H'
  o : Ow p H H'
  l : Lx H H'
theorem Step.trans {p ca : Addr} {S S1 S2 : Nat} {H H1 H2 : Hp} (a : Step p ca S S1 H H1) (b : Step p ca S1 S2 H1 H2) : Step p ca S S2 H H2 := ⟨b.m, a.o.trans b.o, a.l.trans b.l⟩
theorem Step.pure {p ca : Addr} {S : Nat} {H H' : Hp} (h : Mach p ca S H) (e : Ex H H') : Step p ca S S H H' := ⟨h.ex' e, Ex.ow e, Ex.lx e⟩
def EvM (p ca : Addr) (c : Nat) (te : TE) (Γ : En) (R : PD → Prop) : Prop := ∀ σ H S, σ[0]? = some (some (.ref p)) → Mach p ca S H → S + c < 900000 → EOk H σ Γ → ∀ Q : VK, (∀ d v H', R d → Step p ca S (S + c) H H' → Dt H' v d → Q v H') → te σ H Q
section
variable {p ca : Addr} {c c1 c2 : Nat} {te ta tb : TE} {Γ : En} {R Ra Rb Rc : PD → Prop} {d : PD}
theorem em_pure (h : EvG te Γ d) : EvM p ca 0 te Γ (fun x => x = d) := fun σ H S h0 hM hS ok Q q => h σ H ok Q fun v H' e dv => q d v H' rfl (Step.pure hM e) dv
theorem EvM.imp (h : EvM p ca c te Γ R) (hi : ∀ d, R d → Ra d) : EvM p ca c te Γ Ra := fun σ H S h0 hM hS ok Q q => h σ H S h0 hM hS ok Q fun d v H' r => q d v H' (hi d r)
theorem EvM.more (h : EvM p ca c te Γ R) (hc : c ≤ c1) : EvM p ca c1 te Γ R := fun σ H S h0 hM hS ok Q q => h σ H S h0 hM (by omega) ok Q fun d v H' r st => q d v H' r ⟨st.m.mono (by omega), st.o, st.l⟩
theorem em_draw {tm : TE} {E : XK} {many : Nat} (h : EvG tm Γ (.int (many : Nat))) (h1 : 1 ≤ many) (h2 : many < 1073741824) : EvM p ca 1 (tCall spDraw [] E (tCons (tVar 0) (tCons tm tNil))) Γ (fun d => ∃ r : Nat, r < many ∧ d = .int (r : Nat)) := fun σ H S h0 hM hS ok Q q =>
  ⟨.ref p, h0, h σ H ok _ fun v H1 e1 d1 => by
    cases d1
    exact ⟨p, ca, S, many, rfl, hM.ex' e1, h1, h2, by omega, fun r H2 hr M2 o2 t2 => q _ _ H2 ⟨r, hr, rfl⟩ ((Step.pure hM e1).trans ⟨M2, o2, (hM.ex' e1).lx o2⟩) (.int _)⟩⟩
theorem em_ofL {ts : TE} {E : XK} {ds : List PD} (h : EvG ts Γ (.list ds)) (ht : tds ds = true) (h1 : 1 ≤ ds.length) (h2 : ds.length ≤ 1000) : EvM p ca 1 (tCall spOf [] E (tCons (tVar 0) (tCons ts tNil))) Γ (fun d => d ∈ ds) := fun σ H S h0 hM hS ok Q q =>
  ⟨.ref p, h0, h σ H ok _ fun v H1 e1 d1 => ⟨p, ca, S, v, ds, rfl, hM.ex' e1, .inr d1, ht, h1, h2, by omega, fun d u H2 hd du M2 o2 t2 => q d u H2 hd ((Step.pure hM e1).trans ⟨M2, o2, (hM.ex' e1).lx o2⟩) du⟩⟩
theorem em_figs {tm tl : TE} {E : XK} {total long : Nat} (h : EvG tm Γ (.int (total : Nat))) (hl : EvG tl Γ (.int (long : Nat))) (t1 : 1 ≤ total) (t2 : total ≤ 6) (l1 : 1 ≤ long) (l2 : long ≤ 10) :
    EvM p ca (1 + long) (tCall spFigures [] E (tCons (tVar 0) (tCons tm (tCons tl tNil)))) Γ (fun d => ∃ l : List Nat, 1 ≤ l.length ∧ l.length ≤ long ∧ (∀ c ∈ l, 48 ≤ c ∧ c < 48 + total) ∧ d = .str (mk l)) := fun σ H S h0 hM hS ok Q q =>
  ⟨.ref p, h0, h σ H ok _ fun v H1 e1 d1 => hl σ H1 (ok.mono e1) _ fun v2 H2 e2 d2 => by
    cases d1
    cases d2
    have e := e1.trans e2
    exact ⟨p, ca, S, total, long, rfl, hM.ex' e, t1, t2, l1, l2, by omega, fun l H3 x1 x2 x3 M3 o3 t3 => q _ _ H3 ⟨l, x1, x2, x3, rfl⟩ ((Step.pure hM e).trans ⟨by rw [← Nat.add_assoc]; exact M3, o3, (hM.ex' e).lx o3⟩) (.str _)⟩⟩
theorem em_op {r : L2.R2} {f : PD → PD → PD} (ha : EvM p ca c1 ta Γ Ra) (hb : EvM p ca c2 tb Γ Rb) (hr : ∀ d e, Ra d → Rb e → RG r d e (f d e)) : EvM p ca (c1 + c2) (tOp r ta tb) Γ (fun x => ∃ d e, Ra d ∧ Rb e ∧ x = f d e) := fun σ H S h0 hM hS ok Q q =>
  ha σ H S h0 hM (by omega) ok _ fun d x H1 r1 s1 d1 => hb σ H1 (S + c1) h0 s1.m (by omega) (ok.lx s1.l) _ fun e y H2 r2 s2 d2 => hr d e r1 r2 x y H2 (Dt.lx s2.l _ d1) d2 Q fun v H3 e3 d3 =>
    q _ v H3 ⟨d, e, r1, r2, rfl⟩ ((s1.trans (by rw [← Nat.add_assoc]; exact s2)).trans (Step.pure (by rw [← Nat.add_assoc]; exact s2.m) e3)) d3
theorem em_pair (ha : EvM p ca c1 ta Γ Ra) (hb : EvM p ca c2 tb Γ Rb) : EvM p ca (c1 + c2) (tTup (tCons ta (tCons tb tNil))) Γ (fun x => ∃ d e, Ra d ∧ Rb e ∧ x = .tuple [d, e]) := fun σ H S h0 hM hS ok Q q =>
  ha σ H S h0 hM (by omega) ok _ fun d x H1 r1 s1 d1 => hb σ H1 (S + c1) h0 s1.m (by omega) (ok.lx s1.l) _ fun e y H2 r2 s2 d2 => ⟨by show 2 ≤ sizeLine; decide, fun a hp =>
    q _ _ _ ⟨d, e, r1, r2, rfl⟩ ((s1.trans (by rw [← Nat.add_assoc]; exact s2)).trans (Step.pure (by rw [← Nat.add_assoc]; exact s2.m) (Ex.new hp))) (.tup upd_same (.cons ((Dt.lx s2.l _ d1).mono (Ex.new hp)) (.cons (d2.mono (Ex.new hp)) .nil)))⟩
theorem em_lst1 (ha : EvM p ca c ta Γ R) : EvM p ca c (tLst (tCons ta tNil)) Γ (fun x => ∃ d, R d ∧ x = .list [d]) := fun σ H S h0 hM hS ok Q q =>
  ha σ H S h0 hM hS ok _ fun d x H1 r1 s1 d1 => ⟨by show 1 ≤ sizeLine; decide, fun a hp => q _ _ _ ⟨d, r1, rfl⟩ (s1.trans (Step.pure s1.m (Ex.new hp))) (.lst upd_same (.cons (d1.mono (Ex.new hp)) .nil))⟩
theorem em_cb1 {r : List V → Hp → VK → Prop} {f : PD → PD} (ha : EvM p ca c ta Γ R) (hr : ∀ d, R d → CG r [d] (f d)) : EvM p ca c (tCB r (tCons ta tNil)) Γ (fun x => ∃ d, R d ∧ x = f d) := fun σ H S h0 hM hS ok Q q =>
  ha σ H S h0 hM hS ok _ fun d x H1 r1 s1 d1 => hr d r1 [x] H1 (.cons d1 .nil) Q fun v H2 e2 d2 => q _ v H2 ⟨d, r1, rfl⟩ (s1.trans (Step.pure s1.m e2)) d2
theorem sl_tupR {K : Kx} {ds : List PD} {lo hi : Option Int} : ∀ x H, Dt H x (.tuple ds) → ∀ Q : VK, (∀ v H', Ex H H' → Dt H' v (.tuple (cutP ds lo hi)) → Q v H') → rSlA K x lo hi H Q := fun x H hx Q q => by
  have e : EvG (tSl (rSlA K) (tVar 0) (match lo with | none => tNoPart | some i => tPart (tC (.int i))) (match hi with | none => tNoPart | some i => tPart (tC (.int i)))) [some (.tuple ds)] (.tuple (cutP ds lo hi)) :=
    eg_slT (eg_var rfl) (by cases lo with | none => exact eo_none | some i => exact eo_some eg_int) (by cases hi with | none => exact eo_none | some i => exact eo_some eg_int)
  have z := e [some x] H (.som hx .nil) Q q
  obtain ⟨v, hv, z⟩ := z
  cases hv
  cases lo with
  | none =>
    cases hi with
    | none => exact z
    | some j =>
      obtain ⟨j', hj, z⟩ := z
      cases hj
      exact z
  | some i =>
    obtain ⟨i', hi', z⟩ := z
    cases hi'
    cases hi with
    | none => exact z
    | some j =>
      obtain ⟨j', hj, z⟩ := z
      cases hj
      exact z
/-- some = te -/
theorem asg_m {i S : Nat} {σ : L2.St} {H : Hp} {D : Ends} {rest : TS} (h : EvM p ca c te Γ R) (h0 : σ[0]? = some (some (.ref p))) (hM : Mach p ca S H) (hS : S + c < 900000) (ok : EOk H σ Γ)
    (k : ∀ d v H', R d → Step p ca S (S + c) H H' → Dt H' v d → rest D (σ.set i (some v)) H') : tSeq (tAsg te (gName i)) rest D σ H := h σ H S h0 hM hS ok _ fun d v H' r s dv => k d v H' r s dv
end
end Stair
/-! ## StM4 -/
set_option Elab.async false
set_option linter.all false
set_option maxRecDepth 100000
set_option maxHeartbeats 1000000
namespace Stair
open PySem PySem.Spec PyProof.Rows L2 Evl
theorem EOk.length {H : Hp} : ∀ {σ : L2.St} {Γ : En}, EOk H σ Γ → σ.length = Γ.length
  | _, _, .nil => rfl
  | _, _, .non t => congrArg (· + 1) t.length
  | _, _, .som _ t => congrArg (· + 1) t.length
theorem wipe_length (σ : L2.St) : ∀ vs : List Nat, (L2.wipe σ vs).length = σ.length
  | [] => rfl
  | v :: vs => by
    show ((L2.wipe σ vs).set v none).length = _
    rw [List.length_set, wipe_length σ vs]
section
variable {p ca : Addr} {c : Nat} {te : TE} {Γ : En}
/-- [one for one in l if draw(3) > 0] -/
theorem em_filter {K : Kx} {E : XK} {xs : List Str} (h : EvG te Γ (namesD xs)) (hl : xs.length ≤ 100) (h7 : 7 < Γ.length) : EvM p ca xs.length (tLc (iTup K te) (gName 7) (tTest (tOp (rI0 fun i j => .bl (decide (j < i))) (tCall spDraw [] E (tCons (tVar 0) (tCons (tC (.int 3)) tNil))) (tC (.int 0)))) (tVar 7) [7]) Γ
    (fun d => ∃ l : List Str, (∀ a ∈ l, a ∈ xs) ∧ l.length ≤ xs.length ∧ d = .list (l.map .str)) := fun σ H S h0 hM hS ok Q q => h σ H ok _ fun v H1 e1 d1 => by
  cases d1 with | tup ha ra =>
    rename_i a us
    have e := ra.strs
    subst e
    refine ⟨a, rfl, ⟨_, st_of ha⟩, fun D hD => ?_⟩
    have M1 := hM.ex' e1
    obtain ⟨np, nc⟩ := M1.off hD
    have hDH : H D = none := by
      cases z : H D with
      | none => rfl
      | some o => rw [e1 _ _ z] at hD; cases hD
    have hlu : (xs.map V.str).length = xs.length := List.length_map _
    refine lc_it (hlu ▸ (walk_tup (K := K) (a := a) (xs := xs.map V.str))) (Pv := fun i H2 => ∃ l : List Str, (∀ a ∈ l, a ∈ xs) ∧ l.length ≤ i ∧ Mach p ca (S + i) H2 ∧ Ow p H H2 ∧ H2 D = some (.lst (l.map V.str)) ∧ H2 a = some (.tup (xs.map V.str)))
      ⟨[], fun _ h => absurd h List.not_mem_nil, Nat.le_refl _, M1.ow Ow.put np nc, Ex.ow (e1.trans (Ex.new hD)), upd_same, Ex.new hD _ _ ha⟩ (fun i H2 _ ⟨_, _, _, _, _, _, z⟩ => st_of z) ?_ ?_
    · rintro i x H2 H3 hi ⟨l, l1, l2, M2, o2, hd, ha2⟩ ⟨rfl, hx⟩
      have hx' : ∃ y, xs[i]? = some y ∧ x = .str y := by
        rw [List.getElem?_map] at hx
        obtain ⟨y, hy, e⟩ := Option.map_eq_some_iff.mp hx
        exact ⟨y, hy, e.symm⟩
      obtain ⟨y, hy, rfl⟩ := hx'
      have hs0 : ((wipe σ [7]).set 7 (some (V.str y)))[0]? = some (some (.ref p)) := by rw [List.getElem?_set_ne (by decide), L2.wipe_out (by decide)]; exact h0
      refine ⟨?_, ?_⟩
      · show wipe ((wipe σ [7]).set 7 _) [7] = wipe σ [7]
        rw [wipe_set (by simp), wipe_two]
      · refine ⟨.ref p, hs0, p, ca, S + i, 3, rfl, M2, by decide, by decide, by omega, fun r H4 hr M4 o4 t4 => ?_⟩
        have hd4 := o4 _ _ np.symm hd
        have ha4 := t4 _ _ ha2
        have nda : a ≠ D := fun z => by rw [z, hD] at ha; cases ha
        refine ⟨(r : Nat), 0, rfl, rfl, _, rfl, ?_⟩
        refine ite2 (fun hb => ?_) (fun hb => ?_)
        · refine ⟨.str y, ?_, l.map V.str, hd4, by rw [List.length_map, sizeLine_eq]; omega, l ++ [y], fun b hb => ?_, by rw [List.length_append]; simp; omega, M4.ow Ow.put np nc, fun b o n z => ?_, by rw [upd_same, List.map_append]; rfl, by rw [upd_ne nda]; exact ha4⟩
          · rw [List.getElem?_set_self (by rw [wipe_length, ok.length]; exact h7)]
          · rcases List.mem_append.mp hb with hb | hb
            · exact l1 b hb
            · rw [List.mem_singleton.mp hb]
              exact List.mem_of_getElem? hy
          · rw [upd_ne (fun w => by rw [w, hDH] at z; cases z)]
            exact o4 _ _ n (o2 _ _ n z)
        · exact ⟨l, l1, by omega, M4, o2.trans o4, hd4, ha4⟩
    · rintro H2 ⟨l, l1, l2, M2, o2, hd, ha2⟩
      exact q _ _ H2 ⟨l, l1, l2, rfl⟩ ⟨M2, o2, hM.lx o2⟩ (.lst hd (dts_strs _))
/-- tuple(sorted(set(te)))[:6] -/
theorem em_names {K : Kx} {w : World} {Pl : List Str → Prop} (h : EvM p ca c te Γ (fun d => ∃ l : List Str, Pl l ∧ d = .list (l.map .str))) (hl : ∀ l, Pl l → l.length ≤ 20) :
    EvM p ca c (tSl (rSlA K) (tCB (rTupleA K) (tCons (tCB (rSortedTx w) (tCons (tCB (rSetTx K w) (tCons te tNil)) tNil)) tNil)) tNoPart (tPart (tC (.int 6)))) Γ (fun d => ∃ l : List Str, Pl l ∧ d = namesD ((sortS l).take 6)) := fun σ H S h0 hM hS ok Q q =>
  h σ H S h0 hM hS ok _ fun d v H1 r s1 d1 => by
    obtain ⟨l, hp, rfl⟩ := r
    have hll := hl l hp
    have hsl := sortS_len l
    have e : EvG (tSl (rSlA K) (tCB (rTupleA K) (tCons (tCB (rSortedTx w) (tCons (tCB (rSetTx K w) (tCons (tVar 0) tNil)) tNil)) tNil)) tNoPart (tPart (tC (.int 6)))) [some (.list (l.map .str))] (namesD ((sortS l).take 6)) :=
      (eg_slT (eg_cb cg_tupleL (ea_cons (eg_sorted (es_set (K := K) (eg_var rfl) (by omega)) (by omega)) ea_nil)) eo_none (eo_some eg_int)).is (by
        show PyData.tuple (cutP _ none (some ((6 : Nat) : Int))) = _
        rw [cutP_map, cutP_take]
        rfl)
    have z := e [some v] H1 (.som d1 .nil) Q fun u H2 e2 d2 => q _ u H2 ⟨l, hp, rfl⟩ (s1.trans (Step.pure s1.m e2)) d2
    obtain ⟨v', hv, z⟩ := z
    cases hv
    exact z
end
end Stair
/-! ## StM5 -/
set_option Elab.async false
set_option linter.all false
set_option maxRecDepth 100000
set_option maxHeartbeats 1000000
namespace Stair
open PySem PySem.Spec PyProof.Rows L2 Evl
theorem EOk.fill {H : Hp} {v : V} {d : PD} (hd : Dt H v d) : ∀ {σ : L2.St} {Γ : En} {i : Nat}, EOk H σ Γ → σ[i]? = some (some v) → EOk H σ (Γ.set i (some d))
  | _, _, i, .nil, h => by simp at h
  | _, _, 0, .non t, h => by
    cases Option.some.inj h
    exact .som hd t
  | _, _, 0, .som a t, h => by
    cases Option.some.inj h
    exact .som hd t
  | _, _, i + 1, .non t, h => .non (EOk.fill hd t h)
  | _, _, i + 1, .som a t, h => .som a (EOk.fill hd t h)
theorem em_opR {p ca : Addr} {c1 c2 : Nat} {ta tb : TE} {Γ : En} {Ra Rb : PD → Prop} {r : L2.R2} (Rc : PD → Prop) (ha : EvM p ca c1 ta Γ Ra) (hb : EvM p ca c2 tb Γ Rb) (hr : ∀ d e, Ra d → Rb e → ∃ f, RG r d e f ∧ Rc f) : EvM p ca (c1 + c2) (tOp r ta tb) Γ Rc := fun σ H S h0 hM hS ok Q q =>
  ha σ H S h0 hM (by omega) ok _ fun d x H1 r1 s1 d1 => hb σ H1 (S + c1) h0 s1.m (by omega) (ok.lx s1.l) _ fun e y H2 r2 s2 d2 => by
    obtain ⟨f, hf, hc⟩ := hr d e r1 r2
    exact hf x y H2 (Dt.lx s2.l _ d1) d2 Q fun v H3 e3 d3 => q _ v H3 hc ((s1.trans (by rw [← Nat.add_assoc]; exact s2)).trans (Step.pure (by rw [← Nat.add_assoc]; exact s2.m) e3)) d3
theorem EOk.forget {H : Hp} : ∀ {σ : L2.St} {Γ : En} {i : Nat}, EOk H σ Γ → EOk H σ (Γ.set i none)
  | _, _, _, .nil => .nil
  | _, _, 0, .non t => .non t
  | _, _, 0, .som a t => .non t
  | _, _, i + 1, .non t => .non (EOk.forget t)
  | _, _, i + 1, .som a t => .som a (EOk.forget t)
theorem set_same {α : Type} : ∀ {l : List α} {i : Nat} {x : α}, l[i]? = some x → l.set i x = l
  | [], i, x, h => by simp at h
  | a :: l, 0, x, h => by
    cases Option.some.inj h
    rfl
  | a :: l, i + 1, x, h => congrArg (a :: ·) (set_same (l := l) h)
/-- a drawn run -/
structure DrawnRun (many : Nat) (free : List Nat) (r : Nat × Str) : Prop where
  lo : 1 ≤ r.1
  hi : r.1 ≤ 8
  l1 : 1 ≤ (sg r.2).length
  l2 : (sg r.2).length ≤ 6
  all : ∀ c ∈ sg r.2, 48 ≤ c ∧ c < 48 + many
  out : ∃ j ∈ free, 48 + j ∈ sg r.2
def drawnD (r : Nat × Str) : PD := .tuple [.int (r.1 : Nat), .str r.2]
theorem td_drawn (rs : List (Nat × Str)) : tds (rs.map drawnD) = true := td_all fun d hd => by
  obtain ⟨a, _, rfl⟩ := List.mem_map.mp hd
  rfl
section
variable {p ca F R a9 : Addr}
theorem runs_loop {K : Kx} {E1 E2 E3 E4 E5 : XK} {Γ0 : En} {many : Nat} {free : List Nat} {D : Ends} {σ : L2.St} {H : Hp} {S : Nat} {xf : List V} {ns : List Str}
    (hG : ∀ d, some d ∈ Γ0 → td d = true) (g2 : Γ0[2]? = some (some (.int 8))) (g8 : Γ0[8]? = some (some (namesD ns))) (hns : ns.length = many) (hm1 : 1 ≤ many) (hm : many ≤ 6) (hf : 1 ≤ free.length) (hf2 : free.length ≤ 6) (hfl : ∀ j ∈ free, j < many)
    (hgl : Γ0.length = 14) (g10 : Γ0[10]? = some none) (g12 : Γ0[12]? = some none) (g13 : Γ0[13]? = some none)
    (h0 : σ[0]? = some (some (.ref p))) (h5 : σ[5]? = some (some (.ref F))) (h9 : σ[9]? = some (some (.ref a9))) (h11 : σ[11]? = some (some (.ref R))) (hM : Mach p ca S H) (hS : S < 500000) (ok : EOk H σ Γ0)
    (h9l : H a9 = some (.lst (free.map fun k => .int (k : Nat)))) (hR : H R = some (.lst [])) (hF : H F = some (.lst xf)) (n9 : a9 ≠ R) (nF : F ≠ R) (ncR : ca ≠ R)
    (k : ∀ (rs : List (Nat × Str)) (σ' : L2.St) (H' : Hp) (vs : List V), 1 ≤ rs.length → rs.length ≤ 3 → (∀ r ∈ rs, DrawnRun many free r) → σ'[0]? = some (some (.ref p)) → σ'[5]? = some (some (.ref F)) → σ'[11]? = some (some (.ref R)) → EOk H' σ' Γ0 → H' R = some (.lst vs) → Dts H' vs (rs.map drawnD) →
      H' F = some (.lst xf) → Mach p ca (S + 40) H' → (∀ a o, a ≠ p → a ≠ R → H a = some o → H' a = some o) → Tx H H' → D.nx σ' H') :
    tFor (iRng1 (tCons (tOp (rI0 fun i j => .int (i + j)) (tC (.int 1)) (tCall spDraw [] E1 (tCons (tVar 0) (tCons (tC (.int 3)) tNil)))) tNil)) (gName 10)
      (tSeq (tAsg (tOp (fun x y H Q => ∃ i j, x = .str i ∧ y = .str j ∧ i.length + j.length ≤ sizeLine ∧ Q (.str (i ++ j)) H) (tCall spFigures [] E2 (tCons (tVar 0) (tCons (tCB (rLenA K) (tCons (tVar 8) tNil)) (tCons (tC (.int 5)) tNil)))) (tOp rIxS (tC (.str "012345")) (tCall spOf [] E3 (tCons (tVar 0) (tCons (tVar 9) tNil))))) (gName 12))
        (tSeq (tAsg (tCall spDraw [] E4 (tCons (tVar 0) (tCons (tCB (rLenA K) (tCons (tVar 12) tNil)) tNil))) (gName 13))
          (tDrop (tBM K "list" rAppend (tVar 11) (tCons (tTup (tCons (tOp (rI0 fun i j => .int (i + j)) (tC (.int 1)) (tCall spDraw [] E5 (tCons (tVar 0) (tCons (tVar 2) tNil)))) (tCons (tOp (fun x y H Q => ∃ i j, x = .str i ∧ y = .str j ∧ i.length + j.length ≤ sizeLine ∧ Q (.str (i ++ j)) H) (tSl rSlS (tVar 12) (tPart (tVar 13)) tNoPart) (tSl rSlS (tVar 12) tNoPart (tPart (tVar 13)))) tNil))) tNil))))) D σ H := by
  have et : EvM p ca (0 + 1) (tOp (rI0 fun i j => .int (i + j)) (tC (.int 1)) (tCall spDraw [] E1 (tCons (tVar 0) (tCons (tC (.int 3)) tNil)))) Γ0 (fun d => ∃ r : Nat, r < 3 ∧ d = .int ((1 + r : Nat) : Int)) :=
    em_opR _ (em_pure eg_int) (em_draw (many := 3) eg_int (by decide) (by decide)) fun d e hd he => by
      obtain ⟨r, h3, rfl⟩ := he
      subst hd
      exact ⟨_, rg_add, r, h3, by rw [Int.natCast_add]; rfl⟩
  refine et σ H S h0 hM (by omega) ok _ fun d v H1 hr s1 d1 => ?_
  obtain ⟨r, hr3, rfl⟩ := hr
  cases d1
  refine ⟨_, rfl, by omega, by omega, ?_⟩
  rw [Int.toNat_natCast]
  have hR1 := s1.l.1 _ _ hR
  have hF1 := s1.l.1 _ _ hF
  have h91 := s1.l.1 _ _ h9l
  refine for_it (walk_range (lo := 0) (n := 1 + r)) (fun i σ' H' => ∃ (rs : List (Nat × Str)) (vs : List V), rs.length = i ∧ (∀ r ∈ rs, DrawnRun many free r) ∧ σ'[0]? = some (some (V.ref p)) ∧ σ'[5]? = some (some (.ref F)) ∧ σ'[9]? = some (some (.ref a9)) ∧ σ'[11]? = some (some (.ref R)) ∧ EOk H' σ' Γ0 ∧
      H' a9 = some (.lst (free.map fun k => .int (k : Nat))) ∧ H' R = some (.lst vs) ∧ Dts H' vs (rs.map drawnD) ∧ H' F = some (.lst xf) ∧ Mach p ca (S + 1 + 9 * i) H' ∧ (∀ a o, a ≠ p → a ≠ R → H a = some o → H' a = some o) ∧ Tx H H')
    ⟨[], [], rfl, fun _ h => absurd h List.not_mem_nil, h0, h5, h9, h11, ok.lx s1.l, h91, hR1, .nil, hF1, s1.m, fun a o n _ z => s1.o _ _ n z, s1.l.2⟩ (fun _ _ _ _ _ => trivial) ?_ ?_
  · rintro i x σ2 H2 H3 hi ⟨rs, vs, hrl, hdr, k0, k5, k9, k11, ok2, h92, hR2, dv2, hF2, M2, o2, t2⟩ ⟨rfl, rfl⟩
    -- slot 10
    have hσl : σ2.length = 14 := by rw [ok2.length, hgl]
    show tSeq _ _ _ (σ2.set 10 _) H3
    have m0 : (σ2.set 10 (some (V.int (0 + (i : Nat)))))[0]? = some (some (V.ref p)) := set_keep k0 (by decide)
    have m5 : (σ2.set 10 (some (V.int (0 + (i : Nat)))))[5]? = some (some (V.ref F)) := set_keep k5 (by decide)
    have m9 : (σ2.set 10 (some (V.int (0 + (i : Nat)))))[9]? = some (some (V.ref a9)) := set_keep k9 (by decide)
    have m11 : (σ2.set 10 (some (V.int (0 + (i : Nat)))))[11]? = some (some (V.ref R)) := set_keep k11 (by decide)
    have okA : EOk H3 (σ2.set 10 (some (V.int (0 + (i : Nat))))) Γ0 := by
      have z := ok2.drop (o := some (V.int (0 + (i : Nat)))) 10
      rw [show Γ0.set 10 none = Γ0 from set_same g10] at z
      exact z
    generalize σ2.set 10 (some (V.int (0 + (i : Nat)))) = σa at m0 m5 m9 m11 okA ⊢
    have ok9 : EOk H3 σa (Γ0.set 9 (some (natsL free))) := okA.fill (.lst h92 (dts_nats _)) m9
    have g8' : (Γ0.set 9 (some (natsL free)))[8]? = some (some (namesD ns)) := by rw [List.getElem?_set_ne (by decide)]; exact g8
    have g9' : (Γ0.set 9 (some (natsL free)))[9]? = some (some (natsL free)) := List.getElem?_set_self (by omega)
    have hsg : ∀ j : Nat, j < 6 → (sg "012345")[j]? = some (48 + j) := by decide +kernel
    -- the figures
    have e1 : EvM p ca (1 + 5 + (0 + 1)) (tOp (fun x y H Q => ∃ i j, x = .str i ∧ y = .str j ∧ i.length + j.length ≤ sizeLine ∧ Q (.str (i ++ j)) H) (tCall spFigures [] E2 (tCons (tVar 0) (tCons (tCB (rLenA K) (tCons (tVar 8) tNil)) (tCons (tC (.int 5)) tNil)))) (tOp rIxS (tC (.str "012345")) (tCall spOf [] E3 (tCons (tVar 0) (tCons (tVar 9) tNil))))) (Γ0.set 9 (some (natsL free)))
        (fun d => ∃ (l : List Nat) (j : Nat), 1 ≤ l.length ∧ l.length ≤ 5 ∧ (∀ c ∈ l, 48 ≤ c ∧ c < 48 + many) ∧ j ∈ free ∧ d = .str (mk (l ++ [48 + j]))) := by
      refine em_opR _ (em_figs (total := many) (long := 5) ((eg_cb (cg_lenT (K := K)) (ea_cons (eg_var g8') ea_nil)).is (by rw [List.length_map, hns])) eg_int hm1 hm (by decide) (by decide))
        (em_opR (fun d => ∃ j ∈ free, d = .str ⟨#[48 + j]⟩) (em_pure eg_str) (em_ofL (eg_var g9') (td_all fun d hd => by obtain ⟨a, _, rfl⟩ := List.mem_map.mp hd; rfl) (by rw [List.length_map]; omega) (by rw [List.length_map]; omega)) fun d e hd he => ?_) fun d e hd he => ?_
      · subst hd
        obtain ⟨j, hj, rfl⟩ := List.mem_map.mp he
        exact ⟨_, rg_ixS (by decide) (atI_nat' (hsg j (by have := hfl j hj; omega))), j, hj, rfl⟩
      · obtain ⟨l, x1, x2, x3, rfl⟩ := hd
        obtain ⟨j, hj, rfl⟩ := he
        refine ⟨_, rg_addS (by rw [mk_length, sizeLine_eq]; show l.length + 1 ≤ _; omega), l, j, x1, x2, x3, hj, ?_⟩
        rw [show (⟨#[48 + j]⟩ : Str) = mk [48 + j] from rfl, mk_append]
    refine asg_m e1 m0 M2 (by omega) ok9 fun d v12 H4 hd s4 d12 => ?_
    obtain ⟨l, j, x1, x2, x3, hj, rfl⟩ := hd
    cases d12
    have okB : EOk H4 (σa.set 12 (some (.str (mk (l ++ [48 + j]))))) (Γ0.set 12 (some (.str (mk (l ++ [48 + j]))))) := (okA.lx s4.l).set (.str _) 12
    have b0 : (σa.set 12 (some (V.str (mk (l ++ [48 + j])))))[0]? = some (some (V.ref p)) := set_keep m0 (by decide)
    have b5 : (σa.set 12 (some (V.str (mk (l ++ [48 + j])))))[5]? = some (some (V.ref F)) := set_keep m5 (by decide)
    have b9 : (σa.set 12 (some (V.str (mk (l ++ [48 + j])))))[9]? = some (some (V.ref a9)) := set_keep m9 (by decide)
    have b11 : (σa.set 12 (some (V.str (mk (l ++ [48 + j])))))[11]? = some (some (V.ref R)) := set_keep m11 (by decide)
    generalize σa.set 12 (some (V.str (mk (l ++ [48 + j])))) = σb at okB b0 b5 b9 b11 ⊢
    have g12b : (Γ0.set 12 (some (PyData.str (mk (l ++ [48 + j])))))[12]? = some (some (.str (mk (l ++ [48 + j])))) := List.getElem?_set_self (by omega)
    have hfl2 : (l ++ [48 + j]).length = l.length + 1 := by simp
    -- the step
    have e2 : EvM p ca 1 (tCall spDraw [] E4 (tCons (tVar 0) (tCons (tCB (rLenA K) (tCons (tVar 12) tNil)) tNil))) (Γ0.set 12 (some (.str (mk (l ++ [48 + j]))))) _ :=
      em_draw (many := l.length + 1) ((eg_cb (cg_lenS (K := K) (by rw [mk_length]; omega)) (ea_cons (eg_var g12b) ea_nil)).is (by rw [mk_length, hfl2])) (by omega) (by omega)
    refine asg_m e2 b0 s4.m (by omega) okB fun d v13 H5 hd s5 d13 => ?_
    obtain ⟨t, ht, rfl⟩ := hd
    cases d13
    have okC : EOk H5 (σb.set 13 (some (.int (t : Nat)))) ((Γ0.set 12 (some (.str (mk (l ++ [48 + j]))))).set 13 (some (.int (t : Nat)))) := (okB.lx s5.l).set (.int _) 13
    have c0 : (σb.set 13 (some (V.int (t : Nat))))[0]? = some (some (V.ref p)) := set_keep b0 (by decide)
    have c5 : (σb.set 13 (some (V.int (t : Nat))))[5]? = some (some (V.ref F)) := set_keep b5 (by decide)
    have c9 : (σb.set 13 (some (V.int (t : Nat))))[9]? = some (some (V.ref a9)) := set_keep b9 (by decide)
    have c11 : (σb.set 13 (some (V.int (t : Nat))))[11]? = some (some (V.ref R)) := set_keep b11 (by decide)
    generalize σb.set 13 (some (V.int (t : Nat))) = σc at okC c0 c5 c9 c11 ⊢
    have g12c : ((Γ0.set 12 (some (PyData.str (mk (l ++ [48 + j]))))).set 13 (some (.int (t : Nat))))[12]? = some (some (.str (mk (l ++ [48 + j])))) := by rw [List.getElem?_set_ne (by decide)]; exact g12b
    have g13c : ((Γ0.set 12 (some (PyData.str (mk (l ++ [48 + j]))))).set 13 (some (.int (t : Nat))))[13]? = some (some (.int (t : Nat))) := List.getElem?_set_self (by rw [List.length_set]; omega)
    have g2c : ((Γ0.set 12 (some (PyData.str (mk (l ++ [48 + j]))))).set 13 (some (.int (t : Nat))))[2]? = some (some (.int 8)) := by rw [List.getElem?_set_ne (by decide), List.getElem?_set_ne (by decide)]; exact g2
    -- the run
    have s35 := s4.trans s5
    have hR5 := s35.l.1 _ _ hR2
    have e3 : EvM p ca (0 + 1 + 0) (tTup (tCons (tOp (rI0 fun i j => .int (i + j)) (tC (.int 1)) (tCall spDraw [] E5 (tCons (tVar 0) (tCons (tVar 2) tNil)))) (tCons (tOp (fun x y H Q => ∃ i j, x = .str i ∧ y = .str j ∧ i.length + j.length ≤ sizeLine ∧ Q (.str (i ++ j)) H) (tSl rSlS (tVar 12) (tPart (tVar 13)) tNoPart) (tSl rSlS (tVar 12) tNoPart (tPart (tVar 13)))) tNil))) ((Γ0.set 12 (some (.str (mk (l ++ [48 + j]))))).set 13 (some (.int (t : Nat)))) _ :=
      em_pair (em_opR (fun d => ∃ r : Nat, r < 8 ∧ d = .int ((1 + r : Nat) : Int)) (em_pure eg_int) (em_draw (many := 8) (eg_var g2c) (by decide) (by decide)) fun d e hd he => by
        obtain ⟨r, h3, rfl⟩ := he
        subst hd
        exact ⟨_, rg_add, r, h3, by rw [Int.natCast_add]; rfl⟩)
        (em_pure (d := .str (mk ((l ++ [48 + j]).drop t ++ (l ++ [48 + j]).take t))) ((eg_op (rg_addS (by rw [cutS_drop, cutS_take, mk_length, mk_length, sg_mk, List.length_drop, List.length_take, sizeLine_eq]; omega)) (eg_slS (by rw [mk_length]; omega) (eg_var g12c) (eo_some (eg_var g13c)) eo_none) (eg_slS (by rw [mk_length]; omega) (eg_var g12c) eo_none (eo_some (eg_var g13c)))).is (by rw [cutS_drop, cutS_take, sg_mk, mk_append])))
    refine ⟨.ref R, c11, .inl ⟨rfl, _, sq_of hR5⟩, e3 σc H5 _ c0 s5.m (by omega) okC _ fun d v14 H6 hd s6 d14 => ?_⟩
    obtain ⟨_, _, ⟨cn, hcn, rfl⟩, rfl, rfl⟩ := hd
    have s36 := s35.trans s6
    have hR6 := s36.l.1 _ _ hR2
    have hF6 := s36.l.1 _ _ hF2
    have h96 := s36.l.1 _ _ h92
    have hvl : vs.length = i := by rw [dv2.length, List.length_map, hrl]
    have tx7 : Tx H6 (upd H6 R (.lst (vs ++ [v14]))) := tx_upd fun us z => by rw [hR6] at z; cases z
    obtain ⟨kvs6, hp6⟩ := s6.m.dict
    have npR : p ≠ R := fun z => by rw [z, hR6] at hp6; cases hp6
    refine ⟨R, vs, v14, rfl, rfl, hR6, by rw [hvl, sizeLine_eq]; omega, rs ++ [(1 + cn, mk ((l ++ [48 + j]).drop t ++ (l ++ [48 + j]).take t))], vs ++ [v14], by rw [List.length_append, hrl]; rfl, fun x hx => ?_, c0, c5, c9, c11, ?_, by rw [upd_ne n9]; exact h96, upd_same, ?_, by rw [upd_ne nF]; exact hF6, ?_, fun a o n1 n2 z => ?_, (t2.trans s36.l.2).trans tx7⟩
    · rcases List.mem_append.mp hx with hx | hx
      · exact hdr x hx
      · rw [List.mem_singleton.mp hx]
        have hmem : ∀ c, c ∈ (l ++ [48 + j]).drop t ++ (l ++ [48 + j]).take t ↔ c ∈ l ++ [48 + j] := fun c => by
          rw [List.mem_append, or_comm, ← List.mem_append, List.take_append_drop]
        have hlen : ((l ++ [48 + j]).drop t ++ (l ++ [48 + j]).take t).length = l.length + 1 := by
          rw [List.length_append, List.length_drop, List.length_take, hfl2]
          omega
        refine ⟨by show 1 ≤ 1 + cn; omega, by show 1 + cn ≤ 8; omega, ?_, ?_, fun c hc => ?_, j, hj, ?_⟩
        · show 1 ≤ (sg (mk _)).length
          rw [sg_mk, hlen]
          omega
        · show (sg (mk _)).length ≤ 6
          rw [sg_mk, hlen]
          omega
        · have hc' : c ∈ sg (mk ((l ++ [48 + j]).drop t ++ (l ++ [48 + j]).take t)) := hc
          rw [sg_mk] at hc'
          rcases List.mem_append.mp ((hmem c).mp hc') with h | h
          · exact x3 c h
          · rw [List.mem_singleton.mp h]
            have := hfl j hj
            omega
        · show 48 + j ∈ sg (mk _)
          rw [sg_mk, hmem]
          simp
    · have z := (((okC.lx s6.l).tx tx7 fun d hd => ?_).forget (i := 13)).forget (i := 12)
      · rw [List.set_set, List.set_comm _ _ (by decide), List.set_set, show Γ0.set 12 none = Γ0 from set_same g12, show Γ0.set 13 none = Γ0 from set_same g13] at z
        exact z
      · rcases List.mem_or_eq_of_mem_set hd with h | h
        · rcases List.mem_or_eq_of_mem_set h with h | h
          · exact hG d h
          · cases h
            rfl
        · cases h
          rfl
    · rw [List.map_append]
      exact (Dts.tx tx7 _ (td_drawn rs) (Dts.lx s36.l _ dv2)).append (.cons (Dt.tx tx7 _ rfl d14) .nil)
    · exact (s6.m.ow Ow.put npR ncR).mono (by omega)
    · rw [upd_ne n2]
      exact s36.o _ _ n1 (o2 _ _ n1 n2 z)
  · rintro σ2 H2 ⟨rs, vs, hrl, hdr, k0, k5, k9, k11, ok2, h92, hR2, dv2, hF2, M2, o2, t2⟩
    exact k rs σ2 H2 vs (by omega) (by omega) hdr k0 k5 k11 ok2 hR2 dv2 hF2 (M2.mono (by omega)) o2 t2
end
end Stair
/-! ## StP2 -/
set_option Elab.async false
set_option linter.all false
set_option maxRecDepth 100000
set_option maxHeartbeats 1000000
namespace Stair
open PySem PySem.Spec PyProof.Rows L2 Evl
/-! # Plain: the drawn names -/
def houseTabs : List (List Str) := [["g", "h", "i", "j"], ["ada", "b", "zed", "zz"], ["aa", "c", "d", "m"]]
def HousesOk (hs : List Str) : Prop := ∃ t ∈ houseTabs, ∃ r, r < 3 ∧ hs = t.take (1 + r)
def extras : List Str := ["eve", "n", "o"]
def extras2 : List Str := ["eve", "n", "pam"]
def allHs : List (List Str) := houseTabs.flatMap fun t => [t.take 1, t.take 2, t.take 3]
theorem HousesOk.mem {hs : List Str} (h : HousesOk hs) : hs ∈ allHs := by
  obtain ⟨t, ht, r, hr, rfl⟩ := h
  refine List.mem_flatMap.mpr ⟨t, ht, ?_⟩
  have : r = 0 ∨ r = 1 ∨ r = 2 := by omega
  rcases this with rfl | rfl | rfl <;> simp
def gw (a : Str) : Bool := decide (1 ≤ a.length) && decide (a.length ≤ 6) && a.cps.toList.all fun c => decide (c ∈ letters.cps.toList)
theorem gw_ok {a : Str} (h : gw a = true) : GoodWord a := by
  unfold gw at h
  rw [Bool.and_eq_true, Bool.and_eq_true] at h
  exact ⟨of_decide_eq_true h.1.1, of_decide_eq_true h.1.2, fun c hc => of_decide_eq_true (List.all_eq_true.mp h.2 c hc)⟩
def hsOk (hs : List Str) : Bool := hs.all (fun a => gw a && decide (a.cps.toList < ("zzz" : Str).cps.toList)) && decide (hs.Pairwise fun a b => a.cps.toList < b.cps.toList)
theorem allHs_ok : allHs.all hsOk = true := by decide +kernel
theorem extras_ok : (extras ++ extras2 ++ [("zzz" : Str)]).all gw = true := by decide +kernel
theorem HousesOk.ok {hs : List Str} (h : HousesOk hs) : hsOk hs = true := List.all_eq_true.mp allHs_ok _ h.mem
theorem HousesOk.word {hs : List Str} (h : HousesOk hs) : ∀ a ∈ hs, GoodWord a := fun a ha => by
  have z := h.ok
  unfold hsOk at z
  rw [Bool.and_eq_true] at z
  have y := List.all_eq_true.mp z.1 a ha
  rw [Bool.and_eq_true] at y
  exact gw_ok y.1
theorem HousesOk.zzz {hs : List Str} (h : HousesOk hs) : ∀ a ∈ hs, Str.lt a "zzz" := fun a ha => by
  have z := h.ok
  unfold hsOk at z
  rw [Bool.and_eq_true] at z
  have y := List.all_eq_true.mp z.1 a ha
  rw [Bool.and_eq_true] at y
  have y2 : decide (a.cps.toList < ("zzz" : Str).cps.toList) = true := y.2
  exact (of_decide_eq_true y2 : a.cps.toList < ("zzz" : Str).cps.toList)
theorem HousesOk.srt {hs : List Str} (h : HousesOk hs) : hs.Pairwise Str.lt := by
  have z := h.ok
  unfold hsOk at z
  rw [Bool.and_eq_true] at z
  have z2 : decide (hs.Pairwise fun a b => a.cps.toList < b.cps.toList) = true := z.2
  exact (of_decide_eq_true z2 : hs.Pairwise fun a b => a.cps.toList < b.cps.toList)
theorem extra_word {a : Str} (h : a ∈ extras ++ extras2 ++ [("zzz" : Str)]) : GoodWord a := gw_ok (List.all_eq_true.mp extras_ok _ h)
theorem HousesOk.nzzz {hs : List Str} (h : HousesOk hs) : ("zzz" : Str) ∉ hs := fun hm => List.lt_irrefl _ (h.zzz _ hm)
/-- the names that may come of the draws -/
def pickN (hs ns0 : List Str) : List Str := if ns0.filter (fun a => !decide (a ∈ hs)) = [] then ns0.take 5 ++ [("zzz" : Str)] else ns0
def NamesDrawn (hs ns : List Str) : Prop := ∃ (l : List Str) (x : Str), (∀ a ∈ l, a ∈ hs ++ extras) ∧ x ∈ extras2 ∧ ns = pickN hs ((sortS (l ++ [x])).take 6)
def freeOf (hs ns : List Str) : List Nat := (ns.zipIdx.filter fun q => !decide (q.1 ∈ hs)).map (·.2)
theorem freeOf_mem {hs ns : List Str} {j : Nat} : j ∈ freeOf hs ns ↔ ∃ a, ns[j]? = some a ∧ a ∉ hs := by
  unfold freeOf
  constructor
  · intro h
    obtain ⟨⟨a, k⟩, hq, rfl⟩ := List.mem_map.mp h
    obtain ⟨h1, h2⟩ := List.mem_filter.mp hq
    exact ⟨a, List.mem_zipIdx_iff_getElem?.mp h1, by simpa using h2⟩
  · rintro ⟨a, h1, h2⟩
    exact List.mem_map.mpr ⟨(a, j), List.mem_filter.mpr ⟨List.mem_zipIdx_iff_getElem?.mpr h1, by simpa using h2⟩, rfl⟩
theorem drawn_words {hs l : List Str} {x : Str} (h : HousesOk hs) (hl : ∀ a ∈ l, a ∈ hs ++ extras) (hx : x ∈ extras2) : ∀ a ∈ l ++ [x], GoodWord a := fun a ha => by
  rcases List.mem_append.mp ha with ha | ha
  · rcases List.mem_append.mp (hl a ha) with ha | ha
    · exact h.word a ha
    · exact extra_word (List.mem_append_left _ (List.mem_append_left _ ha))
  · rw [List.mem_singleton.mp ha]
    exact extra_word (List.mem_append_left _ (List.mem_append_right _ hx))
theorem pickN_free {hs ns0 : List Str} (h : HousesOk hs) : 1 ≤ (freeOf hs (pickN hs ns0)).length := by
  have key : ∃ (j : Nat) (a : Str), (pickN hs ns0)[j]? = some a ∧ a ∉ hs := by
    unfold pickN
    by_cases hf : ns0.filter (fun a => !decide (a ∈ hs)) = []
    · rw [if_pos hf]
      exact ⟨(ns0.take 5).length, "zzz", by simp, h.nzzz⟩
    · rw [if_neg hf]
      obtain ⟨a, ha⟩ := List.exists_mem_of_ne_nil _ hf
      obtain ⟨h1, h2⟩ := List.mem_filter.mp ha
      obtain ⟨j, hj⟩ := List.getElem?_of_mem h1
      exact ⟨j, a, hj, by simpa using h2⟩
  obtain ⟨j, a, h1, h2⟩ := key
  exact List.length_pos_of_mem (freeOf_mem.mpr ⟨a, h1, h2⟩)
theorem pickN_len {hs ns0 : List Str} (h6 : ns0.length ≤ 6) : (pickN hs ns0).length ≤ 6 := by
  unfold pickN
  split
  · rw [List.length_append, List.length_take]
    show _ + 1 ≤ 6
    omega
  · exact h6
theorem freeOf_len (hs ns : List Str) : (freeOf hs ns).length ≤ ns.length := by
  unfold freeOf
  rw [List.length_map]
  exact Nat.le_trans (List.length_filter_le _ _) (by rw [List.length_zipIdx]; exact Nat.le_refl _)
theorem freeOf_lt {hs ns : List Str} : ∀ j ∈ freeOf hs ns, j < ns.length := fun j hj => by
  obtain ⟨a, h1, _⟩ := freeOf_mem.mp hj
  exact (List.getElem?_eq_some_iff.mp h1).1
end Stair
/-! ## StM6 -/
set_option Elab.async false
set_option linter.all false
set_option maxRecDepth 100000
set_option maxHeartbeats 1000000
namespace Stair
open PySem PySem.Spec PyProof.Rows L2 Evl
/-! # The drawn net -/
structure DrawnDeal (hs : List Str) (d : Deal) : Prop where
  names : NamesDrawn hs d.names
  few : d.init.length ≤ 2
  init : ∀ r ∈ d.init, DrawnRun d.names.length (freeOf hs d.names) r
  last : DrawnRun d.names.length (freeOf hs d.names) (1, d.last)
structure DrawnNet (n : Net) : Prop where
  ok : HousesOk (n.map (·.1))
  deal : ∀ p ∈ n, DrawnDeal (n.map (·.1)) p.2
theorem ifasg_g {i : Nat} {b : Bool} {Γ : En} {σ : L2.St} {H : Hp} {D : Ends} {c : TT} {te : TE} {rest : TS} {d d' : PD} (hc : EtG c Γ b) (h : b = true → EvG te Γ d') (hd : Γ[i]? = some (some d)) (ok : EOk H σ Γ) (k : ∀ v H', Ex H H' → Dt H' v (if b = true then d' else d) → rest D (σ.set i (some v)) H') :
    tSeq (tIfS c (tAsg te (gName i)) tNext) rest D σ H := hc σ H ok _ fun H1 e1 => by
  cases b with
  | true => exact ifT (h rfl σ H1 (ok.mono e1) _ fun v H2 e2 d2 => k v H2 (e1.trans e2) d2)
  | false =>
    obtain ⟨v, hv, dv⟩ := ok.get hd
    have z := k v H1 e1 (dv.mono e1)
    rw [set_same hv] at z
    exact ifF z
theorem em_slT {p ca : Addr} {c1 c2 : Nat} {K : Kx} {ta tb : TE} {Γ : En} {Ra Rb : PD → Prop} (Rc : PD → Prop) (ha : EvM p ca c1 ta Γ Ra) (hb : EvM p ca c2 tb Γ Rb) (hr : ∀ d e, Ra d → Rb e → ∃ ds i, d = .tuple ds ∧ e = .int i ∧ Rc (.tuple (cutP ds none (some i)))) : EvM p ca (c1 + c2) (tSl (rSlA K) ta tNoPart (tPart tb)) Γ Rc := fun σ H S h0 hM hS ok Q q =>
  ha σ H S h0 hM (by omega) ok _ fun d x H1 r1 s1 d1 => hb σ H1 (S + c1) h0 s1.m (by omega) (ok.lx s1.l) _ fun e y H2 r2 s2 d2 => by
    obtain ⟨ds, i, rfl, rfl, hc⟩ := hr d e r1 r2
    cases d2
    exact ⟨i, rfl, sl_tupR x H2 (Dt.lx s2.l _ d1) Q fun v H3 e3 d3 => q _ v H3 hc ((s1.trans (by rw [← Nat.add_assoc]; exact s2)).trans (Step.pure (by rw [← Nat.add_assoc]; exact s2.m) e3)) d3⟩
theorem housesOk_len {hs : List Str} (h : HousesOk hs) : 1 ≤ hs.length ∧ hs.length ≤ 3 := by
  obtain ⟨t, ht, r, hr, rfl⟩ := h
  have : t.length = 4 := by
    rcases List.mem_cons.mp ht with rfl | ht
    · rfl
    rcases List.mem_cons.mp ht with rfl | ht
    · rfl
    rcases List.mem_cons.mp ht with rfl | ht
    · rfl
    · cases ht
  rw [List.length_take]
  omega
def spNet : Sp := fun vs H Q _ => ∃ (p ca : Addr) (S : Nat), vs = [.ref p, .int 3, .int 8] ∧ Mach p ca S H ∧ S < 400000 ∧
  ∀ (n : Net) v H', DrawnNet n → Mach p ca (S + 200) H' → Dt H' v (netD n) → Ow p H H' → Tx H H' → Q v H'
section
variable {P : Program} {w : World} {K : Kx} {mg : Str → Option Value} {base : Heap} (T : Tp K mg)
include T
theorem has_law_net : Has P w K mg base CX0 3 "_law_net" ["_law_m", "_law_most", "_law_top"] spNet := by
  refine has_of T.dLawNet sc__law_net (fun _ _ _ _ _ _ us hl => match us, hl with | [_, _, _], _ => rfl) (fun vs H Q E ⟨_, _, _, e, _⟩ => by rw [e]; rfl) fun f cdv A outer s H vs Q E hr h => ?_
  obtain ⟨p, ca, S, rfl, M, hS, k⟩ := h
  have G__law_draw := has_law_draw (P := P) (w := w) (base := base) T
  have G__law_of := has_law_of (P := P) (w := w) (base := base) T
  have G__law_figures := has_law_figures (P := P) (w := w) (base := base) T
  have hu64 := hu_64 (X := (cxOf CX0 P w K mg base ["_law_m", "_law_most", "_law_top", "_law_some", "_law_houses", "_law_found", "_law_house", "_law_one", "_law_names", "_law_free", "_law_k", "_law_runs", "_law_figures_here", "_law_step"] "_law_net" (defScope sLawNet) f cdv A outer s H E).nox) hr
  refine ⟨_, (pss_cons (ps_st 3 sc__law_net.nd (pe_lst (pa_cons (pe_tup (pa_cons pe_str (pa_cons pe_str (pa_cons pe_str (pa_cons pe_str pa_nil))))) (pa_cons (pe_tup (pa_cons pe_str (pa_cons pe_str (pa_cons pe_str (pa_cons pe_str pa_nil))))) (pa_cons (pe_tup (pa_cons pe_str (pa_cons pe_str (pa_cons pe_str (pa_cons pe_str pa_nil))))) pa_nil))))) (pss_cons (ps_st 4 sc__law_net.nd (pe_slice (ksl_tup K) (pe_has G__law_of hr (pa_cons (pv 0) (pa_cons (pv 3) pa_nil))) po_none (po_some (pe_op op_add pe_int (pe_has G__law_draw hr (pa_cons (pv 0) (pa_cons (pv 1) pa_nil))))))) (pss_cons (ps_st 5 sc__law_net.nd (pe_lst pa_nil)) (pss_cons (ps_for PassesOwn.never rfl (kpi_tup K (pv 4)) (pg_nm 6 sc__law_net.nd) (pss_cons (ps_slc 3 (own := [("_law_one", 7)]) (g := (gName 7)) sc__law_net.nd (kpi_tup K (pe_op (kop_cat K) (pv 4) (pe_tup (pa_cons pe_str (pa_cons pe_str (pa_cons pe_str pa_nil)))))) (by exact blkOk_by (by kernel_rfl)) (fun _ _ _ _ _ => (pg_nm 7 sc__law_net.nd)) (fun _ _ _ _ _ => (pts_one (pt_cmpR op_gt (pe_has G__law_draw hr (pa_cons (pv 0) (pa_cons pe_int pa_nil))) pe_int (nomark _)))) (fun _ _ _ _ _ => (pv 7))) (pss_cons (ps_st 8 sc__law_net.nd (pe_slice (ksl_tup K) (kb_tuple T (pa_cons (kb_sorted T (pa_cons (kb_set T (pa_cons (pe_op op_cat (pv 3) (pe_lst (pa_cons (pe_has G__law_of hr (pa_cons (pv 0) (pa_cons (pe_lst (pa_cons pe_str (pa_cons pe_str (pa_cons pe_str pa_nil)))) pa_nil))) pa_nil))) pa_nil) w) pa_nil) w) pa_nil)) po_none (po_some pe_int))) (pss_cons (ps_if (pt_cmpR (kop_eqD K hu64) (pe_lc (own := [("_law_one", 7)]) (g := (gName 7)) rfl sc__law_net.nd (kpi_tup K (pv 8)) (by exact blkOk_by (by kernel_rfl)) (fun _ _ _ _ _ => (pg_nm 7 sc__law_net.nd)) (fun _ _ _ _ _ => (pts_one (pt_cmpR (kop_nin K) (pv 7) (pv 4) rfl))) (fun _ _ _ _ _ => (pv 7))) (pe_lst pa_nil) (nomark _)) (pss_one (ps_st 8 sc__law_net.nd (pe_op (kop_cat K) (pe_slice (ksl_tup K) (pv 8) po_none (po_some pe_int)) (pe_tup (pa_cons pe_str pa_nil))))) pss_nil) (pss_cons (ps_slc 9 (own := [("_law_k", 10), ("_law_one", 7)]) (g := (gTup K 2 (gCons (gName 10) (gCons (gName 7) gNil)))) sc__law_net.nd (pi_enumM false T.f_enumerate (pa_cons (pv 8) pa_nil)) (by exact blkOk_by (by kernel_rfl)) (fun _ _ _ _ _ => (kpg_tup K (pgs_cons (pg_nm 10 sc__law_net.nd) (pgs_cons (pg_nm 7 sc__law_net.nd) pgs_nil)))) (fun _ _ _ _ _ => (pts_one (pt_cmpR (kop_nin K) (pv 7) (pv 4) rfl))) (fun _ _ _ _ _ => (pv 10))) (pss_cons (ps_st 11 sc__law_net.nd (pe_lst pa_nil)) (pss_cons (ps_for PassesOwn.never rfl (pi_range1 rfl T.f_range (pa_cons (pe_op op_add pe_int (pe_has G__law_draw hr (pa_cons (pv 0) (pa_cons pe_int pa_nil)))) pa_nil)) (pg_nm 10 sc__law_net.nd) (pss_cons (ps_st 12 sc__law_net.nd (pe_op op_add_str (pe_has G__law_figures hr (pa_cons (pv 0) (pa_cons (kb_len T (pa_cons (pv 8) pa_nil)) (pa_cons pe_int pa_nil)))) (pe_ix ix_str pe_str (pe_has G__law_of hr (pa_cons (pv 0) (pa_cons (pv 9) pa_nil))) (fun _ _ => rfl)))) (pss_cons (ps_st 13 sc__law_net.nd (pe_has G__law_draw hr (pa_cons (pv 0) (pa_cons (kb_len T (pa_cons (pv 12) pa_nil)) pa_nil)))) (pss_one (ps_expr (km_append K (pv 11) (pa_cons (pe_tup (pa_cons (pe_op op_add pe_int (pe_has G__law_draw hr (pa_cons (pv 0) (pa_cons (pv 2) pa_nil)))) (pa_cons (pe_op op_add_str (pe_slice sl_str (pv 12) (po_some (pv 13)) po_none) (pe_slice sl_str (pv 12) po_none (po_some (pv 13)))) pa_nil))) pa_nil))))))) (pss_one (ps_expr (km_append K (pv 5) (pa_cons (pe_tup (pa_cons (pv 6) (pa_cons (pe_tup (pa_cons (pv 8) (pa_cons (kb_tuple T (pa_cons (pe_op op_cat (pe_slice (ksl_list K) (pv 11) po_none (po_some (pe_un un_neg pe_int))) (pe_lst (pa_cons (pe_tup (pa_cons pe_non (pa_cons (pe_ix (IxR.or (kix_tup K) (kix_list K)) (pe_ix (kix_list K) (pv 11) (pe_un un_neg pe_int) (fun _ _ => rfl)) pe_int (fun _ _ => rfl)) pa_nil))) pa_nil))) pa_nil)) pa_nil))) pa_nil))) pa_nil))))))))))) (pss_one (ps_ret (kb_tuple T (pa_cons (pv 5) pa_nil)))))))), ?_⟩
  have ok : EOk H (L2.start ["_law_m", "_law_most", "_law_top", "_law_some", "_law_houses", "_law_found", "_law_house", "_law_one", "_law_names", "_law_free", "_law_k", "_law_runs", "_law_figures_here", "_law_step"] [.ref p, .int 3, .int 8]) [none, some (.int 3), some (.int 8), none, none, none, none, none, none, none, none, none, none, none] :=
    .non (.som (.int _) (.som (.int _) (.non (.non (.non (.non (.non (.non (.non (.non (.non (.non (.non .nil)))))))))))))
  refine asg_g (d := .list (houseTabs.map namesD)) (eg_lst (ea_cons (eg_tup (ea_cons eg_str (ea_cons eg_str (ea_cons eg_str (ea_cons eg_str ea_nil)))) (Nat.le_of_ble_eq_true rfl)) (ea_cons (eg_tup (ea_cons eg_str (ea_cons eg_str (ea_cons eg_str (ea_cons eg_str ea_nil)))) (Nat.le_of_ble_eq_true rfl)) (ea_cons (eg_tup (ea_cons eg_str (ea_cons eg_str (ea_cons eg_str (ea_cons eg_str ea_nil)))) (Nat.le_of_ble_eq_true rfl)) ea_nil))) (Nat.le_of_ble_eq_true rfl)) ok fun v3 H1 e1 d3 => ?_
  have ok1 : EOk H1 ((L2.start ["_law_m", "_law_most", "_law_top", "_law_some", "_law_houses", "_law_found", "_law_house", "_law_one", "_law_names", "_law_free", "_law_k", "_law_runs", "_law_figures_here", "_law_step"] [.ref p, .int 3, .int 8]).set 3 (some v3)) [none, some (.int 3), some (.int 8), some (.list (houseTabs.map namesD)), none, none, none, none, none, none, none, none, none, none] := (ok.mono e1).set d3 3
  have M1 := M.ex' e1
  have eh : EvM p ca (1 + (0 + 1)) (tSl (rSlA K) (tCall spOf [] (fun _ _ _ => False) (tCons (tVar 0) (tCons (tVar 3) tNil))) tNoPart (tPart (tOp (rI0 fun i j => .int (i + j)) (tC (.int 1)) (tCall spDraw [] (fun _ _ _ => False) (tCons (tVar 0) (tCons (tVar 1) tNil)))))) [none, some (.int 3), some (.int 8), some (.list (houseTabs.map namesD)), none, none, none, none, none, none, none, none, none, none] (fun d => ∃ hs, HousesOk hs ∧ d = namesD hs) := by
    refine em_slT _ (em_ofL (eg_var rfl) (td_all fun d hd => by obtain ⟨a, _, rfl⟩ := List.mem_map.mp hd; exact td_names a) (by decide) (by decide)) (em_opR (fun d => ∃ r : Nat, r < 3 ∧ d = .int ((1 + r : Nat) : Int)) (em_pure eg_int) (em_draw (many := 3) (eg_var rfl) (by decide) (by decide)) fun d e hd he => ?_) fun d e hd he => ?_
    · obtain ⟨r, h3, rfl⟩ := he
      subst hd
      exact ⟨_, rg_add, r, h3, by rw [Int.natCast_add]; rfl⟩
    · obtain ⟨t, ht, rfl⟩ := List.mem_map.mp hd
      obtain ⟨r, h3, rfl⟩ := he
      exact ⟨_, _, rfl, rfl, t.take (1 + r), ⟨t, ht, r, h3, rfl⟩, by rw [cutP_map, cutP_take]; rfl⟩
  refine asg_m eh rfl M1 (by omega) ok1 fun d v4 H2 hd s2 d4 => ?_
  obtain ⟨hs, hok, rfl⟩ := hd
  refine ⟨Nat.zero_le _, fun F hF => ?_⟩
  have hl3 := housesOk_len hok
  obtain ⟨np, nc⟩ := s2.m.off hF
  have hFH : H F = none := by
    cases z : H F with
    | none => rfl
    | some o =>
      by_cases hFp : F = p
      · exact absurd hFp.symm np
      · have := s2.o _ _ hFp (e1 _ _ z)
        rw [hF] at this
        cases this
  cases d4 with | tup ha4 ra4 =>
    rename_i a4 us4
    have e4 := ra4.strs
    subst e4
    have M3 := s2.m.ow (q := F) (Ow.put (o := .lst [])) np nc
    have eF := Ex.new (o := .lst []) hF
    have o3 : Ow p H (upd H2 F (.lst [])) := ((Ex.ow e1).trans s2.o).trans (Ex.ow eF)
    have ok3 : EOk (upd H2 F (.lst [])) ((((L2.start ["_law_m", "_law_most", "_law_top", "_law_some", "_law_houses", "_law_found", "_law_house", "_law_one", "_law_names", "_law_free", "_law_k", "_law_runs", "_law_figures_here", "_law_step"] [.ref p, .int 3, .int 8]).set 3 (some v3)).set 4 (some (.ref a4))).set 5 (some (.ref F))) [none, some (.int 3), some (.int 8), none, some (namesD hs), none, none, none, none, none, none, none, none, none] :=
      .non (.som (.int _) (.som (.int _) (.non (.som (.tup (eF _ _ ha4) (ra4.mono eF)) (.non (.non (.non (.non (.non (.non (.non (.non (.non .nil)))))))))))))
    have hlu : (hs.map V.str).length = hs.length := List.length_map _
    refine ⟨_, rfl, a4, rfl, ⟨_, st_of (eF _ _ ha4)⟩, for_it (hlu ▸ (walk_tup (K := K) (a := a4) (xs := hs.map V.str))) (fun i σ' H' => ∃ (found : Net) (vf : List V), found.map (·.1) = hs.take i ∧ (∀ q ∈ found, DrawnDeal hs q.2) ∧ σ'[0]? = some (some (V.ref p)) ∧ σ'[5]? = some (some (.ref F)) ∧ EOk H' σ' [none, some (.int 3), some (.int 8), none, some (namesD hs), none, none, none, none, none, none, none, none, none] ∧
        H' F = some (.lst vf) ∧ Dts H' vf (found.map houseD) ∧ H' a4 = some (.tup (hs.map V.str)) ∧ Mach p ca (S + 2 + 50 * i) H' ∧ Ow p H H' ∧ Tx H H')
      ⟨[], [], rfl, fun _ h => absurd h List.not_mem_nil, rfl, rfl, ok3, upd_same, .nil, eF _ _ ha4, M3, o3, (M.lx o3).2⟩ (fun i σ' H' _ ⟨_, _, _, _, _, _, _, _, _, z, _⟩ => st_of z) ?_ ?_⟩
    · rintro i x σ2 H4 H5 hi ⟨found, vf, hfm, hfd, k0, k5, ok4, hF4, df4, ha5, M4, o4, t4⟩ ⟨rfl, hx⟩
      have hx' : ∃ y, hs[i]? = some y ∧ x = .str y := by
        rw [List.getElem?_map] at hx
        obtain ⟨y, hy, e⟩ := Option.map_eq_some_iff.mp hx
        exact ⟨y, hy, e.symm⟩
      obtain ⟨house, hhi, rfl⟩ := hx'
      show tSeq _ _ _ (σ2.set 6 (some (.str house))) H5
      have a0 : (σ2.set 6 (some (V.str house)))[0]? = some (some (V.ref p)) := set_keep k0 (by decide)
      have a5 : (σ2.set 6 (some (V.str house)))[5]? = some (some (V.ref F)) := set_keep k5 (by decide)
      have okA : EOk H5 (σ2.set 6 (some (.str house))) [none, some (.int 3), some (.int 8), none, some (namesD hs), none, some (.str house), none, none, none, none, none, none, none] := ok4.set (.str _) 6
      generalize σ2.set 6 (some (V.str house)) = σa at a0 a5 okA ⊢
      -- some
      have ef : EvM p ca (hs ++ extras).length (tLc (iTup K (tOp (rCatA K) (tVar 4) (tTup (tCons (tC (.str "eve")) (tCons (tC (.str "n")) (tCons (tC (.str "o")) tNil)))))) (gName 7) (tTest (tOp (rI0 fun i j => .bl (decide (j < i))) (tCall spDraw [] (fun _ _ _ => False) (tCons (tVar 0) (tCons (tC (.int 3)) tNil))) (tC (.int 0)))) (tVar 7) [7]) [none, some (.int 3), some (.int 8), none, some (namesD hs), none, some (.str house), none, none, none, none, none, none, none] _ :=
        em_filter (xs := hs ++ extras) ((eg_op (rg_catT (K := K) (by rw [List.length_map]; show hs.length + 3 ≤ _; omega)) (eg_var rfl) (eg_tup (ea_cons eg_str (ea_cons eg_str (ea_cons eg_str ea_nil))) (Nat.le_of_ble_eq_true rfl))).is (by unfold namesD; rw [List.map_append]; rfl)) (by rw [List.length_append]; show hs.length + 3 ≤ _; omega) (Nat.lt_of_sub_pos (Nat.zero_lt_succ _))
      have hlx : (hs ++ extras).length = hs.length + 3 := List.length_append
      refine asg_m ef a0 M4 (by omega) okA fun d v3' H6 hd s6 d3' => ?_
      obtain ⟨l, hl1, hl2, rfl⟩ := hd
      have okB : EOk H6 (σa.set 3 (some v3')) [none, some (.int 3), some (.int 8), some (.list (l.map .str)), some (namesD hs), none, some (.str house), none, none, none, none, none, none, none] := (okA.lx s6.l).set d3' 3
      have b0 : (σa.set 3 (some v3'))[0]? = some (some (V.ref p)) := set_keep a0 (by decide)
      have b5 : (σa.set 3 (some v3'))[5]? = some (some (V.ref F)) := set_keep a5 (by decide)
      generalize σa.set 3 (some v3') = σb at okB b0 b5 ⊢
      -- names
      have eL : EvM p ca (0 + 1) (tOp rCat (tVar 3) (tLst (tCons (tCall spOf [] (fun _ _ _ => False) (tCons (tVar 0) (tCons (tLst (tCons (tC (.str "eve")) (tCons (tC (.str "n")) (tCons (tC (.str "pam")) tNil)))) tNil))) tNil))) [none, some (.int 3), some (.int 8), some (.list (l.map .str)), some (namesD hs), none, some (.str house), none, none, none, none, none, none, none] (fun d => ∃ l' : List Str, (∃ x ∈ extras2, l' = l ++ [x]) ∧ d = .list (l'.map .str)) := by
        refine em_opR _ (em_pure (eg_var (i := 3) rfl)) (em_lst1 (em_ofL (ds := extras2.map .str) (eg_lst (ea_cons eg_str (ea_cons eg_str (ea_cons eg_str ea_nil))) (Nat.le_of_ble_eq_true rfl)) (by decide) (by decide) (by decide))) fun d e hd he => ?_
        subst hd
        obtain ⟨y, hy, rfl⟩ := he
        obtain ⟨x, hx, rfl⟩ := List.mem_map.mp hy
        refine ⟨_, rg_cat (by rw [List.length_map]; show l.length + 1 ≤ _; omega), l ++ [x], ⟨x, hx, rfl⟩, by rw [List.map_append]; rfl⟩
      refine asg_m (em_names (w := w) (K := K) eL (fun l' ⟨x, _, hl'⟩ => by rw [hl', List.length_append]; show l.length + 1 ≤ 20; omega)) b0 s6.m (by omega) okB fun d v8 H7 hd s7 d8 => ?_
      obtain ⟨l', ⟨x, hx2, rfl⟩, rfl⟩ := hd
      generalize hns0 : (sortS (l ++ [x])).take 6 = ns0 at d8
      have hns06 : ns0.length ≤ 6 := by rw [← hns0, List.length_take]; omega
      have okC : EOk H7 (σb.set 8 (some v8)) [none, some (.int 3), some (.int 8), none, some (namesD hs), none, some (.str house), none, some (namesD ns0), none, none, none, none, none] := (((okB.forget (i := 3)).lx s7.l).set d8 8)
      have c0 : (σb.set 8 (some v8))[0]? = some (some (V.ref p)) := set_keep b0 (by decide)
      have c5 : (σb.set 8 (some v8))[5]? = some (some (V.ref F)) := set_keep b5 (by decide)
      have s57 := s6.trans s7
      generalize σb.set 8 (some v8) = σc at okC c0 c5 ⊢
      have hnw : ∀ a ∈ ns0, GoodWord a := fun a ha => drawn_words hok hl1 hx2 a (mem_sortS.mp (List.mem_of_mem_take (hns0 ▸ ha)))
      -- if all are houses
      have evt : EtG (tTest (tOp (rEqD K) (tLc (iTup K (tVar 8)) (gName 7) (tTest (tOp (rIn K true) (tVar 7) (tVar 4))) (tVar 7) [7]) (tLst tNil))) [none, some (.int 3), some (.int 8), none, some (namesD hs), none, some (.str house), none, some (namesD ns0), none, none, none, none, none] (decide (ns0.filter (fun a => !decide (a ∈ hs)) = [])) :=
        (et_test (eg_op (rg_eqD (d := strsL (ns0.filter fun a => !decide (a ∈ hs))) (e := strsL []) (shp_strsL _ fun a ha => hnw a (List.mem_filter.mp ha).1).ok rfl) (eg_lcF (K := K) (l := ns0) (q := .str) (f := .str) (b := fun a => !decide (a ∈ hs)) (it_tup (eg_var rfl)) (by omega) fun a ha => ⟨_, gp_name, by simp, et_test (eg_op rg_ninT (eg_var rfl) (eg_var rfl)), fun _ => ⟨eg_var rfl, rfl⟩⟩) (eg_lst ea_nil (by decide)))).is (by rw [eqv_strsL])
      refine ifasg_g (d' := namesD (ns0.take 5 ++ [("zzz" : Str)])) evt (fun _ => (eg_op (rg_catT (K := K) (ds := (ns0.take 5).map .str) (es := [.str "zzz"]) (by rw [List.length_map, List.length_take]; show _ + 1 ≤ _; omega)) ((eg_slT (K := K) (eg_var (i := 8) rfl) eo_none (eo_some eg_int)).is (by show PyData.tuple (cutP _ none (some ((5 : Nat) : Int))) = _; rw [cutP_map, cutP_take])) (eg_tup (ea_cons eg_str ea_nil) (by decide))).is (by unfold namesD; rw [List.map_append]; rfl)) (d := namesD ns0) rfl okC fun v8 H8 e8 d8 => ?_
      have hpick : (if decide (ns0.filter (fun a => !decide (a ∈ hs)) = []) = true then namesD (ns0.take 5 ++ [("zzz" : Str)]) else namesD ns0) = namesD (pickN hs ns0) := by
        unfold pickN
        by_cases hf : ns0.filter (fun a => !decide (a ∈ hs)) = []
        · rw [if_pos hf, if_pos (decide_eq_true hf)]
        · rw [if_neg hf, if_neg (by rw [decide_eq_false hf]; exact Bool.false_ne_true)]
      rw [hpick] at d8
      have hnd : NamesDrawn hs (pickN hs ns0) := ⟨l, x, hl1, hx2, by rw [hns0]⟩
      have hp6 : (pickN hs ns0).length ≤ 6 := pickN_len hns06
      have hp1 := pickN_free (ns0 := ns0) hok
      have hfl := freeOf_len hs (pickN hs ns0)
      generalize pickN hs ns0 = ns at d8 hnd hp6 hp1 hfl
      have okD : EOk H8 (σc.set 8 (some v8)) [none, some (.int 3), some (.int 8), none, some (namesD hs), none, some (.str house), none, some (namesD ns), none, none, none, none, none] := (okC.mono e8).set d8 8
      have d0 : (σc.set 8 (some v8))[0]? = some (some (V.ref p)) := set_keep c0 (by decide)
      have d5 : (σc.set 8 (some v8))[5]? = some (some (V.ref F)) := set_keep c5 (by decide)
      have s58 := s57.trans (Step.pure s57.m e8)
      generalize σc.set 8 (some v8) = σd at okD d0 d5 ⊢
      -- free
      have evf : EvG (tLc (iEnumM false (tCons (tVar 8) tNil)) (gTup K 2 (gCons (gName 10) (gCons (gName 7) gNil))) (tTest (tOp (rIn K true) (tVar 7) (tVar 4))) (tVar 10) [10, 7]) [none, some (.int 3), some (.int 8), none, some (namesD hs), none, some (.str house), none, some (namesD ns), none, none, none, none, none] (natsL (freeOf hs ns)) :=
        (eg_lcF (K := K) (l := ns.zipIdx) (q := fun q => PyData.tuple [.int (q.2 : Nat), .str q.1]) (f := fun q => .int (q.2 : Nat)) (b := fun q => !decide (q.1 ∈ hs)) ((it_enum (k := false) (ds := ns.map .str) (ea_cons (eg_var (i := 8) rfl) ea_nil)).is (by rw [numbered_map])) (by rw [List.length_zipIdx]; omega) fun q hq => ⟨_, gp2, by simp, et_test (eg_op rg_ninT (eg_var rfl) (eg_var rfl)), fun _ => ⟨eg_var rfl, rfl⟩⟩).is (by unfold natsL freeOf; rw [List.map_map]; rfl)
      refine asg_g evf okD fun v9 H9 e9 d9 => ?_
      unfold natsL at d9
      cases d9 with | lst h9 r9 =>
        rename_i a9 us9
        have e9' : us9 = (freeOf hs ns).map fun k => V.int (k : Nat) := by
          have e := (show Dts H9 us9 (((freeOf hs ns).map fun k => ((k : Nat) : Int)).map PyData.int) by rw [List.map_map]; exact r9).ints
          rw [e, List.map_map]
          rfl
        subst e9'
        refine ⟨Nat.zero_le _, fun R hR => ?_⟩
        have s59 := s58.trans (Step.pure s58.m e9)
        obtain ⟨npR, ncR⟩ := s59.m.off hR
        have hF9 := s59.l.1 _ _ hF4
        have n9 : a9 ≠ R := fun z => by rw [z, hR] at h9; cases h9
        have nF : F ≠ R := fun z => by rw [z, hR] at hF9; cases hF9
        have eR := Ex.new (o := .lst []) hR
        have MR := s59.m.ex' eR
        have okE : EOk (upd H9 R (.lst [])) ((σd.set 9 (some (.ref a9))).set 11 (some (.ref R))) [none, some (.int 3), some (.int 8), none, some (namesD hs), none, some (.str house), none, some (namesD ns), none, none, none, none, none] := ((okD.mono (e9.trans eR)).drop 9).drop 11
        have f0 : ((σd.set 9 (some (V.ref a9))).set 11 (some (.ref R)))[0]? = some (some (V.ref p)) := set_keep (set_keep d0 (by decide)) (by decide)
        have f5 : ((σd.set 9 (some (V.ref a9))).set 11 (some (.ref R)))[5]? = some (some (V.ref F)) := set_keep (set_keep d5 (by decide)) (by decide)
        have hdl : σd.length = 14 := okD.length
        have f9 : ((σd.set 9 (some (V.ref a9))).set 11 (some (.ref R)))[9]? = some (some (V.ref a9)) := set_keep (List.getElem?_set_self (by omega)) (by decide)
        have f11 : ((σd.set 9 (some (V.ref a9))).set 11 (some (.ref R)))[11]? = some (some (V.ref R)) := List.getElem?_set_self (by rw [List.length_set]; omega)
        show tSeq _ _ _ ((σd.set 9 (some (.ref a9))).set 11 (some (.ref R))) (upd H9 R (.lst []))
        generalize (σd.set 9 (some (V.ref a9))).set 11 (some (.ref R)) = σe at okE f0 f5 f9 f11 ⊢
        refine runs_loop (p := p) (ca := ca) (F := F) (R := R) (a9 := a9) (K := K) (Γ0 := [none, some (.int 3), some (.int 8), none, some (namesD hs), none, some (.str house), none, some (namesD ns), none, none, none, none, none]) (many := ns.length) (free := freeOf hs ns) (xf := vf) (ns := ns) ?_ rfl rfl rfl (by omega) hp6 hp1 (by omega) freeOf_lt rfl rfl rfl rfl f0 f5 f9 f11 MR (by omega) okE (eR _ _ h9) upd_same (eR _ _ hF9) n9 nF ncR fun rs σf Hf vs hr1 hr3 hdr g0 g5 g11 okF hRf dRf hFf Mf of tf => ?_
        · intro d hd
          simp at hd
          rcases hd with rfl | rfl | rfl | rfl | rfl <;> first | rfl | exact td_names _
        · obtain ⟨lr, hlr⟩ : ∃ lr, rs.getLast? = some lr := by
            cases h : rs.getLast? with
            | none => rw [List.getLast?_eq_none_iff] at h; rw [h] at hr1; exact absurd hr1 (by decide)
            | some lr => exact ⟨lr, rfl⟩
          have okG := okF.fill (i := 11) (.lst hRf dRf) g11
          have hdl2 : (⟨ns, rs.dropLast, lr.2⟩ : Deal).runs.map runD = rs.dropLast.map drawnD ++ [.tuple [.none, .str lr.2]] := by
            unfold Deal.runs
            rw [List.map_append, List.map_map]
            rfl
          have evh : EvG (tTup (tCons (tVar 6) (tCons (tTup (tCons (tVar 8) (tCons (tCB (rTupleA K) (tCons (tOp rCat (tSl (rSlL K) (tVar 11) tNoPart (tPart (tUn (rU fun i => .int (-i)) (tC (.int 1))))) (tLst (tCons (tTup (tCons (tC .non) (tCons (tOp (fun x y H Q => rIxT K x y H Q ∨ rIxL K x y H Q) (tOp (rIxL K) (tVar 11) (tUn (rU fun i => .int (-i)) (tC (.int 1)))) (tC (.int 1))) tNil))) tNil))) tNil)) tNil))) tNil))) ([none, some (.int 3), some (.int 8), none, some (namesD hs), none, some (.str house), none, some (namesD ns), none, none, none, none, none].set 11 (some (.list (rs.map drawnD)))) (houseD (house, ⟨ns, rs.dropLast, lr.2⟩)) := by
            refine (eg_tup (ea_cons (eg_var (i := 6) rfl) (ea_cons (eg_tup (ea_cons (eg_var (i := 8) rfl) (ea_cons (eg_cb (cg_tupleL (K := K)) (ea_cons (eg_op (rg_cat (ds := rs.dropLast.map drawnD) (es := [.tuple [.none, .str lr.2]]) (by rw [List.length_map, List.length_dropLast]; show _ + 1 ≤ _; omega)) ((eg_slL (K := K) (eg_var (i := 11) rfl) eo_none (eo_some (eg_un ug_neg eg_int))).is (by rw [cutP_init, List.map_dropLast])) (eg_lst (ea_cons (eg_tup (ea_cons eg_non (ea_cons (eg_op (d := drawnD lr) (e := .int 1) (f := .str lr.2) (fun x y H a b Q q => .inl (rg_ixT (K := K) (ds := [.int (lr.1 : Nat), .str lr.2]) (atI_nat' (n := 1) rfl) x y H a b Q q)) (eg_op (rg_ixL (atI_last (by rw [List.getLast?_map, hlr]; rfl))) (eg_var (i := 11) rfl) (eg_un ug_neg eg_int)) eg_int) ea_nil)) (Nat.le_of_ble_eq_true rfl)) ea_nil) (Nat.le_of_ble_eq_true rfl))) ea_nil)) ea_nil)) (Nat.le_of_ble_eq_true rfl)) ea_nil)) (Nat.le_of_ble_eq_true rfl)).is ?_
            unfold houseD dealD runsD
            rw [hdl2]
          refine ⟨.ref F, g5, .inl ⟨rfl, _, sq_of hFf⟩, evh σf Hf okG _ fun u H10 e10 d10 => ?_⟩
          have hF10 := e10 _ _ hFf
          have hvl : vf.length = found.length := by rw [df4.length, List.length_map]
          have hfl2 : found.length ≤ 3 := by
            have z := congrArg List.length hfm
            rw [List.length_map, List.length_take] at z
            omega
          have tx10 : Tx H10 (upd H10 F (.lst (vf ++ [u]))) := tx_upd fun us z => by rw [hF10] at z; cases z
          have Mg := Mf.ex' e10
          have t510 : Tx H5 H10 := ((s59.l.2.trans (Ex.tx eR)).trans tf).trans (Ex.tx e10)
          refine ⟨F, vf, u, rfl, rfl, hF10, by rw [hvl, sizeLine_eq]; omega, found ++ [(house, ⟨ns, rs.dropLast, lr.2⟩)], vf ++ [u], ?_, fun q hq => ?_, g0, g5, ?_, upd_same, ?_, (t510.trans tx10) _ _ ha5, (Mg.ow Ow.put np nc).mono (by omega), ?_, (t4.trans t510).trans tx10⟩
          · rw [List.map_append, hfm, List.take_add_one, hhi]
            rfl
          · rcases List.mem_append.mp hq with hq | hq
            · exact hfd q hq
            · rw [List.mem_singleton.mp hq]
              have hlm : lr ∈ rs := List.mem_of_getLast? hlr
              have hd := hdr lr hlm
              exact ⟨hnd, by show rs.dropLast.length ≤ 2; rw [List.length_dropLast]; omega, fun r hr' => hdr r (List.dropLast_subset _ hr'), ⟨Nat.le_refl 1, (by show 1 ≤ 8; decide), hd.l1, hd.l2, hd.all, hd.out⟩⟩
          · have z := ((okF.forget (i := 6)).forget (i := 8)).mono e10
            exact z.tx tx10 fun d hd => by
              simp at hd
              rcases hd with rfl | rfl | rfl <;> first | rfl | exact td_names _
          · rw [List.map_append]
            exact (Dts.tx (t510.trans tx10) _ (td_all fun d hd => by obtain ⟨a, _, rfl⟩ := List.mem_map.mp hd; exact td_house a) df4).append (.cons (Dt.tx tx10 _ (td_house _) d10) .nil)
          · intro a o n z
            have z5 := o4 _ _ n z
            have z9 := s59.o _ _ n z5
            have naR : a ≠ R := fun y => by rw [y, hR] at z9; cases z9
            have naF : a ≠ F := fun y => by rw [y, hFH] at z; cases z
            rw [upd_ne naF]
            exact e10 _ _ (of _ _ n naR (eR _ _ z9))
    · rintro σ2 H4 ⟨found, vf, hfm, hfd, k0, k5, ok4, hF4, df4, ha5, M4, o4, t4⟩
      rw [List.take_length] at hfm
      show tRet (tCB (rTupleA K) (tCons (tVar 5) tNil)) { nx := fun _ H' => Q .non H', rt := Q } σ2 H4
      refine ⟨.ref F, k5, cg_tupleL (K := K) [.ref F] H4 (.cons (.lst hF4 df4) .nil) _ fun u H6 e6 d6 => ?_⟩
      exact k found u H6 ⟨by rw [hfm]; exact hok, fun q hq => by rw [hfm]; exact hfd q hq⟩ ((M4.ex' e6).mono (by omega)) d6 (o4.trans (Ex.ow e6)) (t4.trans (Ex.tx e6))
end
end Stair
/-! ## StM7 -/
set_option Elab.async false
set_option linter.all false
set_option maxRecDepth 100000
set_option maxHeartbeats 1000000
namespace Stair
open PySem PySem.Spec PyProof.Rows L2 Evl
theorem eqv_intsL (a b : List Int) : PyData.eqv (.list (a.map .int)) (.list (b.map .int)) = decide (a = b) := eqvAll_iff PyData.int eqv_int a b
def spBegun (K : Kx) : Sp := fun vs H Q _ => ∃ (a : Addr) (ns : List Int), vs = [.ref a] ∧ SqL K H a (ns.map V.int) ∧ ns.length ≤ 63 ∧ ∀ p ca H', Ex H H' → H p = none → Mach p ca 0 H' → Q (.ref p) H'
section
variable {P : Program} {w : World} {K : Kx} {mg : Str → Option Value} {base : Heap} (T : Tp K mg)
include T
theorem has_law_begun : Has P w K mg base CX0 1 "_law_begun" ["_law_script"] (spBegun K) := by
  refine has_of T.dLawBegun sc__law_begun (fun _ _ _ _ _ _ us hl => match us, hl with | [_], _ => rfl) (fun vs H Q E ⟨_, _, e, _⟩ => by rw [e]; rfl) fun f cdv A outer s H vs Q E hr h => ?_
  obtain ⟨a, ns, rfl, hsq, hlen, k⟩ := h
  have hu64 := hu_64 (X := (cxOf CX0 P w K mg base ["_law_script", "_law_great", "_law_cell"] "_law_begun" (defScope sLawBegun) f cdv A outer s H E).nox) hr
  refine ⟨_, (pss_cons (ps_slc 1 (own := [("_law_cell", 2)]) (g := (gName 2)) sc__law_begun.nd (kpi_list K (pv 0)) (by exact blkOk_by (by kernel_rfl)) (fun _ _ _ _ _ => (pg_nm 2 sc__law_begun.nd)) (fun _ _ _ _ _ => (pts_one (pt_cmpR op_ge (pv 2) (pe_op op_pow pe_int pe_int) (nomark _)))) (fun _ _ _ _ _ => (pv 2))) (pss_one (ps_ret (pe_disp (pps_cons pe_str (pe_op op_cat (kb_list T (pa_cons (pv 0) pa_nil)) (pe_lst (pa_cons (kb_len T (pa_cons (pv 0) pa_nil)) pa_nil))) (pps_cons pe_str (pe_ifExp (pt_cmpR (kop_neD K hu64) (pv 1) (pe_lst pa_nil) (nomark _)) (pe_ix (kix_list K) (pv 1) pe_int (fun _ _ => rfl)) pe_int) (pps_cons pe_str pe_int pps_nil))) rfl rfl (by simp) (by decide))))), ?_⟩
  refine ⟨.ref a, rfl, a, rfl, ⟨_, hsq⟩, fun D hD => ?_⟩
  have hln : (ns.map V.int).length = ns.length := List.length_map _
  refine lc_it (walk_list (K := K) (a := a) (xs := ns.map V.int)) (Pv := fun i H2 => ∃ l : List Int, l.length ≤ i ∧ Ex H H2 ∧ H2 D = some (.lst (l.map V.int))) ⟨[], Nat.le_refl _, Ex.new hD, upd_same⟩ (fun i H2 _ ⟨_, _, e, _⟩ => Same.seq e hsq) ?_ ?_
  · rintro i x H2 H3 hi ⟨l, hl, e2, hd⟩ ⟨rfl, hx⟩
    have hx' : ∃ y, x = .int y := by
      rw [List.getElem?_map] at hx
      obtain ⟨y, hy, e⟩ := Option.map_eq_some_iff.mp hx
      exact ⟨y, e.symm⟩
    obtain ⟨y, rfl⟩ := hx'
    refine ⟨?_, ?_⟩
    · show wipe ((wipe _ [2]).set 2 _) [2] = wipe _ [2]
      rw [wipe_set (by simp), wipe_two]
    · refine ⟨_, rfl, 10, 18, rfl, rfl, ⟨by decide, by decide, by decide⟩, y, _, rfl, rfl, _, rfl, ?_⟩
      refine ite2 (fun hb => ?_) (fun hb => ?_)
      · exact ⟨_, rfl, _, hd, by rw [List.length_map, sizeLine_eq]; omega, l ++ [y], by rw [List.length_append]; simp; omega, e2.mut hD, by rw [upd_same, List.map_append]; rfl⟩
      · exact ⟨l, by omega, e2, hd⟩
  · rintro H2 ⟨l, hl, e2, hd⟩
    intro p hp
    have e3 := Ex.new (o := .dK []) hp
    have sq3 := Same.seq (e2.trans e3) hsq
    refine ⟨.ref a, rfl, a, _, rfl, .inl sq3, fun l1 h1 => ?_⟩
    have e4 := Ex.new (o := .lst (ns.map V.int)) h1
    have sq4 := Same.seq ((e2.trans e3).trans e4) hsq
    refine ⟨.ref a, rfl, .ref a, ns.length, rfl, .inl ⟨_, sq4, hln.symm⟩, by show 1 ≤ sizeLine; decide, fun l2 h2 => ?_⟩
    have e5 := Ex.new (o := .lst [.int (ns.length : Nat)]) h2
    refine ⟨l1, l2, ns.map V.int, [.int (ns.length : Nat)], rfl, rfl, e5 _ _ upd_same, upd_same, by rw [List.length_map, sizeLine_eq]; show _ + 1 ≤ _; omega, fun l3 h3 => ?_⟩
    have e6 := Ex.new (o := .lst (ns.map V.int ++ [.int (ns.length : Nat)])) h3
    have e36 := ((e3.trans e4).trans e5).trans e6
    have hc : upd (upd (upd (upd H2 p (.dK [])) l1 (.lst (ns.map V.int))) l2 (.lst [.int (ns.length : Nat)])) l3 (.lst (ns.map V.int ++ [.int (ns.length : Nat)])) l3 = some (.lst ((ns ++ [((ns.length : Nat) : Int)]).map V.int)) := by rw [upd_same, List.map_append]; rfl
    have hp6 := (e4.trans (e5.trans e6)) _ _ (upd_same (H := H2) (a := p) (o := .dK []))
    have hd6 := e36 _ _ hd
    generalize upd (upd (upd (upd H2 p (.dK [])) l1 (.lst (ns.map V.int))) l2 (.lst [.int (ns.length : Nat)])) l3 (.lst (ns.map V.int ++ [.int (ns.length : Nat)])) = H6 at e6 e36 hc hp6 hd6 ⊢
    have ok : EOk H6 [some (.ref a), some (.ref D), none] [none, some (.list (l.map .int)), none] := .non (.som (.lst hd6 (dts_ints _)) (.non .nil))
    have ev : ∃ z : Int, EvG (tIf (tTest (tOp (rNeD K) (tVar 1) (tLst tNil))) (tOp (rIxL K) (tVar 1) (tC (.int 0))) (tC (.int 0))) [none, some (.list (l.map .int)), none] (.int z) := by
      have shp : ∀ l : List Int, Shp 1 (.list (l.map .int)) := fun l => shp_lst fun d hd => by obtain ⟨k, _, rfl⟩ := List.mem_map.mp hd; exact shp_int
      have ht : EtG (tTest (tOp (rNeD K) (tVar 1) (tLst tNil))) [none, some (.list (l.map .int)), none] (!decide (l = [])) := (et_test (eg_op (rg_neD (shp l).ok (shp []).ok) (eg_var rfl) (eg_lst ea_nil (by decide)))).is (by rw [eqv_intsL])
      cases l with
      | nil => exact ⟨0, eg_if ht (fun z => by cases z) fun _ => eg_int⟩
      | cons x r => exact ⟨x, eg_if ht (fun _ => eg_op (rg_ixL (atI_nat' (n := 0) rfl)) (eg_var rfl) eg_int) fun z => by simp at z⟩
    obtain ⟨z, ev⟩ := ev
    refine ev _ H6 ok _ fun u H7 e7 d7 => ?_
    cases d7
    have hp7 := e7 _ _ hp6
    refine ⟨hp7, [(.inr "cells", .ref l3), (.inr "left", .int z), (.inr "spot", .int 0)], rfl, by show 3 ≤ 15; decide, ?_⟩
    have hpH : H p = none := by
      cases q : H p with
      | none => rfl
      | some o => rw [e2 _ _ q] at hp; cases hp
    have nl : l3 ≠ p := fun q => by
      have := e7 _ _ hc
      rw [q, hp7] at this
      cases this
    refine k p l3 _ (((e2.trans e36).trans e7).mut hpH) hpH ⟨nl, mergeK [] [(.inr "cells", .ref l3), (.inr "left", .int z), (.inr "spot", .int 0)], ns ++ [((ns.length : Nat) : Int)], z, 0, upd_same, Nat.le_trans (length_mergeK _ _) (by show 0 + 3 ≤ 3 + 0; decide), ?_, ?_, ?_, Nat.le_refl _, by rw [upd_ne nl]; exact e7 _ _ hc, by simp, by rw [List.length_append]; show _ + 1 ≤ _; omega⟩
    · show valV (putK (putK (putK [] (Sum.inr "cells" : Key) (.ref l3)) (Sum.inr "left") (.int z)) (Sum.inr "spot") (.int 0)) _ = _
      rw [valV_put, if_neg (by decide), valV_put, if_neg (by decide), valV_put, if_pos rfl]
    · show valV (putK (putK (putK [] (Sum.inr "cells" : Key) (.ref l3)) (Sum.inr "left") (.int z)) (Sum.inr "spot") (.int 0)) _ = _
      rw [valV_put, if_neg (by decide), valV_put, if_pos rfl]
    · show valV (putK (putK (putK [] (Sum.inr "cells" : Key) (.ref l3)) (Sum.inr "left") (.int z)) (Sum.inr "spot") (.int 0)) _ = _
      rw [valV_put, if_pos rfl]
      rfl
end
end Stair
/-! ## StL6 -/
set_option Elab.async false
set_option linter.all false
set_option maxRecDepth 100000
set_option maxHeartbeats 1000000
namespace Stair
open PySem PySem.Spec PyProof.Rows L2 Evl
/-- a TooGreat that tells m, and then q -/
def Told (Ce : Addr) (q : Int → Hp → Prop) : XK := fun cls d H' => cls = .ref Ce ∧ ∃ (dd : Addr) (m : Int), d = some dd ∧ H' dd = some (.xd [(("most" : Str), .int m)]) ∧ q m H'
/-- what _law_outcome makes of the lambda it got: [what it returns], or what a TooGreat tells -/
def TOut (Ce : Addr) : (XK → Hp → VK → Prop) → Hp → VK → Prop := fun tl H Q =>
  ∀ H1, Ex H H1 → ∀ (E' : XK) (Q' : VK), (∀ cls d H', Told Ce (fun m H' => Q (.int m) H') cls d H' → E' cls d H') → (∀ v H', (∀ l, H' l = none → Q (.ref l) (upd H' l (.lst [v]))) → Q' v H') → tl E' H1 Q'
theorem takes_len {X : Cx} {W : WX} (tk : Takes X W) : Takes X (fun cls d σ H => σ.length = X.N.length → W cls d σ H) := fun u s' ⟨a, B, sI, pins, σ, H, cls, d, e, I, nb, up, sky, na, os, ag, w⟩ =>
  tk u s' ⟨a, B, sI, pins, σ, H, cls, d, e, I, nb, up, sky, na, os, ag, w I.len⟩
section
variable {X : Cx} {Ce fe : Addr}
theorem outcome_gives {q : Str} {g : Addr} {cdg : Value} (Te : PySem.TgX.TgTxt X.prog X.K X.mg Ce fe) : LamX.GivesTo X ["_law_call", "_law_most", "_law_found", "e"] "_law_outcome" (defScope sLawOutcome) g cdg (defBody sLawOutcome) "_law_call" q (TOut Ce) := by
  intro f c' s H Q tl act hc h
  have S := sc__law_outcome
  refine ⟨_, pss_cons (ps_asg (pe_tup (pa_cons pe_non (pa_cons pe_non pa_nil))) (kpg_tup X.K (pgs_cons (pg_nm 1 S.nd) (pgs_cons (pg_nm 2 S.nd) pgs_nil)))) (pss_cons (ps_try_as (X := (cxOf C8.CX0 X.prog X.w X.K X.mg X.base ["_law_call", "_law_most", "_law_found", "e"] "_law_outcome" (defScope sLawOutcome) g cdg X.A X.stack s H C8.E0).nox) (i := 3) (c := .ref Ce) (Wout := fun _ _ _ _ => False)
    (tb := fun W => tAsg (fun σ H Q' => ∃ Ech : XK, (∀ cls d σ' H', Ech cls d H' → σ'.length = 4 → W cls d σ' H') ∧ σ[0]? = some (some (.ref f)) ∧ H c' = some (LamX.CodeO c' q) ∧ tl Ech H Q') (gName 2))
    (ts := fun a cls d => tAsg (L2.tMost Ce a cls d (tVar 3)) (gName 1)) rfl rfl S.nd rfl rfl ⟨rfl, by decide, .inl Te.gC⟩ LamX.takes0 (fun W pn xe tk _ => ?_) (fun a oe cls d pn hz hf => pss_one (ps_st 1 S.nd (L2.pe_most Te hz hf (pv 3)))))
    (pss_one (ps_ret (pe_ifExp (pt_cmpR op_isN (pv 1) pe_non (nomark _)) (pe_lst (pa_cons (pv 2) pa_nil)) (pv 1))))), ?_⟩
  · refine ⟨fun pins s' σ H' D I h' => ?_⟩
    obtain ⟨Ech, hW, h1, h2, h3⟩ := h'
    exact (pss_one (ps_st 2 S.nd (act _ pn xe Ech _ _ (takes_len tk) fun cls d σ' H' z hl => hW cls d σ' H' z hl))).run pins s' σ H' D I ⟨h1, h2, h3⟩
  · refine ⟨by show 2 ≤ sizeLine; decide, fun p hp => ?_⟩
    have e1 := Ex.new (o := .tup [.non, .non]) hp
    refine gp2 (K := X.K) (d := .none) (e := .none) (.ref p) _ (upd H p (.tup [.non, .non])) (.tup upd_same (.cons .non (.cons .non .nil))) _ fun xs px => ?_
    cases px with | cons a t => cases t with | cons b t =>
      cases t
      cases a
      cases b
      refine ⟨Told Ce fun m H' => Q (.int m) H', fun cls d σ' H' z hl => ?_, rfl, e1 _ _ hc, h _ e1 _ _ (fun _ _ _ z => z) fun v H' z => ?_⟩
      · obtain ⟨rfl, dd, m, rfl, hd, hq⟩ := z
        refine ⟨true, Te.te, fun _ a ha => ?_, fun z => by cases z⟩
        match σ', hl with
        | [o0, o1, o2, o3], _ => exact ⟨.ref a, rfl, rfl, rfl, dd, .int m, rfl, hd, .int m, rfl, rfl, _, rfl, _, rfl, hq⟩
      · exact ⟨.non, rfl, rfl, _, rfl, v, rfl, by show 1 ≤ sizeLine; decide, z⟩
end
end Stair
/-! ## StRep -/
set_option Elab.async false
set_option linter.all false
set_option maxRecDepth 100000
set_option maxHeartbeats 1000000
namespace Stair
open PySem PySem.Spec PyProof.Rows L2 Evl
/-! # repr of data; defs that are called with no repr under way -/
/-- of depth k at most, and shown by m signs at most -/
structure Sho (k m : Nat) (d : PD) : Prop where
  ok : d.showable = true
  nod : d.hasDict = false
  dep : d.depth ≤ k
  len : d.shown.length ≤ m
theorem Sho.mono {k m k' m' : Nat} {d : PD} (h : Sho k m d) (h1 : k ≤ k' := by decide) (h2 : m ≤ m' := by decide) : Sho k' m' d := ⟨h.ok, h.nod, Nat.le_trans h.dep h1, Nat.le_trans h.len h2⟩
theorem piled_le {m : Nat} : ∀ {ts : List Str}, (∀ t ∈ ts, t.length ≤ m) → piled ts ≤ ts.length * (m + 2)
  | [], _ => Nat.zero_le _
  | t :: ts, h => by
    have ih := piled_le (ts := ts) fun x hx => h x (List.mem_cons_of_mem _ hx)
    have ht := h t List.mem_cons_self
    show piled (t :: ts) ≤ (ts.length + 1) * (m + 2)
    rw [Nat.add_mul, Nat.one_mul]
    have e : piled (t :: ts) = t.length + 2 + piled ts := by simp [piled]
    omega
theorem tupleText_le {m : Nat} {ts : List Str} (h : ∀ t ∈ ts, t.length ≤ m) : (tupleText ts).length ≤ ts.length * (m + 2) + 5 := by
  unfold tupleText
  rw [strLen_append, strLen_append]
  have e1 : (("(" : Str)).length = 1 := rfl
  have e2 : ((if ts.length == 1 then ",)" else ")" : String) : Str).length ≤ 2 := by split <;> decide
  have e3 : (Str.join ", " ts).length ≤ ts.length * (m + 2) := by
    by_cases hn : ts = []
    · rw [hn]
      exact Nat.zero_le _
    · have a := join_length_add ts hn
      have b := piled_le h
      omega
  omega
theorem showableAll_of : ∀ {ds : List PD}, (∀ d ∈ ds, d.showable = true) → PyData.showableAll ds = true
  | [], _ => rfl
  | d :: ds, h => by
    show (d.showable && PyData.showableAll ds) = true
    rw [h d List.mem_cons_self, showableAll_of fun x hx => h x (List.mem_cons_of_mem _ hx)]
    rfl
theorem hasDictAll_of : ∀ {ds : List PD}, (∀ d ∈ ds, d.hasDict = false) → PyData.hasDictAll ds = false
  | [], _ => rfl
  | d :: ds, h => by
    show (d.hasDict || PyData.hasDictAll ds) = false
    rw [h d List.mem_cons_self, hasDictAll_of fun x hx => h x (List.mem_cons_of_mem _ hx)]
    rfl
theorem shownAll_map : ∀ ds : List PD, PyData.shownAll ds = ds.map PyData.shown
  | [] => rfl
  | d :: ds => by
    show d.shown :: PyData.shownAll ds = _
    rw [shownAll_map ds]
    rfl
theorem sho_tup {k m : Nat} {ds : List PD} (h : ∀ d ∈ ds, Sho k m d) : Sho (k + 1) (ds.length * (m + 2) + 5) (.tuple ds) := by
  refine ⟨showableAll_of fun d hd => (h d hd).ok, hasDictAll_of fun d hd => (h d hd).nod, Nat.succ_le_succ (depAll fun d hd => (h d hd).dep), ?_⟩
  have e : (PyData.tuple ds).shown = tupleText (PyData.shownAll ds) := by simp only [PyData.shown]
  rw [e, shownAll_map]
  have z := tupleText_le (m := m) (ts := ds.map PyData.shown) fun t ht => by
    obtain ⟨d, hd, rfl⟩ := List.mem_map.mp ht
    exact (h d hd).len
  rw [List.length_map] at z
  exact z
theorem sho_tupN {k m n : Nat} {ds : List PD} (h : ∀ d ∈ ds, Sho k m d) (hn : ds.length ≤ n) : Sho (k + 1) (n * (m + 2) + 5) (.tuple ds) := by
  have z := sho_tup h
  exact ⟨z.ok, z.nod, z.dep, Nat.le_trans z.len (Nat.add_le_add_right (Nat.mul_le_mul_right _ hn) _)⟩
theorem sho_none : Sho 0 40 .none := ⟨rfl, rfl, Nat.le_refl _, by simp only [PyData.shown]; decide⟩
theorem sho_nat {n : Nat} (h : n ≤ 10 ^ 31) : Sho 0 40 (.int (n : Nat)) := by
  have h2 : n.log2 < 120 := by
    by_cases h0 : n = 0
    · subst h0
      decide
    · refine (Nat.log2_lt h0).mpr (Nat.lt_of_le_of_lt h (by decide))
  refine ⟨?_, rfl, Nat.le_refl _, ?_⟩
  · have e : (PyData.int (n : Nat)).showable = decide ((n : Int).natAbs.log2 < 1920) := by simp only [PyData.showable]
    rw [e, decide_eq_true_iff]
    show n.log2 < 1920
    omega
  · simp only [PyData.shown]
    have z := int_text_length_le10 (a := (n : Nat)) (k := 32) (by decide) (by show n < 10 ^ 32; exact Nat.lt_of_le_of_lt h (by decide))
    have e : (Str.ofString (toString ((n : Nat) : Int))).length ≤ 33 := by rw [PySem.ofString_length]; exact z
    exact Nat.le_trans e (by decide)
theorem sho_str {x : Str} {n : Nat} (h : ∀ c ∈ x.cps.toList, c < 16 ^ 8) (hl : x.length ≤ n) : Sho 0 (10 * n + 2) (.str x) := by
  refine ⟨rfl, rfl, Nat.le_refl _, ?_⟩
  simp only [PyData.shown]
  exact Nat.le_trans (PySem.StrLaws.reprText_len x h) (by omega)
theorem sho_word {a : Str} (h : GoodWord a) : Sho 0 62 (.str a) := sho_str (n := 6) (fun c hc => Nat.lt_trans (letter_lt (h.all c hc)) (by decide)) h.hi
theorem sho_figs {many : Nat} {f : Str} (h : GoodFigs many f) (hm : many ≤ 10) : Sho 0 4002 (.str f) := sho_str (n := 400) (fun c hc => by
  have := (h.all c hc).2
  have e : (16 : Nat) ^ 8 = 4294967296 := by decide
  omega) h.hi
theorem sho_names {ns : List Str} (h : ∀ a ∈ ns, GoodWord a) (hl : ns.length ≤ 1000) : Sho 1 64005 (namesD ns) := sho_tupN (k := 0) (m := 62) (n := 1000) (fun d hd => by
  obtain ⟨a, ha, rfl⟩ := List.mem_map.mp hd
  exact sho_word (h a ha)) (by rw [List.length_map]; exact hl)
theorem sho_deal {x : Deal} (h : GoodDeal x) : Sho 4 1000000 (dealD x) := by
  have h6 := h.names.hi
  have hr : ∀ r ∈ x.runs, Sho 1 8013 (runD r) := fun r hr => by
    have g := h.figs r hr
    refine sho_tupN (k := 0) (m := 4002) (n := 2) (fun d hd => ?_) (Nat.le_refl _)
    rcases List.mem_cons.mp hd with rfl | hd
    · rcases List.mem_append.mp hr with hr | hr
      · obtain ⟨z, hz, rfl⟩ := List.mem_map.mp hr
        exact (sho_nat (Nat.le_trans (h.init z hz).2.1 (by decide))).mono
      · rw [List.mem_singleton.mp hr]
        exact sho_none.mono
    · rw [List.mem_singleton.mp hd]
      exact sho_figs g (by omega)
  have hrs : Sho 2 480905 (runsD x.runs) := sho_tupN (k := 1) (m := 8013) (n := 60) (fun d hd => by
    obtain ⟨r, hr2, rfl⟩ := List.mem_map.mp hd
    exact hr r hr2) (by rw [List.length_map, x.runs_length]; have := h.few; omega)
  have hns : Sho 1 64005 (namesD x.names) := sho_names h.names.word (by omega)
  exact (sho_tupN (k := 2) (m := 480905) (n := 2) (ds := [namesD x.names, runsD x.runs]) (fun d hd => by
    rcases List.mem_cons.mp hd with rfl | hd
    · exact hns.mono
    · rw [List.mem_singleton.mp hd]
      exact hrs) (Nat.le_refl _)).mono
theorem sho_nats {l : List Nat} (h : ∀ k ∈ l, k ≤ 10 ^ 31) (hl : l.length ≤ 1000) : Sho 1 64005 (.tuple (l.map fun k => .int (k : Nat))) := (sho_tupN (k := 0) (m := 40) (n := 1000) (fun d hd => by
  obtain ⟨a, ha, rfl⟩ := List.mem_map.mp hd
  exact sho_nat (h a ha)) (by rw [List.length_map]; exact hl)).mono
/-! ### the rule -/
def rReprD : List V → Hp → VK → Prop := fun xs H Q => ∃ (a : Addr) (d : PD), xs = [.ref a] ∧ Dt H (.ref a) d ∧ d.showable = true ∧ d.hasDict = false ∧ d.depth ≤ 64 ∧ d.shown.length ≤ sizeLine ∧ Q (.str d.shown) H
theorem call_repr {X : Cx} (hg : X.A.guards = some []) (hu : X.A.units + 65 < cLine) : CallR X (.builtin "repr") rReprD := by
  intro pins s σ H xs us Q I r h
  obtain ⟨a, d, rfl, hd, h1, h2, h3, h4, q⟩ := h
  cases r with | cons r1 rn =>
    cases rn
    rename_i u
    obtain rfl : u = Value.ref a := r1
    obtain ⟨as, rd⟩ := Dp.reads I d (.ref a) (.ref a) (Dt.dp d hd) rfl
    exact repr_of_reads' rd h1 (PyData.noDict_hsm h2) hg (by omega) (fun _ _ e => e) (fun h' u tk hk => ⟨.str d.shown, H, I.kept hk, ⟨_, rfl⟩, q⟩) h4
theorem pb_repr {X : Cx} {e : Expr} {es : List Expr} {ta : TA} {p pos : Pos} (T : Tp X.K X.mg) (hA : X.A.guards = some []) (hu : X.A.units + 65 < cLine) (ha : PA X (e :: es) ta) (hg : Gl X "repr" := by rfl) (he : starEach (e :: es) X.env = (false, eval e X.env) :: starEach es X.env := by rfl) (hpl : (backTo pos (starEach es X.env)).any (·.1) = false := by rfl) :
    PE X (.Call (.Name "repr" p) (e :: es) [] pos) (tCB rReprD ta) := pe_callB (call_repr hA hu) hg T.f_repr (by decide +kernel) ha (by decide) (by decide) he hpl
theorem cg_repr {k m : Nat} {ds : List PD} (h : Sho k m (.tuple ds)) (hk : k ≤ 64 := by decide) (hm : m ≤ 16777216 := by decide) : CG rReprD [.tuple ds] (.str (PyData.tuple ds).shown) := fun vs H r Q q => by
  cases r with | cons a t =>
    cases t
    cases a with | tup ha ra => exact ⟨_, _, rfl, .tup ha ra, h.ok, h.nod, Nat.le_trans h.dep hk, Nat.le_trans h.len (by rw [sizeLine_eq]; exact hm), q _ H (Ex.refl H) (.str _)⟩
/-! ### defs that want no repr under way -/
structure FnG (P : Program) (w : World) (K : Kx) (mg : Str → Option Value) (base : Heap) (CX : CXT) (k : Nat) (f : Addr) (fd : FuncData) (ps : List Str) (sp : Sp) : Prop where
  len : ∀ vs H Q E, sp vs H Q E → vs.length = ps.length
  run : ∀ (A : Around) (outer : List Env) (s : Shared) (H : Hp) (args : Args) (us : List Value) (vs : List V) (Q : VK) (E : XK), A.guards = some [] → Room k A → Env0 P w K mg base A outer s H → BindsTo s fd args (ps.zip us) → Vals vs us → sp vs H Q E →
    codeAny (model P w) A (.call (.ref f) args) (CR CX outer P w H s Q E) s
def HasG (P : Program) (w : World) (K : Kx) (mg : Str → Option Value) (base : Heap) (CX : CXT) (k : Nat) (x : Str) (ps : List Str) (sp : Sp) : Prop :=
  ∃ f fd, mg x = some (.ref f) ∧ PySem.W.keepIn K (.ref f) = true ∧ Binds K fd ps [] ∧ (∀ (s : Shared) (us : List Value), us.length = ps.length → BindsTo s fd ⟨us, []⟩ (ps.zip us)) ∧ FnG P w K mg base CX k f fd ps sp
theorem has_ofG {P : Program} {w : World} {K : Kx} {mg : Str → Option Value} {base : Heap} {k : Nat} {x : Str} {ps N : List Str} {sp : Sp} {st : Stmt} (D : ∃ f fd, FnP K x st f fd ∧ mg x = some (.ref f)) (S : FnScope N ps (defScope st)) (hb : ∀ (kV doc pm : Value) (an : Option Addr) (cdv ct : Value) (us : List Value), us.length = ps.length → bindArgs (PySem.W.fnOf x x (defArgs st) (defBody st) (defScope st) .none kV doc pm an cdv ct) ⟨us, []⟩ = pure (ps.zip us))
    (len : ∀ vs H Q E, sp vs H Q E → vs.length = ps.length)
    (hbody : ∀ (f : Addr) (cdv : Value) (fd : FuncData) (A : Around) (outer : List Env) (s : Shared) (H : Hp) (vs : List V) (Q : VK) (E : XK), mg x = some (.ref f) → fd.code = cdv → FnP K x st f fd → (∃ oc od osl, K.lookup f = some ⟨oc, od, .func fd, osl⟩) → A.guards = some [] → Room k (A.deeper (envOfC x (defScope st) s.heap.objs.size f cdv)) → sp vs H Q E →
      ∃ t, PSs (cxOf CX0 P w K mg base N x (defScope st) f cdv A outer s H E).nox (defBody st) t ∧ t { nx := fun _ H' => Q .non H', rt := Q } (L2.start N vs) H) : HasG P w K mg base CX0 (k + 1) x ps sp := by
  obtain ⟨f, fd, F, g⟩ := D
  have F0 := F
  obtain ⟨oc, od, dV, kV, doc, pm, an, cdv, ct, osl, rfl, lk, hcd, _, _⟩ := F.ex
  refine ⟨f, _, g, F.kp, F.bindsN hb, FunD.bindsA F hb, len, fun A outer s H args us vs Q E hA hr e0 hbs r h => ?_⟩
  refine LamX.run_ofS lk hcd S hr e0 hbs r (len _ _ _ _ h) fun hr' => ?_
  obtain ⟨t, a, b⟩ := hbody f cdv _ A outer s H vs Q E g rfl F0 ⟨_, _, _, lk⟩ hA hr' h
  exact ⟨t, a.nox, b⟩
theorem pe_hasG {X : Cx} {j k : Nat} {x : Str} {ps : List Str} {sp : Sp} {e : Expr} {es : List Expr} {ta : TA} {p pos : Pos} (h : HasG X.prog X.w X.K X.mg X.base CX0 j x ps sp) (hA : X.A.guards = some []) (hr : Room k X.A) (ha : PA X (e :: es) ta) (hj : j ≤ k := by decide) (hg : Gl X x := by rfl) (hdb : (x == ("__debug__" : Str)) = false := by decide)
    (he : starEach (e :: es) X.env = (false, eval e X.env) :: starEach es X.env := by rfl) (hpl : (backTo pos (starEach es X.env)).any (·.1) = false := by rfl) : PE X (.Call (.Name x p) (e :: es) [] pos) (tCall sp [] (fun _ _ _ => False) ta) := by
  obtain ⟨f, fd, g, kp, b, _, F⟩ := h
  refine ⟨fun pins s σ H Q I h => ?_⟩
  refine wpAny_Call_Name_kw (ld_glob I hg g ?_ hdb)
  refine PySem.W.callWith_K (h₀ := X.base) I.ok.mod.kin kp (thn (ha.run pos pins s σ H _ I h) fun us s1 hh => ?_) he hpl
  obtain ⟨vs, H1, I1, r, q⟩ := hh
  rw [List.append_nil] at q
  refine ⟨I1.kIn, ?_⟩
  have hl : us.length = ps.length := by rw [← r.length]; exact F.len _ _ _ _ q
  have bd := b s1 us I1.kIn (by rw [List.append_nil]; exact hl)
  rw [List.append_nil] at bd
  refine wpAny_call (codeAny_mono (F.run X.A X.stack s1 H1 ⟨us, []⟩ us vs Q _ hA (hr.mono hj) I1.env0 bd r q) fun rr s' hq => ?_)
  cases rr with
  | error e => exact (show False from hq).elim
  | ok fl =>
    cases fl with
    | ret u => exact I1.after hq
    | next => exact False.elim hq
    | brk => exact False.elim hq
    | cont => exact False.elim hq
end Stair
/-! ## StLam -/
set_option Elab.async false
set_option linter.all false
set_option maxRecDepth 100000
set_option maxHeartbeats 1000000
namespace Stair
open PySem PySem.Spec PyProof.Rows L2 Evl
/-! # lambdas handed to _law_outcome -/
/-- the def's code object has its table at Pt -/
structure LamT (K : Kx) (mg : Str → Option Value) (base : Heap) (x : Str) (Pt : Addr) : Prop where
  ok : ∀ (f : Addr) (oc : Value) (od : Option Addr) (osl : Array (Option Value)) (fd : FuncData), mg x = some (.ref f) → K.lookup f = some ⟨oc, od, .func fd, osl⟩ → ∃ c, fd.code = .ref c ∧ LamX.TabB base mg c Pt
theorem pe_outcome {X : Cx} {k : Nat} {Tb : List (Addr × Str)} {c Pt Ce fe : Addr} {params : Arguments} {body : Expr} {scope : Scope} {t : XK → TE} {p lpos pos : Pos} (T : Tp X.K X.mg) (Te : PySem.TgX.TgTxt X.prog X.K X.mg Ce fe) (TB : LamX.TabB X.base X.mg c Pt) (hcode : X.env.code = .ref c)
    (hmT : (Pt, X.env.qual ++ "<lambda>") ∈ Tb) (hu : ∀ p ∈ Tb, p.1 = Pt → p.2 = X.env.qual ++ "<lambda>") (hr : Room (k + 2) X.A) (L : LamX.LamS X.env.scope scope) (hdef : defaultsOf params X.env = ([], []))
    (hbind : ∀ (q : Str) (cl : List (Str × Addr)) (pm cv ctv : Value), bindArgs (PySem.W.kla_fn "<lambda>" q params body scope cl pm cv ctv) ⟨[], []⟩ = pure [])
    (hbody : ∀ (A : Around) (outer : List Env) (s : Shared) (H : Hp) (E : XK) (f c' : Addr), Room k (A.deeper (LamX.lamEnv X scope s.heap.objs.size f c')) → PE (LamX.lamCx X A outer s H E scope f c') body (t E)) (hg : Gl X "_law_outcome" := by rfl) :
    PE X (.Call (.Name "_law_outcome" p) [.Lambda params body scope lpos] [] pos) (LamX.tLam Tb (TOut Ce) t) := by
  obtain ⟨g, gd, F, hm⟩ := T.dLawOutcome
  have F0 := F
  obtain ⟨oc, od, dV, kV, doc, pm, an, cdv, ct, osl, rfl, lk, hcd, _, _⟩ := F.ex
  exact LamX.pe_lamcall hg hm F.kp lk hcd (F0.bindsN fun _ _ _ _ _ _ us hl => match us, hl with | [_], _ => rfl) sc__law_outcome rfl (Or.inl rfl) (outcome_gives Te) TB hcode hmT hu hr L hdef hbind hbody
theorem extN_lx {H H' : Hp} (e : LamX.ExtN H H') : Lx H H' := ⟨fun a xs h => e a _ h (fun ps z => (by cases z)), fun a xs h => e a _ h (fun ps z => (by cases z))⟩
theorem extN_ex {H H' : Hp} (e : Ex H H') : LamX.ExtN H H' := LamX.ExtN.of e
theorem Mach.extN {p ca : Addr} {S : Nat} {H H' : Hp} (e : LamX.ExtN H H') (h : Mach p ca S H) : Mach p ca S H' := by
  obtain ⟨ne, kvs, cells, left, spot, a, b, c, d, f, g, i, j⟩ := h
  exact ⟨ne, kvs, cells, left, spot, e _ _ a fun ps z => (by cases z), b, c, d, f, g, e _ _ i fun ps z => (by cases z), j⟩
theorem tabs_ow {Tb : List (Addr × Str)} {p : Addr} {H H' : Hp} {kvs : List (Key × V)} (hp : H p = some (.dK kvs)) (o : Ow p H H') (t : LamX.Tabs Tb H) : LamX.Tabs Tb H' := fun q hq => by
  obtain ⟨ps, h1, h2, h3⟩ := t q hq
  refine ⟨ps, o _ _ (fun z => by rw [z, hp] at h1; cases h1) h1, h2, fun pos cv hc => ?_⟩
  obtain ⟨c, e1, e2⟩ := h3 pos cv hc
  exact ⟨c, e1, o _ _ (fun z => by rw [z, hp] at e2; cases e2) e2⟩
abbrev tOutc (Tb : List (Addr × Str)) (Ce : Addr) (sp : Sp) (ta : TA) : TE := LamX.tLam Tb (TOut Ce) (fun E => tCallS sp (WE fun cls d _ H => E cls d H) ta)
section
variable {Tb : List (Addr × Str)} {Ce : Addr} {R : List PD → PD → Prop} {RE : List PD → Int → Prop} {ta : TA} {Γ : En} {σ : L2.St} {H : Hp} {ds : List PD} {f : PD} {m : Int} {Q : VK}
theorem lam_ok (hT : LamX.Tabs Tb H) (ok : EOk H σ Γ) (h : EaG ta Γ ds) (hR : R ds f) (q : ∀ v H', LamX.ExtN H H' → LamX.Tabs Tb H' → Dt H' v (.list [f]) → Q v H') : tOutc Tb Ce (spR Ce R RE) ta σ H Q :=
  ⟨hT, fun H1 e1 T1 H2 e2 E' Q' hE hQ => h σ H2 ((ok.lx (extN_lx e1)).mono e2) _ fun vs H3 e3 r3 => ⟨ds, r3, .inl ⟨f, hR, fun v H4 e4 d4 => hQ v H4 fun l hl => by
    have e5 := Ex.new (o := .lst [v]) hl
    have e := ((e2.trans e3).trans e4).trans e5
    exact q (.ref l) _ (e1.trans (extN_ex e)) (T1.ext e) (.lst upd_same (.cons (d4.mono e5) .nil))⟩⟩⟩
theorem lam_err (hT : LamX.Tabs Tb H) (ok : EOk H σ Γ) (h : EaG ta Γ ds) (hR : RE ds m) (q : ∀ H', LamX.ExtN H H' → LamX.Tabs Tb H' → Q (.int m) H') : tOutc Tb Ce (spR Ce R RE) ta σ H Q :=
  ⟨hT, fun H1 e1 T1 H2 e2 E' Q' hE hQ => h σ H2 ((ok.lx (extN_lx e1)).mono e2) _ fun vs H3 e3 r3 => ⟨ds, r3, .inr ⟨m, hR, fun H4 d e4 hd => by
    have e5 := Ex.new (o := .xd [(("most" : Str), .int m)]) hd
    have e := ((e2.trans e3).trans e4).trans e5
    exact hE _ _ _ ⟨rfl, d, m, rfl, upd_same, q _ (e1.trans (extN_ex e)) (T1.ext e)⟩⟩⟩⟩
end
end Stair
/-! ## StP3 -/
set_option Elab.async false
set_option linter.all false
set_option maxRecDepth 100000
set_option maxHeartbeats 1000000
namespace Stair
open PySem PySem.Spec PyProof.Rows L2 Evl
/-! # Plain: a drawn net is a net, and every run leads out -/
theorem drawn_names {hs ns : List Str} (hok : HousesOk hs) (h : NamesDrawn hs ns) : GoodNames ns := by
  obtain ⟨l, x, hl, hx, rfl⟩ := h
  have hw := drawn_words hok hl hx
  have hs0 : (sortS (l ++ [x])).Pairwise Str.lt := srt_sortS _
  have hs6 : ((sortS (l ++ [x])).take 6).Pairwise Str.lt := hs0.sublist (List.take_sublist _ _)
  have hw6 : ∀ a ∈ (sortS (l ++ [x])).take 6, GoodWord a := fun a ha => hw a (mem_sortS.mp (List.mem_of_mem_take ha))
  have hl6 : ((sortS (l ++ [x])).take 6).length ≤ 6 := by rw [List.length_take]; omega
  have hne : 1 ≤ ((sortS (l ++ [x])).take 6).length := by
    have hm : x ∈ sortS (l ++ [x]) := mem_sortS.mpr (List.mem_append_right _ List.mem_cons_self)
    have := List.length_pos_of_mem hm
    rw [List.length_take]
    omega
  generalize (sortS (l ++ [x])).take 6 = ns0 at hs6 hw6 hl6 hne ⊢
  have hlen := pickN_len (hs := hs) hl6
  unfold pickN at hlen ⊢
  by_cases hf : ns0.filter (fun a => !decide (a ∈ hs)) = []
  · rw [if_pos hf] at hlen ⊢
    have hall : ∀ a ∈ ns0, a ∈ hs := fun a ha => by
      by_cases hin : a ∈ hs
      · exact hin
      · have : a ∈ ns0.filter (fun a => !decide (a ∈ hs)) := List.mem_filter.mpr ⟨ha, by simpa using hin⟩
        rw [hf] at this
        cases this
    refine ⟨by rw [List.length_append]; show 1 ≤ _ + 1; omega, hlen, fun a ha => ?_, ?_⟩
    · rcases List.mem_append.mp ha with ha | ha
      · exact hw6 a (List.mem_of_mem_take ha)
      · exact extra_word (List.mem_append_right _ ha)
    · refine List.pairwise_append.mpr ⟨hs6.sublist (List.take_sublist _ _), List.pairwise_singleton _ _, fun a ha b hb => ?_⟩
      rw [List.mem_singleton.mp hb]
      exact hok.zzz a (hall a (List.mem_of_mem_take ha))
  · rw [if_neg hf] at hlen ⊢
    exact ⟨hne, hl6, hw6, hs6⟩
/-- every run has a figure of one that is no house -/
def LeadsAll (n : Net) : Prop := ∀ p ∈ n, ∀ r ∈ p.2.runs, ∃ c ∈ sg r.2, 48 ≤ c ∧ p.2.names.getD (c - 48) Str.empty ∉ n.map (·.1)
theorem DrawnRun.good {many : Nat} {free : List Nat} {r : Nat × Str} (h : DrawnRun many free r) : GoodFigs many r.2 := ⟨by rw [← sg_length]; exact h.l1, by rw [← sg_length]; exact Nat.le_trans h.l2 (by decide), h.all⟩
theorem DrawnNet.good {n : Net} (h : DrawnNet n) : GoodNet n := by
  have hl := housesOk_len h.ok
  rw [List.length_map] at hl
  have gd : ∀ p ∈ n, GoodDeal p.2 := fun p hp => by
    have d := h.deal p hp
    exact ⟨drawn_names h.ok d.names, by have := d.few; omega, fun r hr => ⟨(d.init r hr).lo, Nat.le_trans (d.init r hr).hi (by decide), (d.init r hr).good⟩, d.last.good⟩
  refine ⟨hl.1, by omega, fun p hp => h.ok.word _ (List.mem_map_of_mem hp), gd, fun p hp r hr => ?_, h.ok.srt⟩
  have d := h.deal p hp
  rcases List.mem_append.mp hr with hr | hr
  · obtain ⟨x, hx, rfl⟩ := List.mem_map.mp hr
    rw [← sg_length]
    exact (d.init x hx).l2
  · rw [List.mem_singleton.mp hr, ← sg_length]
    exact d.last.l2
theorem DrawnNet.leads {n : Net} (h : DrawnNet n) : LeadsAll n := fun p hp r hr => by
  have d := h.deal p hp
  have key : ∀ z : Str, (∃ j ∈ freeOf (n.map (·.1)) p.2.names, 48 + j ∈ sg z) → ∃ c ∈ sg z, 48 ≤ c ∧ p.2.names.getD (c - 48) Str.empty ∉ n.map (·.1) := fun z ⟨j, hj, hz⟩ => by
    obtain ⟨a, h1, h2⟩ := freeOf_mem.mp hj
    refine ⟨48 + j, hz, by omega, ?_⟩
    rw [show 48 + j - 48 = j by omega, List.getD_eq_getElem?_getD, h1]
    exact h2
  rcases List.mem_append.mp hr with hr | hr
  · obtain ⟨x, hx, rfl⟩ := List.mem_map.mp hr
    exact key _ (d.init x hx).out
  · rw [List.mem_singleton.mp hr]
    exact key _ d.last.out
theorem LeadsAll.opens {n : Net} (h : LeadsAll n) : Opens n := by
  by_cases hn : n = []
  · rw [hn]
    exact .nil
  have he : shutStep n = [] := by
    unfold shutStep
    rw [List.filter_eq_nil_iff]
    intro p hp
    have : leadsOut p.2 (n.map (·.1)) = true := by
      unfold leadsOut
      rw [List.all_map, List.all_eq_true]
      intro r hr
      obtain ⟨c, hc, _, h2⟩ := h p hp r hr
      show (((sg r.2).map fun c => !decide (p.2.names.getD (c - 48) Str.empty ∈ n.map (·.1))).any id) = true
      rw [List.any_map, List.any_eq_true]
      exact ⟨c, hc, by show (!decide _) = true; rw [decide_eq_false h2]; rfl⟩
    rw [this]
    decide
  refine .step hn ?_ (by rw [he]; exact .nil)
  rw [he]
  intro z
  exact hn (List.length_eq_zero_iff.mp z.symm)
end Stair
/-! ## StP4 -/
set_option Elab.async false
set_option linter.all false
set_option maxRecDepth 100000
set_option maxHeartbeats 1000000
namespace Stair
open PySem PySem.Spec PyProof.Rows L2 Evl
/-! # Plain: every coin comes out -/
theorem sum_set : ∀ {l : List Nat} {i k : Nat} (x : Nat), l[i]? = some k → (l.set i x).sum + k = l.sum + x
  | [], i, k, x, h => by simp at h
  | a :: l, 0, k, x, h => by
    cases Option.some.inj h
    simp only [List.set_cons_zero, List.sum_cons]
    omega
  | a :: l, i + 1, k, x, h => by
    have := sum_set (l := l) x (by simpa using h : l[i]? = some k)
    simp only [List.set_cons_succ, List.sum_cons]
    omega
/-- from any count on a coin leads out -/
theorem out_later {n : Net} (hn : GoodNet n) (hl : LeadsAll n) {p : Str × Deal} (hp : p ∈ n) (c : Nat) : ∃ k, p.2.name (c + k) ∉ n.map (·.1) := by
  have hd := hn.deal p hp
  obtain ⟨ch, h1, h2, h3⟩ := hl p hp (none, p.2.last) (List.mem_append_right _ List.mem_cons_self)
  obtain ⟨i, hi⟩ := List.getElem?_of_mem h1
  have hil : i < p.2.last.length := by
    have := (List.getElem?_eq_some_iff.mp hi).1
    rw [sg_length] at this
    exact this
  have hlo := hd.last.lo
  refine ⟨p.2.first + p.2.last.length * (c + 1) + i - c, ?_⟩
  have hge : c ≤ p.2.first + p.2.last.length * (c + 1) + i := by
    have : 1 * (c + 1) ≤ p.2.last.length * (c + 1) := Nat.mul_le_mul_right _ hlo
    omega
  rw [show c + (p.2.first + p.2.last.length * (c + 1) + i - c) = p.2.first + (p.2.last.length * (c + 1) + i) by omega]
  unfold Deal.name
  rw [Deal.fig_late (by omega)]
  unfold figAt
  rw [show p.2.first + (p.2.last.length * (c + 1) + i) - p.2.first = p.2.last.length * (c + 1) + i by omega, Nat.mul_add_mod, Nat.mod_eq_of_lt hil]
  have hi' : p.2.last.cps.toList[i]? = some ch := hi
  have hg : p.2.last.cps.toList.getD i 48 = ch := by rw [List.getD_eq_getElem?_getD, hi']; rfl
  rw [hg]
  exact h3
theorem pay_ind {n : Net} (hn : GoodNet n) : ∀ (N : Nat) (a : Str) (cur ks : List Nat), cur.length = n.length → ks.length = n.length → ks.sum = N →
    (∀ (i : Nat) (p : Str × Deal) (c k : Nat), n[i]? = some p → cur[i]? = some c → ks[i]? = some k → p.2.name (c + k) ∉ n.map (·.1)) → ∃ (m : Nat) (b : Str) (cur' : List Nat), PaidTo n m a (stdOf n cur) b (stdOf n cur') ∧ cur'.length = n.length ∧ b ∉ n.map (·.1) := by
  intro N
  induction N using Nat.strongRecOn with
  | ind N ih =>
    intro a cur ks hc hk hs hw
    by_cases ha : a ∈ n.map (·.1)
    · obtain ⟨p, hp, rfl⟩ := List.mem_map.mp ha
      obtain ⟨i, hi⟩ := List.getElem?_of_mem hp
      have hin : i < n.length := (List.getElem?_eq_some_iff.mp hi).1
      have hci : cur[i]? = some (cur[i]'(by omega)) := List.getElem?_eq_getElem _
      have hki : ks[i]? = some (ks[i]'(by omega)) := List.getElem?_eq_getElem _
      generalize cur[i]'(by omega) = c at hci
      generalize ks[i]'(by omega) = k at hki
      have hd := hn.deal p hp
      have hstep : ∀ {m b st'}, PaidTo n m (p.2.name c) (stdOf n (cur.set i (c + 1))) b st' → PaidTo n (m + 1) p.1 (stdOf n cur) b st' := fun {m b st'} h => by
        rw [stdOf_set hi hc, Deal.norm_succ hd.last.lo, ← p.2.name_norm c] at h
        exact .step hi (stdOf_get hi hci) h
      have hcl : (cur.set i (c + 1)).length = n.length := by rw [List.length_set]; exact hc
      by_cases ho : p.2.name c ∈ n.map (·.1)
      · have hk0 : k ≠ 0 := fun z => by
          have := hw i p c k hi hci hki
          rw [z] at this
          exact this ho
        have hsum := sum_set (k - 1) hki
        obtain ⟨m, b, cur', h1, h2, h3⟩ := ih (ks.set i (k - 1)).sum (by omega) (p.2.name c) (cur.set i (c + 1)) (ks.set i (k - 1)) hcl (by rw [List.length_set]; exact hk) rfl (fun j q c' k' hj hc' hk' => by
          by_cases hij : i = j
          · subst hij
            rw [List.getElem?_set_self (by omega)] at hc' hk'
            cases hc'
            cases hk'
            rw [hi] at hj
            cases hj
            rw [show c + 1 + (k - 1) = c + k by omega]
            exact hw i p c k hi hci hki
          · rw [List.getElem?_set_ne hij] at hc' hk'
            exact hw j q c' k' hj hc' hk')
        exact ⟨m + 1, b, cur', hstep h1, h2, h3⟩
      · exact ⟨1, _, cur.set i (c + 1), hstep (.out ho), hcl, ho⟩
    · exact ⟨0, a, cur, .out ha, hc, ha⟩
theorem pay_exists {n : Net} (hn : GoodNet n) (hl : LeadsAll n) (a : Str) {cur : List Nat} (hc : cur.length = n.length) : ∃ (m : Nat) (b : Str) (cur' : List Nat), PaidTo n m a (stdOf n cur) b (stdOf n cur') ∧ cur'.length = n.length ∧ b ∉ n.map (·.1) := by
  have hks : ∃ ks : List Nat, ks.length = n.length ∧ ∀ (i : Nat) (p : Str × Deal) (c k : Nat), n[i]? = some p → cur[i]? = some c → ks[i]? = some k → p.2.name (c + k) ∉ n.map (·.1) := by
    have gen : ∀ (l : Net) (cs : List Nat), (∀ p ∈ l, p ∈ n) → ∃ ks : List Nat, ks.length = l.length ∧ ∀ (i : Nat) (p : Str × Deal) (c k : Nat), l[i]? = some p → cs[i]? = some c → ks[i]? = some k → p.2.name (c + k) ∉ n.map (·.1) := by
      intro l
      induction l with
      | nil => exact fun cs _ => ⟨[], rfl, fun i p c k h => by simp at h⟩
      | cons q r ih =>
        intro cs hm
        obtain ⟨ks, h1, h2⟩ := ih cs.tail fun p hp => hm p (List.mem_cons_of_mem _ hp)
        cases cs with
        | nil => exact ⟨0 :: ks, by simp [h1], fun i p c k _ hc => by simp at hc⟩
        | cons c0 cs =>
          obtain ⟨k0, hk0⟩ := out_later hn hl (hm q List.mem_cons_self) c0
          refine ⟨k0 :: ks, by simp [h1], fun i p c k hp hc hk => ?_⟩
          cases i with
          | zero =>
            cases Option.some.inj hp
            cases Option.some.inj hc
            cases Option.some.inj hk
            exact hk0
          | succ i => exact h2 i p c k (by simpa using hp) (by simpa using hc) (by simpa using hk)
    exact gen n cur fun p hp => hp
  obtain ⟨ks, h1, h2⟩ := hks
  exact pay_ind hn _ a cur ks hc h1 rfl h2
/-- what comes is one -/
theorem PaidTo.det {n : Net} (hn : GoodNet n) {m : Nat} {a b : Str} {st st' : List Nat} (h : PaidTo n m a st b st') : ∀ {m2 : Nat} {b2 : Str} {st2 : List Nat}, PaidTo n m2 a st b2 st2 → b2 = b ∧ st2 = st' := by
  induction h with
  | out ha =>
    intro m2 b2 st2 h2
    cases h2 with
    | out _ => exact ⟨rfl, rfl⟩
    | step hi _ _ => exact absurd (List.mem_map.mpr ⟨_, List.mem_of_getElem? hi, rfl⟩) ha
  | step hi hs h ih =>
    intro m2 b2 st2 h2
    rename_i m i a b d s st st'
    cases h2 with
    | out ha => exact absurd (List.mem_map.mpr ⟨_, List.mem_of_getElem? hi, rfl⟩) ha
    | step hi2 hs2 h2' =>
      rename_i m' i2 d2 s2
      have hij : i = i2 := by
        have e1 : (n.map (·.1))[i]? = some a := by rw [List.getElem?_map, hi]; rfl
        have e2 : (n.map (·.1))[i2]? = some a := by rw [List.getElem?_map, hi2]; rfl
        have l1 := (List.getElem?_eq_some_iff.mp e1).1
        exact (List.getElem?_inj l1 hn.nodup).mp (e1.trans e2.symm)
      subst hij
      rw [hi] at hi2
      cases hi2
      rw [hs] at hs2
      cases hs2
      exact ih h2'
end Stair
/-! ## StP5 -/
set_option Elab.async false
set_option linter.all false
set_option maxRecDepth 100000
set_option maxHeartbeats 1000000
namespace Stair
open PySem PySem.Spec PyProof.Rows L2 Evl
/-! # Plain: the walk of all coins -/
theorem stdOf_idem {n : Net} (hn : GoodNet n) {cur : List Nat} (hc : cur.length = n.length) : stdOf n (stdOf n cur) = stdOf n cur := by
  apply List.ext_getElem?
  intro i
  by_cases hi : i < n.length
  · have h1 : n[i]? = some n[i] := List.getElem?_eq_getElem hi
    have h2 : cur[i]? = some (cur[i]'(by omega)) := List.getElem?_eq_getElem _
    have hd := hn.deal _ (List.mem_of_getElem? h1)
    rw [stdOf_get h1 (stdOf_get h1 h2), stdOf_get h1 h2, Deal.norm_of_lt (Deal.norm_lt hd.last.lo _)]
  · rw [List.getElem?_eq_none (by rw [stdOf_length (stdOf_length hc)]; omega), List.getElem?_eq_none (by rw [stdOf_length hc]; omega)]
theorem stdOf_zero {n : Net} : stdOf n (List.replicate n.length 0) = List.replicate n.length 0 := by
  apply List.ext_getElem?
  intro i
  by_cases hi : i < n.length
  · have h1 : n[i]? = some n[i] := List.getElem?_eq_getElem hi
    have h2 : (List.replicate n.length 0)[i]? = some 0 := List.getElem?_replicate_of_lt hi
    rw [stdOf_get h1 h2, h2]
    unfold Deal.norm
    by_cases hf : 0 < (n[i]).2.first
    · rw [if_pos hf]
    · rw [if_neg hf, Nat.zero_sub, Nat.zero_mod]
      congr 1
      omega
  · rw [List.getElem?_eq_none (by rw [stdOf_length List.length_replicate]; omega), List.getElem?_eq_none (by rw [List.length_replicate]; omega)]
/-- the walk of a house over all coins -/
structure Walks (n : Net) (h : Str) (sts : Nat → List Nat) (nm : Nat → Str) : Prop where
  zero : sts 0 = List.replicate n.length 0
  go : ∀ i, ∃ m, PaidTo n m h (sts i) (nm i) (sts (i + 1))
  std : ∀ i, stdOf n (sts i) = sts i
  len : ∀ i, (sts i).length = n.length
  out : ∀ i, nm i ∉ n.map (·.1)
theorem Walks.goes {n : Net} {h : Str} {sts : Nat → List Nat} {nm : Nat → Str} (w : Walks n h sts nm) (N : Nat) : Goes n h sts nm N := ⟨w.zero, fun i _ => w.go i⟩
theorem walk_exists {n : Net} (hn : GoodNet n) (hl : LeadsAll n) (h : Str) : ∃ sts nm, Walks n h sts nm := by
  have step : ∀ st : { st : List Nat // st.length = n.length ∧ stdOf n st = st }, ∃ q : Str × { st : List Nat // st.length = n.length ∧ stdOf n st = st }, (∃ m, PaidTo n m h st.1 q.1 q.2.1) ∧ q.1 ∉ n.map (·.1) := fun st => by
    obtain ⟨m, b, cur', h1, h2, h3⟩ := pay_exists hn hl h st.2.1
    rw [st.2.2] at h1
    exact ⟨(b, ⟨stdOf n cur', stdOf_length h2, stdOf_idem hn h2⟩), ⟨m, h1⟩, h3⟩
  let f := fun st => Classical.choose (step st)
  have hf := fun st => Classical.choose_spec (step st)
  let s : Nat → { st : List Nat // st.length = n.length ∧ stdOf n st = st } := fun i => Nat.rec ⟨List.replicate n.length 0, List.length_replicate, stdOf_zero⟩ (fun _ st => (f st).2) i
  exact ⟨fun i => (s i).1, fun i => (f (s i)).1, rfl, fun i => (hf (s i)).1, fun i => (s i).2.2, fun i => (s i).2.1, fun i => (hf (s i)).2⟩
/-- a standing comes again within M, or none does -/
theorem again_or (sts : Nat → List Nat) : ∀ M : Nat, (∃ b N, b < N ∧ N ≤ M ∧ sts N = sts b ∧ ∀ j k, j < k → k < N → sts j ≠ sts k) ∨ ∀ j k, j < k → k ≤ M → sts j ≠ sts k
  | 0 => .inr fun j k h1 h2 => by omega
  | M + 1 => by
    rcases again_or sts M with ⟨b, N, h1, h2, h3⟩ | h
    · exact .inl ⟨b, N, h1, by omega, h3⟩
    · by_cases hq : ∃ b, b < M + 1 ∧ sts (M + 1) = sts b
      · obtain ⟨b, h1, h2⟩ := hq
        exact .inl ⟨b, M + 1, h1, Nat.le_refl _, h2, fun j k hjk hk => h j k hjk (by omega)⟩
      · refine .inr fun j k hjk hk => ?_
        rcases Nat.lt_or_ge k (M + 1) with z | z
        · exact h j k hjk (by omega)
        · have : k = M + 1 := by omega
          subst this
          exact fun e => hq ⟨j, hjk, e.symm⟩
/-- from there on the row goes round -/
theorem Walks.round {n : Net} (hn : GoodNet n) {h : Str} {sts : Nat → List Nat} {nm : Nat → Str} (w : Walks n h sts nm) {b N : Nat} (e : sts N = sts b) : ∀ i, sts (N + i) = sts (b + i) ∧ nm (N + i) = nm (b + i) := by
  have one : ∀ i j, sts i = sts j → nm i = nm j ∧ sts (i + 1) = sts (j + 1) := fun i j hij => by
    obtain ⟨m, h1⟩ := w.go j
    obtain ⟨m2, h2⟩ := w.go i
    rw [hij] at h2
    exact h1.det hn h2
  have go : ∀ i, sts (N + i) = sts (b + i) := fun i => by
    induction i with
    | zero => exact e
    | succ i ih => exact (one _ _ ih).2
  exact fun i => ⟨go i, (one _ _ (go i)).1⟩
/-- the row of the first N and then its round -/
def goingAt (row : List Str) (b i : Nat) : Str := if i < row.length then row.getD i Str.empty else row.getD (b + (i - b) % (row.length - b)) Str.empty
theorem Walks.mod {n : Net} (hn : GoodNet n) {h : Str} {sts : Nat → List Nat} {nm : Nat → Str} (w : Walks n h sts nm) {b N : Nat} (hb : b < N) (e : sts N = sts b) : ∀ i, b ≤ i → nm i = nm (b + (i - b) % (N - b)) := by
  intro i
  induction i using Nat.strongRecOn with
  | ind i ih =>
    intro hi
    rcases Nat.lt_or_ge i N with hlt | hge
    · rw [Nat.mod_eq_of_lt (by omega), show b + (i - b) = i by omega]
    · have r := (w.round hn e (i - N)).2
      rw [show N + (i - N) = i by omega] at r
      rw [r, ih (b + (i - N)) (by omega) (by omega)]
      congr 2
      rw [show b + (i - N) - b = i - N by omega, show i - b = (i - N) + (N - b) by omega, Nat.add_mod_right]
end Stair
/-! ## StP6 -/
set_option Elab.async false
set_option linter.all false
set_option maxRecDepth 100000
set_option maxHeartbeats 1000000
namespace Stair
open PySem PySem.Spec PyProof.Rows L2 Evl
/-! # Plain: counts, coin by coin -/
theorem countIn_succ {l : List Nat} (hl : 1 ≤ l.length) (ch s : Nat) : countIn l ch (s + 1) = countIn l ch s + (if l.getD (s % l.length) 48 = ch then 1 else 0) := by
  have hr : s % l.length < l.length := Nat.mod_lt _ hl
  have hs := Nat.div_add_mod s l.length
  unfold countIn
  generalize s / l.length = q at hs ⊢
  generalize s % l.length = r at hs hr ⊢
  have hg : l[r]? = some (l.getD r 48) := by rw [List.getD_eq_getElem?_getD, List.getElem?_eq_getElem hr]; rfl
  have ht : (l.take (r + 1)).count ch = (l.take r).count ch + (if l.getD r 48 = ch then 1 else 0) := by
    rw [List.take_add_one, hg, List.count_append]
    congr 1
    show List.count ch [l.getD r 48] = _
    rw [List.count_singleton]
    by_cases h : l.getD r 48 = ch
    · rw [if_pos h, if_pos (by rw [h]; exact beq_self_eq_true _)]
    · rw [if_neg h, if_neg (by rw [beq_iff_eq]; exact h)]
  rcases Nat.lt_or_ge (r + 1) l.length with h | h
  · have e1 : (s + 1) / l.length = q := by
      rw [← hs, Nat.add_assoc, Nat.mul_add_div (by omega), Nat.div_eq_of_lt h]
      omega
    have e2 : (s + 1) % l.length = r + 1 := by
      rw [← hs, Nat.add_assoc, Nat.mul_add_mod, Nat.mod_eq_of_lt h]
    rw [e1, e2, ht]
    omega
  · have hrl : r + 1 = l.length := by omega
    have e0 : s + 1 = l.length * (q + 1) := by rw [← hs, Nat.mul_add]; omega
    have e1 : (s + 1) / l.length = q + 1 := by rw [e0, Nat.mul_div_cancel_left _ (by omega)]
    have e2 : (s + 1) % l.length = 0 := by rw [e0, Nat.mul_mod_right]
    rw [e1, e2, List.take_zero, List.count_nil]
    rw [show l.take (r + 1) = l from List.take_of_length_le (by omega)] at ht
    rw [Nat.add_mul, Nat.one_mul]
    omega
/-- the sign of a coin -/
def signAt : List Run → Nat → Nat
  | [], _ => 48
  | (none, f) :: _, c => (sg f).getD (c % f.length) 48
  | (some n, f) :: rs, c => if c < n then (sg f).getD (c % f.length) 48 else signAt rs (c - n)
theorem sign_place : ∀ {rs : List Run} {c k l : Nat} (d : Run), placeIn rs c = some (k, l) → (sg (rs.getD k d).2).getD (l % (rs.getD k d).2.length) 48 = signAt rs c
  | [], c, k, l, d, h => by cases h
  | (none, f) :: rs, c, k, l, d, h => by cases h; rfl
  | (some n, f) :: rs, c, k, l, d, h => by
    have h' : (if c < n then some (0, c) else (placeIn rs (c - n)).map fun p => (p.1 + 1, p.2)) = some (k, l) := h
    show _ = if c < n then (sg f).getD (c % f.length) 48 else signAt rs (c - n)
    by_cases hc : c < n
    · rw [if_pos hc] at h' ⊢
      cases h'
      rfl
    · rw [if_neg hc] at h' ⊢
      obtain ⟨⟨k', l'⟩, h1, e⟩ := Option.map_eq_some_iff.mp h'
      obtain ⟨e1, e2⟩ := Prod.mk.inj e
      dsimp only at e1 e2
      subst e1 e2
      rw [← sign_place d h1, List.getD_cons_succ]
theorem Deal.fig_sign (x : Deal) (c : Nat) : x.fig c = signAt x.runs c - 48 := by
  unfold Deal.fig figAt
  rw [← sign_place (none, x.last) (show placeIn x.runs c = some ((x.place c).1, (x.place c).2) from x.place_some c)]
  rfl
theorem countBy_none (f : Str) (rs : List Run) (ch c : Nat) : countBy ((none, f) :: rs) ch c = countIn (sg f) ch c + countBy rs ch 0 := by
  unfold countBy
  rfl
theorem countBy_some (n : Nat) (f : Str) (rs : List Run) (ch c : Nat) : countBy ((some n, f) :: rs) ch c = countIn (sg f) ch (min c n) + countBy rs ch (c - n) := by
  unfold countBy
  rfl
theorem countBy_succ : ∀ {rs : List Run} {c : Nat} (ch : Nat), (∀ r ∈ rs, 1 ≤ r.2.length) → (placeIn rs c).isSome = true → countBy rs ch (c + 1) = countBy rs ch c + (if signAt rs c = ch then 1 else 0)
  | [], c, ch, _, h => by cases h
  | (none, f) :: rs, c, ch, hl, _ => by
    have hf : 1 ≤ (sg f).length := by rw [sg_length]; exact hl _ List.mem_cons_self
    rw [countBy_none, countBy_none, countIn_succ hf, sg_length]
    show _ = _ + (if (sg f).getD (c % f.length) 48 = ch then 1 else 0)
    omega
  | (some n, f) :: rs, c, ch, hl, h => by
    have hf : 1 ≤ (sg f).length := by rw [sg_length]; exact hl _ List.mem_cons_self
    rw [countBy_some, countBy_some]
    show _ = _ + (if (if c < n then (sg f).getD (c % f.length) 48 else signAt rs (c - n)) = ch then 1 else 0)
    have h' : (if c < n then some (0, c) else (placeIn rs (c - n)).map fun p => (p.1 + 1, p.2)).isSome = true := h
    by_cases hc : c < n
    · rw [if_pos hc, show min (c + 1) n = c + 1 by omega, show min c n = c by omega, show c + 1 - n = c - n by omega, countIn_succ hf, sg_length]
      omega
    · rw [if_neg hc] at h' ⊢
      rw [Option.isSome_map] at h'
      rw [show min (c + 1) n = min c n by omega, show c + 1 - n = (c - n) + 1 by omega, countBy_succ ch (fun r hr => hl r (List.mem_cons_of_mem _ hr)) h']
      omega
theorem countIn_zero (l : List Nat) (ch : Nat) : countIn l ch 0 = 0 := by
  unfold countIn
  simp
theorem countBy_zero : ∀ (rs : List Run) (ch : Nat), countBy rs ch 0 = 0
  | [], ch => rfl
  | (none, f) :: rs, ch => by rw [countBy_none, countIn_zero, countBy_zero]
  | (some n, f) :: rs, ch => by rw [countBy_some, Nat.zero_min, countIn_zero, Nat.zero_sub, countBy_zero]
/-- how often a figure came among the first c coins -/
theorem Deal.count_succ {x : Deal} (hx : GoodDeal x) (j c : Nat) : countBy x.runs (48 + j) (c + 1) = countBy x.runs (48 + j) c + (if x.fig c = j then 1 else 0) := by
  have hp : (placeIn x.runs c).isSome = true := by rw [x.place_some c]; rfl
  rw [countBy_succ (48 + j) (fun r hr => (hx.figs r hr).lo) hp]
  congr 1
  rw [x.fig_sign]
  have h48 : 48 ≤ signAt x.runs c := by
    obtain ⟨j', h1, h2, h3⟩ := fig_code hx c
    have e := sign_place (none, x.last) (show placeIn x.runs c = some ((x.place c).1, (x.place c).2) from x.place_some c)
    rw [← e]
    have h1' : (sg (x.runs.getD (x.place c).1 (none, x.last)).2)[(x.place c).2 % (x.runs.getD (x.place c).1 (none, x.last)).2.length]? = some (48 + j') := h1
    rw [List.getD_eq_getElem?_getD, h1']
    show 48 ≤ 48 + j'
    omega
  by_cases h : signAt x.runs c = 48 + j
  · rw [if_pos h, if_pos (by omega)]
  · rw [if_neg h, if_neg (by omega)]
end Stair
/-! ## StP7 -/
set_option Elab.async false
set_option linter.all false
set_option maxRecDepth 100000
set_option maxHeartbeats 1000000
namespace Stair
open PySem PySem.Spec PyProof.Rows L2 Evl
/-! # Plain: what is handed to a name -/
/-- what the pairs give to a -/
def sumTo (l : List (Str × Nat)) (a : Str) : Nat := (l.map fun q => if q.1 = a then q.2 else 0).sum
theorem handF_sum (l : List (Str × Nat)) (a : Str) : (handF l a).getD 0 = sumTo l a := by
  have go : ∀ (l : List (Str × Nat)) (f : Str → Option Nat), ((l.foldl stepF f) a).getD 0 = (f a).getD 0 + sumTo l a := by
    intro l
    induction l with
    | nil => intro f; rfl
    | cons q r ih =>
      intro f
      rw [List.foldl_cons, ih]
      unfold sumTo
      rw [List.map_cons, List.sum_cons]
      unfold stepF
      by_cases h : a = q.1
      · subst h
        rw [if_pos rfl, if_pos rfl]
        show (f q.1).getD 0 + q.2 + _ = _
        omega
      · rw [if_neg h, if_neg (fun z => h z.symm)]
        omega
  rw [handF, go]
  show 0 + _ = _
  omega
theorem sumTo_append (l m : List (Str × Nat)) (a : Str) : sumTo (l ++ m) a = sumTo l a + sumTo m a := by
  unfold sumTo
  rw [List.map_append, List.sum_append]
theorem sumTo_flat {α : Type} (f : α → List (Str × Nat)) (a : Str) : ∀ l : List α, sumTo (l.flatMap f) a = (l.map fun x => sumTo (f x) a).sum
  | [] => rfl
  | x :: l => by rw [List.flatMap_cons, sumTo_append, sumTo_flat f a l, List.map_cons, List.sum_cons]
/-- how many of the first c coins of a deal come to a -/
def toName (x : Deal) (a : Str) (c : Nat) : Nat := sumTo (x.names.zip (hasD x c)) a
theorem toName_succ {x : Deal} (hx : GoodDeal x) (a : Str) (c : Nat) : toName x a (c + 1) = toName x a c + (if x.name c = a then 1 else 0) := by
  have nd := names_nodup hx.names.srt
  have hna := name_at hx c
  -- by places
  have gen : ∀ (ns : List Str) (o : Nat), ns.Nodup → (∀ i b, ns[i]? = some b → x.names[o + i]? = some b) →
      sumTo (ns.zip ((List.range' o ns.length).map fun j => countBy x.runs (48 + j) (c + 1))) a = sumTo (ns.zip ((List.range' o ns.length).map fun j => countBy x.runs (48 + j) c)) a + (if x.name c = a ∧ o ≤ x.fig c ∧ x.fig c < o + ns.length then 1 else 0) := by
    intro ns
    induction ns with
    | nil =>
      intro o _ _
      have : ¬ (x.name c = a ∧ o ≤ x.fig c ∧ x.fig c < o + ([] : List Str).length) := fun z => by have := z.2; simp at this; omega
      rw [if_neg this]
      rfl
    | cons b r ih =>
      intro o hnd hat
      have hb := hat 0 b rfl
      have ih' := ih (o + 1) (List.nodup_cons.mp hnd).2 (fun i b' hi => by rw [show o + 1 + i = o + (i + 1) by omega]; exact hat (i + 1) b' (by simpa using hi))
      have key : ∀ t, sumTo ((b :: r).zip ((List.range' o (b :: r).length).map fun j => countBy x.runs (48 + j) t)) a = (if b = a then countBy x.runs (48 + o) t else 0) + sumTo (r.zip ((List.range' (o + 1) r.length).map fun j => countBy x.runs (48 + j) t)) a := fun t => by
        rw [List.length_cons, List.range'_succ, List.map_cons, List.zip_cons_cons]
        unfold sumTo
        rw [List.map_cons, List.sum_cons]
      rw [key, key, ih', Deal.count_succ hx]
      rw [Nat.add_zero] at hb
      by_cases hf : x.fig c = o
      · have hbn : b = x.name c := by
          rw [hf, hb] at hna
          exact Option.some.inj hna
        have z1 : (if x.name c = a ∧ o + 1 ≤ x.fig c ∧ x.fig c < o + 1 + r.length then 1 else 0) = 0 := if_neg fun z => by omega
        rw [z1, if_pos hf]
        by_cases hba : b = a
        · have z2 : (if x.name c = a ∧ o ≤ x.fig c ∧ x.fig c < o + (b :: r).length then 1 else 0) = 1 := if_pos ⟨hbn.symm.trans hba, by omega, by rw [List.length_cons]; omega⟩
          rw [z2, if_pos hba, if_pos hba]
          omega
        · have z2 : (if x.name c = a ∧ o ≤ x.fig c ∧ x.fig c < o + (b :: r).length then 1 else 0) = 0 := if_neg fun z => hba (hbn.trans z.1)
          rw [z2, if_neg hba, if_neg hba]
          omega
      · rw [if_neg hf]
        have e : (if x.name c = a ∧ o + 1 ≤ x.fig c ∧ x.fig c < o + 1 + r.length then 1 else 0) = if x.name c = a ∧ o ≤ x.fig c ∧ x.fig c < o + (b :: r).length then 1 else 0 := by
          rw [List.length_cons]
          by_cases hq : x.name c = a ∧ o + 1 ≤ x.fig c ∧ x.fig c < o + 1 + r.length
          · rw [if_pos hq, if_pos ⟨hq.1, by omega, by omega⟩]
          · rw [if_neg hq, if_neg (fun z => hq ⟨z.1, by omega, by omega⟩)]
        rw [e, Nat.add_zero]
        omega
  have g := gen x.names 0 nd (fun i b h => by rw [Nat.zero_add]; exact h)
  have hlt : x.fig c < x.names.length := (List.getElem?_eq_some_iff.mp hna).1
  unfold toName hasD
  rw [List.range_eq_range', g]
  congr 1
  by_cases h : x.name c = a
  · rw [if_pos h, if_pos ⟨h, Nat.zero_le _, by omega⟩]
  · rw [if_neg h, if_neg (fun z => h z.1)]
theorem toName_zero (x : Deal) (a : Str) : toName x a 0 = 0 := by
  unfold toName sumTo hasD
  apply Nat.le_antisymm ?_ (Nat.zero_le _)
  have : ∀ q ∈ x.names.zip ((List.range x.names.length).map fun j => countBy x.runs (48 + j) 0), (if q.1 = a then q.2 else 0) = 0 := fun q hq => by
    obtain ⟨j, _, hj⟩ := List.mem_map.mp (List.of_mem_zip (a := q.1) (b := q.2) hq).2
    rw [countBy_zero] at hj
    rw [← hj]
    split <;> rfl
  generalize x.names.zip ((List.range x.names.length).map fun j => countBy x.runs (48 + j) 0) = l at this
  induction l with
  | nil => exact Nat.le_refl _
  | cons q r ih =>
    rw [List.map_cons, List.sum_cons, this q List.mem_cons_self, Nat.zero_add]
    exact ih fun y hy => this y (List.mem_cons_of_mem _ hy)
/-- what all houses hand to a by the counts cur -/
theorem handed_eq (n : Net) (cur : List Nat) (a : Str) : (handF (pairsOf n cur) a).getD 0 = ((n.zip cur).map fun q => toName q.1.2 a q.2).sum := by
  rw [handF_sum]
  unfold pairsOf
  rw [sumTo_flat]
  rfl
end Stair
/-! ## StP8 -/
set_option Elab.async false
set_option linter.all false
set_option maxRecDepth 100000
set_option maxHeartbeats 1000000
namespace Stair
open PySem PySem.Spec PyProof.Rows L2 Evl
/-! # Plain: the walk by counts -/
/-- dealing, by counts that are never turned back -/
inductive PaidRaw (n : Net) : Str → List Nat → Str → List Nat → Prop
  | out {a : Str} {cur : List Nat} : a ∉ n.map (·.1) → PaidRaw n a cur a cur
  | step {i : Nat} {a b : Str} {d : Deal} {c : Nat} {cur cur' : List Nat} : n[i]? = some (a, d) → cur[i]? = some c → PaidRaw n (d.name c) (cur.set i (c + 1)) b cur' → PaidRaw n a cur b cur'
/-- dealing by standings is dealing by counts -/
theorem raw_of {n : Net} (hn : GoodNet n) {m : Nat} {a b : Str} {st st' : List Nat} (h : PaidTo n m a st b st') : ∀ {cur : List Nat}, cur.length = n.length → stdOf n cur = st → ∃ cur', PaidRaw n a cur b cur' ∧ cur'.length = n.length ∧ stdOf n cur' = st' := by
  induction h with
  | out ha => exact fun {cur} hc hs => ⟨cur, .out ha, hc, hs⟩
  | step hi hs h ih =>
    rename_i m i a b d s st st'
    intro cur hc hst
    have hin : i < n.length := (List.getElem?_eq_some_iff.mp hi).1
    have hci : cur[i]? = some (cur[i]'(by omega)) := List.getElem?_eq_getElem _
    generalize cur[i]'(by omega) = c at hci
    have hsc : s = d.norm c := by
      have := stdOf_get hi hci
      rw [hst, hs] at this
      exact Option.some.inj this
    subst hsc
    have hd := hn.deal _ (List.mem_of_getElem? hi)
    obtain ⟨cur', h1, h2, h3⟩ := ih (cur := cur.set i (c + 1)) (by rw [List.length_set]; exact hc) (by rw [stdOf_set hi hc, Deal.norm_succ hd.last.lo, hst])
    rw [d.name_norm] at h1
    exact ⟨cur', .step hi hci h1, h2, h3⟩
/-- what all houses hand to x -/
def handed (n : Net) (cur : List Nat) (x : Str) : Nat := ((n.zip cur).map fun q => toName q.1.2 x q.2).sum
theorem handed_set : ∀ {n : Net} {cur : List Nat} {i c : Nat} {p : Str × Deal} (x : Str), GoodDeal p.2 → n[i]? = some p → cur[i]? = some c → handed n (cur.set i (c + 1)) x = handed n cur x + (if p.2.name c = x then 1 else 0)
  | [], cur, i, c, p, x, _, h, _ => by simp at h
  | q :: n, [], i, c, p, x, _, _, h => by simp at h
  | q :: n, y :: cur, 0, c, p, x, hd, h1, h2 => by
    cases Option.some.inj h1
    cases Option.some.inj h2
    show toName q.2 x (y + 1) + _ = toName q.2 x y + _ + _
    rw [toName_succ hd]
    omega
  | q :: n, y :: cur, i + 1, c, p, x, hd, h1, h2 => by
    have ih := handed_set (n := n) (cur := cur) x hd (by simpa using h1) (by simpa using h2)
    show toName q.2 x y + handed n (cur.set i (c + 1)) x = toName q.2 x y + handed n cur x + _
    rw [ih]
    omega
end Stair
/-! ## StP9 -/
set_option Elab.async false
set_option linter.all false
set_option maxRecDepth 100000
set_option maxHeartbeats 1000000
namespace Stair
open PySem PySem.Spec PyProof.Rows L2 Evl
/-! # Plain: what comes in goes out -/
def one (b : Bool) : Nat := if b = true then 1 else 0
theorem raw_len {n : Net} {a b : Str} {cur cur' : List Nat} (h : PaidRaw n a cur b cur') : cur'.length = cur.length := by
  induction h with
  | out _ => rfl
  | step _ _ _ ih => rw [ih, List.length_set]
/-- a house deals what it is handed, and one more if the coin begins with it -/
theorem raw_house {n : Net} (hn : GoodNet n) {a b : Str} {cur cur' : List Nat} (h : PaidRaw n a cur b cur') : ∀ {j : Nat} {p : Str × Deal}, n[j]? = some p → j < cur.length → cur'.getD j 0 + handed n cur p.1 = cur.getD j 0 + handed n cur' p.1 + (if a = p.1 then 1 else 0) := by
  induction h with
  | out ha =>
    intro j p hj _
    have hm : p.1 ∈ n.map (·.1) := List.mem_map.mpr ⟨_, List.mem_of_getElem? hj, rfl⟩
    rw [if_neg (fun (z : _ = p.1) => ha (by rw [z]; exact hm))]
    rfl
  | step hi hc h ih =>
    rename_i i a b d c cur cur'
    intro j p hj hl
    have hd := hn.deal _ (List.mem_of_getElem? hi)
    have e := ih hj (by rw [List.length_set]; exact hl)
    have hset : handed n (cur.set i (c + 1)) p.1 = handed n cur p.1 + (if d.name c = p.1 then 1 else 0) := handed_set p.1 hd hi hc
    rw [hset] at e
    have hij : (a = p.1) ↔ i = j := by
      constructor
      · intro z
        have e1 : (n.map (·.1))[i]? = some a := by rw [List.getElem?_map, hi]; rfl
        have e2 : (n.map (·.1))[j]? = some a := by rw [List.getElem?_map, hj, z]; rfl
        have l1 := (List.getElem?_eq_some_iff.mp e1).1
        exact (List.getElem?_inj l1 hn.nodup).mp (e1.trans e2.symm)
      · intro z
        rw [z, hj] at hi
        cases hi
        rfl
    have g : (cur.set i (c + 1)).getD j 0 = cur.getD j 0 + (if a = p.1 then 1 else 0) := by
      rw [List.getD_eq_getElem?_getD, List.getD_eq_getElem?_getD]
      by_cases q : i = j
      · subst q
        rw [if_pos (hij.mpr rfl), List.getElem?_set_self hl, hc]
        rfl
      · rw [if_neg (fun z => q (hij.mp z)), List.getElem?_set_ne q]
        rfl
    rw [g] at e
    omega
/-- who is no house is handed the coin that comes out -/
theorem raw_out {n : Net} (hn : GoodNet n) {a b : Str} {cur cur' : List Nat} (h : PaidRaw n a cur b cur') : ∀ {x : Str}, x ∉ n.map (·.1) → handed n cur' x + (if a = x then 1 else 0) = handed n cur x + (if b = x then 1 else 0) := by
  induction h with
  | out ha => exact fun {x} _ => rfl
  | step hi hc h ih =>
    rename_i i a b d c cur cur'
    intro x hx
    have hd := hn.deal _ (List.mem_of_getElem? hi)
    have e := ih hx
    have hset : handed n (cur.set i (c + 1)) x = handed n cur x + (if d.name c = x then 1 else 0) := handed_set x hd hi hc
    rw [hset] at e
    have hm : a ∈ n.map (·.1) := List.mem_map.mpr ⟨_, List.mem_of_getElem? hi, rfl⟩
    have : ¬ a = x := fun z => hx (by rw [← z]; exact hm)
    rw [if_neg this]
    omega
end Stair
/-! ## StP10 -/
set_option Elab.async false
set_option linter.all false
set_option maxRecDepth 100000
set_option maxHeartbeats 1000000
namespace Stair
open PySem PySem.Spec PyProof.Rows L2 Evl
/-! # Plain: the counts behind M coins -/
theorem handed_zero : ∀ (n : Net) (m : Nat) (x : Str), handed n (List.replicate m 0) x = 0
  | [], m, x => by cases m <;> rfl
  | q :: n, 0, x => rfl
  | q :: n, m + 1, x => by
    show toName q.2 x 0 + handed n (List.replicate m 0) x = 0
    rw [toName_zero, handed_zero n m x]
structure Raws (n : Net) (h : Str) (curs : Nat → List Nat) (nm : Nat → Str) : Prop where
  zero : curs 0 = List.replicate n.length 0
  go : ∀ i, PaidRaw n h (curs i) (nm i) (curs (i + 1))
  len : ∀ i, (curs i).length = n.length
theorem Walks.raws {n : Net} (hn : GoodNet n) {h : Str} {sts : Nat → List Nat} {nm : Nat → Str} (w : Walks n h sts nm) : ∃ curs, Raws n h curs nm := by
  have step : ∀ (i : Nat) (cur : { c : List Nat // c.length = n.length ∧ stdOf n c = sts i }), ∃ cur' : { c : List Nat // c.length = n.length ∧ stdOf n c = sts (i + 1) }, PaidRaw n h cur.1 (nm i) cur'.1 := fun i cur => by
    obtain ⟨m, hm⟩ := w.go i
    obtain ⟨cur', h1, h2, h3⟩ := raw_of hn hm cur.2.1 cur.2.2
    exact ⟨⟨cur', h2, h3⟩, h1⟩
  let s : (i : Nat) → { c : List Nat // c.length = n.length ∧ stdOf n c = sts i } := fun i => Nat.rec (motive := fun i => { c : List Nat // c.length = n.length ∧ stdOf n c = sts i }) ⟨List.replicate n.length 0, List.length_replicate, by rw [stdOf_zero, w.zero]⟩ (fun i cur => Classical.choose (step i cur)) i
  exact ⟨fun i => (s i).1, rfl, fun i => Classical.choose_spec (step i (s i)), fun i => (s i).2.1⟩
/-- how many of the first M names are x -/
def countN (nm : Nat → Str) (x : Str) : Nat → Nat
  | 0 => 0
  | M + 1 => countN nm x M + (if nm M = x then 1 else 0)
theorem Raws.house {n : Net} (hn : GoodNet n) {h : Str} {curs : Nat → List Nat} {nm : Nat → Str} (w : Raws n h curs nm) {j : Nat} {p : Str × Deal} (hj : n[j]? = some p) : ∀ M, (curs M).getD j 0 = (if h = p.1 then M else 0) + handed n (curs M) p.1
  | 0 => by
    rw [w.zero, handed_zero, List.getD_eq_getElem?_getD, List.getElem?_replicate_of_lt (List.getElem?_eq_some_iff.mp hj).1]
    split <;> rfl
  | M + 1 => by
    have ih := w.house hn hj M
    have e := raw_house hn (w.go M) hj (by rw [w.len]; exact (List.getElem?_eq_some_iff.mp hj).1)
    by_cases q : h = p.1
    · rw [if_pos q] at ih e ⊢
      omega
    · rw [if_neg q] at ih e ⊢
      omega
theorem Raws.out {n : Net} (hn : GoodNet n) {h : Str} (hh : h ∈ n.map (·.1)) {curs : Nat → List Nat} {nm : Nat → Str} (w : Raws n h curs nm) {x : Str} (hx : x ∉ n.map (·.1)) : ∀ M, handed n (curs M) x = countN nm x M
  | 0 => by rw [w.zero, handed_zero]; rfl
  | M + 1 => by
    have ih := w.out hn hh hx M
    have e := raw_out hn (w.go M) hx
    have hne : ¬ h = x := fun z => hx (by rw [← z]; exact hh)
    rw [if_neg hne, ih] at e
    show handed n (curs (M + 1)) x = countN nm x M + _
    omega
end Stair
/-! ## StP11 -/
set_option Elab.async false
set_option linter.all false
set_option maxRecDepth 100000
set_option maxHeartbeats 1000000
namespace Stair
open PySem PySem.Spec PyProof.Rows L2 Evl
/-! # Plain: the totals settle at the walk's counts -/
theorem toName_mono {x : Deal} (hx : GoodDeal x) (a : Str) {c c' : Nat} (h : c ≤ c') : toName x a c ≤ toName x a c' := by
  induction c' with
  | zero => rw [Nat.le_zero.mp h]; exact Nat.le_refl _
  | succ c' ih =>
    rcases Nat.lt_or_ge c (c' + 1) with z | z
    · rw [toName_succ hx]
      exact Nat.le_trans (ih (by omega)) (Nat.le_add_right _ _)
    · rw [show c = c' + 1 by omega]
      exact Nat.le_refl _
def LeL (a b : List Nat) : Prop := a.length = b.length ∧ ∀ j, a.getD j 0 ≤ b.getD j 0
theorem handed_mono : ∀ {n : Net} {a b : List Nat} (x : Str), (∀ p ∈ n, GoodDeal p.2) → LeL a b → handed n a x ≤ handed n b x
  | [], _, _, _, _, _ => Nat.le_refl _
  | q :: n, [], [], x, _, _ => Nat.le_refl _
  | q :: n, [], y :: b, x, _, h => by cases h.1
  | q :: n, y :: a, [], x, _, h => by cases h.1
  | q :: n, y :: a, z :: b, x, hd, h => by
    have h0 := h.2 0
    have e1 := toName_mono (hd q List.mem_cons_self) x (show y ≤ z from h0)
    have e2 := handed_mono (n := n) (a := a) (b := b) x (fun p hp => hd p (List.mem_cons_of_mem _ hp)) ⟨by have := h.1; simpa using this, fun j => by have := h.2 (j + 1); simpa using this⟩
    show toName q.2 x y + handed n a x ≤ toName q.2 x z + handed n b x
    omega
theorem behind_get {n : Net} {am come : List Nat} {j : Nat} {p : Str × Deal} (hl : am.length = n.length) (hj : n[j]? = some p) : (behind n am come).getD j 0 = am.getD j 0 + handed n come p.1 := by
  have hin := (List.getElem?_eq_some_iff.mp hj).1
  have ha : am[j]? = some (am[j]'(by omega)) := List.getElem?_eq_getElem _
  have hz : ((n.map (·.1)).zip am)[j]? = some (p.1, am[j]'(by omega)) := by
    rw [List.getElem?_zip_eq_some]
    exact ⟨by rw [List.getElem?_map, hj]; rfl, ha⟩
  unfold behind
  rw [List.getD_eq_getElem?_getD, List.getElem?_map, hz, List.getD_eq_getElem?_getD, ha]
  show am[j] + (handF (pairsOf n come) p.1).getD 0 = am[j] + _
  rw [handed_eq]
  rfl
theorem behind_len {n : Net} {am come : List Nat} (hl : am.length = n.length) : (behind n am come).length = n.length := by
  unfold behind
  rw [List.length_map, List.length_zip, List.length_map, hl, Nat.min_self]
theorem LeL.behind {n : Net} {am a b : List Nat} (hn : GoodNet n) (hl : am.length = n.length) (h : LeL a b) : LeL (behind n am a) (Stair.behind n am b) := by
  refine ⟨by rw [behind_len hl, behind_len hl], fun j => ?_⟩
  cases hj : n[j]? with
  | none =>
    have : n.length ≤ j := List.getElem?_eq_none_iff.mp hj
    rw [List.getD_eq_getElem?_getD, List.getElem?_eq_none (by rw [behind_len hl]; exact this)]
    exact Nat.zero_le _
  | some p =>
    rw [behind_get hl hj, behind_get hl hj]
    exact Nat.add_le_add_left (handed_mono p.1 hn.deal h) _
end Stair
/-! ## StP12 -/
set_option Elab.async false
set_option linter.all false
set_option maxRecDepth 100000
set_option maxHeartbeats 1000000
namespace Stair
open PySem PySem.Spec PyProof.Rows L2 Evl
theorem totAt_succ (n : Net) (am : List Nat) (i : Nat) : totAt n am (i + 2) = behind n am (totAt n am (i + 1)) := rfl
/-- the rounds grow -/
theorem totAt_grow {n : Net} {am : List Nat} (hn : GoodNet n) (hl : am.length = n.length) : ∀ i, LeL (totAt n am i) (totAt n am (i + 1))
  | 0 => ⟨by show (List.replicate n.length 0).length = am.length; rw [List.length_replicate, hl], fun j => by
      show (List.replicate n.length 0).getD j 0 ≤ _
      rw [List.getD_eq_getElem?_getD, List.getElem?_replicate]
      split <;> exact Nat.zero_le _⟩
  | 1 => ⟨by show am.length = (behind n am am).length; rw [behind_len hl, hl], fun j => by
      show am.getD j 0 ≤ (behind n am am).getD j 0
      cases hj : n[j]? with
      | none =>
        rw [List.getD_eq_getElem?_getD, List.getElem?_eq_none (by rw [hl]; exact List.getElem?_eq_none_iff.mp hj)]
        exact Nat.zero_le _
      | some p =>
        rw [behind_get hl hj]
        exact Nat.le_add_right _ _⟩
  | i + 2 => by
    have ih := totAt_grow hn hl (i + 1)
    exact LeL.behind hn hl ih
/-- below every fixed point -/
theorem totAt_le {n : Net} {am F : List Nat} (hn : GoodNet n) (hl : am.length = n.length) (hF : behind n am F = F) : ∀ i, LeL (totAt n am i) F := by
  have hFl : F.length = n.length := by rw [← hF]; exact behind_len hl
  have h1 : LeL am F := ⟨by rw [hl, hFl], fun j => by
    cases hj : n[j]? with
    | none =>
      rw [List.getD_eq_getElem?_getD, List.getElem?_eq_none (by rw [hl]; exact List.getElem?_eq_none_iff.mp hj)]
      exact Nat.zero_le _
    | some p =>
      have := behind_get (come := F) hl hj
      rw [hF] at this
      omega⟩
  intro i
  induction i with
  | zero => exact ⟨by show (List.replicate n.length 0).length = _; rw [List.length_replicate, hFl], fun j => by
      show (List.replicate n.length 0).getD j 0 ≤ _
      rw [List.getD_eq_getElem?_getD, List.getElem?_replicate]
      split <;> exact Nat.zero_le _⟩
  | succ i ih =>
    cases i with
    | zero => exact h1
    | succ i =>
      have := LeL.behind (am := am) hn hl ih
      rw [hF] at this
      exact this
end Stair
/-! ## StP13 -/
set_option Elab.async false
set_option linter.all false
set_option maxRecDepth 100000
set_option maxHeartbeats 1000000
namespace Stair
open PySem PySem.Spec PyProof.Rows L2 Evl
theorem LeL.sum : ∀ {a b : List Nat}, LeL a b → a.sum ≤ b.sum ∧ (a.sum = b.sum → a = b)
  | [], [], _ => ⟨Nat.le_refl _, fun _ => rfl⟩
  | [], y :: b, h => by cases h.1
  | y :: a, [], h => by cases h.1
  | y :: a, z :: b, h => by
    have h0 : y ≤ z := h.2 0
    have ih := LeL.sum (a := a) (b := b) ⟨by have := h.1; simpa using this, fun j => by have := h.2 (j + 1); simpa using this⟩
    rw [List.sum_cons, List.sum_cons]
    refine ⟨by omega, fun e => ?_⟩
    have e1 : y = z := by omega
    have e2 := ih.2 (by omega)
    rw [e1, e2]
/-- the totals settle -/
theorem settles_exists {n : Net} {am F : List Nat} (hn : GoodNet n) (hl : am.length = n.length) (hF : behind n am F = F) : ∃ N, Settles n am N := by
  have hstop : ∃ i, totAt n am i = totAt n am (i + 1) := by
    refine Classical.byContradiction fun hno => ?_
    have hgr : ∀ i, i ≤ (totAt n am i).sum := fun i => by
      induction i with
      | zero => exact Nat.zero_le _
      | succ i ih =>
        have s := (totAt_grow hn hl i).sum
        have : (totAt n am i).sum ≠ (totAt n am (i + 1)).sum := fun z => hno ⟨i, s.2 z⟩
        omega
    have h1 := hgr (F.sum + 1)
    have h2 := (totAt_le hn hl hF (F.sum + 1)).sum.1
    omega
  obtain ⟨i, hi⟩ := hstop
  obtain ⟨N, h1, h2⟩ := least_of (p := fun i => totAt n am i = totAt n am (i + 1)) i hi
  exact ⟨N, h1, h2⟩
end Stair
/-! ## StP14 -/
set_option Elab.async false
set_option linter.all false
set_option maxRecDepth 100000
set_option maxHeartbeats 1000000
namespace Stair
open PySem PySem.Spec PyProof.Rows L2 Evl
/-- the settled totals are a fixed point -/
theorem settled_fix {n : Net} {am : List Nat} {N : Nat} (hn : GoodNet n) (hl : am.length = n.length) (h : Settles n am N) : behind n am (totAt n am N) = totAt n am N := by
  cases N with
  | zero =>
    have e : List.replicate n.length 0 = am := h.stop
    show behind n am (List.replicate n.length 0) = List.replicate n.length 0
    apply List.ext_getElem?
    intro j
    cases hj : n[j]? with
    | none =>
      have hnl := List.getElem?_eq_none_iff.mp hj
      rw [List.getElem?_eq_none (by rw [behind_len hl]; exact hnl), List.getElem?_eq_none (by rw [List.length_replicate]; exact hnl)]
    | some p =>
      have g := behind_get (come := List.replicate n.length 0) hl hj
      rw [handed_zero, Nat.add_zero, ← e] at g
      have hin := (List.getElem?_eq_some_iff.mp hj).1
      have l1 : j < (behind n (List.replicate n.length 0) (List.replicate n.length 0)).length := by rw [behind_len List.length_replicate]; exact hin
      rw [← e]
      rw [List.getD_eq_getElem?_getD, List.getD_eq_getElem?_getD, List.getElem?_eq_getElem l1, List.getElem?_replicate_of_lt hin] at g
      rw [List.getElem?_eq_getElem l1, List.getElem?_replicate_of_lt hin]
      exact congrArg some g
  | succ N => exact h.stop.symm
end Stair
/-! ## StP15 -/
set_option Elab.async false
set_option linter.all false
set_option maxRecDepth 100000
set_option maxHeartbeats 1000000
namespace Stair
open PySem PySem.Spec PyProof.Rows L2 Evl
/-- dealing never leaves what a fixed point allows -/
theorem raw_le {n : Net} {am L : List Nat} (hn : GoodNet n) (hfix : ∀ (j : Nat) (p : Str × Deal), n[j]? = some p → L.getD j 0 = am.getD j 0 + handed n L p.1) {a b : Str} {cur cur' : List Nat} (h : PaidRaw n a cur b cur') :
    cur.length = n.length → (∀ (j : Nat) (p : Str × Deal), n[j]? = some p → cur.getD j 0 + (if a = p.1 then 1 else 0) ≤ am.getD j 0 + handed n cur p.1) → LeL cur L → LeL cur' L := by
  induction h with
  | out _ => exact fun _ _ h => h
  | step hi hc h ih =>
    rename_i i a b d c cur cur'
    intro hl hk hle
    have hd := hn.deal _ (List.mem_of_getElem? hi)
    have hset : ∀ x, handed n (cur.set i (c + 1)) x = handed n cur x + (if d.name c = x then 1 else 0) := fun x => handed_set x hd hi hc
    have hin : i < cur.length := (List.getElem?_eq_some_iff.mp hc).1
    have g : ∀ j, (cur.set i (c + 1)).getD j 0 = if i = j then c + 1 else cur.getD j 0 := fun j => by
      rw [List.getD_eq_getElem?_getD, List.getD_eq_getElem?_getD]
      by_cases q : i = j
      · subst q
        rw [if_pos rfl, List.getElem?_set_self hin]
        rfl
      · rw [if_neg q, List.getElem?_set_ne q]
    have gc : cur.getD i 0 = c := by rw [List.getD_eq_getElem?_getD, hc]; rfl
    refine ih (by rw [List.length_set]; exact hl) (fun j p hj => ?_) ⟨by rw [List.length_set]; exact hle.1, fun j => ?_⟩
    · rw [hset, g]
      have e := hk j p hj
      by_cases q : i = j
      · subst q
        rw [hi] at hj
        cases hj
        rw [if_pos rfl] at e ⊢
        rw [gc] at e
        omega
      · rw [if_neg q]
        omega
    · rw [g]
      by_cases q : i = j
      · subst q
        rw [if_pos rfl]
        have e := hk i _ hi
        rw [if_pos rfl, gc] at e
        have e2 := hfix i _ hi
        have e3 := handed_mono a hn.deal hle
        have e4 : L.getD i 0 = am.getD i 0 + handed n L a := e2
        have e5 : c + 1 ≤ am.getD i 0 + handed n cur a := e
        omega
      · rw [if_neg q]
        exact hle.2 j
end Stair
/-! ## StP16 -/
set_option Elab.async false
set_option linter.all false
set_option maxRecDepth 100000
set_option maxHeartbeats 1000000
namespace Stair
open PySem PySem.Spec PyProof.Rows L2 Evl
def amOf (n : Net) (h : Str) (M : Nat) : List Nat := n.map fun p => if h = p.1 then M else 0
theorem amOf_get {n : Net} {h : Str} {M j : Nat} {p : Str × Deal} (hj : n[j]? = some p) : (amOf n h M).getD j 0 = if h = p.1 then M else 0 := by
  unfold amOf
  rw [List.getD_eq_getElem?_getD, List.getElem?_map, hj]
  rfl
theorem amOf_len (n : Net) (h : Str) (M : Nat) : (amOf n h M).length = n.length := List.length_map _
theorem getD_ext {a b : List Nat} (hl : a.length = b.length) (h : ∀ j, a.getD j 0 = b.getD j 0) : a = b := by
  apply List.ext_getElem hl
  intro i h1 h2
  have := h i
  rw [List.getD_eq_getElem?_getD, List.getD_eq_getElem?_getD, List.getElem?_eq_getElem h1, List.getElem?_eq_getElem h2] at this
  exact this
theorem Raws.fix {n : Net} (hn : GoodNet n) {h : Str} {curs : Nat → List Nat} {nm : Nat → Str} (w : Raws n h curs nm) (M : Nat) : behind n (amOf n h M) (curs M) = curs M := by
  refine getD_ext (by rw [behind_len (amOf_len n h M), w.len]) fun j => ?_
  cases hj : n[j]? with
  | none =>
    have hnl := List.getElem?_eq_none_iff.mp hj
    rw [List.getD_eq_getElem?_getD, List.getD_eq_getElem?_getD, List.getElem?_eq_none (by rw [behind_len (amOf_len n h M)]; exact hnl), List.getElem?_eq_none (by rw [w.len]; exact hnl)]
  | some p => rw [behind_get (amOf_len n h M) hj, amOf_get hj, w.house hn hj M]
theorem totals_eq {n : Net} (hn : GoodNet n) {h : Str} {curs : Nat → List Nat} {nm : Nat → Str} (w : Raws n h curs nm) {M N : Nat} (hs : Settles n (amOf n h M) N) : totAt n (amOf n h M) N = curs M := by
  have hl := amOf_len n h M
  have e1 := totAt_le hn hl (w.fix hn M) N
  have hfix := settled_fix hn hl hs
  have hf : ∀ (j : Nat) (p : Str × Deal), n[j]? = some p → (totAt n (amOf n h M) N).getD j 0 = (amOf n h M).getD j 0 + handed n (totAt n (amOf n h M) N) p.1 := fun j p hj => by
    have := behind_get (come := totAt n (amOf n h M) N) hl hj
    rw [hfix] at this
    exact this
  have e2 : ∀ k, k ≤ M → LeL (curs k) (totAt n (amOf n h M) N) := fun k => by
    induction k with
    | zero => exact fun _ => ⟨by rw [w.len, e1.1, w.len], fun j => by
        rw [w.zero, List.getD_eq_getElem?_getD, List.getElem?_replicate]
        split <;> exact Nat.zero_le _⟩
    | succ k ih =>
      intro hk
      refine raw_le hn hf (w.go k) (w.len k) (fun j p hj => ?_) (ih (by omega))
      rw [w.house hn hj k, amOf_get hj]
      by_cases q : h = p.1
      · rw [if_pos q, if_pos q, if_pos q]
        omega
      · rw [if_neg q, if_neg q, if_neg q]
        omega
  exact getD_ext e1.1 fun j => Nat.le_antisymm (e1.2 j) ((e2 M (Nat.le_refl _)).2 j)
end Stair
/-! ## StP17 -/
set_option Elab.async false
set_option linter.all false
set_option maxRecDepth 100000
set_option maxHeartbeats 1000000
namespace Stair
open PySem PySem.Spec PyProof.Rows L2 Evl
/-! # Plain: rows that go round -/
theorem flat_get {α : Type} (t : List α) : ∀ (n i : Nat), i < n * t.length → ((List.replicate n t).flatten)[i]? = t[i % t.length]?
  | 0, i, h => by omega
  | n + 1, i, h => by
    rw [List.replicate_succ, List.flatten_cons]
    rw [Nat.add_mul, Nat.one_mul] at h
    rcases Nat.lt_or_ge i t.length with z | z
    · rw [List.getElem?_append_left z, Nat.mod_eq_of_lt z]
    · rw [List.getElem?_append_right z, flat_get t n (i - t.length) (by omega)]
      congr 1
      exact (Nat.mod_eq_sub_mod z).symm
theorem flat_len {α : Type} (t : List α) (n : Nat) : ((List.replicate n t).flatten).length = n * t.length := by
  induction n with
  | zero => simp
  | succ n ih => rw [List.replicate_succ, List.flatten_cons, List.length_append, ih, Nat.add_mul, Nat.one_mul, Nat.add_comm]
/-- turned by s it is the same -/
def Rot {α : Type} (l : List α) (s : Nat) : Prop := ∀ i, i < l.length → l[(i + s) % l.length]? = l[i]?
theorem turn_get {α : Type} (l : List α) {s i : Nat} (hs : s ≤ l.length) (hi : i < l.length) : (l.drop s ++ l.take s)[i]? = l[(i + s) % l.length]? := by
  rcases Nat.lt_or_ge i (l.length - s) with z | z
  · rw [List.getElem?_append_left (by rw [List.length_drop]; exact z), List.getElem?_drop, Nat.mod_eq_of_lt (by omega), Nat.add_comm]
  · rw [List.getElem?_append_right (by rw [List.length_drop]; exact z), List.length_drop, List.getElem?_take, if_pos (by omega)]
    congr 1
    rw [Nat.mod_eq_sub_mod (by omega), Nat.mod_eq_of_lt (by omega)]
    omega
theorem rot_iff {α : Type} (l : List α) {s : Nat} (hs : s ≤ l.length) : l.drop s ++ l.take s = l ↔ Rot l s := by
  constructor
  · intro h i hi
    rw [← turn_get l hs hi, h]
  · intro h
    apply List.ext_getElem?
    intro i
    rcases Nat.lt_or_ge i l.length with z | z
    · rw [turn_get l hs z, h i z]
    · rw [List.getElem?_eq_none (by rw [List.length_append, List.length_drop, List.length_take]; omega), List.getElem?_eq_none z]
theorem Rot.add {α : Type} {l : List α} {s t : Nat} (a : Rot l s) (b : Rot l t) : Rot l (s + t) := fun i hi => by
  have h := b ((i + s) % l.length) (Nat.mod_lt _ (by omega))
  rw [Nat.mod_add_mod] at h
  rw [← Nat.add_assoc, h, a i hi]
theorem Rot.mul {α : Type} {l : List α} {s : Nat} (a : Rot l s) : ∀ k, Rot l (k * s)
  | 0 => fun i hi => by rw [Nat.zero_mul, Nat.add_zero, Nat.mod_eq_of_lt hi]
  | k + 1 => by rw [Nat.add_mul, Nat.one_mul]; exact (Rot.mul a k).add a
theorem Rot.mod {α : Type} {l : List α} {s : Nat} (a : Rot l s) : Rot l (s % l.length) := fun i hi => by
  rw [Nat.add_mod_mod]
  exact a i hi
/-- the least turn -/
structure LeastT {α : Type} (l : List α) (r : Nat) : Prop where
  lo : 1 ≤ r
  hi : r ≤ l.length
  yes : Rot l r
  no : ∀ s, 1 ≤ s → s < r → ¬ Rot l s
theorem rot_self {α : Type} (l : List α) : Rot l l.length := fun i hi => by rw [Nat.add_mod_right, Nat.mod_eq_of_lt hi]
theorem LeastT.dvd {α : Type} {l : List α} {r : Nat} (h : LeastT l r) : l.length % r = 0 := by
  refine Classical.byContradiction fun hm => ?_
  have hr := h.lo
  have hdm := Nat.div_add_mod l.length r
  have hlt := Nat.mod_lt l.length (show 0 < r by omega)
  have a := (h.yes.mul (l.length / r + 1)).mod
  have e : (l.length / r + 1) * r = l.length + (r - l.length % r) := by
    rw [Nat.add_mul, Nat.one_mul, Nat.mul_comm]
    omega
  rw [e, Nat.add_mod_left] at a
  rcases Nat.lt_or_ge (r - l.length % r) l.length with z | z
  · rw [Nat.mod_eq_of_lt z] at a
    exact h.no _ (by omega) (by omega) a
  · have := h.hi
    omega
theorem LeastT.get {α : Type} {l : List α} {r : Nat} (h : Rot l r) (hr : 1 ≤ r) : ∀ i, i < l.length → l[i]? = l[i % r]? := by
  intro i
  induction i using Nat.strongRecOn with
  | ind i ih =>
    intro hi
    rcases Nat.lt_or_ge i r with z | z
    · rw [Nat.mod_eq_of_lt z]
    · have a := h (i - r) (by omega)
      rw [show i - r + r = i by omega, Nat.mod_eq_of_lt hi] at a
      rw [a, ih (i - r) (by omega) (by omega)]
      congr 1
      exact (Nat.mod_eq_sub_mod z).symm
theorem rep_of_rot {α : Type} {l : List α} {k : Nat} (hk : 1 ≤ k) (hl : k ≤ l.length) (hd : l.length % k = 0) (h : Rot l k) : (List.replicate (l.length / k) (l.take k)).flatten = l := by
  have ht : (l.take k).length = k := by rw [List.length_take]; omega
  have hm : l.length / k * k = l.length := by
    have := Nat.div_add_mod l.length k
    rw [hd, Nat.mul_comm] at this
    omega
  apply List.ext_getElem?
  intro i
  rcases Nat.lt_or_ge i l.length with z | z
  · rw [flat_get _ _ _ (by rw [ht, hm]; exact z), ht, LeastT.get h hk i z, List.getElem?_take, if_pos (Nat.mod_lt _ hk)]
  · rw [List.getElem?_eq_none (by rw [flat_len, ht, hm]; exact z), List.getElem?_eq_none z]
theorem rot_of_rep {α : Type} {l : List α} {k : Nat} (hk : 1 ≤ k) (hl : k ≤ l.length) (hd : l.length % k = 0) (h : (List.replicate (l.length / k) (l.take k)).flatten = l) : Rot l k := by
  have ht : (l.take k).length = k := by rw [List.length_take]; omega
  have hm : l.length / k * k = l.length := by
    have := Nat.div_add_mod l.length k
    rw [hd, Nat.mul_comm] at this
    omega
  have g : ∀ i, i < l.length → l[i]? = (l.take k)[i % k]? := fun i hi => by
    have e := flat_get (l.take k) (l.length / k) i (by rw [ht, hm]; exact hi)
    rw [h, ht] at e
    exact e
  intro i hi
  have hlt : (i + k) % l.length < l.length := Nat.mod_lt _ (by omega)
  rw [g _ hlt, g i hi]
  congr 1
  have hdv : k ∣ l.length := Nat.dvd_of_mod_eq_zero hd
  rw [Nat.mod_mod_of_dvd _ hdv, Nat.add_mod_right]
theorem lt_exists {α : Type} (l : List α) (h : 1 ≤ l.length) : ∃ r, LeastT l r := by
  have ex : ∃ r, 1 ≤ r ∧ Rot l r := ⟨l.length, h, rot_self l⟩
  have least : ∀ (p : Nat → Prop) (n : Nat), p n → ∃ m, m ≤ n ∧ p m ∧ ∀ k, k < m → ¬ p k := by
    intro p n
    induction n using Nat.strongRecOn with
    | ind n ih =>
      intro hp
      by_cases hq : ∃ k, k < n ∧ p k
      · obtain ⟨k, hk, hpk⟩ := hq
        obtain ⟨m, a, b, c⟩ := ih k hk hpk
        exact ⟨m, by omega, b, c⟩
      · exact ⟨n, Nat.le_refl _, hp, fun k hk hpk => hq ⟨k, hk, hpk⟩⟩
  obtain ⟨r, a, b, c⟩ := least (fun r => 1 ≤ r ∧ Rot l r) l.length ⟨h, rot_self l⟩
  exact ⟨r, b.1, a, b.2, fun s h1 h2 h3 => c s h2 ⟨h1, h3⟩⟩
theorem LeastT.map {α β : Type} {l : List α} {r : Nat} (f : α → β) (hf : ∀ a ∈ l, ∀ b ∈ l, f a = f b → a = b) (h : LeastT l r) : LeastT (l.map f) r := by
  have hl : (l.map f).length = l.length := List.length_map _
  have key : ∀ s, Rot (l.map f) s ↔ Rot l s := fun s => by
    constructor
    · intro a i hi
      have e := a i (by rw [hl]; exact hi)
      rw [hl, List.getElem?_map, List.getElem?_map] at e
      have h1 : (i + s) % l.length < l.length := Nat.mod_lt _ (by omega)
      rw [List.getElem?_eq_getElem h1, List.getElem?_eq_getElem hi] at e ⊢
      have e2 : f l[(i + s) % l.length] = f l[i] := Option.some.inj e
      rw [hf _ (List.getElem_mem h1) _ (List.getElem_mem hi) e2]
    · intro a i hi
      rw [hl] at hi
      rw [hl, List.getElem?_map, List.getElem?_map, a i hi]
  exact ⟨h.lo, by rw [hl]; exact h.hi, (key r).mpr h.yes, fun s a b c => h.no s a b ((key s).mp c)⟩
theorem LeastT.uniq {α : Type} {l : List α} {r s : Nat} (h : LeastT l r) (g : LeastT l s) : r = s := by
  rcases Nat.lt_trichotomy r s with z | z | z
  · exact absurd h.yes (g.no r h.lo z)
  · exact z
  · exact absurd g.yes (h.no s g.lo z)
/-- the least turn of the part that it repeats -/
theorem LeastT.take {α : Type} {l : List α} {r : Nat} (h : LeastT l r) : LeastT (l.take r) r := by
  have hr := h.lo
  have hh := h.hi
  have ht : (l.take r).length = r := by rw [List.length_take]; omega
  refine ⟨h.lo, by omega, ?_, fun s h1 h2 h3 => h.no s h1 h2 fun i hi => ?_⟩
  · have := rot_self (l.take r)
    rw [ht] at this
    exact this
  · have g : ∀ i, i < l.length → l[i]? = (l.take r)[i % r]? := fun i hi => by
      rw [LeastT.get h.yes hr i hi, List.getElem?_take, if_pos (Nat.mod_lt _ hr)]
    have hlt : (i + s) % l.length < l.length := Nat.mod_lt _ (by omega)
    have hdv : r ∣ l.length := Nat.dvd_of_mod_eq_zero h.dvd
    have a := h3 (i % r) (by rw [ht]; exact Nat.mod_lt _ hr)
    rw [ht, Nat.mod_add_mod] at a
    rw [g _ hlt, g i hi, Nat.mod_mod_of_dvd _ hdv, a]
theorem leastRoot_lt {l : List Nat} {r : Nat} (h : LeastT l r) : leastRoot l = l.take r := by
  have h1 := h.lo
  have h2 := h.hi
  unfold leastRoot
  cases e : rootN l 1 (l.length - 1) with
  | some k =>
    obtain ⟨i, rfl, hi, ha, hb⟩ := rootN_some e
    have e2 : r = 1 + i := by
      rcases Nat.lt_trichotomy r (1 + i) with z | z | z
      · have q := ha (r - 1) (by omega)
        rw [show 1 + (r - 1) = r by omega] at q
        exact absurd ⟨h.dvd, rep_of_rot h1 h2 h.dvd h.yes⟩ q
      · exact z
      · exact absurd (rot_of_rep (by omega) (by omega) hb.1 hb.2) (h.no (1 + i) (by omega) z)
    rw [e2]
  | none =>
    have e2 : r = l.length := by
      rcases Nat.lt_or_ge r l.length with z | z
      · have q := rootN_none e (r - 1) (by omega)
        rw [show 1 + (r - 1) = r by omega] at q
        exact absurd ⟨h.dvd, rep_of_rot h1 h2 h.dvd h.yes⟩ q
      · omega
    rw [e2, List.take_length]
theorem leastRoot_length {l : List Nat} {r : Nat} (h : LeastT l r) : (leastRoot l).length = r := by
  rw [leastRoot_lt h, List.length_take]
  have := h.hi
  omega
/-- the root of a root is itself -/
theorem leastRoot_two {l : List Nat} {r : Nat} (h : LeastT l r) : (leastRoot (leastRoot l)).length = r := by
  rw [leastRoot_lt h]
  exact leastRoot_length h.take
/-- the root goes round as the row does -/
theorem leastRoot_get {l : List Nat} {r : Nat} (h : LeastT l r) {i : Nat} (hi : i < l.length) : (leastRoot l)[i % (leastRoot l).length]? = l[i]? := by
  rw [leastRoot_length h, leastRoot_lt h, List.getElem?_take, if_pos (Nat.mod_lt _ h.lo), LeastT.get h.yes h.lo i hi]
/-- the row, and then its round over and over -/
theorem going_get {α : Type} {nm : Nat → α} {b N : Nat} (hb : b < N) (hp : ∀ i, b ≤ i → nm i = nm (b + (i - b) % (N - b))) (k : Nat) {i : Nat} (hi : i < N + k * (N - b)) :
    (((List.range N).map nm) ++ (List.replicate k (((List.range N).map nm).drop b)).flatten)[i]? = some (nm i) := by
  have hl : ((List.range N).map nm).length = N := by rw [List.length_map, List.length_range]
  have hd : (((List.range N).map nm).drop b).length = N - b := by rw [List.length_drop, hl]
  rcases Nat.lt_or_ge i N with z | z
  · rw [List.getElem?_append_left (by rw [hl]; exact z), List.getElem?_map, List.getElem?_range z]
    rfl
  · rw [List.getElem?_append_right (by rw [hl]; exact z), hl, flat_get _ _ _ (by rw [hd]; omega), hd, List.getElem?_drop]
    have hm : (i - N) % (N - b) < N - b := Nat.mod_lt _ (by omega)
    rw [List.getElem?_map, List.getElem?_range (by omega), hp i (by omega)]
    show some _ = some _
    congr 3
    rw [show i - b = (i - N) + (N - b) by omega, Nat.add_mod_right]
theorem going_take {α : Type} {nm : Nat → α} {b N : Nat} (hb : b < N) (hp : ∀ i, b ≤ i → nm i = nm (b + (i - b) % (N - b))) {k M : Nat} (hM : M ≤ N + k * (N - b)) :
    (((List.range N).map nm) ++ (List.replicate k (((List.range N).map nm).drop b)).flatten).take M = (List.range M).map nm := by
  apply List.ext_getElem?
  intro i
  rcases Nat.lt_or_ge i M with z | z
  · rw [List.getElem?_take, if_pos z, going_get hb hp k (by omega), List.getElem?_map, List.getElem?_range z]
    rfl
  · rw [List.getElem?_take, if_neg (by omega), List.getElem?_eq_none (by rw [List.length_map, List.length_range]; exact z)]
theorem going_len {α : Type} {nm : Nat → α} {b N : Nat} (hb : b < N) (k : Nat) : (((List.range N).map nm) ++ (List.replicate k (((List.range N).map nm).drop b)).flatten).length = N + k * (N - b) := by
  rw [List.length_append, flat_len, List.length_drop, List.length_map, List.length_range]
theorem enough {N b : Nat} (hb : b < N) : 1000 ≤ (1000 / (N - b) + 1) * (N - b) ∧ (1000 / (N - b) + 1) * (N - b) ≤ 1000 + (N - b) := by
  have h1 := Nat.div_add_mod 1000 (N - b)
  have h2 := Nat.mod_lt 1000 (show 0 < N - b by omega)
  rw [Nat.add_mul, Nat.one_mul, Nat.mul_comm]
  omega
theorem take_join {α : Type} (l : List α) {m x : Nat} (h : m ≤ x) : l.take m ++ (l.drop m).take (x - m) = l.take x := by
  have e := List.take_append_drop m (l.take x)
  rw [List.take_take, Nat.min_eq_left h, List.drop_take] at e
  exact e
theorem parts_flat (l : List Nat) (b : Nat) : ∀ m, ((List.range m).map (partAtB l b)).flatten = l.take (min b (400 * m))
  | 0 => by simp
  | m + 1 => by
    rw [List.range_succ, List.map_append, List.flatten_append, parts_flat l b m]
    show _ ++ (partAtB l b m ++ []) = _
    rw [List.append_nil]
    unfold partAtB
    rcases Nat.le_total b (400 * m) with h | h
    · rw [Nat.min_eq_left h, Nat.min_eq_left (show b ≤ 400 * (m + 1) by omega), show min b (400 * m + 400) - 400 * m = 0 by omega, List.take_zero, List.append_nil]
    · rw [Nat.min_eq_right h, take_join l (show 400 * m ≤ min b (400 * m + 400) by omega)]
      congr 1
theorem parts_all (l : List Nat) (b : Nat) : ((List.range ((b + 399) / 400)).map (partAtB l b)).flatten = l.take b := by
  rw [parts_flat, Nat.min_eq_left (by omega)]
end Stair
/-! ## StP18 -/
set_option Elab.async false
set_option linter.all false
set_option maxRecDepth 100000
set_option maxHeartbeats 1000000
namespace Stair
open PySem PySem.Spec PyProof.Rows L2 Evl
/-! # Plain: the melted deal tells the row -/
def chunkRuns (ts : List (List Nat)) (f : Str) : List Run := ts.map (fun t => (some t.length, mk t)) ++ [(none, f)]
theorem sign_chunks (f : Str) : ∀ (ts : List (List Nat)) (c : Nat), signAt (chunkRuns ts f) c = if c < ts.flatten.length then ts.flatten.getD c 48 else (sg f).getD ((c - ts.flatten.length) % f.length) 48
  | [], c => by
    rw [if_neg (by simp)]
    show (sg f).getD (c % f.length) 48 = _
    rw [List.flatten_nil, List.length_nil, Nat.sub_zero]
  | t :: ts, c => by
    show (if c < t.length then (sg (mk t)).getD (c % (mk t).length) 48 else signAt (chunkRuns ts f) (c - t.length)) = _
    rw [List.flatten_cons, List.length_append, sg_mk, mk_length, sign_chunks f ts (c - t.length)]
    by_cases h : c < t.length
    · rw [if_pos h, if_pos (by omega), Nat.mod_eq_of_lt h, List.getD_eq_getElem?_getD, List.getD_eq_getElem?_getD, List.getElem?_append_left h]
    · rw [if_neg h]
      by_cases h2 : c - t.length < ts.flatten.length
      · rw [if_pos h2, if_pos (by omega), List.getD_eq_getElem?_getD, List.getD_eq_getElem?_getD, List.getElem?_append_right (by omega)]
      · rw [if_neg h2, if_neg (by omega)]
        congr 2
        omega
theorem melt_runs (row : List Str) (b : Nat) : (meltDeal row b).runs = chunkRuns ((List.range ((b + 399) / 400)).map (partAtB (digs row) b)) (mk (leastRoot ((digs row).drop b))) := by
  unfold meltDeal Deal.runs meltInit chunkRuns
  rw [List.map_map, List.map_map]
  rfl
section
variable {nm : Nat → Str} {b N : Nat} (hb : b < N) (hp : ∀ i, b ≤ i → nm i = nm (b + (i - b) % (N - b)))
include hb hp
theorem nm_mem (i : Nat) : nm i ∈ (List.range N).map nm := by
  rcases Nat.lt_or_ge i N with z | z
  · exact List.mem_map.mpr ⟨i, List.mem_range.mpr z, rfl⟩
  · have hm : (i - b) % (N - b) < N - b := Nat.mod_lt _ (by omega)
    exact List.mem_map.mpr ⟨b + (i - b) % (N - b), List.mem_range.mpr (by omega), (hp i (by omega)).symm⟩
omit hp in
theorem digs_get {i : Nat} (hi : i < N) : (digs ((List.range N).map nm))[i]? = some (48 + (sortS ((List.range N).map nm)).idxOf (nm i)) := by
  unfold digs
  rw [List.getElem?_map, List.getElem?_map, List.getElem?_range hi]
  rfl
theorem melt_sign (c : Nat) : signAt (meltDeal ((List.range N).map nm) b).runs c = 48 + (sortS ((List.range N).map nm)).idxOf (nm c) := by
  have hl : (digs ((List.range N).map nm)).length = N := by rw [digs_length, List.length_map, List.length_range]
  rw [melt_runs, sign_chunks, parts_all, List.length_take, hl, Nat.min_eq_left (by omega)]
  by_cases h : c < b
  · rw [if_pos h, List.getD_eq_getElem?_getD, List.getElem?_take, if_pos h, digs_get hb (by omega)]
    rfl
  · rw [if_neg h, sg_mk, mk_length]
    have hdl : ((digs ((List.range N).map nm)).drop b).length = N - b := by rw [List.length_drop, hl]
    obtain ⟨r, hr⟩ := lt_exists ((digs ((List.range N).map nm)).drop b) (by omega)
    have hm : (c - b) % (N - b) < N - b := Nat.mod_lt _ (by omega)
    have g := leastRoot_get hr (i := (c - b) % (N - b)) (by omega)
    have hrl := leastRoot_length hr
    have hdv : (leastRoot ((digs ((List.range N).map nm)).drop b)).length ∣ N - b := by
      rw [hrl, ← hdl]
      exact Nat.dvd_of_mod_eq_zero hr.dvd
    rw [Nat.mod_mod_of_dvd _ hdv] at g
    rw [List.getD_eq_getElem?_getD, g, List.getElem?_drop, digs_get hb (by omega), ← hp c (by omega)]
    rfl
theorem melt_fig (c : Nat) : (meltDeal ((List.range N).map nm) b).fig c = (sortS ((List.range N).map nm)).idxOf (nm c) := by
  rw [Deal.fig_sign, melt_sign hb hp]
  omega
theorem melt_name (c : Nat) : (meltDeal ((List.range N).map nm) b).name c = nm c := by
  unfold Deal.name
  rw [melt_fig hb hp]
  show (sortS ((List.range N).map nm)).getD _ _ = _
  rw [List.getD_eq_getElem?_getD, idx_at (mem_sortS.mpr (nm_mem hb hp c))]
  rfl
end
/-- the melted deal is one -/
theorem melt_good {row : List Str} {b : Nat} (hb : b < row.length) (hb2 : b ≤ 2000) (hw : ∀ a ∈ row, GoodWord a) (h6 : (sortS row).length ≤ 6) (h4 : (meltDeal row b).last.length ≤ 400) : GoodDeal (meltDeal row b) := by
  have hdl := digs_length row
  have hall : ∀ c ∈ digs row, 48 ≤ c ∧ c < 48 + (sortS row).length := fun c hc => by
    obtain ⟨a, ha, rfl⟩ := List.mem_map.mp hc
    have := List.idxOf_lt_length_iff.mpr (mem_sortS.mpr ha)
    omega
  have hne : 1 ≤ (sortS row).length := by
    have hm : row[0]'(by omega) ∈ sortS row := mem_sortS.mpr (List.getElem_mem _)
    exact List.length_pos_of_mem hm
  have hlast : GoodFigs (sortS row).length (mk (leastRoot ((digs row).drop b))) := by
    obtain ⟨r, hr⟩ := lt_exists ((digs row).drop b) (by rw [List.length_drop]; omega)
    refine ⟨by rw [mk_length, leastRoot_length hr]; exact hr.lo, h4, fun c hc => ?_⟩
    have hc' : c ∈ leastRoot ((digs row).drop b) := by rw [← sg_mk (leastRoot ((digs row).drop b))]; exact hc
    rw [leastRoot_lt hr] at hc'
    exact hall c (List.mem_of_mem_drop (List.mem_of_mem_take hc'))
  refine ⟨⟨hne, h6, fun a ha => hw a (mem_sortS.mp ha), srt_sortS _⟩, ?_, fun r hr => ?_, hlast⟩
  · show (meltInit (digs row) b).length < 60
    unfold meltInit
    rw [List.length_map, List.length_range]
    omega
  · have hr' : r ∈ meltInit (digs row) b := hr
    obtain ⟨i, hi, rfl⟩ := List.mem_map.mp hr'
    have hi2 := List.mem_range.mp hi
    have hpl : (partAtB (digs row) b i).length = min b (400 * i + 400) - 400 * i := by
      unfold partAtB
      rw [List.length_take, List.length_drop]
      omega
    refine ⟨by show 1 ≤ (partAtB (digs row) b i).length; omega, by show (partAtB (digs row) b i).length ≤ _; omega, ?_⟩
    refine ⟨by rw [mk_length]; omega, by rw [mk_length]; omega, fun c hc => ?_⟩
    have hc' : c ∈ partAtB (digs row) b i := by rw [← sg_mk (partAtB (digs row) b i)]; exact hc
    exact hall c (List.mem_of_mem_drop (List.mem_of_mem_take hc'))
/-- the law's least turn is the root's length -/
theorem turn_root {row : List Str} {b r : Nat} (h : LeastTurn (row.drop b) r) : LeastT ((digs row).drop b) r := by
  have key : ∀ {l : List Str} {r : Nat}, LeastTurn l r → LeastT l r := fun {l r} h => by
    have hh := h.hi
    refine ⟨h.lo, hh, ?_, fun s h1 h2 h3 => h.no s h1 h2 ((rot_iff l (by omega)).mpr h3)⟩
    rcases Nat.lt_or_ge r l.length with z | z
    · exact (rot_iff l hh).mp (h.yes z)
    · rw [show r = l.length by omega]
      exact rot_self l
  have e : (digs row).drop b = (row.drop b).map fun a => 48 + (sortS row).idxOf a := by
    unfold digs
    rw [List.map_drop]
  rw [e]
  refine (key h).map _ fun a ha c hc hac => ?_
  have ha' := idx_at (mem_sortS.mpr (List.mem_of_mem_drop ha))
  have hc' := idx_at (mem_sortS.mpr (List.mem_of_mem_drop hc))
  have e : (sortS row).idxOf a = (sortS row).idxOf c := by omega
  rw [e, hc'] at ha'
  exact (Option.some.inj ha').symm
theorem turn_exists {l : List Str} (h : 1 ≤ l.length) : ∃ r, LeastTurn l r := by
  obtain ⟨r, hr⟩ := lt_exists l h
  have hh := hr.hi
  exact ⟨r, hr.lo, hh, fun _ => (rot_iff l hh).mpr hr.yes, fun s h1 h2 h3 => hr.no s h1 h2 ((rot_iff l (by omega)).mp h3)⟩
theorem turn_last {row : List Str} {b r : Nat} (h : LeastTurn (row.drop b) r) : (meltDeal row b).last.length = r := by
  show (mk _).length = r
  rw [mk_length, leastRoot_length (turn_root h)]
theorem turn_two {row : List Str} {b r : Nat} (h : LeastTurn (row.drop b) r) : (leastRoot (sg (meltDeal row b).last)).length = r := by
  show (leastRoot (sg (mk _))).length = r
  rw [sg_mk, leastRoot_two (turn_root h)]
end Stair
/-! ## StP19 -/
set_option Elab.async false
set_option linter.all false
set_option maxRecDepth 100000
set_option maxHeartbeats 1000000
namespace Stair
open PySem PySem.Spec PyProof.Rows L2 Evl
/-! # Plain: what all have -/
theorem countN_le (nm : Nat → Str) (a : Str) : ∀ M, countN nm a M ≤ M
  | 0 => Nat.le_refl _
  | M + 1 => by
    have := countN_le nm a M
    show countN nm a M + _ ≤ M + 1
    split <;> omega
theorem fig_iff {x : Deal} (hx : GoodDeal x) {j : Nat} {a : Str} (hj : x.names[j]? = some a) (c : Nat) : x.fig c = j ↔ x.name c = a := by
  have hna := name_at hx c
  constructor
  · intro h
    rw [h, hj] at hna
    exact (Option.some.inj hna).symm
  · intro h
    rw [h] at hna
    have l1 := (List.getElem?_eq_some_iff.mp hj).1
    exact (List.getElem?_inj l1 (names_nodup hx.names.srt) |>.mp (hj.trans hna.symm)).symm
theorem countBy_countN {x : Deal} (hx : GoodDeal x) {nm : Nat → Str} (hn : ∀ c, x.name c = nm c) {j : Nat} {a : Str} (hj : x.names[j]? = some a) : ∀ M, countBy x.runs (48 + j) M = countN nm a M
  | 0 => countBy_zero _ _
  | M + 1 => by
    rw [Deal.count_succ hx, countBy_countN hx hn hj M]
    show _ = countN nm a M + (if nm M = a then 1 else 0)
    congr 1
    by_cases h : x.fig M = j
    · rw [if_pos h, if_pos (by rw [← hn]; exact (fig_iff hx hj M).mp h)]
    · rw [if_neg h, if_neg (fun z => h ((fig_iff hx hj M).mpr (by rw [hn]; exact z)))]
theorem hasD_eq {x : Deal} (hx : GoodDeal x) {nm : Nat → Str} (hn : ∀ c, x.name c = nm c) (M : Nat) : hasD x M = x.names.map fun a => countN nm a M := by
  apply List.ext_getElem?
  intro j
  unfold hasD
  rw [List.getElem?_map, List.getElem?_map]
  cases h : x.names[j]? with
  | none => rw [List.getElem?_eq_none (by rw [List.length_range]; exact List.getElem?_eq_none_iff.mp h)]; rfl
  | some a =>
    rw [List.getElem?_range (List.getElem?_eq_some_iff.mp h).1]
    show some (countBy x.runs (48 + j) M) = some (countN nm a M)
    rw [countBy_countN hx hn h]
/-- all coins come to somebody -/
theorem sum_count {nm : Nat → Str} {l : List Str} (hd : l.Nodup) (hm : ∀ i, nm i ∈ l) : ∀ M, (l.map fun a => countN nm a M).sum = M
  | 0 => by
    clear hd hm
    induction l with
    | nil => rfl
    | cons a l ih => rw [List.map_cons, List.sum_cons, ih]; rfl
  | M + 1 => by
    have ih := sum_count hd hm M
    have one : ∀ {l : List Str} {b : Str}, l.Nodup → (l.map fun a => countN nm a M + (if b = a then 1 else 0)).sum = (l.map fun a => countN nm a M).sum + (if b ∈ l then 1 else 0) := by
      intro l b
      induction l with
      | nil => intro _; rfl
      | cons a l ih2 =>
        intro hd
        obtain ⟨h1, h2⟩ := List.nodup_cons.mp hd
        rw [List.map_cons, List.sum_cons, ih2 h2, List.map_cons, List.sum_cons]
        by_cases e : b = a
        · subst e
          rw [if_pos rfl, if_neg h1, if_pos List.mem_cons_self]
          omega
        · rw [if_neg e]
          by_cases e2 : b ∈ l
          · rw [if_pos e2, if_pos (List.mem_cons_of_mem _ e2)]
            omega
          · rw [if_neg e2, if_neg (fun z => (List.mem_cons.mp z).elim e e2)]
            omega
    have e := one (b := nm M) hd
    rw [if_pos (hm M), ih] at e
    exact e
/-- who gets a coin is one of the names -/
theorem paid_mem {n : Net} (hn : GoodNet n) {m : Nat} {a b : Str} {st st' : List Nat} (h : PaidTo n m a st b st') : b = a ∨ b ∈ allNames (deals n) := by
  induction h with
  | out _ => exact .inl rfl
  | step hi hs h ih =>
    rename_i m i a b d s st st'
    right
    rcases ih with e | e
    · rw [e]
      have hd := hn.deal _ (List.mem_of_getElem? hi)
      exact List.mem_flatMap.mpr ⟨d, List.mem_map.mpr ⟨_, List.mem_of_getElem? hi, rfl⟩, List.mem_of_getElem? (name_at hd s)⟩
    · exact e
theorem Walks.people {n : Net} (hn : GoodNet n) {h : Str} (hh : h ∈ n.map (·.1)) {sts : Nat → List Nat} {nm : Nat → Str} (w : Walks n h sts nm) (i : Nat) : nm i ∈ people n := by
  obtain ⟨m, hm⟩ := w.go i
  have ho := w.out i
  rcases paid_mem hn hm with e | e
  · rw [e] at ho
    exact absurd hh ho
  · exact List.mem_filter.mpr ⟨mem_sortS.mpr e, by simpa using ho⟩
theorem people_srt (n : Net) : (people n).Pairwise Str.lt := (srt_sortS _).sublist List.filter_sublist
theorem people_word {n : Net} (hn : GoodNet n) : ∀ a ∈ people n, GoodWord a := fun a ha => by
  have h1 := mem_sortS.mp (List.mem_filter.mp ha).1
  obtain ⟨x, hx, hax⟩ := List.mem_flatMap.mp h1
  obtain ⟨p, hp, rfl⟩ := List.mem_map.mp hx
  exact (hn.deal p hp).names.word a hax
theorem people_len {n : Net} (hn : GoodNet n) : (people n).length ≤ 24 := by
  have hd : ∀ x ∈ deals n, GoodDeal x := fun x hx => by
    obtain ⟨p, hp, rfl⟩ := List.mem_map.mp hx
    exact hn.deal p hp
  have q1 := List.length_filter_le (fun a => !decide (a ∈ n.map (·.1))) (sortS (allNames (deals n)))
  have q2 := sortS_len (allNames (deals n))
  have q3 := allNames_len hd
  have q4 : (deals n).length = n.length := List.length_map ..
  have q5 := hn.hi
  unfold Stair.people
  omega
/-- sorted ones, all among others, are no more than those -/
theorem sub_len : ∀ {l m : List Str}, l.Nodup → (∀ a ∈ l, a ∈ m) → l.length ≤ m.length
  | [], m, _, _ => Nat.zero_le _
  | a :: l, m, hd, h => by
    obtain ⟨h1, h2⟩ := List.nodup_cons.mp hd
    have hm := h a List.mem_cons_self
    have ih := sub_len (l := l) (m := m.erase a) h2 fun b hb => by
      have hne : b ≠ a := fun z => h1 (by rw [← z]; exact hb)
      exact (List.mem_erase_of_ne hne).mpr (h b (List.mem_cons_of_mem _ hb))
    rw [List.length_erase_of_mem hm] at ih
    have := List.length_pos_of_mem hm
    rw [List.length_cons]
    omega
theorem row_len24 {n : Net} (hn : GoodNet n) {l : List Str} (h : ∀ a ∈ l, a ∈ people n) : (sortS l).length ≤ 24 := Nat.le_trans (sub_len (nodup_srt (srt_sortS l)) fun a ha => h a (mem_sortS.mp ha)) (people_len hn)
/-- of those of the row, of all people -/
theorem people_row {n : Net} {l : List Str} (h : ∀ a ∈ l, a ∈ people n) : (people n).filter (fun a => decide (a ∈ sortS l)) = sortS l :=
  srt_ext ((people_srt n).sublist List.filter_sublist) (srt_sortS l) fun x => by
    rw [List.mem_filter, decide_eq_true_iff]
    exact ⟨fun z => z.2, fun z => ⟨h x (mem_sortS.mp z), z⟩⟩
/-- what somebody is paid -/
theorem paid_eq {n : Net} (hn : GoodNet n) {h : Str} (hh : h ∈ n.map (·.1)) {sts : Nat → List Nat} {nm : Nat → Str} (w : Walks n h sts nm) {M N : Nat} (hs : Settles n (amOf n h M) N) {a : Str} (ha : a ∈ people n) :
    (handF (pairsOf n (totAt n (amOf n h M) N)) a).getD 0 = countN nm a M := by
  obtain ⟨curs, r⟩ := w.raws hn
  have ho : a ∉ n.map (·.1) := by simpa using (List.mem_filter.mp ha).2
  rw [handed_eq, totals_eq hn r hs]
  exact r.out hn hh ho M
theorem settles_am {n : Net} (hn : GoodNet n) {h : Str} {sts : Nat → List Nat} {nm : Nat → Str} (w : Walks n h sts nm) (M : Nat) : ∃ N, Settles n (amOf n h M) N := by
  obtain ⟨curs, r⟩ := w.raws hn
  exact settles_exists hn (amOf_len n h M) (r.fix hn M)
end Stair
/-! ## StP20 -/
set_option Elab.async false
set_option linter.all false
set_option maxRecDepth 100000
set_option maxHeartbeats 1000000
namespace Stair
open PySem PySem.Spec PyProof.Rows L2 Evl
/-! # Plain: nets that are given by hand -/
def figsB (many : Nat) (f : Str) : Bool := decide (1 ≤ f.length) && decide (f.length ≤ 6) && f.cps.toList.all fun c => decide (48 ≤ c) && decide (c < 48 + many)
def dealB (d : Deal) : Bool := decide (1 ≤ d.names.length) && decide (d.names.length ≤ 6) && d.names.all gw && decide (d.names.Pairwise fun a b => a.cps.toList < b.cps.toList) && decide (d.init.length < 60) &&
  d.init.all (fun r => decide (1 ≤ r.1) && decide (r.1 ≤ 10 ^ 12) && figsB d.names.length r.2) && figsB d.names.length d.last
def netB (n : Net) : Bool := decide (1 ≤ n.length) && decide (n.length ≤ 4) && n.all (fun p => gw p.1 && dealB p.2) && decide ((n.map (·.1)).Pairwise fun a b => a.cps.toList < b.cps.toList)
theorem figsB_ok {many : Nat} {f : Str} (h : figsB many f = true) : GoodFigs many f ∧ f.length ≤ 6 := by
  unfold figsB at h
  simp only [Bool.and_eq_true, decide_eq_true_eq, List.all_eq_true] at h
  exact ⟨⟨h.1.1, by have := h.1.2; omega, h.2⟩, h.1.2⟩
theorem dealB_ok {d : Deal} (h : dealB d = true) : GoodDeal d ∧ ∀ r ∈ d.runs, r.2.length ≤ 6 := by
  unfold dealB at h
  simp only [Bool.and_eq_true, decide_eq_true_eq, List.all_eq_true] at h
  obtain ⟨⟨⟨⟨⟨⟨h1, h2⟩, h3⟩, h4⟩, h5⟩, h6⟩, h7⟩ := h
  refine ⟨⟨⟨h1, h2, fun a ha => gw_ok (h3 a ha), h4⟩, h5, fun r hr => ⟨(h6 r hr).1.1, (h6 r hr).1.2, (figsB_ok (h6 r hr).2).1⟩, (figsB_ok h7).1⟩, fun r hr => ?_⟩
  rcases List.mem_append.mp hr with hr | hr
  · obtain ⟨x, hx, rfl⟩ := List.mem_map.mp hr
    exact (figsB_ok (h6 x hx).2).2
  · rw [List.mem_singleton.mp hr]
    exact (figsB_ok h7).2
theorem netB_ok {n : Net} (h : netB n = true) : GoodNet n := by
  unfold netB at h
  simp only [Bool.and_eq_true, decide_eq_true_eq, List.all_eq_true] at h
  obtain ⟨⟨⟨h1, h2⟩, h3⟩, h4⟩ := h
  exact ⟨h1, h2, fun p hp => gw_ok (h3 p hp).1, fun p hp => (dealB_ok (h3 p hp).2).1, fun p hp => (dealB_ok (h3 p hp).2).2, h4⟩
def opensB : Nat → Net → Bool
  | 0, n => n.isEmpty
  | f + 1, n => n.isEmpty || (!decide ((shutStep n).length = n.length) && opensB f (shutStep n))
theorem opensB_ok : ∀ {f : Nat} {n : Net}, opensB f n = true → Opens n
  | 0, n, h => by
    rw [List.isEmpty_iff.mp h]
    exact .nil
  | f + 1, n, h => by
    have h' : (n.isEmpty || (!decide ((shutStep n).length = n.length) && opensB f (shutStep n))) = true := h
    by_cases hn : n = []
    · rw [hn]
      exact .nil
    · have he : n.isEmpty = false := by cases n with | nil => exact absurd rfl hn | cons => rfl
      rw [he, Bool.false_or, Bool.and_eq_true] at h'
      exact .step hn (by simpa using h'.1) (opensB_ok h'.2)
/-- a coin dealt till it comes out -/
def payN (n : Net) : Nat → Str → List Nat → Option (Str × List Nat)
  | 0, _, _ => none
  | f + 1, a, st => if a ∈ n.map (·.1) then
      match n[(n.map (·.1)).idxOf a]?, st[(n.map (·.1)).idxOf a]? with
      | some p, some s => payN n f (p.2.name s) (st.set ((n.map (·.1)).idxOf a) (p.2.nxt s))
      | _, _ => none
    else some (a, st)
theorem payN_ok {n : Net} : ∀ {f : Nat} {a b : Str} {st st' : List Nat}, payN n f a st = some (b, st') → ∃ m, PaidTo n m a st b st'
  | 0, a, b, st, st', h => by cases h
  | f + 1, a, b, st, st', h => by
    unfold payN at h
    by_cases hm : a ∈ n.map (·.1)
    · rw [if_pos hm] at h
      split at h
      · rename_i p s h1 h2
        obtain ⟨m, hp⟩ := payN_ok h
        have e : p.1 = a := by
          have q := idx_at hm
          rw [List.getElem?_map, h1] at q
          exact Option.some.inj q
        exact ⟨m + 1, .step (i := (n.map (·.1)).idxOf a) (d := p.2) (by rw [h1, ← e]) h2 hp⟩
      · cases h
    · rw [if_neg hm] at h
      cases h
      exact ⟨0, .out hm⟩
def stsW (n : Net) (h : Str) : Nat → List Nat
  | 0 => List.replicate n.length 0
  | i + 1 => ((payN n 20 h (stsW n h i)).getD (h, [])).2
def nmW (n : Net) (h : Str) (i : Nat) : Str := ((payN n 20 h (stsW n h i)).getD (h, [])).1
def goesB (n : Net) (h : Str) (N : Nat) : Bool := (List.range N).all fun i => (payN n 20 h (stsW n h i)).isSome
theorem goesB_ok {n : Net} {h : Str} {N : Nat} (hb : goesB n h N = true) : Goes n h (stsW n h) (nmW n h) N := ⟨rfl, fun i hi => by
  have z := List.all_eq_true.mp hb i (List.mem_range.mpr hi)
  obtain ⟨q, hq⟩ := Option.isSome_iff_exists.mp z
  obtain ⟨m, hm⟩ := payN_ok (b := q.1) (st' := q.2) hq
  refine ⟨m, ?_⟩
  have e1 : nmW n h i = q.1 := by unfold nmW; rw [hq]; rfl
  have e2 : stsW n h (i + 1) = q.2 := by show ((payN n 20 h (stsW n h i)).getD (h, [])).2 = _; rw [hq]; rfl
  rw [e1, e2]
  exact hm⟩
def distB (n : Net) (h : Str) (N : Nat) : Bool := (List.range N).all fun k => (List.range k).all fun j => !decide (stsW n h j = stsW n h k)
theorem distB_ok {n : Net} {h : Str} {N : Nat} (hb : distB n h N = true) : ∀ j k, j < k → k < N → stsW n h j ≠ stsW n h k := fun j k h1 h2 => by
  have z := List.all_eq_true.mp (List.all_eq_true.mp hb k (List.mem_range.mpr h2)) j (List.mem_range.mpr h1)
  simpa using z
theorem fate_by {n : Net} {h : Str} {b N : Nat} (h1 : goesB n h N = true) (h2 : distB n h N = true) (h3 : b < N) (h4 : N ≤ 2000) (h5 : stsW n h N = stsW n h b) : Fate n h (stsW n h) (nmW n h) b N := ⟨goesB_ok h1, h3, h4, distB_ok h2, h5⟩
/-! ### the wide ones, the one -/
def oneNet : Net := [("g", ⟨["h", "p"], [], "01"⟩), ("h", ⟨["g", "q"], [(1, "0")], "010"⟩)]
theorem good6 : GoodNet wide6 := netB_ok (by decide +kernel)
theorem good7 : GoodNet wide7 := netB_ok (by decide +kernel)
theorem good1 : GoodNet oneNet := netB_ok (by decide +kernel)
theorem opens6 : Opens wide6 := opensB_ok (f := 3) (by decide +kernel)
theorem opens7 : Opens wide7 := opensB_ok (f := 3) (by decide +kernel)
theorem opens1 : Opens oneNet := opensB_ok (f := 3) (by decide +kernel)
theorem fate6 : Fate wide6 "g" (stsW wide6 "g") (nmW wide6 "g") 0 10 := fate_by (by decide +kernel) (by decide +kernel) (by decide) (by decide) (by decide +kernel)
theorem fate7 : Fate wide7 "g" (stsW wide7 "g") (nmW wide7 "g") 0 15 := fate_by (by decide +kernel) (by decide +kernel) (by decide) (by decide) (by decide +kernel)
theorem fate1 : Fate oneNet "g" (stsW oneNet "g") (nmW oneNet "g") 1 5 := fate_by (by decide +kernel) (by decide +kernel) (by decide) (by decide) (by decide +kernel)
theorem row6 : sortS ((List.range 10).map (nmW wide6 "g")) = (["p", "q", "r", "s", "t", "u"] : List Str) := by decide +kernel
theorem row7 : sortS ((List.range 15).map (nmW wide7 "g")) = (["p", "q", "r", "s", "t", "u", "v"] : List Str) := by decide +kernel
theorem last6 : (meltDeal ((List.range 10).map (nmW wide6 "g")) 0).last.length ≤ 400 := by decide +kernel
theorem goes1 : Goes oneNet "g" (stsW oneNet "g") (nmW oneNet "g") 7 := goesB_ok (by decide +kernel)
theorem part1 : (List.range 7).map (nmW oneNet "g") = (["p", "p", "q", "p", "p", "p", "q"] : List Str) := by decide +kernel
end Stair
/-! ## StP21 -/
set_option Elab.async false
set_option linter.all false
set_option maxRecDepth 100000
set_option maxHeartbeats 1000000
namespace Stair
open PySem PySem.Spec PyProof.Rows L2 Evl
/-! # Plain: long nets -/
def capD (F : Nat) : Deal := ⟨["p", "q"], [(F, "0")], "1"⟩
def capNet (F : Nat) : Net := [("g", capD F)]
def longD : Deal := ⟨["g", "p"], [(10 ^ 12, "1")], "01"⟩
def longNet : Net := [("g", longD)]
theorem fig_first {d : Deal} {F s : Nat} {f : Str} (hd : d.init = [(F, f)]) (h : s < F) : d.fig s = figAt f s := by
  have hr : d.runs = [(some F, f), (none, d.last)] := by unfold Deal.runs; rw [hd]; rfl
  have hp : d.place s = (0, s) := by
    unfold Deal.place
    rw [hr]
    show (if s < F then some (0, s) else _).getD (0, 0) = (0, s)
    rw [if_pos h]
    rfl
  unfold Deal.fig
  rw [hp]
  unfold Deal.figs
  rw [hr]
  rfl
theorem figAt_one (c s : Nat) : figAt ⟨#[c]⟩ s = c - 48 := by
  unfold figAt
  have : (⟨#[c]⟩ : Str).length = 1 := rfl
  rw [this, Nat.mod_one]
  rfl
theorem cap_first (F : Nat) : (capD F).first = F := by
  unfold Deal.first
  show ([F] : List Nat).sum = F
  simp
theorem cap_name_lo {F s : Nat} (h : s < F) : (capD F).name s = "p" := by
  unfold Deal.name
  rw [fig_first (F := F) (f := ⟨#[48]⟩) rfl h, figAt_one]
  rfl
theorem cap_name_hi {F s : Nat} (h : F ≤ s) : (capD F).name s = "q" := by
  unfold Deal.name
  rw [Deal.fig_late (by rw [cap_first]; exact h)]
  show (capD F).names.getD (figAt ⟨#[49]⟩ _) _ = _
  rw [figAt_one]
  rfl
theorem cap_nxt {F s : Nat} (h : s ≤ F) : (capD F).nxt s = min (s + 1) F := by
  unfold Deal.nxt
  rw [cap_first]
  show (if s + 1 = F + 1 then F else s + 1) = _
  split <;> omega
def capSts (F i : Nat) : List Nat := [min i F]
def capNm (F i : Nat) : Str := if i < F then "p" else "q"
theorem cap_name {F : Nat} (i : Nat) : (capD F).name (min i F) = capNm F i := by
  unfold capNm
  by_cases h : i < F
  · rw [if_pos h, cap_name_lo (by omega)]
  · rw [if_neg h, cap_name_hi (by omega)]
theorem capNm_out (F i : Nat) : capNm F i ∉ (capNet F).map (·.1) := by
  unfold capNm
  split
  · show ("p" : Str) ∉ [("g" : Str)]
    decide
  · show ("q" : Str) ∉ [("g" : Str)]
    decide
theorem cap_goes (F N : Nat) : Goes (capNet F) "g" (capSts F) (capNm F) N := ⟨by show [min 0 F] = [0]; simp, fun i _ => ⟨1, by
  refine .step (i := 0) (d := capD F) (s := min i F) rfl rfl ?_
  rw [cap_name, cap_nxt (Nat.min_le_right _ _)]
  have e : [min i F].set 0 (min (min i F + 1) F) = capSts F (i + 1) := by
    show [min (min i F + 1) F] = [min (i + 1) F]
    congr 1
    omega
  show PaidTo _ _ _ ([min i F].set 0 (min (min i F + 1) F)) _ _
  rw [e]
  exact .out (capNm_out F i)⟩⟩
theorem cap_none : NoFate (capNet 2000) "g" (capSts 2000) (capNm 2000) := ⟨cap_goes _ _, fun j k h1 h2 e => by
  have := List.cons.inj e
  omega⟩
theorem cap_fate : Fate (capNet 1999) "g" (capSts 1999) (capNm 1999) 1999 2000 := ⟨cap_goes _ _, by decide, by decide, fun j k h1 h2 e => by
  have := List.cons.inj e
  omega, rfl⟩
theorem good2000 : GoodNet (capNet 2000) := netB_ok (by decide +kernel)
theorem good1999 : GoodNet (capNet 1999) := netB_ok (by decide +kernel)
theorem goodLong : GoodNet longNet := netB_ok (by decide +kernel)
theorem opens2000 : Opens (capNet 2000) := opensB_ok (f := 3) (by decide +kernel)
theorem opens1999 : Opens (capNet 1999) := opensB_ok (f := 3) (by decide +kernel)
theorem opensLong : Opens longNet := opensB_ok (f := 3) (by decide +kernel)
def longSts (i : Nat) : List Nat := [i]
theorem long_goes {N : Nat} (hN : N ≤ 3000) : Goes longNet "g" longSts (fun _ => "p") N := ⟨rfl, fun i hi => ⟨1, by
  have hn : longD.name i = "p" := by
    unfold Deal.name
    rw [fig_first (F := 10 ^ 12) (f := ⟨#[49]⟩) rfl (by omega), figAt_one]
    rfl
  have hx : longD.nxt i = i + 1 := by
    unfold Deal.nxt
    have e : longD.first = 10 ^ 12 := by unfold Deal.first; show ([10 ^ 12] : List Nat).sum = _; simp
    have e2 : longD.last.length = 2 := rfl
    rw [e, e2, if_neg (by omega)]
  refine .step (i := 0) (d := longD) (s := i) rfl rfl ?_
  rw [hn, hx]
  exact .out (by show ("p" : Str) ∉ [("g" : Str)]; decide)⟩⟩
theorem long_none : NoFate longNet "g" longSts (fun _ => "p") := ⟨long_goes (by decide), fun j k h1 h2 e => by
  have := List.cons.inj e
  omega⟩
/-! ### what p and q have -/
theorem cap_p (F : Nat) : ∀ M, countN (capNm F) "p" M = min M F
  | 0 => by simp [countN]
  | M + 1 => by
    show countN (capNm F) "p" M + (if capNm F M = "p" then 1 else 0) = _
    rw [cap_p F M]
    unfold capNm
    by_cases h : M < F
    · rw [if_pos h, if_pos rfl]; omega
    · rw [if_neg h, if_neg (by decide)]; omega
theorem cap_q (F : Nat) : ∀ M, countN (capNm F) "q" M = M - F
  | 0 => by simp [countN]
  | M + 1 => by
    show countN (capNm F) "q" M + (if capNm F M = "q" then 1 else 0) = _
    rw [cap_q F M]
    unfold capNm
    by_cases h : M < F
    · rw [if_pos h, if_neg (by decide)]; omega
    · rw [if_neg h, if_pos rfl]; omega
theorem cap_per : ∀ i, 1999 ≤ i → capNm 1999 i = capNm 1999 (1999 + (i - 1999) % (2000 - 1999)) := fun i hi => by
  unfold capNm
  rw [if_neg (by omega), if_neg (by omega)]
theorem cap_names : sortS ((List.range 2000).map (capNm 1999)) = (["p", "q"] : List Str) := by
  have e : sortS ((List.range 2000).map (capNm 1999)) = sortS (["p", "q"] : List Str) := sortS_congr fun x => by
    constructor
    · intro h
      obtain ⟨i, _, rfl⟩ := List.mem_map.mp h
      unfold capNm
      split <;> simp
    · intro h
      rcases List.mem_cons.mp h with rfl | h
      · exact List.mem_map.mpr ⟨0, List.mem_range.mpr (by decide), rfl⟩
      · rw [List.mem_singleton.mp h]
        exact List.mem_map.mpr ⟨1999, List.mem_range.mpr (by decide), rfl⟩
  rw [e]
  decide +kernel
def capRow : List Str := (List.range 2000).map (capNm 1999)
theorem capRow_len : capRow.length = 2000 := by unfold capRow; rw [List.length_map, List.length_range]
theorem cap_last : (meltDeal capRow 1999).last.length ≤ 400 := by
  show (mk _).length ≤ 400
  rw [mk_length]
  have h1 : ((digs capRow).drop 1999).length = 1 := by rw [List.length_drop, digs_length, capRow_len]
  have := (leastRoot_len (l := (digs capRow).drop 1999) (by omega)).2
  omega
theorem cap_melt : GoodDeal (meltDeal capRow 1999) := melt_good (by rw [capRow_len]; decide) (by decide) (fun a ha => by
  obtain ⟨i, _, rfl⟩ := List.mem_map.mp ha
  unfold capNm
  split <;> exact gw_ok (by decide +kernel)) (by unfold capRow; rw [cap_names]; decide) cap_last
theorem cap_has (M : Nat) : hasD (meltDeal capRow 1999) M = [min M 1999, M - 1999] := by
  rw [hasD_eq cap_melt (melt_name (by decide) cap_per) M]
  show (sortS capRow).map _ = _
  unfold capRow
  rw [cap_names]
  show [countN (capNm 1999) "p" M, countN (capNm 1999) "q" M] = _
  rw [cap_p, cap_q]
end Stair
/-! ## StR1 -/
set_option Elab.async false
set_option linter.all false
set_option maxRecDepth 100000
set_option maxHeartbeats 1000000
namespace Stair
open PySem PySem.Spec PyProof.Rows L2 Evl
/-! # what _law_right wants beside -/
def rSumT (K : Kx) : List V → Hp → VK → Prop := fun vs H Q => ∃ (a : Addr) (ns : List Int), vs = [V.ref a] ∧ SqT K H a (ns.map V.int) ∧ Q (.int ns.sum) H
theorem cr_sumT {X : Cx} (hc : X.calm = true) : CallR X (.builtin "sum") (rSumT X.K) := by
  intro pins s σ H vs us Q I r h
  obtain ⟨a, ns, rfl, hs, q⟩ := h
  obtain ⟨its, rv, ⟨o, ho, hcl, n, hd⟩, _⟩ := I.tuple hs
  rw [Vals.ref1 r]
  have hi := rv.ints
  obtain ⟨xs, e⟩ := hi.allInts.items
  have hn : numsOf (intItems xs).toList = ns := by rw [← e]; exact hi.numsOf
  rw [nums_intItems] at hn
  refine PySem.W.ktm_sumG (xs := xs) (I.ok.hd hc) ⟨o, ho, hcl, n, by rw [← e]; exact hd⟩ fun h' tk t' hk => ?_
  rw [preSum_eq, List.take_of_length_le (by simp), hn]
  exact ⟨.int _, H, I.kept hk, ⟨_, rfl⟩, q⟩
theorem kb_sumT {X : Cx} {K : Kx} {mg : Str → Option Value} {e : Expr} {es : List Expr} {ta : TA} {p pos : Pos} (T : Tp K mg) (ha : PA X (e :: es) ta) (hK : X.K = K := by rfl) (hm : X.mg = mg := by rfl) (hc : X.calm = true := by rfl) (hg : Gl X "sum" := by rfl) (he : starEach (e :: es) X.env = (false, eval e X.env) :: starEach es X.env := by rfl) (hpl : (backTo pos (starEach es X.env)).any (·.1) = false := by rfl) :
    PE X (.Call (.Name "sum" p) (e :: es) [] pos) (tCB (rSumT K) ta) := by
  subst hK hm
  exact pe_callB (cr_sumT hc) hg T.f_sum (by decide +kernel) ha (by decide) (by decide) he hpl
theorem cg_sumT {K : Kx} {ns : List Int} : CG (rSumT K) [.tuple (ns.map .int)] (.int ns.sum) := fun vs H h1 Q q => by
  cases h1 with | cons h1 t => cases t; cases h1 with | tup p r => have e := r.ints; subst e; exact ⟨_, ns, rfl, st_of p, q _ H (Ex.refl H) (.int _)⟩
section
variable {j : Nat} {v : V} {K : Kx} {Γ Γ0 Γ1 : En} {te ta tb : TE} {d : PD}
theorem sgk_asgP {g : TG} {ps : List (Nat × PD)} (h : EvG te Γ d) (hg : GpG g d ps) (hj : ∀ p ∈ ps, p.1 ≠ j) : SGk j v (tAsg te g) Γ (.nx (setsE Γ ps)) := fun D σ H k ok a =>
  h σ H ok _ fun w H1 e1 d1 => hg w σ H1 d1 _ fun xs px => a _ H1 (setsV_keep px hj k) e1 (px.ok (ok.mono e1))
/-- repr(a) != repr(b), the same of both -/
theorem et_repr {ds : List PD} {k m : Nat} (h : Sho k m (.tuple ds)) (ha : EvG ta Γ (.tuple ds)) (hb : EvG tb Γ (.tuple ds)) (hk : k ≤ 64 := by decide) (hm : m ≤ 16777216 := by decide) : EtG (tTest (tOp rNe (tCB rReprD (tCons ta tNil)) (tCB rReprD (tCons tb tNil)))) Γ false := by
  refine (et_test (eg_op rg_neS (eg_cb (cg_repr h hk hm) (ea_cons ha ea_nil)) (eg_cb (cg_repr h hk hm) (ea_cons hb ea_nil)))).is ?_
  rw [decide_eq_true rfl]
  rfl
/-- a for over a tuple that is there -/
theorem for_tup {g : TG} {t : TS} {D : Ends} {σ : L2.St} {H1 : Hp} {a : Addr} {xs : List V} {ds : List PD} (ha : H1 a = some (.tup xs)) (r : Dts H1 xs ds) (hσ : σ[j]? = some (some v)) (ok : EOk H1 σ Γ0)
    (h : ∀ d ∈ ds, ∃ ps Γ', GpG g d ps ∧ (∀ p ∈ ps, p.1 ≠ j) ∧ SGk j v t (setsE Γ0 ps) (.nx Γ') ∧ Le Γ0 Γ') (hd : ∀ σ' H', σ'[j]? = some (some v) → Ex H1 H' → EOk H' σ' Γ0 → D.nx σ' H') :
    ∃ W : Nat → Nat → L2.St → Hp → Prop, (∃ m, W 0 m σ H1) ∧ ∀ i m σ H, W i m σ H →
      ((Itt K a).stop i H ∧ D.nx σ H) ∨ ((Itt K a).go i H ∧ ∃ N : L2.St → Hp → Prop, (∀ σ' H', N σ' H' → ∃ m', m' < m ∧ W (i + 1) m' σ' H') ∧ ∀ x H', (Itt K a).yld i H x H' → g x σ H' fun σ2 H2 => t { D with nx := N, ct := N, bk := D.nx } σ2 H2) := by
  obtain ⟨G, Y, w, g1, gs, gy⟩ := gives_tup (K := K) ha r
  refine for_it w (fun i σ' H' => Ex H1 H' ∧ EOk H' σ' Γ0 ∧ σ'[j]? = some (some v)) ⟨Ex.refl _, ok, hσ⟩ (fun i σ' H' _ p => gs _ _ p.1 g1) ?_ (fun σ' H' p => hd σ' H' p.2.2 p.1 p.2.1)
  rintro i x σ2 H2 H3 hi ⟨e2, ok2, k2⟩ y
  obtain ⟨e3, d, hdd, dx⟩ := gy i H2 x H3 hi (gs _ _ e2 g1) e2 y
  obtain ⟨ps, Γ', hp, hj, hs, hl⟩ := h d (List.mem_of_getElem? hdd)
  exact hp x σ2 H3 dx _ fun us px => hs _ _ H3 (setsV_keep px hj k2) (px.ok (ok2.mono e3)) fun σ' H' k' e' ok' => ⟨(e2.trans e3).trans e', ok'.le hl, k'⟩
end
section
variable {p ca : Addr} {c c1 c2 c3 : Nat} {K : Kx} {te ta tb tc : TE} {Γ Γ0 : En} {R Ra Rb Rc : PD → Prop} {d : PD}
theorem em_tup3 (ha : EvM p ca c1 ta Γ Ra) (hb : EvM p ca c2 tb Γ Rb) (hc : EvM p ca c3 tc Γ Rc) : EvM p ca (c1 + c2 + c3) (tTup (tCons ta (tCons tb (tCons tc tNil)))) Γ (fun x => ∃ d e f, Ra d ∧ Rb e ∧ Rc f ∧ x = .tuple [d, e, f]) := fun σ H S h0 hM hS ok Q q =>
  ha σ H S h0 hM (by omega) ok _ fun d x H1 r1 s1 d1 => hb σ H1 (S + c1) h0 s1.m (by omega) (ok.lx s1.l) _ fun e y H2 r2 s2 d2 => hc σ H2 (S + c1 + c2) h0 s2.m (by omega) ((ok.lx s1.l).lx s2.l) _ fun f z H3 r3 s3 d3 => ⟨by show 3 ≤ sizeLine; decide, fun a hp =>
    have s := (s1.trans s2).trans s3
    q _ _ _ ⟨d, e, f, r1, r2, r3, rfl⟩ (by
      have e1 : S + (c1 + c2 + c3) = S + c1 + c2 + c3 := by omega
      rw [e1]
      exact s.trans (Step.pure s3.m (Ex.new hp))) (.tup upd_same (.cons ((Dt.lx s3.l _ (Dt.lx s2.l _ d1)).mono (Ex.new hp)) (.cons ((Dt.lx s3.l _ d2).mono (Ex.new hp)) (.cons (d3.mono (Ex.new hp)) .nil))))⟩
/-- a for over a tuple that is drawn -/
theorem forM_g {g : TG} {t rest : TS} {D : Ends} {σ : L2.St} {H : Hp} {S : Nat} (h : EvM p ca c te Γ R) (h0 : σ[0]? = some (some (.ref p))) (hM : Mach p ca S H) (hS : S + c < 900000) (ok : EOk H σ Γ) (hl : Le Γ0 Γ)
    (hR : ∀ d, R d → ∃ ds, d = .tuple ds ∧ ∀ e ∈ ds, ∃ ps Γ', GpG g e ps ∧ (∀ q ∈ ps, q.1 ≠ 0) ∧ SGk 0 (.ref p) t (setsE Γ0 ps) (.nx Γ') ∧ Le Γ0 Γ')
    (k : ∀ σ' H', σ'[0]? = some (some (.ref p)) → Step p ca S (S + c) H H' → EOk H' σ' Γ0 → rest D σ' H') : tSeq (tFor (iTup K te) g t) rest D σ H := h σ H S h0 hM hS ok _ fun d v H1 r s dv => by
  obtain ⟨ds, rfl, hb⟩ := hR d r
  cases dv with | tup ha ra =>
    exact ⟨_, rfl, ⟨_, st_of ha⟩, for_tup (j := 0) (v := .ref p) (D := { D with nx := rest D }) ha ra h0 ((ok.lx s.l).le hl) hb fun σ' H' k' e' ok' => k σ' H' k' (s.trans (Step.pure s.m e')) ok'⟩
end
end Stair
/-! ## StL7 -/
set_option Elab.async false
set_option linter.all false
set_option maxRecDepth 100000
set_option maxHeartbeats 1000000
namespace Stair
open PySem PySem.Spec PyProof.Rows L2 Evl
/-! # _law_right -/
def qRight : Str := (envOfC "_law_right" (defScope sLawRight) 0 0 .none).qual ++ "<lambda>"
def spRight (Tb : List (Addr × Str)) : Sp := fun vs H Q _ => ∃ (p ca : Addr) (S : Nat) (v : V) (n : Net) (h : Str), vs = [.ref p, v, .str h] ∧ Mach p ca S H ∧ LamX.Tabs Tb H ∧ DrawnNet n ∧ h ∈ n.map (·.1) ∧ Dt H v (netD n) ∧ S < 400000 ∧
  ∀ H', Mach p ca (S + 10) H' → LamX.Tabs Tb H' → Q (.bl true) H'
theorem le_set : ∀ {Γ : En} {i : Nat} {x : Option PD}, Γ[i]? = some none → Le Γ (Γ.set i x)
  | [], i, x, h => by simp at h
  | o :: r, 0, x, h => by
    cases Option.some.inj h
    exact .non (Le.refl r)
  | o :: r, i + 1, x, h => .keep (le_set (show r[i]? = some none by simpa using h))
abbrev envR (net house film row spot size names going told rs pact : Option PD) : En := [none, net, house, film, row, spot, size, names, going, none, told, rs, pact, none, none, none, none]
theorem et_goes {K : Kx} {Γ : En} {E : XK} {x : Deal} {r : Nat} (hx : GoodDeal x) (hr : (leastRoot (sg x.last)).length = r) (h12 : Γ[12]? = some (some (dealD x))) (h11 : Γ[11]? = some (some (.int (r : Nat)))) :
    EtG (tTest (tOp rNe (tOp (rIxT K) (tCall (spQ R_goes_round) [] E (tCons (tVar 12) tNil)) (tC (.int 1))) (tVar 11))) Γ false := fun σ H ok Q q =>
  (eg_var h12) σ H ok _ fun v H1 e1 d12 => ⟨[dealD x], _, .cons d12 .nil, ⟨x, hx, rfl, rfl⟩, fun f hf u H2 e2 du => by
    obtain ⟨bb, rfl⟩ := hf
    refine rg_ixT (K := K) (atI_nat' (n := 1) rfl) u (.int 1) H2 du (.int 1) _ fun w H3 e3 dw => (eg_var h11) σ H3 (ok.mono ((e1.trans e2).trans e3)) _ fun z H4 e4 dz => rg_neI w z H4 (dw.mono e4) dz _ fun y H5 e5 dy => ?_
    cases dy
    refine ⟨_, rfl, ?_⟩
    rw [hr, decide_eq_true rfl]
    exact q H5 ((((e1.trans e2).trans e3).trans e4).trans e5)⟩
def addD : PD → PD → PD
  | .int i, .int j => .int (i + j)
  | _, _ => .none
section
variable {P : Program} {w : World} {K : Kx} {mg : Str → Option Value} {base : Heap} {C Ce fe : Addr} (T : Tp K mg) (W : Tw K mg C) (Te : PySem.TgX.TgTxt P K mg Ce fe) {Tb : List (Addr × Str)} {Pr : Addr}
include T W Te
theorem has_law_right (LT : LamT K mg base "_law_right" Pr) (hmT : (Pr, qRight) ∈ Tb) (hu : ∀ p ∈ Tb, p.1 = Pr → p.2 = qRight) : HasG P w K mg base CX0 11 "_law_right" ["_law_m", "_law_net_here", "_law_house"] (spRight Tb) := by
  refine has_ofG T.dLawRight sc__law_right (fun _ _ _ _ _ _ us hl => match us, hl with | [_, _, _], _ => rfl) (fun vs H Q E ⟨_, _, _, _, _, _, e, _⟩ => by rw [e]; rfl) fun f cdv fd A outer s H vs Q E hm hcd hF ⟨oc, od, osl, lk⟩ hA hr h => ?_
  obtain ⟨c, hc, TB⟩ := LT.ok f oc od osl fd hm lk
  have hcode : cdv = .ref c := hcd.symm.trans hc
  subst hcode
  have G__law_film := has_law_film (P := P) (w := w) (base := base) T
  have G__law_draw := has_law_draw (P := P) (w := w) (base := base) T
  have G__law_least := has_law_least (P := P) (w := w) (base := base) T
  have G_melted_fate := has_melted_fate (P := P) (w := w) (base := base) T W Te
  have G_melted_part := has_melted_part (P := P) (w := w) (base := base) T W
  have G_melt := has_melt (P := P) (w := w) (base := base) T W Te
  have G_need_deal := has_need_deal (P := P) (w := w) (base := base) T
  have G_row_part := has_row_part (P := P) (w := w) (base := base) T
  have G_goes_round := has_goes_round (P := P) (w := w) (base := base) T
  have G_paid_out := has_paid_out (P := P) (w := w) (base := base) T
  have G_has := has_has (P := P) (w := w) (base := base) T
  have hu64 := hu_64 (X := (cxOf CX0 P w K mg base ["_law_m", "_law_net_here", "_law_house", "_law_film_here", "_law_row", "_law_spot", "_law_size", "_law_names", "_law_going", "_law_total", "_law_told", "_law_round_so", "_law_pact", "_law_coins", "_law_amounts", "_law_pair", "_law_got"] "_law_right" (defScope sLawRight) f (.ref c) A outer s H E).nox) hr
  have hu65 := hu_65 (X := (cxOf CX0 P w K mg base ["_law_m", "_law_net_here", "_law_house", "_law_film_here", "_law_row", "_law_spot", "_law_size", "_law_names", "_law_going", "_law_total", "_law_told", "_law_round_so", "_law_pact", "_law_coins", "_law_amounts", "_law_pair", "_law_got"] "_law_right" (defScope sLawRight) f (.ref c) A outer s H E).nox) hr
  have hcode : (cxOf CX0 P w K mg base ["_law_m", "_law_net_here", "_law_house", "_law_film_here", "_law_row", "_law_spot", "_law_size", "_law_names", "_law_going", "_law_total", "_law_told", "_law_round_so", "_law_pact", "_law_coins", "_law_amounts", "_law_pair", "_law_got"] "_law_right" (defScope sLawRight) f (.ref c) A outer s H E).nox.env.code = .ref c := rfl
  obtain ⟨p, ca, S, v, n, h, rfl, M, hT, hdn, hh, hv, hS, k⟩ := h
  refine ⟨_, (pss_cons (ps_st 3 sc__law_right.nd (pe_has G__law_film hr (pa_cons (pv 1) (pa_cons (pv 2) (pa_cons pe_int pa_nil))))) (pss_cons (ps_if (pt_cmpR op_isN (pv 3) pe_non (nomark _)) (pss_one (ps_ret pe_bl)) pss_nil) (pss_cons (ps_asg (pv 3) (kpg_tup K (pgs_cons (pg_nm 4 sc__law_right.nd) (pgs_cons (pg_nm 5 sc__law_right.nd) pgs_nil)))) (pss_cons (ps_asg (pe_tup (pa_cons (pe_op op_sub (kb_len T (pa_cons (pv 4) pa_nil)) (pv 5)) (pa_cons (kb_tuple T (pa_cons (kb_sorted T (pa_cons (kb_set T (pa_cons (pv 4) pa_nil) w) pa_nil) w) pa_nil)) pa_nil))) (kpg_tup K (pgs_cons (pg_nm 6 sc__law_right.nd) (pgs_cons (pg_nm 7 sc__law_right.nd) pgs_nil)))) (pss_cons (ps_st 8 sc__law_right.nd (pe_op op_cat (pv 4) (pe_op op_rep (pe_slice (ksl_list K) (pv 4) (po_some (pv 5)) po_none) (pe_op op_add (pe_op op_fdiv pe_int (pv 6)) pe_int)))) (pss_cons (ps_if (pt_cmpR op_ne (pb_repr T hA hu65 (pa_cons (pe_hasY G_melted_fate hr (pa_cons (pv 1) (pa_cons (pv 2) pa_nil))) pa_nil)) (pb_repr T hA hu65 (pa_cons (pe_tup (pa_cons (pv 5) (pa_cons (pv 6) pa_nil))) pa_nil)) (nomark _)) (pss_one (ps_ret pe_bl)) pss_nil) (pss_cons (ps_for PassesOwn.never rfl (kpi_tup K (pe_tup (pa_cons pe_int (pa_cons (pe_has G__law_draw hr (pa_cons (pv 0) (pa_cons pe_int pa_nil))) (pa_cons pe_int pa_nil))))) (pg_nm 9 sc__law_right.nd) (pss_one (ps_if (pt_cmpR op_ne (pb_repr T hA hu65 (pa_cons (pe_has G_melted_part hr (pa_cons (pv 1) (pa_cons (pv 2) (pa_cons (pv 9) pa_nil)))) pa_nil)) (pb_repr T hA hu65 (pa_cons (kb_tuple T (pa_cons (pe_slice (ksl_list K) (pv 8) po_none (po_some (pv 9))) pa_nil)) pa_nil)) (nomark _)) (pss_one (ps_ret pe_bl)) pss_nil))) (pss_cons (ps_par2A 10 11 sc__law_right.nd (pa_cons (pe_outcome T Te TB hcode hmT hu hr (LamX.lamS_by rfl) rfl (fun _ _ _ _ _ => rfl) (fun A outer s H E f cx hr2 => (pe_hasX G_melt hr2 (takes_of rfl rfl rfl rfl) (pa_cons (pv 1) (pa_cons (pv 2) pa_nil))))) (pa_cons (pe_has G__law_least hr (pa_cons (pv 4) (pa_cons (pv 5) pa_nil))) pa_nil))) (pss_cons (ps_if (PW.pt (pw_or (pt_cmpR op_gt (kb_len T (pa_cons (pv 7) pa_nil)) pe_int (nomark _)) (pw_or1 (pt_cmpR op_gt (pv 11) pe_int (nomark _))))) (pss_one (ps_ret (pe_cmpR (kop_eqD K hu64) (pv 10) (pe_ifExp (pt_cmpR op_gt (kb_len T (pa_cons (pv 7) pa_nil)) pe_int (nomark _)) pe_int pe_int) (nomark _)))) pss_nil) (pss_cons (ps_st 12 sc__law_right.nd (pe_ix (kix_list K) (pv 10) pe_int (fun _ _ => rfl))) (pss_cons (ps_if (PW.pt (pw_or (pt_cmpR op_ne (pb_repr T hA hu65 (pa_cons (pe_has G_need_deal hr (pa_cons (pv 12) pa_nil)) pa_nil)) (pb_repr T hA hu65 (pa_cons (pv 12) pa_nil)) (nomark _)) (pw_or (pt_cmpR (kop_neD K hu64) (pe_ix (kix_tup K) (pv 12) pe_int (fun _ _ => rfl)) (pv 7) (nomark _)) (pw_or1 (pt_cmpR op_ne (pb_repr T hA hu65 (pa_cons (pe_hasY G_melt hr (pa_cons (pv 1) (pa_cons (pv 2) pa_nil))) pa_nil)) (pb_repr T hA hu65 (pa_cons (pv 12) pa_nil)) (nomark _)))))) (pss_one (ps_ret pe_bl)) pss_nil) (pss_cons (ps_if (PW.pt (pw_or (pt_cmpR op_ne (pb_repr T hA hu65 (pa_cons (pe_has G_row_part hr (pa_cons (pv 12) (pa_cons pe_int (pa_cons pe_int pa_nil)))) pa_nil)) (pb_repr T hA hu65 (pa_cons (kb_tuple T (pa_cons (pe_slice (ksl_list K) (pv 8) po_none (po_some pe_int)) pa_nil)) pa_nil)) (nomark _)) (pw_or1 (pt_cmpR op_ne (pe_ix (kix_tup K) (pe_has G_goes_round hr (pa_cons (pv 12) pa_nil)) pe_int (fun _ _ => rfl)) (pv 11) (nomark _))))) (pss_one (ps_ret pe_bl)) pss_nil) (pss_cons (ps_for PassesOwn.never rfl (kpi_tup K (pe_tup (pa_cons (pe_has G__law_draw hr (pa_cons (pv 0) (pa_cons pe_int pa_nil))) (pa_cons (pe_op op_add (pe_op op_pow pe_int pe_int) (pe_has G__law_draw hr (pa_cons (pv 0) (pa_cons (pe_op op_pow pe_int pe_int) pa_nil)))) (pa_cons (pe_op op_add (pe_op op_pow pe_int pe_int) (pe_has G__law_draw hr (pa_cons (pv 0) (pa_cons pe_int pa_nil)))) pa_nil))))) (pg_nm 13 sc__law_right.nd) (pss_cons (ps_st 14 sc__law_right.nd (kb_tuple T (pa_cons (pe_lc (own := [("_law_pair", 15)]) (g := (gName 15)) (tt := tYes) rfl sc__law_right.nd (kpi_tup K (pv 1)) (by exact blkOk_by (by kernel_rfl)) (fun _ _ _ _ _ => (pg_nm 15 sc__law_right.nd)) (fun _ _ _ _ _ => pts_nil) (fun _ _ _ _ _ => (pe_ifExp (pt_cmpR op_eq (pe_ix (kix_tup K) (pv 15) pe_int (fun _ _ => rfl)) (pv 2) (nomark _)) (pv 13) pe_int))) pa_nil))) (pss_cons (ps_slc 16 (own := [("_law_pair", 15)]) (g := (gName 15)) sc__law_right.nd (kpi_tup K (pe_has G_paid_out hr (pa_cons (pv 1) (pa_cons (pv 14) pa_nil)))) (by exact blkOk_by (by kernel_rfl)) (fun _ _ _ _ _ => (pg_nm 15 sc__law_right.nd)) (fun _ _ _ _ _ => (pts_one (pt_cmpR (kop_in K) (pe_ix (kix_tup K) (pv 15) pe_int (fun _ _ => rfl)) (pv 7) rfl))) (fun _ _ _ _ _ => (pv 15))) (pss_one (ps_if (PW.pt (pw_or (pt_cmpR op_ne (pb_repr T hA hu65 (pa_cons (pe_has G_has hr (pa_cons (pv 12) (pa_cons (pv 13) pa_nil))) pa_nil)) (pb_repr T hA hu65 (pa_cons (kb_tuple T (pa_cons (pe_lc (own := [("_law_pair", 15)]) (g := (gName 15)) (tt := tYes) rfl sc__law_right.nd (kpi_list K (pv 16)) (by exact blkOk_by (by kernel_rfl)) (fun _ _ _ _ _ => (pg_nm 15 sc__law_right.nd)) (fun _ _ _ _ _ => pts_nil) (fun _ _ _ _ _ => (pe_ix (kix_tup K) (pv 15) pe_int (fun _ _ => rfl)))) pa_nil)) pa_nil)) (nomark _)) (pw_or1 (pt_cmpR op_ne (kb_sumT T (pa_cons (pe_has G_has hr (pa_cons (pv 12) (pa_cons (pv 13) pa_nil))) pa_nil)) (pv 13) (nomark _))))) (pss_one (ps_ret pe_bl)) pss_nil))))) (pss_one (ps_ret pe_bl))))))))))))))), ?_⟩
  have hn := hdn.good
  have hl := hdn.leads
  have ho := hl.opens
  have h4 := hn.hi
  obtain ⟨sts, nm, wk⟩ := walk_exists hn hl h
  obtain ⟨c0, hc0⟩ := List.getElem?_of_mem hh
  have hpe := wk.people hn hh
  have hgw : ∀ i, GoodWord (nm i) := fun i => people_word hn _ (hpe i)
  have hstd : ∀ i, stdOf n (sts i) = sts i ∧ (sts i).length = n.length := fun i => ⟨wk.std i, wk.len i⟩
  have ok0 : EOk H (L2.start ["_law_m", "_law_net_here", "_law_house", "_law_film_here", "_law_row", "_law_spot", "_law_size", "_law_names", "_law_going", "_law_total", "_law_told", "_law_round_so", "_law_pact", "_law_coins", "_law_amounts", "_law_pair", "_law_got"] [.ref p, v, .str h]) (envR (some (netD n)) (some (.str h)) none none none none none none none none none) :=
    .non (.som hv (.som (.str _) (.non (.non (.non (.non (.non (.non (.non (.non (.non (.non (.non (.non (.non (.non .nil))))))))))))))))
  have hσ0 : (L2.start ["_law_m", "_law_net_here", "_law_house", "_law_film_here", "_law_row", "_law_spot", "_law_size", "_law_names", "_law_going", "_law_total", "_law_told", "_law_round_so", "_law_pact", "_law_coins", "_law_amounts", "_law_pair", "_law_got"] [.ref p, v, .str h])[0]? = some (some (.ref p)) := rfl
  generalize L2.start ["_law_m", "_law_net_here", "_law_house", "_law_film_here", "_law_row", "_law_spot", "_law_size", "_law_names", "_law_going", "_law_total", "_law_told", "_law_round_so", "_law_pact", "_law_coins", "_law_amounts", "_law_pair", "_law_got"] [.ref p, v, .str h] = σ0 at ok0 hσ0 ⊢
  rcases again_or sts 500 with ⟨b, N, hb, hN, hback, hdist⟩ | hdist
  case inr =>
    refine thenk_g (sgk_asg (d := .none) (eg_call (spF_g ⟨n, h, sts, nm, 500, 500, hn, by decide, wk.goes 500, fun j k a b => hdist j k a (by omega), fun i _ => hstd i, rfl, .inr ⟨rfl, fun j hj => hdist j 500 hj (Nat.le_refl _), rfl⟩⟩) (ea_cons (eg_var rfl) (ea_cons (eg_var rfl) (ea_cons eg_int ea_nil))))) hσ0 ok0 fun σ1 H1 hσ1 e1 ok1 => ?_
    refine if_g (b := true) (et_test (eg_op rg_isN (eg_var rfl) eg_non)) ok1 (fun _ H2 e2 => ?_) (fun z => by cases z)
    exact k H2 (((M.ex' e1).ex' e2).mono (by omega)) (hT.ext (e1.trans e2))
  have hrow : ((List.range N).map nm).length = N := by rw [List.length_map, List.length_range]
  have hper := wk.mod hn hb hback
  obtain ⟨r, hr2⟩ := turn_exists (l := ((List.range N).map nm).drop b) (by rw [List.length_drop, hrow]; omega)
  have hfate : Fate n h sts nm b N := ⟨wk.goes N, hb, by omega, hdist, hback⟩
  obtain ⟨en1, en2⟩ := enough hb
  -- the film
  refine thenk_g (Γ1 := envR (some (netD n)) (some (.str h)) (some (.tuple [strsL ((List.range N).map nm), .int (b : Nat)])) none none none none none none none none)
    (sgk_asg (d := .tuple [strsL ((List.range N).map nm), .int (b : Nat)]) (eg_call (spF_g ⟨n, h, sts, nm, N, 500, hn, by decide, wk.goes N, hdist, fun i _ => hstd i, rfl, .inl ⟨b, hb, hN, hback, rfl⟩⟩) (ea_cons (eg_var rfl) (ea_cons (eg_var rfl) (ea_cons eg_int ea_nil))))) hσ0 ok0 fun σ1 H1 hσ1 e1 ok1 => ?_
  refine thenk_g (sgk_ifF (et_test (eg_op rg_isN (eg_var rfl) eg_non)) sgk_next) hσ1 ok1 fun σ2 H2 hσ2 e2 ok2 => ?_
  have e02 := e1.trans e2
  refine thenk_g (Γ1 := envR (some (netD n)) (some (.str h)) (some (.tuple [strsL ((List.range N).map nm), .int (b : Nat)])) (some (strsL ((List.range N).map nm))) (some (.int (b : Nat))) none none none none none none)
    (sgk_asgP (eg_var rfl) gp2 (by simp)) hσ2 ok2 fun σ3 H3 hσ3 e3 ok3 => ?_
  -- size and names
  refine thenk_g (Γ1 := envR (some (netD n)) (some (.str h)) (some (.tuple [strsL ((List.range N).map nm), .int (b : Nat)])) (some (strsL ((List.range N).map nm))) (some (.int (b : Nat))) (some (.int ((N - b : Nat) : Int))) (some (namesD (sortS ((List.range N).map nm)))) none none none none)
    (sgk_asgP (d := .tuple [.int ((N - b : Nat) : Int), namesD (sortS ((List.range N).map nm))]) (eg_tup (ea_cons ((eg_op rg_sub (eg_cb (cg_lenL (K := K)) (ea_cons (eg_var rfl) ea_nil)) (eg_var rfl)).is (by rw [List.length_map, hrow]; congr 1; omega)) (ea_cons (eg_cb cg_tupleL (ea_cons (eg_sorted (es_set (K := K) (l := (List.range N).map nm) (eg_var rfl) (by rw [hrow]; omega)) (by have := row_len24 hn (l := (List.range N).map nm) (fun a ha => by obtain ⟨i, _, rfl⟩ := List.mem_map.mp ha; exact hpe i); omega)) ea_nil)) ea_nil)) (Nat.le_of_ble_eq_true rfl)) gp2 (by simp)) hσ3 ok3 fun σ4 H4 hσ4 e4 ok4 => ?_
  -- going
  obtain ⟨going, hgo⟩ : ∃ g, g = ((List.range N).map nm) ++ (List.replicate (1000 / (N - b) + 1) (((List.range N).map nm).drop b)).flatten := ⟨_, rfl⟩
  have hgt : ∀ M, M ≤ 1000 → going.take M = (List.range M).map nm := fun M hM => by rw [hgo]; exact going_take hb hper (by omega)
  have hgl : going.length ≤ 2000 := by rw [hgo, going_len hb]; omega
  refine thenk_g (Γ1 := envR (some (netD n)) (some (.str h)) (some (.tuple [strsL ((List.range N).map nm), .int (b : Nat)])) (some (strsL ((List.range N).map nm))) (some (.int (b : Nat))) (some (.int ((N - b : Nat) : Int))) (some (namesD (sortS ((List.range N).map nm)))) (some (strsL going)) none none none)
    (sgk_asg (d := strsL going) ((eg_op (rg_cat ?_) (eg_var rfl) (eg_op (rg_rep (k := 1000 / (N - b) + 1) (by have := Nat.div_le_self 1000 (N - b); omega) ?_) ((eg_slL (K := K) (eg_var rfl) (eo_some (eg_var rfl)) eo_none).is (by rw [cutP_drop])) ((eg_op rg_add (eg_op (rg_fdiv ?_) eg_int (eg_var rfl)) eg_int).is ?_))).is ?_)) hσ4 ok4 fun σ5 H5 hσ5 e5 ok5 => ?_
  · rw [List.length_map, hrow, flat_len, List.length_drop, List.length_map, hrow]
    omega
  · rw [List.length_drop, List.length_map, hrow, Nat.mul_comm]
    omega
  · refine ⟨?_, ?_⟩ <;> omega
  · rw [Int.natCast_add, Int.natCast_ediv]
    rfl
  · rw [hgo, ← List.map_drop]
    show _ = PyData.list (List.map PyData.str (_ ++ _))
    rw [List.map_append, List.map_flatten, List.map_replicate]
  have e05 := ((e02.trans e3).trans e4).trans e5
  have sho2 : ∀ x y : Nat, x ≤ 10 ^ 31 → y ≤ 10 ^ 31 → Sho 1 89 (.tuple [.int (x : Nat), .int (y : Nat)]) := fun x y hx hy => sho_tupN (k := 0) (m := 40) (n := 2) (fun d hd => by
    rcases List.mem_cons.mp hd with rfl | hd
    · exact sho_nat hx
    · rw [List.mem_singleton.mp hd]
      exact sho_nat hy) (Nat.le_refl _)
  -- the fate
  refine thenk_g (sgk_ifF (et_repr (k := 1) (m := 89) (ds := [.int (b : Nat), .int ((N - b : Nat) : Int)]) (sho2 b (N - b) (by omega) (by omega)) (eg_call (spR_g ⟨n, c0, h, sts, nm, b, N, hn, ho, hc0, hfate, rfl, rfl⟩) (ea_cons (eg_var rfl) (ea_cons (eg_var rfl) ea_nil))) (eg_tup (ea_cons (eg_var rfl) (ea_cons (eg_var rfl) ea_nil)) (Nat.le_of_ble_eq_true rfl))) sgk_next) hσ5 ok5 fun σ6 H6 hσ6 e6 ok6 => ?_
  -- the parts
  have shoN : ∀ M, M ≤ 1000 → Sho 1 64005 (namesD ((List.range M).map nm)) := fun M hM => sho_names (fun a ha => by obtain ⟨i, _, rfl⟩ := List.mem_map.mp ha; exact hgw i) (by rw [List.length_map, List.length_range]; exact hM)
  have M6 : Mach p ca S H6 := M.ex' (e05.trans e6)
  have T6 : LamX.Tabs Tb H6 := hT.ext (e05.trans e6)
  refine forM_g (K := K) (Γ0 := envR (some (netD n)) (some (.str h)) (some (.tuple [strsL ((List.range N).map nm), .int (b : Nat)])) (some (strsL ((List.range N).map nm))) (some (.int (b : Nat))) (some (.int ((N - b : Nat) : Int))) (some (namesD (sortS ((List.range N).map nm)))) (some (strsL going)) none none none)
    (em_tup3 (em_pure eg_int) (em_draw (many := 40) eg_int (by decide) (by decide)) (em_pure eg_int)) hσ6 M6 (by omega) ok6 (Le.refl _) ?_ fun σ7 H7 hσ7 s7 ok7 => ?_
  · rintro d ⟨d1, d2, d3, rfl, ⟨x, hx, rfl⟩, rfl, rfl⟩
    refine ⟨_, rfl, fun e he => ?_⟩
    have hM : ∃ M : Nat, M ≤ 1000 ∧ e = .int (M : Nat) := by
      rcases List.mem_cons.mp he with rfl | he
      · exact ⟨0, by decide, rfl⟩
      rcases List.mem_cons.mp he with rfl | he
      · exact ⟨x, by omega, rfl⟩
      rw [List.mem_singleton.mp he]
      exact ⟨300, by decide, rfl⟩
    obtain ⟨M, hM, rfl⟩ := hM
    exact ⟨[(9, .int (M : Nat))], _, gp_name, by simp, sgk_ifF (et_repr (k := 1) (m := 64005) (ds := ((List.range M).map nm).map .str) (shoN M hM) (eg_call (spF_g ⟨n, c0, h, sts, nm, M, hn, ho, hc0, hM, wk.goes M, rfl, rfl⟩) (ea_cons (eg_var rfl) (ea_cons (eg_var rfl) (ea_cons (eg_var (i := 9) rfl) ea_nil)))) (eg_cb cg_tupleL (ea_cons ((eg_slL (K := K) (eg_var (i := 8) rfl) eo_none (eo_some (eg_var (i := 9) rfl))).is (by rw [cutP_map, cutP_take, hgt M hM])) ea_nil))) sgk_next, le_set (i := 9) rfl⟩
  have T7 : LamX.Tabs Tb H7 := by
    obtain ⟨kvs, hp⟩ := M6.dict
    exact tabs_ow hp s7.o T6
  have M7 := s7.m
  have h24 := row_len24 hn (l := (List.range N).map nm) (fun a ha => by obtain ⟨i, _, rfl⟩ := List.mem_map.mp ha; exact hpe i)
  have hgr : ∀ a ∈ (List.range N).map nm, GoodWord a := fun a ha => by obtain ⟨i, _, rfl⟩ := List.mem_map.mp ha; exact hgw i
  have hlast := turn_last hr2
  have least : EvG (tCall (spF R_law_least) [] (fun _ _ _ => False) (tCons (tVar 4) (tCons (tVar 5) tNil))) (envR (some (netD n)) (some (.str h)) (some (.tuple [strsL ((List.range N).map nm), .int (b : Nat)])) (some (strsL ((List.range N).map nm))) (some (.int (b : Nat))) (some (.int ((N - b : Nat) : Int))) (some (namesD (sortS ((List.range N).map nm)))) (some (strsL going)) none none none) (.int (r : Nat)) :=
    eg_call (spF_g ⟨(List.range N).map nm, b, r, by rw [hrow]; omega, hgr, hr2, rfl, rfl⟩) (ea_cons (eg_var (i := 4) rfl) (ea_cons (eg_var (i := 5) rfl) ea_nil))
  by_cases hbad : 6 < (sortS ((List.range N).map nm)).length ∨ 400 < r
  · -- too great
    have hre : RE_melt [netD n, .str h] (if 6 < (sortS ((List.range N).map nm)).length then 6 else 400) := by
      refine ⟨n, c0, h, sts, nm, hn, ho, hc0, rfl, .inr ⟨b, N, hfate, h24, ?_⟩⟩
      by_cases h6 : 6 < (sortS ((List.range N).map nm)).length
      · rw [if_pos h6]
        exact .inl ⟨rfl, h6⟩
      · rw [if_neg h6]
        exact .inr ⟨rfl, by omega, by rw [hlast]; omega⟩
    refine lam_err T7 ok7 (ea_cons (eg_var (i := 1) rfl) (ea_cons (eg_var (i := 2) rfl) ea_nil)) hre fun H8 e8 T8 => ?_
    have ok8 := ok7.lx (extN_lx e8)
    refine least σ7 H8 ok8 _ fun v11 H9 e9 d11 => ?_
    cases d11
    refine ⟨_, _, rfl, ?_⟩
    have ok9 := ((ok8.mono e9).set (.int (if 6 < (sortS ((List.range N).map nm)).length then 6 else 400)) 10).set (.int (r : Nat)) 11
    refine if_g (b := true) ((et_or (et_test (eg_op rg_gt (eg_cb (cg_lenT (K := K)) (ea_cons (eg_var (i := 7) rfl) ea_nil)) eg_int)) fun _ => et_test (eg_op rg_gt (eg_var (i := 11) rfl) eg_int)).is ?_) ok9 (fun _ H10 e10 => ?_) (fun z => by cases z)
    · rw [List.length_map, Bool.or_eq_true, decide_eq_true_iff, decide_eq_true_iff]
      rcases hbad with z | z
      · left; omega
      · right; omega
    · refine last_g (sg_ret ((eg_op (rg_eqD (d := .int (if 6 < (sortS ((List.range N).map nm)).length then 6 else 400)) (e := .int (if 6 < (sortS ((List.range N).map nm)).length then 6 else 400)) shp_int.ok shp_int.ok) (eg_var (i := 10) rfl) (eg_if (et_test (eg_op rg_gt (eg_cb (cg_lenT (K := K)) (ea_cons (eg_var (i := 7) rfl) ea_nil)) eg_int)) (fun hb => ?_) (fun hb => ?_))).is (d' := .bool true) ?_)) (ok9.mono e10) fun u H11 e11 d12 => ?_
      · rw [List.length_map, decide_eq_true_iff] at hb
        rw [if_pos (by omega)]
        exact eg_int
      · rw [List.length_map, decide_eq_false_iff_not] at hb
        rw [if_neg (by omega)]
        exact eg_int
      · rw [eqv_int, decide_eq_true rfl]
      · cases d12
        exact k H11 (((((M7.extN e8).ex' e9).ex' e10).ex' e11).mono (by omega)) (((T8.ext e9).ext e10).ext e11)
  have h6 : (sortS ((List.range N).map nm)).length ≤ 6 := by omega
  have h400 : r ≤ 400 := by omega
  have gx : GoodDeal (meltDeal ((List.range N).map nm) b) := melt_good (by rw [hrow]; exact hb) (by omega) hgr h6 (by rw [hlast]; exact h400)
  have hR : R_melt [netD n, .str h] (dealD (meltDeal ((List.range N).map nm) b)) := ⟨n, c0, h, sts, nm, b, N, hn, ho, hc0, hfate, rfl, h6, by rw [hlast]; exact h400, rfl⟩
  have hnx := melt_name hb hper
  have hrt := turn_two hr2
  have hxn : (meltDeal ((List.range N).map nm) b).names = sortS ((List.range N).map nm) := rfl
  generalize meltDeal ((List.range N).map nm) b = x at gx hR hnx hrt hxn
  refine lam_ok T7 ok7 (ea_cons (eg_var (i := 1) rfl) (ea_cons (eg_var (i := 2) rfl) ea_nil)) hR fun v10 H8 e8 T8 d10 => ?_
  have ok8 := ok7.lx (extN_lx e8)
  refine least σ7 H8 ok8 _ fun v11 H9 e9 d11 => ?_
  cases d11
  refine ⟨_, _, rfl, ?_⟩
  have ok9 := ((ok8.mono e9).set (d10.mono e9) 10).set (.int (r : Nat)) 11
  have hσ9 : ((σ7.set 10 (some v10)).set 11 (some (.int (r : Nat))))[0]? = some (some (.ref p)) := set_keep (set_keep hσ7 (by decide)) (by decide)
  have M9 := (M7.extN e8).ex' e9
  have T9 := T8.ext e9
  have ok9' : EOk H9 ((σ7.set 10 (some v10)).set 11 (some (.int (r : Nat)))) (envR (some (netD n)) (some (.str h)) (some (.tuple [strsL ((List.range N).map nm), .int (b : Nat)])) (some (strsL ((List.range N).map nm))) (some (.int (b : Nat))) (some (.int ((N - b : Nat) : Int))) (some (namesD (sortS ((List.range N).map nm)))) (some (strsL going)) (some (.list [dealD x])) (some (.int (r : Nat))) none) := ok9
  generalize (σ7.set 10 (some v10)).set 11 (some (.int (r : Nat))) = σ9 at ok9' hσ9 ⊢
  clear ok9
  dsimp only
  refine thenk_g (sgk_ifF ((et_or (et_test (eg_op rg_gt (eg_cb (cg_lenT (K := K)) (ea_cons (eg_var (i := 7) rfl) ea_nil)) eg_int)) fun _ => et_test (eg_op rg_gt (eg_var (i := 11) rfl) eg_int)).is ?_) sgk_next) hσ9 ok9' fun σ10 H10 hσ10 e10 ok10 => ?_
  · rw [List.length_map, Bool.or_eq_false_iff, decide_eq_false_iff_not, decide_eq_false_iff_not]
    omega
  -- the deal
  refine thenk_g (Γ1 := (envR (some (netD n)) (some (.str h)) (some (.tuple [strsL ((List.range N).map nm), .int (b : Nat)])) (some (strsL ((List.range N).map nm))) (some (.int (b : Nat))) (some (.int ((N - b : Nat) : Int))) (some (namesD (sortS ((List.range N).map nm)))) (some (strsL going)) (some (.list [dealD x])) (some (.int (r : Nat))) (some (dealD x))))
    (sgk_asg (d := dealD x) (eg_op (rg_ixL (atI_nat' (n := 0) rfl)) (eg_var (i := 10) rfl) eg_int)) hσ10 ok10 fun σ11 H11 hσ11 e11 ok11 => ?_
  have shN : ∀ ns : List Str, (∀ a ∈ ns, GoodWord a) → Shp 1 (namesD ns) := fun ns hw => shp_tup fun d hd => by
    obtain ⟨a, ha, rfl⟩ := List.mem_map.mp hd
    exact shp_str (hw a ha)
  have hsw : ∀ a ∈ sortS ((List.range N).map nm), GoodWord a := fun a ha => hgr a (mem_sortS.mp ha)
  refine thenk_g (sgk_ifF (et_or (a := false) (b := false) (et_repr (sho_deal gx) (eg_call (spF_g ⟨x, gx, rfl, rfl⟩) (ea_cons (eg_var (i := 12) rfl) ea_nil)) (eg_var (i := 12) rfl)) fun _ => et_or (a := false) (b := false) ((et_test (eg_op (rg_neD (K := K) (shN _ hsw).ok (shN _ hsw).ok) ((eg_op (rg_ixT (atI_nat' (n := 0) rfl)) (eg_var (i := 12) rfl) eg_int).is (by rw [hxn])) (eg_var (i := 7) rfl))).is ?_) fun _ =>
    et_repr (sho_deal gx) (eg_call (spR_g hR) (ea_cons (eg_var (i := 1) rfl) (ea_cons (eg_var (i := 2) rfl) ea_nil))) (eg_var (i := 12) rfl)) sgk_next) hσ11 ok11 fun σ12 H12 hσ12 e12 ok12 => ?_
  · have e : PyData.eqv (namesD (sortS ((List.range N).map nm))) (namesD (sortS ((List.range N).map nm))) = true := (eqvAll_iff PyData.str eqv_str _ _).trans (decide_eq_true rfl)
    rw [e]
    rfl
  refine thenk_g (sgk_ifF (et_or (a := false) (b := false) (et_repr (k := 1) (m := 64005) (ds := ((List.range 1000).map nm).map .str) (shoN 1000 (by decide)) ((eg_call (spF_g ⟨x, 0, 1000, gx, by decide, by decide, rfl, rfl⟩) (ea_cons (eg_var (i := 12) rfl) (ea_cons eg_int (ea_cons eg_int ea_nil)))).is ?_) (eg_cb cg_tupleL (ea_cons ((eg_slL (K := K) (eg_var (i := 8) rfl) eo_none (eo_some eg_int)).is ?_) ea_nil))) fun _ => et_goes gx hrt rfl rfl) sgk_next) hσ12 ok12 fun σ13 H13 hσ13 e13 ok13 => ?_
  · rw [List.map_map]
    refine congrArg PyData.tuple (List.map_congr_left fun i _ => ?_)
    show PyData.str (x.name (0 + i)) = PyData.str (nm i)
    rw [Nat.zero_add, hnx]
  · show PyData.list (cutP _ none (some ((1000 : Nat) : Int))) = _
    rw [cutP_map, cutP_take, hgt 1000 (Nat.le_refl _)]
  -- the coins
  have e913 := ((e10.trans e11).trans e12).trans e13
  have M13 := M9.ex' e913
  have T13 := T9.ext e913
  have h106 : ∀ {Γ : En}, EvG (tOp (rI CPow fun i j => .int (i ^ j.toNat)) (tC (.int 10)) (tC (.int 6))) Γ (.int ((1000000 : Nat) : Int)) := fun {Γ} => (eg_op (rg_pow ⟨by decide, by decide, by decide⟩) eg_int eg_int).is (congrArg PyData.int (by decide))
  have h1018 : ∀ {Γ : En}, EvG (tOp (rI CPow fun i j => .int (i ^ j.toNat)) (tC (.int 10)) (tC (.int 18))) Γ (.int ((1000000000000000000 : Nat) : Int)) := fun {Γ} => (eg_op (rg_pow ⟨by decide, by decide, by decide⟩) eg_int eg_int).is (congrArg PyData.int (by decide))
  refine forM_g (K := K) (Γ0 := (envR (some (netD n)) (some (.str h)) (some (.tuple [strsL ((List.range N).map nm), .int (b : Nat)])) (some (strsL ((List.range N).map nm))) (some (.int (b : Nat))) (some (.int ((N - b : Nat) : Int))) (some (namesD (sortS ((List.range N).map nm)))) (some (strsL going)) (some (.list [dealD x])) (some (.int (r : Nat))) (some (dealD x))))
    (em_tup3 (em_draw (many := 2000) eg_int (by decide) (by decide)) (em_op (f := addD) (em_pure h106) (em_draw (many := 1000000) h106 (by decide) (by decide)) ?_) (em_op (f := addD) (em_pure h1018) (em_draw (many := 999) eg_int (by decide) (by decide)) ?_)) hσ13 M13 (by omega) ok13 (Le.refl _) ?_ fun σ14 H14 hσ14 s14 ok14 => ?_
  · rintro d e rfl ⟨y, hy, rfl⟩
    exact rg_add
  · rintro d e rfl ⟨y, hy, rfl⟩
    exact rg_add
  · rintro d ⟨d1, d2, d3, ⟨x1, hx1, rfl⟩, ⟨_, _, rfl, ⟨x2, hx2, rfl⟩, rfl⟩, ⟨_, _, rfl, ⟨x3, hx3, rfl⟩, rfl⟩, rfl⟩
    refine ⟨_, rfl, fun e he => ?_⟩
    have hM : ∃ M : Nat, M ≤ 10 ^ 30 ∧ e = .int (M : Nat) := by
      rcases List.mem_cons.mp he with rfl | he
      · exact ⟨x1, by omega, rfl⟩
      rcases List.mem_cons.mp he with rfl | he
      · exact ⟨1000000 + x2, by omega, rfl⟩
      rw [List.mem_singleton.mp he]
      exact ⟨1000000000000000000 + x3, by omega, rfl⟩
    obtain ⟨M, hM, rfl⟩ := hM
    obtain ⟨Ns, hs⟩ := settles_am hn wk M
    have hhas := hasD_eq gx hnx M
    have hle : ∀ q ∈ hasD x M, q ≤ 10 ^ 31 := fun q hq => by
      rw [hhas] at hq
      obtain ⟨a, _, rfl⟩ := List.mem_map.mp hq
      have := countN_le nm a M
      omega
    have hlen : (hasD x M).length ≤ 1000 := by
      rw [hhas, List.length_map, hxn]
      omega
    have hsum : (hasD x M).sum = M := by
      rw [hhas, hxn]
      exact sum_count (nodup_srt (srt_sortS _)) (fun i => mem_sortS.mpr (nm_mem hb hper i)) M
    have hcast : ∀ l : List Nat, (l.map fun q => ((q : Nat) : Int)).sum = (l.sum : Nat) := fun l => by
      induction l with
      | nil => rfl
      | cons a l ih => rw [List.map_cons, List.sum_cons, ih, List.sum_cons]; omega
    have hn1 := hn.lo
    have hpl := people_len hn
    refine ⟨[(13, .int (M : Nat))], _, gp_name, by simp, sgk_seq (sgk_asg (d := natsD (amOf n h M)) ?_) (sgk_seq (sgk_asg (d := .list ((sortS ((List.range N).map nm)).map fun a => PyData.tuple [.str a, .int (countN nm a M : Nat)])) ?_) (sgk_ifF ?_ sgk_next)), ?_⟩
    · refine (eg_cb cg_tupleL (ea_cons (eg_lcM (K := K) (l := n) (q := houseD) (f := fun q => PyData.int ((if h = q.1 then M else 0 : Nat) : Int)) (it_tup (eg_var (i := 1) rfl)) (by omega) fun q hq => ⟨_, gp_name, by simp, eg_if (et_test (eg_op rg_eqS (eg_op (rg_ixT (d := .str q.1) (atI_nat' (n := 0) rfl)) (eg_var (i := 15) rfl) eg_int) (eg_var (i := 2) rfl))) (fun hb => ?_) (fun hb => ?_), rfl⟩) ea_nil)).is ?_
      · have e := of_decide_eq_true hb
        rw [if_pos e.symm]
        exact eg_var (i := 13) rfl
      · have e := of_decide_eq_false hb
        rw [if_neg (fun z => e z.symm)]
        exact eg_int
      · unfold natsD amOf
        rw [List.map_map]
        rfl
    · refine (eg_lcF (K := K) (l := people n) (q := fun a => PyData.tuple [.str a, .int ((handF (pairsOf n (totAt n (amOf n h M) Ns)) a).getD 0 : Nat)]) (f := fun a => PyData.tuple [.str a, .int ((handF (pairsOf n (totAt n (amOf n h M) Ns)) a).getD 0 : Nat)]) (b := fun a => decide (a ∈ sortS ((List.range N).map nm)))
        (it_tup (eg_call (spF_g ⟨n, amOf n h M, Ns, hn, ho, amOf_len n h M, fun q hq => ?_, hs, rfl, rfl⟩) (ea_cons (eg_var (i := 1) rfl) (ea_cons (eg_var (i := 14) rfl) ea_nil)))) (by omega) fun a ha => ⟨_, gp_name, by simp, et_test (eg_op rg_inT (eg_op (rg_ixT (d := .str a) (atI_nat' (n := 0) rfl)) (eg_var (i := 15) rfl) eg_int) (eg_var (i := 7) rfl)), fun _ => ⟨eg_var (i := 15) rfl, rfl⟩⟩).is ?_
      · rw [people_row (fun a ha => by obtain ⟨i, _, rfl⟩ := List.mem_map.mp ha; exact hpe i)]
        refine congrArg PyData.list (List.map_congr_left fun a ha => ?_)
        have hap : a ∈ people n := by
          obtain ⟨i, _, rfl⟩ := List.mem_map.mp (mem_sortS.mp ha)
          exact hpe i
        rw [paid_eq hn hh wk hs hap]
      · unfold amOf at hq
        obtain ⟨y, _, rfl⟩ := List.mem_map.mp hq
        split <;> omega
    · have hasE : ∀ {Γ : En} {E : XK}, Γ[12]? = some (some (dealD x)) → Γ[13]? = some (some (.int (M : Nat))) → EvG (tCall (spF R_has) [] E (tCons (tVar 12) (tCons (tVar 13) tNil))) Γ (.tuple ((hasD x M).map fun q => PyData.int (q : Nat))) := fun {Γ E} g1 g2 => eg_call (spF_g ⟨x, M, gx, hM, rfl, rfl⟩) (ea_cons (eg_var g1) (ea_cons (eg_var g2) ea_nil))
      refine et_or (a := false) (b := false) (et_repr (sho_nats hle hlen) (hasE rfl rfl) ((eg_cb cg_tupleL (ea_cons (eg_lcM (K := K) (l := sortS ((List.range N).map nm)) (q := fun a => PyData.tuple [.str a, .int (countN nm a M : Nat)]) (f := fun a => PyData.int (countN nm a M : Nat)) (it_list (eg_var (i := 16) rfl)) (by omega) fun a ha => ⟨_, gp_name, by simp, eg_op (rg_ixT (atI_nat' (n := 1) rfl)) (eg_var (i := 15) rfl) eg_int, rfl⟩) ea_nil)).is ?_)) fun _ =>
        (et_test (eg_op rg_neI ((eg_cb (cg_sumT (K := K) (ns := (hasD x M).map fun q => ((q : Nat) : Int))) (ea_cons ((hasE rfl rfl).is (by rw [List.map_map]; rfl)) ea_nil)).is (by rw [hcast, hsum])) (eg_var (i := 13) rfl))).is (by rw [decide_eq_true rfl]; rfl)
      rw [hhas, hxn, List.map_map]
      rfl
    · exact .keep (.keep (.keep (.keep (.keep (.keep (.keep (.keep (.keep (.keep (.keep (.keep (.keep (.non (.non (.keep (.non .nil))))))))))))))))
  have T14 : LamX.Tabs Tb H14 := by
    obtain ⟨kvs, hp⟩ := M13.dict
    exact tabs_ow hp s14.o T13
  exact k H14 (s14.m.mono (by omega)) T14
end
end Stair
/-! ## StL8 -/
set_option Elab.async false
set_option linter.all false
set_option maxRecDepth 100000
set_option maxHeartbeats 1000000
namespace Stair
open PySem PySem.Spec PyProof.Rows L2 Evl
/-! # law -/
def qLaw : Str := (envOfC "law" (defScope sLaw) 0 0 .none).qual ++ "<lambda>"
def spLaw (K : Kx) (Tb : List (Addr × Str)) : Sp := fun vs H Q _ => ∃ (a : Addr) (ns : List Int), vs = [.ref a] ∧ SqL K H a (ns.map V.int) ∧ ns.length ≤ 63 ∧ LamX.Tabs Tb H ∧ ∀ H', Q (.bl true) H'
theorem eok_none {H : Hp} : ∀ {σ : L2.St} {n : Nat}, σ.length = n → EOk H σ (List.replicate n none)
  | [], 0, _ => .nil
  | [], n + 1, h => by cases h
  | o :: σ, 0, h => by cases h
  | o :: σ, n + 1, h => .non (eok_none (by simpa using h))
/-- a test that is false, lambdas in it -/
def CtL (Tb : List (Addr × Str)) (c : TT) (σ : L2.St) (H : Hp) (b : Bool) : Prop := ∀ Q : Bool → Hp → Prop, (∀ H', LamX.ExtN H H' → LamX.Tabs Tb H' → Q b H') → c σ H Q
section
variable {Tb : List (Addr × Str)} {K : Kx} {c c1 c2 : TT} {t rest : TS} {D : Ends} {σ : L2.St} {H : Hp} {Γ : En} {Ce : Addr} {R : List PD → PD → Prop} {RE : List PD → Int → Prop} {ta : TA} {ds : List PD} {m : Int}
theorem ifL (h : CtL Tb c σ H false) (k : ∀ H', LamX.ExtN H H' → LamX.Tabs Tb H' → rest D σ H') : tSeq (tIfS c t tNext) rest D σ H := h _ fun H' e T => ifF (k H' e T)
theorem ctl_pure (hT : LamX.Tabs Tb H) (ok : EOk H σ Γ) (h : EtG c Γ false) : CtL Tb c σ H false := fun Q q => h σ H ok Q fun H' e => q H' (extN_ex e) (hT.ext e)
theorem ctl_or (h1 : CtL Tb c1 σ H false) (h2 : ∀ H', LamX.ExtN H H' → LamX.Tabs Tb H' → CtL Tb c2 σ H' false) : CtL Tb (tOr c1 c2) σ H false := fun Q q => h1 _ fun H1 e1 T1 => ifF (h2 H1 e1 T1 Q fun H2 e2 T2 => q H2 (e1.trans e2) T2)
theorem ctl_err (hT : LamX.Tabs Tb H) (ok : EOk H σ Γ) (h : EaG ta Γ ds) (hR : RE ds m) : CtL Tb (tTest (tOp (rNeD K) (tOutc Tb Ce (spR Ce R RE) ta) (tC (.int m)))) σ H false := fun Q q => lam_err hT ok h hR fun H' e T' => by
  show rNeD K (V.int m) (V.int m) H' (fun x H' => ∃ k, x = V.bl k ∧ Q k H')
  refine rg_neD (K := K) (d := .int m) (e := .int m) shp_int.ok shp_int.ok (.int m) (.int m) H' (.int m) (.int m) _ fun v H3 e3 d3 => ?_
  cases d3
  refine ⟨_, rfl, ?_⟩
  rw [eqv_int, decide_eq_true rfl]
  exact q H3 (e.trans (extN_ex e3)) (T'.ext e3)
end
section
variable {P : Program} {w : World} {K : Kx} {mg : Str → Option Value} {base : Heap} {C Ce fe : Addr} (T : Tp K mg) (W : Tw K mg C) (Te : PySem.TgX.TgTxt P K mg Ce fe) {Tb : List (Addr × Str)} {Pr Pl : Addr}
include T W Te
theorem has_law (LT : LamT K mg base "_law_right" Pr) (hmR : (Pr, qRight) ∈ Tb) (huR : ∀ p ∈ Tb, p.1 = Pr → p.2 = qRight) (LL : LamT K mg base "law" Pl) (hmT : (Pl, qLaw) ∈ Tb) (hu : ∀ p ∈ Tb, p.1 = Pl → p.2 = qLaw) : HasG P w K mg base CX0 12 "law" ["_law_script"] (spLaw K Tb) := by
  refine has_ofG T.dLaw sc_law (fun _ _ _ _ _ _ us hl => match us, hl with | [_], _ => rfl) (fun vs H Q E ⟨_, _, e, _⟩ => by rw [e]; rfl) fun f cdv fd A outer s H vs Q E hm hcd hF ⟨oc, od, osl, lk⟩ hA hr h => ?_
  obtain ⟨c, hc, TB⟩ := LL.ok f oc od osl fd hm lk
  have hcode : cdv = .ref c := hcd.symm.trans hc
  subst hcode
  have G__law_begun := has_law_begun (P := P) (w := w) (base := base) T
  have G__law_net := has_law_net (P := P) (w := w) (base := base) T
  have G__law_of := has_law_of (P := P) (w := w) (base := base) T
  have G__law_right := has_law_right (P := P) (w := w) (base := base) T W Te LT hmR huR
  have G__law_wide := has_law_wide (P := P) (w := w) (base := base) T
  have G_melted_fate := has_melted_fate (P := P) (w := w) (base := base) T W Te
  have G_melted_part := has_melted_part (P := P) (w := w) (base := base) T W
  have G_melt := has_melt (P := P) (w := w) (base := base) T W Te
  have G_has := has_has (P := P) (w := w) (base := base) T
  have hu64 := hu_64 (X := (cxOf CX0 P w K mg base ["_law_script", "_law_m", "_law_lap", "_law_net_here", "_law_long", "_law_one"] "law" (defScope sLaw) f (.ref c) A outer s H E).nox) hr
  have hu65 := hu_65 (X := (cxOf CX0 P w K mg base ["_law_script", "_law_m", "_law_lap", "_law_net_here", "_law_long", "_law_one"] "law" (defScope sLaw) f (.ref c) A outer s H E).nox) hr
  have hcode : (cxOf CX0 P w K mg base ["_law_script", "_law_m", "_law_lap", "_law_net_here", "_law_long", "_law_one"] "law" (defScope sLaw) f (.ref c) A outer s H E).nox.env.code = .ref c := rfl
  obtain ⟨a, ns, rfl, hS, hlen, hT, k⟩ := h
  refine ⟨_, (pss_cons (ps_st 1 sc_law.nd (pe_has G__law_begun hr (pa_cons (pv 0) pa_nil))) (pss_cons (ps_for PassesOwn.never rfl (pi_range1 rfl T.f_range (pa_cons (pe_op op_add pe_int (kb_min T (pa_cons (kb_len T (pa_cons (pv 0) pa_nil)) (pa_cons pe_int pa_nil)))) pa_nil)) (pg_nm 2 sc_law.nd) (pss_cons (ps_st 3 sc_law.nd (pe_has G__law_net hr (pa_cons (pv 1) (pa_cons pe_int (pa_cons pe_int pa_nil))))) (pss_one (ps_if (pt_not (pt_val (pe_hasG G__law_right hA hr (pa_cons (pv 1) (pa_cons (pv 3) (pa_cons (pe_ix (kix_tup K) (pe_has G__law_of hr (pa_cons (pv 1) (pa_cons (pv 3) pa_nil))) pe_int (fun _ _ => rfl)) pa_nil)))))) (pss_one (ps_ret pe_bl)) pss_nil)))) (pss_cons (ps_if (PW.pt (pw_or (pt_cmpR (kop_neD K hu64) (pe_outcome T Te TB hcode hmT hu hr (LamX.lamS_by rfl) rfl (fun _ _ _ _ _ => rfl) (fun A outer s H E f cx hr2 => (pe_hasX G_melt hr2 (takes_of rfl rfl rfl rfl) (pa_cons (pe_has G__law_wide hr2 (pa_cons pe_int pa_nil)) (pa_cons pe_str pa_nil))))) pe_int (nomark _)) (pw_or1 (pt_cmpR op_ne (kb_len T (pa_cons (pe_ix (kix_tup K) (pe_hasY G_melt hr (pa_cons (pe_has G__law_wide hr (pa_cons pe_int pa_nil)) (pa_cons pe_str pa_nil))) pe_int (fun _ _ => rfl)) pa_nil)) pe_int (nomark _))))) (pss_one (ps_ret pe_bl)) pss_nil) (pss_cons (ps_st 4 sc_law.nd (pe_tup (pa_cons (pe_tup (pa_cons pe_str (pa_cons (pe_tup (pa_cons (pe_tup (pa_cons pe_str (pa_cons pe_str pa_nil))) (pa_cons (pe_tup (pa_cons (pe_tup (pa_cons (pe_op op_pow pe_int pe_int) (pa_cons pe_str pa_nil))) (pa_cons (pe_tup (pa_cons pe_non (pa_cons pe_str pa_nil))) pa_nil))) pa_nil))) pa_nil))) pa_nil))) (pss_cons (ps_if (PW.pt (pw_or (pt_cmpR (kop_neD K hu64) (pe_outcome T Te TB hcode hmT hu hr (LamX.lamS_by rfl) rfl (fun _ _ _ _ _ => rfl) (fun A outer s H E f cx hr2 => (pe_hasX G_melted_fate hr2 (takes_of rfl rfl rfl rfl) (pa_cons (pv 4) (pa_cons pe_str pa_nil))))) pe_int (nomark _)) (pw_or1 (pt_cmpR (kop_neD K hu64) (pe_has G_melted_part hr (pa_cons (pv 4) (pa_cons pe_str (pa_cons pe_int pa_nil)))) (pe_tup (pa_cons pe_str (pa_cons pe_str pa_nil))) (nomark _))))) (pss_one (ps_ret pe_bl)) pss_nil) (pss_cons (ps_if (pt_cmpR (kop_neD K hu64) (pe_outcome T Te TB hcode hmT hu hr (LamX.lamS_by rfl) rfl (fun _ _ _ _ _ => rfl) (fun A outer s H E f cx hr2 => (pe_hasX G_melt hr2 (takes_of rfl rfl rfl rfl) (pa_cons (pv 4) (pa_cons pe_str pa_nil))))) pe_int (nomark _)) (pss_one (ps_ret pe_bl)) pss_nil) (pss_cons (ps_st 3 sc_law.nd (pe_tup (pa_cons (pe_tup (pa_cons pe_str (pa_cons (pe_tup (pa_cons (pe_tup (pa_cons pe_str (pa_cons pe_str pa_nil))) (pa_cons (pe_tup (pa_cons (pe_tup (pa_cons pe_int (pa_cons pe_str pa_nil))) (pa_cons (pe_tup (pa_cons pe_non (pa_cons pe_str pa_nil))) pa_nil))) pa_nil))) pa_nil))) pa_nil))) (pss_cons (ps_if (pt_cmpR (kop_neD K hu64) (pe_outcome T Te TB hcode hmT hu hr (LamX.lamS_by rfl) rfl (fun _ _ _ _ _ => rfl) (fun A outer s H E f cx hr2 => (pe_hasX G_melted_fate hr2 (takes_of rfl rfl rfl rfl) (pa_cons (pv 3) (pa_cons pe_str pa_nil))))) pe_int (nomark _)) (pss_one (ps_ret pe_bl)) pss_nil) (pss_cons (ps_st 3 sc_law.nd (pe_tup (pa_cons (pe_tup (pa_cons pe_str (pa_cons (pe_tup (pa_cons (pe_tup (pa_cons pe_str (pa_cons pe_str pa_nil))) (pa_cons (pe_tup (pa_cons (pe_tup (pa_cons pe_int (pa_cons pe_str pa_nil))) (pa_cons (pe_tup (pa_cons pe_non (pa_cons pe_str pa_nil))) pa_nil))) pa_nil))) pa_nil))) pa_nil))) (pss_cons (ps_if (PW.pt (pw_or (pt_cmpR (kop_neD K hu64) (pe_hasY G_melted_fate hr (pa_cons (pv 3) (pa_cons pe_str pa_nil))) (pe_tup (pa_cons pe_int (pa_cons pe_int pa_nil))) (nomark _)) (pw_or1 (pt_cmpR op_ne (pb_repr T hA hu65 (pa_cons (pe_has G_has hr (pa_cons (pe_hasY G_melt hr (pa_cons (pv 3) (pa_cons pe_str pa_nil))) (pa_cons (pe_op op_pow pe_int pe_int) pa_nil))) pa_nil)) (pb_repr T hA hu65 (pa_cons (pe_tup (pa_cons pe_int (pa_cons (pe_op op_sub (pe_op op_pow pe_int pe_int) pe_int) pa_nil))) pa_nil)) (nomark _))))) (pss_one (ps_ret pe_bl)) pss_nil) (pss_cons (ps_st 5 sc_law.nd (pe_tup (pa_cons (pe_tup (pa_cons pe_str (pa_cons (pe_tup (pa_cons (pe_tup (pa_cons pe_str (pa_cons pe_str pa_nil))) (pa_cons (pe_tup (pa_cons (pe_tup (pa_cons pe_non (pa_cons pe_str pa_nil))) pa_nil)) pa_nil))) pa_nil))) (pa_cons (pe_tup (pa_cons pe_str (pa_cons (pe_tup (pa_cons (pe_tup (pa_cons pe_str (pa_cons pe_str pa_nil))) (pa_cons (pe_tup (pa_cons (pe_tup (pa_cons pe_int (pa_cons pe_str pa_nil))) (pa_cons (pe_tup (pa_cons pe_non (pa_cons pe_str pa_nil))) pa_nil))) pa_nil))) pa_nil))) pa_nil)))) (pss_one (ps_ret (pe_and (pe_cmpR (kop_eqD K hu64) (pe_has G_melted_part hr (pa_cons (pv 5) (pa_cons pe_str (pa_cons pe_int pa_nil)))) (pe_tup (pa_cons pe_str (pa_cons pe_str (pa_cons pe_str (pa_cons pe_str (pa_cons pe_str (pa_cons pe_str (pa_cons pe_str pa_nil)))))))) (nomark _)) (pe_one (pe_cmpR (kop_eqD K hu64) (pe_hasY G_melted_fate hr (pa_cons (pv 5) (pa_cons pe_str pa_nil))) (pe_tup (pa_cons pe_int (pa_cons pe_int pa_nil))) (nomark _))))))))))))))))), ?_⟩
  have hln : (ns.map V.int).length = ns.length := List.length_map _
  refine ⟨.ref a, rfl, a, ns, rfl, hS, hlen, fun p ca H1 e1 hp M1 => ?_⟩
  have sq1 := Same.seq e1 hS
  have T1 : LamX.Tabs Tb H1 := hT.ext e1
  refine ⟨.ref a, rfl, .ref a, ns.length, rfl, .inl ⟨_, sq1, hln.symm⟩, (ns.length : Nat), 5, rfl, 2, _, rfl, rfl, _, rfl, ?_, ?_, ?_⟩
  · split <;> omega
  · split <;> omega
  have hlaps : (2 + (if (5 : Int) < (ns.length : Nat) then 5 else ((ns.length : Nat) : Int))).toNat ≤ 7 := by split <;> omega
  generalize (2 + (if (5 : Int) < (ns.length : Nat) then 5 else ((ns.length : Nat) : Int))).toNat = laps at hlaps
  refine for_it (walk_range (lo := 0) (n := laps)) (fun i σ2 H2 => σ2[1]? = some (some (.ref p)) ∧ σ2.length = 6 ∧ Mach p ca (i * 300) H2 ∧ LamX.Tabs Tb H2) ⟨rfl, rfl, M1.mono (by omega), T1⟩ (fun _ _ _ _ _ => trivial) ?_ ?_
  · rintro i x σ2 H2 H3 hi ⟨h1, hl6, M2, T2⟩ ⟨rfl, rfl⟩
    have hs1 : (σ2.set 2 (some (V.int (0 + (i : Nat)))))[1]? = some (some (.ref p)) := set_keep h1 (by decide)
    refine ⟨.ref p, hs1, p, ca, i * 300, rfl, M2, by omega, fun n v H4 dn M4 dv o4 t4 => ?_⟩
    have hs1' : ((σ2.set 2 (some (V.int (0 + (i : Nat))))).set 3 (some v))[1]? = some (some (.ref p)) := set_keep hs1 (by decide)
    have hs3 : ((σ2.set 2 (some (V.int (0 + (i : Nat))))).set 3 (some v))[3]? = some (some v) := List.getElem?_set_self (by rw [List.length_set]; omega)
    have hl6' : ((σ2.set 2 (some (V.int (0 + (i : Nat))))).set 3 (some v)).length = 6 := by rw [List.length_set, List.length_set]; exact hl6
    obtain ⟨kvs, hp2⟩ := M2.dict
    obtain ⟨kvs4, hp4⟩ := M4.dict
    have T4 := tabs_ow hp2 o4 T2
    have hng := dn.good
    have hn1 := hng.lo
    have hn4 := hng.hi
    refine ⟨.ref p, hs1', v, hs3, .ref p, hs1', v, hs3, p, ca, i * 300 + 200, v, n.map houseD, rfl, M4, .inl dv, td_net n, by rw [List.length_map]; exact hn1, by rw [List.length_map]; omega, by omega, fun d u H5 hd du M5 o5 t5 => ?_⟩
    obtain ⟨q, hq, rfl⟩ := List.mem_map.mp hd
    have T5 := tabs_ow hp4 o5 T4
    refine rg_ixT (K := K) (d := .str q.1) (ds := [.str q.1, dealD q.2]) (atI_nat' (n := 0) rfl) u (.int 0) H5 du (.int 0) _ fun y H6 e6 dy => ?_
    cases dy
    refine ⟨p, ca, i * 300 + 201, v, n, q.1, rfl, M5.ex' e6, T5.ext e6, dn, List.mem_map.mpr ⟨q, hq, rfl⟩, (Dt.tx t5 _ (td_net n) dv).mono e6, by omega, fun H7 M7 T7 => ?_⟩
    exact ⟨true, rfl, ifF ⟨hs1', hl6', M7.mono (by omega), T7⟩⟩
  rintro σ2 H2 ⟨_, hl6, _, T2⟩
  have ok2 : EOk H2 σ2 [none, none, none, none, none, none] := eok_none hl6
  -- seven, six
  have hR6 : R_melt [netD wide6, .str "g"] (dealD (meltDeal ((List.range 10).map (nmW wide6 "g")) 0)) := ⟨wide6, 0, "g", stsW wide6 "g", nmW wide6 "g", 0, 10, good6, opens6, rfl, fate6, rfl, by rw [row6]; decide, last6, rfl⟩
  have hE7 : RE_melt [netD wide7, .str "g"] 6 := ⟨wide7, 0, "g", stsW wide7 "g", nmW wide7 "g", good7, opens7, rfl, rfl, .inr ⟨0, 15, fate7, by rw [row7]; decide, .inl ⟨rfl, by rw [row7]; decide⟩⟩⟩
  refine ifL (ctl_or (ctl_err T2 ok2 (ea_cons (eg_call (spF_g (Or.inr ⟨rfl, rfl⟩)) (ea_cons eg_int ea_nil)) (ea_cons eg_str ea_nil)) hE7) fun H3 e3 T3 => ctl_pure T3 (ok2.lx (extN_lx e3)) ((et_test (eg_op rg_neI (eg_cb (cg_lenT (K := K)) (ea_cons (eg_op (rg_ixT (d := namesD (meltDeal ((List.range 10).map (nmW wide6 "g")) 0).names) (atI_nat' (n := 0) rfl)) (eg_call (spR_g hR6) (ea_cons (eg_call (spF_g (Or.inl ⟨rfl, rfl⟩)) (ea_cons eg_int ea_nil)) (ea_cons eg_str ea_nil))) eg_int) ea_nil)) eg_int)).is ?_)) fun H3 e3 T3 => ?_
  · show (!decide ((((sortS ((List.range 10).map (nmW wide6 "g"))).map PyData.str).length : Int) = 6)) = false
    rw [row6]
    rfl
  have ok3 := ok2.lx (extN_lx e3)
  -- the long one
  refine asg_g (d := netD longNet) ((eg_tup (ea_cons (eg_tup (ea_cons eg_str (ea_cons (eg_tup (ea_cons (eg_tup (ea_cons eg_str (ea_cons eg_str ea_nil)) (Nat.le_of_ble_eq_true rfl)) (ea_cons (eg_tup (ea_cons (eg_tup (ea_cons ((eg_op (rg_pow ⟨by decide, by decide, by decide⟩) eg_int eg_int).is (d' := .int ((10 ^ 12 : Nat) : Int)) (congrArg PyData.int (by decide))) (ea_cons eg_str ea_nil)) (Nat.le_of_ble_eq_true rfl)) (ea_cons (eg_tup (ea_cons eg_non (ea_cons eg_str ea_nil)) (Nat.le_of_ble_eq_true rfl)) ea_nil)) (Nat.le_of_ble_eq_true rfl)) ea_nil)) (Nat.le_of_ble_eq_true rfl)) ea_nil)) (Nat.le_of_ble_eq_true rfl)) ea_nil) (Nat.le_of_ble_eq_true rfl)).is rfl) ok3 fun v4 H4 e4 d4 => ?_
  have ok4 : EOk H4 (σ2.set 4 (some v4)) [none, none, none, none, some (netD longNet), none] := (ok3.mono e4).set d4 4
  have T4 := T3.ext e4
  generalize σ2.set 4 (some v4) = σ4 at ok4 ⊢
  have shS : ∀ l : List Str, (∀ a ∈ l, GoodWord a) → Shp 1 (.tuple (l.map .str)) := fun l hw => shp_tup fun d hd => by
    obtain ⟨a, ha, rfl⟩ := List.mem_map.mp hd
    exact shp_str (hw a ha)
  have shI : ∀ l : List Int, Shp 1 (.tuple (l.map .int)) := fun l => shp_tup fun d hd => by
    obtain ⟨a, ha, rfl⟩ := List.mem_map.mp hd
    exact shp_int
  have gwp : GoodWord "p" := gw_ok (by decide +kernel)
  have gwq : GoodWord "q" := gw_ok (by decide +kernel)
  have eqS : ∀ l : List Str, PyData.eqv (.tuple (l.map .str)) (.tuple (l.map .str)) = true := fun l => (eqvAll_iff PyData.str eqv_str l l).trans (decide_eq_true rfl)
  have eqI : ∀ l : List Int, PyData.eqv (.tuple (l.map .int)) (.tuple (l.map .int)) = true := fun l => (eqvAll_iff PyData.int eqv_int l l).trans (decide_eq_true rfl)
  have hE4 : RE_melted_fate [netD longNet, .str "g"] 2000 := ⟨rfl, longNet, 0, "g", longSts, fun _ => "p", goodLong, opensLong, rfl, long_none, rfl⟩
  refine ifL (ctl_or (ctl_err T4 ok4 (ea_cons (eg_var (i := 4) rfl) (ea_cons eg_str ea_nil)) hE4) fun H5 e5 T5 => ctl_pure T5 (ok4.lx (extN_lx e5)) ((et_test (eg_op (rg_neD (K := K) (d := .tuple ((["p", "p"] : List Str).map .str)) (e := .tuple ((["p", "p"] : List Str).map .str)) (shS _ ?_).ok (shS _ ?_).ok)
    (eg_call (spF_g ⟨longNet, 0, "g", longSts, fun _ => "p", 2, goodLong, opensLong, rfl, by decide, long_goes (by decide), rfl, rfl⟩) (ea_cons (eg_var (i := 4) rfl) (ea_cons eg_str (ea_cons eg_int ea_nil)))) (eg_tup (ea_cons eg_str (ea_cons eg_str ea_nil)) (Nat.le_of_ble_eq_true rfl)))).is (by rw [eqS]; rfl))) fun H5 e5 T5 => ?_
  · intro a ha
    rcases List.mem_cons.mp ha with rfl | ha
    · exact gwp
    · rw [List.mem_singleton.mp ha]
      exact gwp
  · intro a ha
    rcases List.mem_cons.mp ha with rfl | ha
    · exact gwp
    · rw [List.mem_singleton.mp ha]
      exact gwp
  have ok5 := ok4.lx (extN_lx e5)
  have hE5 : RE_melt [netD longNet, .str "g"] 2000 := ⟨longNet, 0, "g", longSts, fun _ => "p", goodLong, opensLong, rfl, rfl, .inl ⟨rfl, long_none⟩⟩
  refine ifL (ctl_err T5 ok5 (ea_cons (eg_var (i := 4) rfl) (ea_cons eg_str ea_nil)) hE5) fun H6 e6 T6 => ?_
  have ok6 := ok5.lx (extN_lx e6)
  -- 2,000 coins
  refine asg_g (d := netD (capNet 2000)) ((eg_tup (ea_cons (eg_tup (ea_cons eg_str (ea_cons (eg_tup (ea_cons (eg_tup (ea_cons eg_str (ea_cons eg_str ea_nil)) (Nat.le_of_ble_eq_true rfl)) (ea_cons (eg_tup (ea_cons (eg_tup (ea_cons eg_int (ea_cons eg_str ea_nil)) (Nat.le_of_ble_eq_true rfl)) (ea_cons (eg_tup (ea_cons eg_non (ea_cons eg_str ea_nil)) (Nat.le_of_ble_eq_true rfl)) ea_nil)) (Nat.le_of_ble_eq_true rfl)) ea_nil)) (Nat.le_of_ble_eq_true rfl)) ea_nil)) (Nat.le_of_ble_eq_true rfl)) ea_nil) (Nat.le_of_ble_eq_true rfl)).is rfl) ok6 fun v7 H7 e7 d7 => ?_
  have ok7 : EOk H7 (σ4.set 3 (some v7)) [none, none, none, some (netD (capNet 2000)), some (netD longNet), none] := (ok6.mono e7).set d7 3
  have T7 := T6.ext e7
  generalize σ4.set 3 (some v7) = σ7 at ok7 ⊢
  have hE7' : RE_melted_fate [netD (capNet 2000), .str "g"] 2000 := ⟨rfl, capNet 2000, 0, "g", capSts 2000, capNm 2000, good2000, opens2000, rfl, cap_none, rfl⟩
  refine ifL (ctl_err T7 ok7 (ea_cons (eg_var (i := 3) rfl) (ea_cons eg_str ea_nil)) hE7') fun H8 e8 T8 => ?_
  have ok8 := ok7.lx (extN_lx e8)
  -- 1,999 coins
  refine asg_g (d := netD (capNet 1999)) ((eg_tup (ea_cons (eg_tup (ea_cons eg_str (ea_cons (eg_tup (ea_cons (eg_tup (ea_cons eg_str (ea_cons eg_str ea_nil)) (Nat.le_of_ble_eq_true rfl)) (ea_cons (eg_tup (ea_cons (eg_tup (ea_cons eg_int (ea_cons eg_str ea_nil)) (Nat.le_of_ble_eq_true rfl)) (ea_cons (eg_tup (ea_cons eg_non (ea_cons eg_str ea_nil)) (Nat.le_of_ble_eq_true rfl)) ea_nil)) (Nat.le_of_ble_eq_true rfl)) ea_nil)) (Nat.le_of_ble_eq_true rfl)) ea_nil)) (Nat.le_of_ble_eq_true rfl)) ea_nil) (Nat.le_of_ble_eq_true rfl)).is rfl) ok8 fun v9 H9 e9 d9 => ?_
  have ok9 : EOk H9 (σ7.set 3 (some v9)) [none, none, none, some (netD (capNet 1999)), some (netD longNet), none] := (ok8.mono e9).set d9 3
  have T9 := T8.ext e9
  generalize σ7.set 3 (some v9) = σ9 at ok9 ⊢
  have hR9 : R_melt [netD (capNet 1999), .str "g"] (dealD (meltDeal capRow 1999)) := ⟨capNet 1999, 0, "g", capSts 1999, capNm 1999, 1999, 2000, good1999, opens1999, rfl, cap_fate, rfl, by rw [cap_names]; decide, cap_last, rfl⟩
  have hpow : ∀ {Γ : En}, EvG (tOp (rI CPow fun i j => .int (i ^ j.toNat)) (tC (.int 10)) (tC (.int 30))) Γ (.int ((10 ^ 30 : Nat) : Int)) := fun {Γ} => (eg_op (rg_pow ⟨by decide, by decide, by decide⟩) eg_int eg_int).is (congrArg PyData.int (by decide))
  have hhas : hasD (meltDeal capRow 1999) (10 ^ 30) = [1999, 10 ^ 30 - 1999] := by
    rw [cap_has, Nat.min_eq_right (by decide)]
  refine ifL (ctl_pure T9 ok9 (et_or (a := false) (b := false) ((et_test (eg_op (rg_neD (K := K) (d := .tuple (([1999, 1] : List Int).map .int)) (e := .tuple (([1999, 1] : List Int).map .int)) (shI _).ok (shI _).ok)
    (eg_call (spR_g ⟨capNet 1999, 0, "g", capSts 1999, capNm 1999, 1999, 2000, good1999, opens1999, rfl, cap_fate, rfl, rfl⟩) (ea_cons (eg_var (i := 3) rfl) (ea_cons eg_str ea_nil))) (eg_tup (ea_cons eg_int (ea_cons eg_int ea_nil)) (Nat.le_of_ble_eq_true rfl)))).is (by rw [eqI]; rfl)) fun _ =>
    et_repr (k := 1) (m := 64005) (ds := ([1999, 10 ^ 30 - 1999] : List Nat).map fun q => PyData.int (q : Nat)) (sho_nats (fun q hq => ?_) (by decide))
      ((eg_call (spF_g ⟨meltDeal capRow 1999, 10 ^ 30, cap_melt, Nat.le_refl _, rfl, rfl⟩) (ea_cons (eg_call (spR_g hR9) (ea_cons (eg_var (i := 3) rfl) (ea_cons eg_str ea_nil))) (ea_cons hpow ea_nil))).is (by rw [hhas]))
      (eg_tup (ea_cons eg_int (ea_cons ((eg_op rg_sub hpow eg_int).is (d' := .int ((10 ^ 30 - 1999 : Nat) : Int)) (congrArg PyData.int (by decide))) ea_nil)) (Nat.le_of_ble_eq_true rfl)))) fun H10 e10 T10 => ?_
  · rcases List.mem_cons.mp hq with rfl | hq
    · decide
    · rw [List.mem_singleton.mp hq]
      decide
  have ok10 := ok9.lx (extN_lx e10)
  -- the one
  refine asg_g (d := netD oneNet) ((eg_tup (ea_cons (eg_tup (ea_cons eg_str (ea_cons (eg_tup (ea_cons (eg_tup (ea_cons eg_str (ea_cons eg_str ea_nil)) (Nat.le_of_ble_eq_true rfl)) (ea_cons (eg_tup (ea_cons (eg_tup (ea_cons eg_non (ea_cons eg_str ea_nil)) (Nat.le_of_ble_eq_true rfl)) ea_nil) (Nat.le_of_ble_eq_true rfl)) ea_nil)) (Nat.le_of_ble_eq_true rfl)) ea_nil)) (Nat.le_of_ble_eq_true rfl))
    (ea_cons (eg_tup (ea_cons eg_str (ea_cons (eg_tup (ea_cons (eg_tup (ea_cons eg_str (ea_cons eg_str ea_nil)) (Nat.le_of_ble_eq_true rfl)) (ea_cons (eg_tup (ea_cons (eg_tup (ea_cons eg_int (ea_cons eg_str ea_nil)) (Nat.le_of_ble_eq_true rfl)) (ea_cons (eg_tup (ea_cons eg_non (ea_cons eg_str ea_nil)) (Nat.le_of_ble_eq_true rfl)) ea_nil)) (Nat.le_of_ble_eq_true rfl)) ea_nil)) (Nat.le_of_ble_eq_true rfl)) ea_nil)) (Nat.le_of_ble_eq_true rfl)) ea_nil)) (Nat.le_of_ble_eq_true rfl)).is rfl) ok10 fun v11 H11 e11 d11 => ?_
  have ok11 : EOk H11 (σ9.set 5 (some v11)) [none, none, none, some (netD (capNet 1999)), some (netD longNet), some (netD oneNet)] := (ok10.mono e11).set d11 5
  generalize σ9.set 5 (some v11) = σ11 at ok11 ⊢
  have gws : ∀ a ∈ (["p", "p", "q", "p", "p", "p", "q"] : List Str), GoodWord a := fun a ha => by
    have : ∀ b ∈ (["p", "p", "q", "p", "p", "p", "q"] : List Str), gw b = true := List.all_eq_true.mp (by decide +kernel)
    exact gw_ok (this a ha)
  refine last_g (sg_ret (eg_andV (a := true) (b := true) ((eg_op (rg_eqD (K := K) (d := .tuple ((["p", "p", "q", "p", "p", "p", "q"] : List Str).map .str)) (e := .tuple ((["p", "p", "q", "p", "p", "p", "q"] : List Str).map .str)) (shS _ gws).ok (shS _ gws).ok)
    ((eg_call (spF_g ⟨oneNet, 0, "g", stsW oneNet "g", nmW oneNet "g", 7, good1, opens1, rfl, by decide, goes1, rfl, rfl⟩) (ea_cons (eg_var (i := 5) rfl) (ea_cons eg_str (ea_cons eg_int ea_nil)))).is (congrArg namesD part1)) (eg_tup (ea_cons eg_str (ea_cons eg_str (ea_cons eg_str (ea_cons eg_str (ea_cons eg_str (ea_cons eg_str (ea_cons eg_str ea_nil))))))) (Nat.le_of_ble_eq_true rfl))).is (by rw [eqS])) fun _ =>
    (eg_op (rg_eqD (K := K) (d := .tuple (([1, 4] : List Int).map .int)) (e := .tuple (([1, 4] : List Int).map .int)) (shI _).ok (shI _).ok)
    (eg_call (spR_g ⟨oneNet, 0, "g", stsW oneNet "g", nmW oneNet "g", 1, 5, good1, opens1, rfl, fate1, rfl, rfl⟩) (ea_cons (eg_var (i := 5) rfl) (ea_cons eg_str ea_nil))) (eg_tup (ea_cons eg_int (ea_cons eg_int ea_nil)) (Nat.le_of_ble_eq_true rfl))).is (by rw [eqI]))) ok11 fun u H12 e12 d12 => ?_
  cases d12
  exact k H12
end
end Stair
/-! ## StEnd -/
set_option Elab.async false
set_option linter.all false
set_option maxRecDepth 100000
set_option maxHeartbeats 2000000
namespace Stair
open PySem PySem.Spec PyProof.Rows L2 Evl
/-! # The caller calls law: nothing is under way -/
/-- what is tracked at the call: the tables, empty, and the script unless the top made it -/
def begunH (tabs : List Addr) (a : Addr) (own : Bool) (so : Obj) (xs : List V) : Hp := fun b => if b ∈ tabs then some (.tbl #[]) else if b = a ∧ own = false then some (.frz so (.lst xs)) else none
section
variable {tabs : List Addr} {a : Addr} {own : Bool} {so : Obj} {xs : List V}
theorem begunH_tab {b : Addr} (h : b ∈ tabs) : begunH tabs a own so xs b = some (.tbl #[]) := if_pos h
theorem begunH_scr (h : a ∉ tabs) (ho : own = false) : begunH tabs a own so xs a = some (.frz so (.lst xs)) := (if_neg h).trans (if_pos ⟨rfl, ho⟩)
theorem begunH_off {b : Addr} (h : b ∉ tabs) (h2 : b = a → own = true) : begunH tabs a own so xs b = none := (if_neg h).trans (if_neg fun z => by rw [h2 z.1] at z; cases z.2)
theorem begunH_some {b : Addr} {u : HO} (h : begunH tabs a own so xs b = some u) : (b ∈ tabs ∧ u = .tbl #[]) ∨ (b ∉ tabs ∧ b = a ∧ own = false ∧ u = .frz so (.lst xs)) := by
  unfold begunH at h
  by_cases h1 : b ∈ tabs
  · rw [if_pos h1] at h
    exact .inl ⟨h1, (Option.some.inj h).symm⟩
  · rw [if_neg h1] at h
    by_cases h2 : b = a ∧ own = false
    · rw [if_pos h2] at h
      exact .inr ⟨h1, h2.1, h2.2, (Option.some.inj h).symm⟩
    · rw [if_neg h2] at h
      cases h
end
abbrev scriptO (vs : List Value) : Obj := { cls := .type "list", data := .seq vs.toArray }
abbrev tableO : Obj := { cls := .none, data := .fields #[] }
theorem callG {P : Program} {w : World} {K : Kx} {mg mb : Str → Option Value} {k : Nat} {fa a : Addr} {cs : List (Addr × Addr)} {xl x : Str} {sp : Sp} {s₁ : Shared} {vs : List Value} {ns : List Int}
    (KX : K.In s₁.heap) (hns : s₁.heap.Ns mainGlobals mg) (hb : s₁.heap.Ns builtinsNs mb) (hbb : ∀ x : Str, x ≠ "__name__" → mb x = bootBuiltins x) (hlim : s₁.heap.NoLimit) (hg : s₁.gens = #[])
    (tb : ∀ p ∈ cs, s₁.heap.get? p.2 = some tableO ∧ K.lookup p.2 = none ∧ PySem.W.CodeHd s₁.heap p.1 p.2)
    (hbm : ∃ (bm : Addr) (ob : Obj), mg "__builtins__" = some (.ref bm) ∧ bm ≠ builtinsNs ∧ s₁.heap.get? bm = some ob ∧ ob.cls = .type "module" ∧ ob.dict = some builtinsNs ∧ ob.data = .plain)
    (ha : s₁.heap.get? a = some (scriptO vs)) (hi : IntsAre vs ns) (hl : ns.length ≤ sizeLine) (hr : Room k callerA)
    (F : ∀ base : Heap, K.In base → base.Ns mainGlobals mg → (∀ p ∈ cs, LamX.TabB base mg p.1 p.2) → HasG P w K mg base CX0 k xl [x] sp) (hfa : mg xl = some (.ref fa))
    (hsp : ∀ H : Hp, (∀ p ∈ cs, H p.2 = some (.tbl #[])) → SqL K H a (ns.map V.int) → sp [.ref a] H (fun v _ => v = .bl true) fun _ _ _ => False) :
    codeAny (model P w) callerA (.call (.ref fa) ⟨[.ref a], []⟩) (fun r s' => r = .ok (.ret (.bool true)) ∧ OldK s₁.heap s'.heap ∧ s'.os = s₁.os ∧ AllBare s'.gens) s₁ := by
  have rv := vals_ints hi
  have lenV := hi.length
  -- the tracked heap
  obtain ⟨own, hown⟩ : ∃ own : Bool, own = (K.lookup a).isSome := ⟨_, rfl⟩
  generalize hHe : begunH (cs.map (·.2)) a own (scriptO vs) (ns.map V.int) = H
  have isTab : ∀ b ∈ cs.map (·.2), ∃ p ∈ cs, p.2 = b := fun b h => List.mem_map.mp h
  have tabO : ∀ b ∈ cs.map (·.2), s₁.heap.get? b = some tableO := fun b h => by
    obtain ⟨p, hp, rfl⟩ := isTab b h
    exact (tb p hp).1
  have aOff : a ∉ cs.map (·.2) := fun h => by
    have e := tabO a h
    rw [ha] at e
    exact nomatch congrArg Obj.data (Option.some.inj e)
  have HT : ∀ p ∈ cs, H p.2 = some (.tbl #[]) := fun p hp => by
    rw [← hHe]
    exact begunH_tab (List.mem_map.mpr ⟨p, hp, rfl⟩)
  have HX : ∀ {b u}, H b = some u → (b ∈ cs.map (·.2) ∧ u = .tbl #[]) ∨ (b ∉ cs.map (·.2) ∧ b = a ∧ own = false ∧ u = .frz (scriptO vs) (.lst (ns.map V.int))) := fun {b u} h => by
    rw [← hHe] at h
    exact begunH_some h
  have HS : SqL K H a (ns.map V.int) := by
    cases hk : K.lookup a with
    | none =>
      refine .inl (.inr ⟨scriptO vs, ?_⟩)
      rw [← hHe]
      exact begunH_scr aOff (by rw [hown, hk]; rfl)
    | some o =>
      have e := KX a o hk
      rw [ha] at e
      obtain rfl := Option.some.inj e
      exact .inr ⟨_, vs.toArray, _, hk, rfl, rfl, rfl, by rw [List.size_toArray, lenV]; exact hl, by simpa using rv⟩
  have HO : HOk P w H s₁.heap := fun b u h => by
    rcases HX h with ⟨h1, rfl⟩ | ⟨_, rfl, _, rfl⟩
    · exact tabO b h1
    · exact ⟨ha, by rw [List.length_map]; exact hl, vs, _, rv, ha⟩
  -- what is not tracked
  have off : ∀ {b : Addr} {o : Obj}, s₁.heap.get? b = some o → o.data ≠ .fields #[] → (∀ ys n, o.data ≠ .seq ys n) → H b = none := fun {b o} e h1 h2 => by
    cases q : H b with
    | none => rfl
    | some u =>
      rcases HX q with ⟨z, _⟩ | ⟨_, z, _⟩
      · rw [tabO b z] at e
        cases e
        exact absurd rfl h1
      · rw [z, ha] at e
        cases e
        exact absurd rfl (h2 _ _)
  have KH : ∀ {b : Addr} {o : Obj}, K.lookup b = some o → H b = none := fun {b o} e => by
    cases q : H b with
    | none => rfl
    | some u =>
      rcases HX q with ⟨z, _⟩ | ⟨_, z, z2, _⟩
      · obtain ⟨p, hp, rfl⟩ := isTab b z
        rw [(tb p hp).2.1] at e
        cases e
      · rw [hown, ← z, e] at z2
        cases z2
  have stays : ∀ {b : Addr} {m : Str → Option Value}, s₁.heap.Ns b m → (hidT s₁.heap H).Ns b m := fun {b m} ⟨o, es, ep, e, d, r⟩ => ⟨o, es, ep, hidT_get e (off e (fun z => by rw [d] at z; cases z) fun ys n z => by rw [d] at z; cases z), d, r⟩
  have kin : K.In (hidT s₁.heap H) := fun b o e => hidT_get (KX b o e) (KH e)
  have md : L2.Mod K mg (hidT s₁.heap H) := ⟨kin, stays hns, ⟨mb, stays hb, hbb⟩, let ⟨mc, h1, h2⟩ := hlim; ⟨mc, stays h1, h2⟩⟩
  have tabs : ∀ p ∈ cs, LamX.TabB (hidT s₁.heap H) mg p.1 p.2 := fun p hp => by
    obtain ⟨t1, t2, t3⟩ := tb p hp
    refine ⟨?_, ?_, fun z => ?_⟩
    · obtain ⟨o, us, file, tf, flags, tg, inF, text, tt, c1, c2, c3, c4, rest⟩ := t3
      refine ⟨o, us, file, tf, flags, tg, inF, text, tt, hidT_get c1 (off c1 (fun z => ?_) fun ys n z => ?_), c2, c3, c4, rest⟩
      · rw [c3] at z
        cases z
        simp at c4
      · rw [c3] at z
        cases z
    · obtain ⟨bm, ob, b1, b2, b3, b4, b5, b6⟩ := hbm
      refine ⟨bm, ob, b1, b2, fun q => ?_, fun q => ?_, hidT_get b3 (off b3 (fun z => ?_) fun ys n z => ?_), b4, b5, b6⟩
      · obtain ⟨o, es, ep, e, hd, _⟩ := hns
        rw [q, e] at b3
        cases b3
        rw [hd] at b6
        cases b6
      · rw [q, t1] at b3
        cases b3
        cases b6
      · rw [b6] at z
        cases z
      · rw [b6] at z
        cases z
    · obtain ⟨o, es, ep, e, hd, _⟩ := hns
      rw [z, t1] at e
      cases e
      cases hd
  have env : Env0 P w K mg (hidT s₁.heap H) callerA [] s₁ H := ⟨rfl, md, fun b o e => of_hidT e, Nat.le_of_eq (hidT_size _ _), trivial, fun b hb => absurd (show b ∈ ([] : List Addr) from hb) List.not_mem_nil, HO, .of_eq hg⟩
  obtain ⟨f, fd, hf, _, _, bind, FG⟩ := F _ kin (stays hns) tabs
  rw [hf] at hfa
  obtain rfl := Value.ref.inj (Option.some.inj hfa)
  refine codeAny_mono (FG.run callerA [] s₁ H ⟨[.ref a], []⟩ [.ref a] [.ref a] _ _ rfl hr env (bind s₁ [.ref a] rfl) (.cons rfl .nil) (hsp H HT HS)) fun r s' h => ?_
  match r, h with
  | .ok (.ret u), ⟨v, H', os, bare, un, hok', rel, q⟩ =>
    have q' : v = .bl true := q
    subst q'
    have hu : u = Value.bool true := rel
    subst hu
    have nil : ∀ b : Addr, b ∉ ([] : List Addr) := fun b => List.not_mem_nil
    have grow : ∀ b ∈ cs.map (·.2), ∃ more : Array Value, s'.heap.get? b = some { cls := .none, data := .fields more } := fun b h => by
      obtain ⟨p, hp, rfl⟩ := isTab b h
      obtain ⟨more, z⟩ := un.tbls p.2 #[] (HT p hp)
      exact ⟨_, hok' p.2 _ z⟩
    have kept : ∀ b o, b ∉ cs.map (·.2) → s₁.heap.get? b = some o → s'.heap.get? b = some o := fun b o hb e => by
      cases q : H b with
      | none => exact un.keep b o e q (nil b) (nil b)
      | some u =>
        rcases HX q with ⟨z, _⟩ | ⟨_, _, _, rfl⟩
        · exact absurd z hb
        · have e2 := (hok' b _ (un.frzs b _ _ q)).1
          have e1 := (HO b _ q).1
          rw [e1] at e
          rw [e2, ← e]
    refine ⟨rfl, ⟨fun b o e => ?_, fun b o e => ?_⟩, os, bare⟩
    · by_cases hb : b ∈ cs.map (·.2)
      · obtain ⟨more, hm⟩ := grow b hb
        obtain ⟨p, hp, rfl⟩ := isTab b hb
        obtain ⟨t1, t2, t3⟩ := tb p hp
        rw [t1] at e
        obtain rfl := Option.some.inj e
        exact .inr (.inl ⟨(t3.tab t1).isCodeTable, rfl, #[], more, rfl, by rw [Array.empty_append]; exact hm⟩)
      · exact .inl (kept b o hb e)
    · by_cases hb : b ∈ cs.map (·.2)
      · obtain ⟨more, hm⟩ := grow b hb
        exact ⟨_, hm⟩
      · exact ⟨o, kept b o hb e⟩
  | .error e, h => exact absurd h id
end Stair
/-! ## StHd3 -/
set_option Elab.async false
set_option linter.all false
set_option maxRecDepth 100000
set_option maxHeartbeats 2000000
namespace Stair
open PySem PySem.Spec PyProof.Rows L2 Evl
/-! # What the head tells, as the layer wants it -/
section
variable {K : PySem.W.Frag} {h : Heap} {mg : Str → Option Value} (X : K.In h) (G : h.Ns mainGlobals mg) (c : He.SaysD fa fn K)
include X G c
theorem dfact {x : Str} {st : Stmt} {d : He.DefD} (i : Nat) (hi : fn[i]? = some d) (hd : d = ⟨(x, none), x, x, defArgs st, defBody st, defScope st, [], []⟩) (j : Nat) (hj : fa[j]? = some (.glo x)) : ∃ f fd, FnP K x st f fd ∧ mg x = some (.ref f) := by
  obtain ⟨fd, F⟩ := c.def_ i hi
  subst hd
  exact ⟨_, fd, F, He.glo_ok X G (c.fact j hj)⟩
theorem tp_of : Tp K mg where
    dIsWhole := dfact X G c (x := "is_whole") (st := sIsWhole) (d := Stair.dIsWhole) 0 rfl rfl 0 rfl
    dIsWord := dfact X G c (x := "is_word") (st := sIsWord) (d := Stair.dIsWord) 1 rfl rfl 1 rfl
    dAreNames := dfact X G c (x := "are_names") (st := sAreNames) (d := Stair.dAreNames) 2 rfl rfl 2 rfl
    dAreFigures := dfact X G c (x := "are_figures") (st := sAreFigures) (d := Stair.dAreFigures) 3 rfl rfl 3 rfl
    dIsRun := dfact X G c (x := "is_run") (st := sIsRun) (d := Stair.dIsRun) 4 rfl rfl 4 rfl
    dNeedDeal := dfact X G c (x := "need_deal") (st := sNeedDeal) (d := Stair.dNeedDeal) 5 rfl rfl 5 rfl
    dNeedNumber := dfact X G c (x := "need_number") (st := sNeedNumber) (d := Stair.dNeedNumber) 6 rfl rfl 6 rfl
    dCountIn := dfact X G c (x := "count_in") (st := sCountIn) (d := Stair.dCountIn) 7 rfl rfl 7 rfl
    dPartsOf := dfact X G c (x := "parts_of") (st := sPartsOf) (d := Stair.dPartsOf) 8 rfl rfl 8 rfl
    dCountBy := dfact X G c (x := "count_by") (st := sCountBy) (d := Stair.dCountBy) 9 rfl rfl 9 rfl
    dHasIn := dfact X G c (x := "has_in") (st := sHasIn) (d := Stair.dHasIn) 10 rfl rfl 10 rfl
    dPlaceIn := dfact X G c (x := "place_in") (st := sPlaceIn) (d := Stair.dPlaceIn) 11 rfl rfl 11 rfl
    dNameIn := dfact X G c (x := "name_in") (st := sNameIn) (d := Stair.dNameIn) 12 rfl rfl 12 rfl
    dRowPart := dfact X G c (x := "row_part") (st := sRowPart) (d := Stair.dRowPart) 13 rfl rfl 13 rfl
    dHas := dfact X G c (x := "has") (st := sHas) (d := Stair.dHas) 14 rfl rfl 14 rfl
    dNamesOf := dfact X G c (x := "names_of") (st := sNamesOf) (d := Stair.dNamesOf) 15 rfl rfl 15 rfl
    dSignedRuns := dfact X G c (x := "signed_runs") (st := sSignedRuns) (d := Stair.dSignedRuns) 16 rfl rfl 16 rfl
    dTurnedFigures := dfact X G c (x := "turned_figures") (st := sTurnedFigures) (d := Stair.dTurnedFigures) 17 rfl rfl 17 rfl
    dRoundPart := dfact X G c (x := "round_part") (st := sRoundPart) (d := Stair.dRoundPart) 18 rfl rfl 18 rfl
    dLeastRoot := dfact X G c (x := "least_root") (st := sLeastRoot) (d := Stair.dLeastRoot) 19 rfl rfl 19 rfl
    dIsHouse := dfact X G c (x := "is_house") (st := sIsHouse) (d := Stair.dIsHouse) 20 rfl rfl 20 rfl
    dNeedNet := dfact X G c (x := "need_net") (st := sNeedNet) (d := Stair.dNeedNet) 21 rfl rfl 21 rfl
    dHousesOf := dfact X G c (x := "houses_of") (st := sHousesOf) (d := Stair.dHousesOf) 22 rfl rfl 22 rfl
    dPeopleIn := dfact X G c (x := "people_in") (st := sPeopleIn) (d := Stair.dPeopleIn) 23 rfl rfl 23 rfl
    dLeadsOut := dfact X G c (x := "leads_out") (st := sLeadsOut) (d := Stair.dLeadsOut) 24 rfl rfl 24 rfl
    dShutIn := dfact X G c (x := "shut_in") (st := sShutIn) (d := Stair.dShutIn) 25 rfl rfl 25 rfl
    dShutHouses := dfact X G c (x := "shut_houses") (st := sShutHouses) (d := Stair.dShutHouses) 26 rfl rfl 26 rfl
    dNeedOpen := dfact X G c (x := "need_open") (st := sNeedOpen) (d := Stair.dNeedOpen) 27 rfl rfl 27 rfl
    dNeedAmounts := dfact X G c (x := "need_amounts") (st := sNeedAmounts) (d := Stair.dNeedAmounts) 28 rfl rfl 28 rfl
    dHandedParts := dfact X G c (x := "handed_parts") (st := sHandedParts) (d := Stair.dHandedParts) 29 rfl rfl 29 rfl
    dRoundBehind := dfact X G c (x := "round_behind") (st := sRoundBehind) (d := Stair.dRoundBehind) 30 rfl rfl 30 rfl
    dTotalsIn := dfact X G c (x := "totals_in") (st := sTotalsIn) (d := Stair.dTotalsIn) 31 rfl rfl 31 rfl
    dPaidIn := dfact X G c (x := "paid_in") (st := sPaidIn) (d := Stair.dPaidIn) 32 rfl rfl 32 rfl
    dPaidOut := dfact X G c (x := "paid_out") (st := sPaidOut) (d := Stair.dPaidOut) 33 rfl rfl 33 rfl
    dNeedHouse := dfact X G c (x := "need_house") (st := sNeedHouse) (d := Stair.dNeedHouse) 34 rfl rfl 34 rfl
    dMeltedPart := dfact X G c (x := "melted_part") (st := sMeltedPart) (d := Stair.dMeltedPart) 35 rfl rfl 35 rfl
    dFateIn := dfact X G c (x := "fate_in") (st := sFateIn) (d := Stair.dFateIn) 36 rfl rfl 36 rfl
    dMeltedFate := dfact X G c (x := "melted_fate") (st := sMeltedFate) (d := Stair.dMeltedFate) 37 rfl rfl 37 rfl
    dMelt := dfact X G c (x := "melt") (st := sMelt) (d := Stair.dMelt) 38 rfl rfl 38 rfl
    dLastUnlike := dfact X G c (x := "last_unlike") (st := sLastUnlike) (d := Stair.dLastUnlike) 39 rfl rfl 39 rfl
    dGoesRound := dfact X G c (x := "goes_round") (st := sGoesRound) (d := Stair.dGoesRound) 40 rfl rfl 40 rfl
    dLawBegun := dfact X G c (x := "_law_begun") (st := sLawBegun) (d := Stair.dLawBegun) 41 rfl rfl 41 rfl
    dLawDraw := dfact X G c (x := "_law_draw") (st := sLawDraw) (d := Stair.dLawDraw) 42 rfl rfl 42 rfl
    dLawOf := dfact X G c (x := "_law_of") (st := sLawOf) (d := Stair.dLawOf) 43 rfl rfl 43 rfl
    dLawPeople := dfact X G c (x := "_law_people") (st := sLawPeople) (d := Stair.dLawPeople) 44 rfl rfl 44 rfl
    dLawFigures := dfact X G c (x := "_law_figures") (st := sLawFigures) (d := Stair.dLawFigures) 45 rfl rfl 45 rfl
    dLawNet := dfact X G c (x := "_law_net") (st := sLawNet) (d := Stair.dLawNet) 46 rfl rfl 46 rfl
    dLawStanding := dfact X G c (x := "_law_standing") (st := sLawStanding) (d := Stair.dLawStanding) 47 rfl rfl 47 rfl
    dLawNext := dfact X G c (x := "_law_next") (st := sLawNext) (d := Stair.dLawNext) 48 rfl rfl 48 rfl
    dLawFilm := dfact X G c (x := "_law_film") (st := sLawFilm) (d := Stair.dLawFilm) 49 rfl rfl 49 rfl
    dLawOutcome := dfact X G c (x := "_law_outcome") (st := sLawOutcome) (d := Stair.dLawOutcome) 50 rfl rfl 50 rfl
    dLawLeast := dfact X G c (x := "_law_least") (st := sLawLeast) (d := Stair.dLawLeast) 51 rfl rfl 51 rfl
    dLawRight := dfact X G c (x := "_law_right") (st := sLawRight) (d := Stair.dLawRight) 52 rfl rfl 52 rfl
    dLawWide := dfact X G c (x := "_law_wide") (st := sLawWide) (d := Stair.dLawWide) 53 rfl rfl 53 rfl
    dLaw := dfact X G c (x := "law") (st := sLaw) (d := Stair.dLaw) 54 rfl rfl 54 rfl
    f_len := He.free_ok X G (c.fact 64 (f := .free "len") rfl)
    f_isinstance := He.free_ok X G (c.fact 65 (f := .free "isinstance") rfl)
    f_zip := He.free_ok X G (c.fact 66 (f := .free "zip") rfl)
    f_enumerate := He.free_ok X G (c.fact 67 (f := .free "enumerate") rfl)
    f_range := He.free_ok X G (c.fact 68 (f := .free "range") rfl)
    f_sum := He.free_ok X G (c.fact 69 (f := .free "sum") rfl)
    f_min := He.free_ok X G (c.fact 70 (f := .free "min") rfl)
    f_tuple := He.free_ok X G (c.fact 71 (f := .free "tuple") rfl)
    f_list := He.free_ok X G (c.fact 72 (f := .free "list") rfl)
    f_sorted := He.free_ok X G (c.fact 73 (f := .free "sorted") rfl)
    f_set := He.free_ok X G (c.fact 74 (f := .free "set") rfl)
    f_all := He.free_ok X G (c.fact 75 (f := .free "all") rfl)
    f_any := He.free_ok X G (c.fact 76 (f := .free "any") rfl)
    f_int := He.free_ok X G (c.fact 77 (f := .free "int") rfl)
    f_divmod := He.free_ok X G (c.fact 78 (f := .free "divmod") rfl)
    f_repr := He.free_ok X G (c.fact 79 (f := .free "repr") rfl)
    f_super := He.free_ok X G (c.fact 80 (f := .free "super") rfl)
    f_str := He.free_ok X G (c.fact 81 (f := .free "str") rfl)
    f_bool := He.free_ok X G (c.fact 82 (f := .free "bool") rfl)
    c_MOST_NAMES := He.int_ok X G (c.fact 83 (f := .int "MOST_NAMES" 6) rfl)
    c_MOST_SIGNS := He.int_ok X G (c.fact 84 (f := .int "MOST_SIGNS" 6) rfl)
    c_MOST_COINS := He.int_ok X G (c.fact 85 (f := .int "MOST_COINS" 1000000000000) rfl)
    c_MOST_FIGURES_deals := He.int_ok X G (c.fact 86 (f := .int "MOST_FIGURES_deals" 400) rfl)
    c_MOST_RUNS := He.int_ok X G (c.fact 87 (f := .int "MOST_RUNS" 60) rfl)
    c_MOST_NUMBER := He.int_ok X G (c.fact 88 (f := .int "MOST_NUMBER" 1000000000000000000000000000000) rfl)
    c_MOST_ROW := He.int_ok X G (c.fact 89 (f := .int "MOST_ROW" 1000) rfl)
    c_MOST_HOUSES := He.int_ok X G (c.fact 93 (f := .int "MOST_HOUSES" 4) rfl)
    c_MOST_FIGURES_nets := He.int_ok X G (c.fact 94 (f := .int "MOST_FIGURES_nets" 6) rfl)
    c_MOST_STANDINGS := He.int_ok X G (c.fact 95 (f := .int "MOST_STANDINGS" 2000) rfl)
    c_LETTERS := He.str_ok X G (c.fact 90 (f := .str "LETTERS" "abcdefghijklmnopqrstuvwxyz") rfl)
    c_DIGITS := He.str_ok X G (c.fact 91 (f := .str "DIGITS" "0123456789") rfl)
    c_SIGNS := He.str_ok X G (c.fact 92 (f := .str "SIGNS" "0123456789abcdefghijklmnopqrstuvwxyz") rfl)
theorem tw_of : Tw K mg (He.ga K "Walk") where
    g := He.glo_ok X G (c.fact 63 (f := .glo "Walk") rfl)
    cl := He.cls_ok (c.fact 96 (f := .cls "Walk") rfl)
    n_houses := He.noat_ok (c.fact 100 (f := .noat "Walk" "houses") rfl)
    n_deals := He.noat_ok (c.fact 101 (f := .noat "Walk" "deals") rfl)
    n_begin := He.noat_ok (c.fact 102 (f := .noat "Walk" "begin") rfl)
    n_firsts := He.noat_ok (c.fact 103 (f := .noat "Walk" "firsts") rfl)
    n_standing := He.noat_ok (c.fact 104 (f := .noat "Walk" "standing") rfl)
    init := let ⟨fd, F⟩ := c.def_ 55 (d := dWInit) rfl; ⟨_, fd, F, He.mkr_ok (c.fact 97 (f := .mkr "Walk") rfl)⟩
    dealt := let ⟨fd, F⟩ := c.def_ 56 (d := dWDealtBy) rfl; ⟨_, fd, F, He.meth_ok (c.fact 98 (f := .meth "Walk" "dealt_by") rfl)⟩
    paid := let ⟨fd, F⟩ := c.def_ 57 (d := dWPaidOne) rfl; ⟨_, fd, F, He.meth_ok (c.fact 99 (f := .meth "Walk" "paid_one") rfl)⟩
end
end Stair
/-! ## StHd4 -/
set_option Elab.async false
set_option linter.all false
set_option maxRecDepth 100000
set_option maxHeartbeats 2000000
namespace Stair
open PySem PySem.Spec PyProof.Rows L2 Evl
/-! # TooGreat as the head leaves it; the tables -/
theorem tgI_shape : ∃ (p1 p2 q1 q2 q3 q4 q5 q6 q7 q8 q9 q10 : Pos) (j : Nat), defArgs sTgI = PySem.TgX.iA p1 p2 ∧ defBody sTgI = PySem.TgX.iB q1 q2 q3 q4 q5 q6 q7 q8 q9 q10 j ∧ defScope sTgI = PySem.TgX.iS ∧ (q3.endLine == q5.line) = true := ⟨_, _, _, _, _, _, _, _, _, _, _, _, _, rfl, rfl, rfl, rfl⟩
theorem one_of {l : List (Str × Addr)} {x : Str} (h : l.map (·.1) = [x]) : ∃ a, l = [(x, a)] := by
  match l, h with
  | [(y, a)], h =>
    have e : y = x := (List.cons.inj h).1
    rw [e]
    exact ⟨a, rfl⟩
theorem fld_of {file : Str} {vs : Array Value} (h : fldB file vs = true) : ∃ (f : Str) (t : Tok), vs[2]? = some (.str f t) ∧ (file == f) = true := by
  unfold fldB at h
  split at h
  · rename_i f t e
    exact ⟨f, t, e, h⟩
  · cases h
theorem file_of {K : PySem.W.Frag} {file : Str} {v : Value} (h : fileB K file v = true) : ∃ (cda : Addr), v = .ref cda ∧ ∃ (ccl : Value) (cdd : Option Addr) (vs : Array Value) (ccs : Array (Option Value)) (f : Str) (t : Tok), K.lookup cda = some ⟨ccl, cdd, .fields vs, ccs⟩ ∧ vs[2]? = some (.str f t) ∧ (file == f) = true := by
  unfold fileB at h
  split at h
  · rename_i c
    split at h
    · rename_i ccl cdd vs ccs e
      obtain ⟨f, t, h1, h2⟩ := fld_of h
      exact ⟨c, rfl, ccl, cdd, vs, ccs, f, t, e, h1, h2⟩
    · cases h
  · cases h
theorem cell_of {K : PySem.W.Frag} {C : Addr} {x : Str} {cc : Addr} (h : cellB K C [(x, cc)] = true) : ∃ (cl : Value) (cld : Option Addr) (csl : Array (Option Value)), K.lookup cc = some ⟨cl, cld, .cell (some (.ref C)), csl⟩ := by
  have h' : (match K.lookup cc with
    | some ⟨_, _, .cell (some (.ref C')), _⟩ => C' == C
    | _ => false) = true := h
  split at h'
  · rename_i cl cld C' csl e2
    have : C' = C := by simpa using h'
    subst this
    exact ⟨cl, cld, csl, e2⟩
  · cases h'
section
variable {K : PySem.W.Frag} {h : Heap} {mg : Str → Option Value} (X : K.In h) (G : h.Ns mainGlobals mg) (c : He.SaysD fa fn K)
include X G c
theorem tg_of (hB : tgB K = true) (hO : tgObs K = tgVal) : PySem.TgX.TgTxt R.prog K mg (tgC K) (tgF K) := by
  unfold tgB at hB
  obtain ⟨h1, hB⟩ := Bool.and_eq_true_iff.mp hB
  obtain ⟨h2, hB⟩ := Bool.and_eq_true_iff.mp hB
  obtain ⟨h3, hB⟩ := Bool.and_eq_true_iff.mp hB
  obtain ⟨h4, h5⟩ := Bool.and_eq_true_iff.mp hB
  unfold tg1 at h1
  obtain ⟨a1, h1⟩ := Bool.and_eq_true_iff.mp h1
  obtain ⟨a2, h1⟩ := Bool.and_eq_true_iff.mp h1
  obtain ⟨a3, h1⟩ := Bool.and_eq_true_iff.mp h1
  obtain ⟨a4, h1⟩ := Bool.and_eq_true_iff.mp h1
  obtain ⟨a5, h1⟩ := Bool.and_eq_true_iff.mp h1
  obtain ⟨a6, a7⟩ := Bool.and_eq_true_iff.mp h1
  unfold tg2 at h2
  obtain ⟨b1, h2⟩ := Bool.and_eq_true_iff.mp h2
  obtain ⟨b2, h2⟩ := Bool.and_eq_true_iff.mp h2
  obtain ⟨b3, h2⟩ := Bool.and_eq_true_iff.mp h2
  obtain ⟨b4, h2⟩ := Bool.and_eq_true_iff.mp h2
  obtain ⟨b5, h2⟩ := Bool.and_eq_true_iff.mp h2
  obtain ⟨b6, h2⟩ := Bool.and_eq_true_iff.mp h2
  obtain ⟨b7, b8⟩ := Bool.and_eq_true_iff.mp h2
  unfold tg3 at h3
  obtain ⟨c1, c2⟩ := Bool.and_eq_true_iff.mp h3
  refine ⟨He.glo_ok X G (c.fact 62 (f := .glo "TooGreat") rfl), He.free_ok X G (c.fact 80 (f := .free "super") rfl), a1, a2, He.eqO_ok a3, He.eqO_ok a4, He.eqO_ok a5, He.eqO_ok a6, He.eqO_ok a7, of_decide_eq_true b1, b2, of_decide_eq_true b3, of_decide_eq_true b4, of_decide_eq_true b5, b6, of_decide_eq_true b7, of_decide_eq_true b8, He.eqO_ok c1, He.eqO_ok c2, by decide +kernel, ?_⟩
  obtain ⟨p1, p2, q1, q2, q3, q4, q5, q6, q7, q8, q9, q10, j, s1, s2, s3, s4⟩ := tgI_shape
  unfold tgFn at h4
  unfold tgObs tgVal at hO
  split at h4
  · rename_i oc od fd osl e
    rw [e] at hO
    obtain ⟨d1, d2⟩ := Bool.and_eq_true_iff.mp h4
    obtain ⟨d2, d3⟩ := Bool.and_eq_true_iff.mp d2
    obtain ⟨cda, hc, g1⟩ := file_of d2
    obtain ⟨n1, n2, n3, n4, n5, n6, n7, n8, n9, n10, n11, n12, n13, n14, n15⟩ := fd
    simp only [Option.some.injEq, Prod.mk.injEq] at hO
    obtain ⟨o1, o2, o3, o4, o5, o6, o7, o8, o9, o10⟩ := hO
    obtain ⟨cc, rfl⟩ := one_of o7
    have hc' : n13 = .ref cda := hc
    subst o1 o2 o8 o9 o6 o10 hc'
    rw [o3, o4, o5, s1, s2, s3] at e
    exact ⟨oc, od, n10, n11, n12, cda, n14, osl, cc, p1, p2, q1, q2, q3, q4, q5, q6, q7, q8, q9, q10, j, e, d1, s4, g1, cell_of d3⟩
  · cases h4
omit G in
theorem tabs_ne (hB : tgB K = true) : (He.cT K ("law", none)).2 ≠ (He.cT K ("_law_right", none)).2 := by
  unfold tgB at hB
  obtain ⟨_, hB⟩ := Bool.and_eq_true_iff.mp hB
  obtain ⟨_, hB⟩ := Bool.and_eq_true_iff.mp hB
  obtain ⟨_, hB⟩ := Bool.and_eq_true_iff.mp hB
  obtain ⟨_, hB⟩ := Bool.and_eq_true_iff.mp hB
  exact of_decide_eq_true hB
/-- a def's table -/
theorem lamT_of {x : Str} {st : Stmt} {d : He.DefD} (i : Nat) (hi : fn[i]? = some d) (hd : d = ⟨(x, none), x, x, defArgs st, defBody st, defScope st, [], []⟩) (k : Nat) (hk : fa[k]? = some (.glo x)) {base : Heap} (tb : LamX.TabB base mg (He.cT K (x, none)).1 (He.cT K (x, none)).2) : LamT K mg base x (He.cT K (x, none)).2 := by
  refine ⟨fun f oc od osl fd hm lk => ?_⟩
  obtain ⟨fd', F⟩ := c.def_ i hi
  subst hd
  have hf := He.glo_ok X G (c.fact k hk)
  rw [hf] at hm
  obtain rfl := Value.ref.inj (Option.some.inj hm)
  obtain ⟨oc', od', dV, kV, doc, pm, an, cdv, ct, osl', e1, lk', hcd, _, _⟩ := F.ex
  have lk2 : K.lookup (He.ga K x) = some ⟨oc', od', .func fd', osl'⟩ := lk'
  rw [lk2] at lk
  obtain ⟨_, _, e2, _⟩ := Obj.mk.inj (Option.some.inj lk)
  obtain rfl := Data.func.inj e2
  obtain ⟨cc, hcc⟩ := He.codeIn_ref hcd
  have hcode : fd'.code = .ref cc := by rw [e1]; exact hcc
  refine ⟨cc, hcode, ?_⟩
  have := He.codeOf_eq (p := (x, none)) lk2 hcode
  have e3 : (He.cT K (x, none)).1 = cc := this
  rw [e3] at tb
  exact tb
end
end Stair
/-! ## StFin -/
set_option Elab.async false
set_option linter.all false
set_option maxRecDepth 100000
set_option maxHeartbeats 0
namespace Stair
open PySem PySem.Spec PyProof.Rows L2 Evl
/-! # law, behind the head -/
theorem law_holds {K : PySem.W.Frag} {w : World} {mg mb : Str → Option Value} {f a : Addr} {s₁ : Shared} {vs : List Value} {ns : List Int} (KX : K.In s₁.heap) (S : He.SaysX fa fn [] tf tgB w s₁.heap K) (hO : tgObs K = tgVal)
    (hns : s₁.heap.Ns mainGlobals mg) (hb : s₁.heap.Ns builtinsNs mb) (hbb : ∀ x : Str, x ≠ "__name__" → mb x = bootBuiltins x) (hlim : s₁.heap.NoLimit) (hg : s₁.gens = #[])
    (hbm : ∃ (bm : Addr) (ob : Obj), mg "__builtins__" = some (.ref bm) ∧ bm ≠ builtinsNs ∧ s₁.heap.get? bm = some ob ∧ ob.cls = .type "module" ∧ ob.dict = some builtinsNs ∧ ob.data = .plain)
    (ha : s₁.heap.get? a = some (scriptO vs)) (hi : IntsAre vs ns) (hl : ns.length ≤ 63) (hf : mg "law" = some (.ref f)) :
    codeAny (model R.prog w) callerA (.call (.ref f) ⟨[.ref a], []⟩) (fun r s' => r = .ok (.ret (.bool true)) ∧ OldK s₁.heap s'.heap ∧ s'.os = s₁.os ∧ AllBare s'.gens) s₁ := by
  have c : He.SaysD fa fn K := congrArg Prod.fst S.t
  have T := tp_of KX hns c
  have W := tw_of KX hns c
  have Te := tg_of KX hns c S.more hO
  have ne := tabs_ne KX c S.more
  have m1 : (("law", none) : He.Defn) ∈ tf := List.mem_cons_self
  have m2 : (("_law_right", none) : He.Defn) ∈ tf := List.mem_cons_of_mem _ List.mem_cons_self
  refine callG (k := 12) (xl := "law") (x := "_law_script") (cs := tf.map (He.cT K)) (sp := spLaw K [((He.cT K ("law", none)).2, qLaw), ((He.cT K ("_law_right", none)).2, qRight)]) KX hns hb hbb hlim hg (fun p hp => ?_) hbm ha hi (Nat.le_trans hl (by decide)) ⟨rfl, by decide, by decide⟩ (fun base kb nb tabs => ?_) hf fun H hT hS => ⟨a, ns, rfl, hS, hl, fun p hp => ?_, fun _ => rfl⟩
  · obtain ⟨q, hq, rfl⟩ := List.mem_map.mp hp
    exact ⟨S.empty q hq, S.out q hq, PySem.W.codeHd_of_K KX (S.hd q hq)⟩
  · have t1 := tabs _ (List.mem_map.mpr ⟨_, m1, rfl⟩)
    have t2 := tabs _ (List.mem_map.mpr ⟨_, m2, rfl⟩)
    refine has_law T W Te (lamT_of KX hns c 52 rfl rfl 52 rfl t2) (List.mem_cons_of_mem _ List.mem_cons_self) (fun p hp hq => ?_) (lamT_of KX hns c 54 rfl rfl 54 rfl t1) List.mem_cons_self fun p hp hq => ?_
    · rcases List.mem_cons.mp hp with rfl | hp
      · exact absurd hq ne
      · rw [List.mem_singleton.mp hp]
    · rcases List.mem_cons.mp hp with rfl | hp
      · rfl
      · rw [List.mem_singleton.mp hp] at hq
        exact absurd hq.symm ne
  · rcases List.mem_cons.mp hp with rfl | hp
    · exact .nil (hT _ (List.mem_map.mpr ⟨_, m1, rfl⟩))
    · rw [List.mem_singleton.mp hp]
      exact .nil (hT _ (List.mem_map.mpr ⟨_, m2, rfl⟩))
end Stair
open PySem PySem.W PySem.Calls PyProof.Rows
theorem PySem.Challenge.cw_stairpay_k52_whole_melts_holds : PySem.Challenge.rw_stairpay_k52_whole_melts.Holds := by
  w_on; o_law
  refine HandSHeadRun.head_any (r := OpenLaw.row PySem.Challenge.rw_stairpay_k52_whole_melts) (q := view (OpenLaw.row PySem.Challenge.rw_stairpay_k52_whole_melts).prog [83]) (H := Stair.hkG) (ob := Stair.ob) (M := 6000) (loose := Stair.nms) (d := HandSHeadRun.topDef (OpenLaw.row PySem.Challenge.rw_stairpay_k52_whole_melts).prog 83) (kwd := []) Stair.ob_eq
    (by kernel_rfl) (fun s => by kernel_rfl) Stair.run (by kernel_rfl) (by kernel_rfl) (by kernel_rfl) (by rfl) (by first | assumption | decide +kernel) (by decide +kernel) ⟨rfl, rfl, rfl, rfl, rfl, by decide +kernel⟩ ?hw ?hc
  case hw => w_witness2
  case hc =>
    refine Att.attach_callB (l := PySem.Challenge.rw_stairpay_k52_whole_melts) (n := 63) rfl (by kernel_rfl) fun w s₀ s₁ mg mb fa o pm cd doc a vs ns G Y ho hd hcd hmg hobj hints hlen hbits hg => ?_
    obtain ⟨K, KX, S, hO⟩ := Y
    have hmg2 : mg ("law" : PySem.Str) = some (.ref fa) := by
      have e : (HandSHeadRun.topDef (OpenLaw.row PySem.Challenge.rw_stairpay_k52_whole_melts).prog 83).name = ("law" : PySem.Str) := by kernel_rfl
      rw [← e]
      exact hmg
    exact Stair.law_holds KX S hO G.T.g G.T.b G.T.builtins G.T.nolimit hg G.T.bmain hobj hints hlen hmg2

import PyProof.Rows.All
import Wide.All
import OpenK.AllK
import Wide.FinOn
import HandS.ForMost
import PySem.Challenge.RW_rootstalls_k30_whole_for_nothing_by_own
import KE.KStateDown
import Lean
import HandS.Exc
import HandS.WordsExc
import HandS.Defaults
import HandS.Head0
import HandS.Head1
import HandS.Head2
import HandS.HeadEnd
import HandS.HeadHook1
import HandS.HeadHook2
import HandS.Codes
import HandS.OwnEq
import HandS.Wide
import KE.KOpsOwn
import KE.GoesNew
import HandS.TupMul
import PyProof.ReprRoads
import PyProof.ReprReads
import HandS.IsInst
import HandS.TupAny
import HandS.SetFor
import HandS.Walk
import HandS.Conv
set_option Elab.async false
set_option linter.all false
set_option maxRecDepth 100000
set_option maxHeartbeats 4000000
namespace Fair
open PySem PySem.Spec PyProof.Rows L2
/-! the text by places (printed by gen_text.py) -/
def topS (i : Nat) : Stmt := PySem.Challenge.pw_rootstalls_k30_whole_for_nothing_by_own.main.body.getD i (.Pass ⟨0, 0, 0, 0⟩)
abbrev sIsInteger : Stmt := topS 10
theorem scIsInteger : FnScope ["thing"] ["thing"] (defScope sIsInteger) := ⟨rfl, rfl, rfl, by decide +kernel, rfl, by decide +kernel, by decide +kernel⟩
abbrev sCommon : Stmt := topS 11
theorem scCommon : FnScope ["one", "other"] ["one", "other"] (defScope sCommon) := ⟨rfl, rfl, rfl, by decide +kernel, rfl, by decide +kernel, by decide +kernel⟩
abbrev sExactInit : Stmt := inClass (topS 12) 0
theorem scExactInit : FnScope ["self", "top", "bottom", "part"] ["self", "top", "bottom"] (defScope sExactInit) := ⟨rfl, rfl, rfl, by decide +kernel, rfl, by decide +kernel, by decide +kernel⟩
abbrev sExactAdd : Stmt := inClass (topS 12) 1
theorem scExactAdd : FnScope ["self", "other"] ["self", "other"] (defScope sExactAdd) := ⟨rfl, rfl, rfl, by decide +kernel, rfl, by decide +kernel, by decide +kernel⟩
abbrev sExactSub : Stmt := inClass (topS 12) 2
theorem scExactSub : FnScope ["self", "other"] ["self", "other"] (defScope sExactSub) := ⟨rfl, rfl, rfl, by decide +kernel, rfl, by decide +kernel, by decide +kernel⟩
abbrev sExactMul : Stmt := inClass (topS 12) 3
theorem scExactMul : FnScope ["self", "other"] ["self", "other"] (defScope sExactMul) := ⟨rfl, rfl, rfl, by decide +kernel, rfl, by decide +kernel, by decide +kernel⟩
abbrev sExactEq : Stmt := inClass (topS 12) 4
theorem scExactEq : FnScope ["self", "other"] ["self", "other"] (defScope sExactEq) := ⟨rfl, rfl, rfl, by decide +kernel, rfl, by decide +kernel, by decide +kernel⟩
abbrev sExactOver : Stmt := inClass (topS 12) 5
theorem scExactOver : FnScope ["self", "other"] ["self", "other"] (defScope sExactOver) := ⟨rfl, rfl, rfl, by decide +kernel, rfl, by decide +kernel, by decide +kernel⟩
abbrev sExactSign : Stmt := inClass (topS 12) 6
theorem scExactSign : FnScope ["self"] ["self"] (defScope sExactSign) := ⟨rfl, rfl, rfl, by decide +kernel, rfl, by decide +kernel, by decide +kernel⟩
abbrev sExactSquare : Stmt := inClass (topS 12) 8
theorem scExactSquare : FnScope ["self"] ["self"] (defScope sExactSquare) := ⟨rfl, rfl, rfl, by decide +kernel, rfl, by decide +kernel, by decide +kernel⟩
abbrev sExactPair : Stmt := inClass (topS 12) 9
theorem scExactPair : FnScope ["self"] ["self"] (defScope sExactPair) := ⟨rfl, rfl, rfl, by decide +kernel, rfl, by decide +kernel, by decide +kernel⟩
abbrev sExact : Stmt := topS 13
theorem scExact : FnScope ["pair"] ["pair"] (defScope sExact) := ⟨rfl, rfl, rfl, by decide +kernel, rfl, by decide +kernel, by decide +kernel⟩
abbrev sIsFraction : Stmt := topS 15
theorem scIsFraction : FnScope ["thing"] ["thing"] (defScope sIsFraction) := ⟨rfl, rfl, rfl, by decide +kernel, rfl, by decide +kernel, by decide +kernel⟩
abbrev sIsAmount : Stmt := topS 16
theorem scIsAmount : FnScope ["thing"] ["thing"] (defScope sIsAmount) := ⟨rfl, rfl, rfl, by decide +kernel, rfl, by decide +kernel, by decide +kernel⟩
abbrev sIsSome : Stmt := topS 17
theorem scIsSome : FnScope ["thing"] ["thing"] (defScope sIsSome) := ⟨rfl, rfl, rfl, by decide +kernel, rfl, by decide +kernel, by decide +kernel⟩
abbrev sIsWareBelow : Stmt := topS 21
theorem scIsWareBelow : FnScope ["thing", "wares"] ["thing", "wares"] (defScope sIsWareBelow) := ⟨rfl, rfl, rfl, by decide +kernel, rfl, by decide +kernel, by decide +kernel⟩
abbrev sIsStall : Stmt := topS 22
theorem scIsStall : FnScope ["thing", "wares", "ware", "amount"] ["thing", "wares"] (defScope sIsStall) := ⟨rfl, rfl, rfl, by decide +kernel, rfl, by decide +kernel, by decide +kernel⟩
abbrev sWebInit : Stmt := inClass (topS 23) 0
theorem scWebInit : FnScope ["self", "wares", "stalls", "index", "stall"] ["self", "wares", "stalls"] (defScope sWebInit) := ⟨rfl, rfl, rfl, by decide +kernel, rfl, by decide +kernel, by decide +kernel⟩
abbrev sCheckWare : Stmt := topS 24
theorem scCheckWare : FnScope ["web", "ware"] ["web", "ware"] (defScope sCheckWare) := ⟨rfl, rfl, rfl, by decide +kernel, rfl, by decide +kernel, by decide +kernel⟩
abbrev sIsAmounts : Stmt := topS 25
theorem scIsAmounts : FnScope ["thing", "many", "item"] ["thing", "many"] (defScope sIsAmounts) := ⟨rfl, rfl, rfl, by decide +kernel, rfl, by decide +kernel, by decide +kernel⟩
abbrev sCheckPurse : Stmt := topS 26
theorem scCheckPurse : FnScope ["web", "purse", "amount"] ["web", "purse"] (defScope sCheckPurse) := ⟨rfl, rfl, rfl, by decide +kernel, rfl, by decide +kernel, by decide +kernel⟩
abbrev sEmpty : Stmt := topS 27
theorem scEmpty : FnScope ["web", "ware"] ["web"] (defScope sEmpty) := ⟨rfl, rfl, rfl, by decide +kernel, rfl, by decide +kernel, by decide +kernel⟩
abbrev sHeldExact : Stmt := topS 28
theorem scHeldExact : FnScope ["web", "found", "one", "other", "amount", "second", "root"] ["web"] (defScope sHeldExact) := ⟨rfl, rfl, rfl, by decide +kernel, rfl, by decide +kernel, by decide +kernel⟩
abbrev sRootsExact : Stmt := topS 29
theorem scRootsExact : FnScope ["web", "found", "ware", "one", "other", "amount", "second", "root", "here", "there"] ["web"] (defScope sRootsExact) := ⟨rfl, rfl, rfl, by decide +kernel, rfl, by decide +kernel, by decide +kernel⟩
abbrev sOtherWare : Stmt := topS 30
theorem scOtherWare : FnScope ["stall", "ware"] ["stall", "ware"] (defScope sOtherWare) := ⟨rfl, rfl, rfl, by decide +kernel, rfl, by decide +kernel, by decide +kernel⟩
abbrev sHeldOf : Stmt := topS 31
theorem scHeldOf : FnScope ["stall", "ware"] ["stall", "ware"] (defScope sHeldOf) := ⟨rfl, rfl, rfl, by decide +kernel, rfl, by decide +kernel, by decide +kernel⟩
abbrev sRootExact : Stmt := topS 32
theorem scRootExact : FnScope ["stall"] ["stall"] (defScope sRootExact) := ⟨rfl, rfl, rfl, by decide +kernel, rfl, by decide +kernel, by decide +kernel⟩
abbrev sPieceOf : Stmt := topS 33
theorem scPieceOf : FnScope ["web", "ware", "rows", "found", "waiting", "there"] ["web", "ware"] (defScope sPieceOf) := ⟨rfl, rfl, rfl, by decide +kernel, rfl, by decide +kernel, by decide +kernel⟩
abbrev sPieces : Stmt := topS 34
theorem scPieces : FnScope ["web", "found", "known", "ware"] ["web"] (defScope sPieces) := ⟨rfl, rfl, rfl, by decide +kernel, rfl, by decide +kernel, by decide +kernel⟩
abbrev sTableInit : Stmt := inClass (topS 36) 0
theorem scTableInit : FnScope ["self", "slants", "beside", "row"] ["self", "slants", "beside"] (defScope sTableInit) := ⟨rfl, rfl, rfl, by decide +kernel, rfl, by decide +kernel, by decide +kernel⟩
abbrev sTableIsWrong : Stmt := inClass (topS 36) 1
theorem scTableIsWrong : FnScope ["self", "ware", "sign"] ["self", "ware"] (defScope sTableIsWrong) := ⟨rfl, rfl, rfl, by decide +kernel, rfl, by decide +kernel, by decide +kernel⟩
abbrev sTableRaiseRoot : Stmt := inClass (topS 36) 2
theorem scTableRaiseRoot : FnScope ["self", "one", "other", "amount"] ["self", "one", "other", "amount"] (defScope sTableRaiseRoot) := ⟨rfl, rfl, rfl, by decide +kernel, rfl, by decide +kernel, by decide +kernel⟩
abbrev sTableStrike : Stmt := inClass (topS 36) 3
theorem scTableStrike : FnScope ["self", "ware", "slant", "row", "near", "one", "at", "other"] ["self", "ware"] (defScope sTableStrike) := ⟨rfl, rfl, rfl, by decide +kernel, rfl, by decide +kernel, by decide +kernel⟩
abbrev sTableStrikeAll : Stmt := inClass (topS 36) 4
theorem scTableStrikeAll : FnScope ["self", "wares", "ware"] ["self", "wares"] (defScope sTableStrikeAll) := ⟨rfl, rfl, rfl, by decide +kernel, rfl, by decide +kernel, by decide +kernel⟩
abbrev sTableOf : Stmt := topS 37
theorem scTableOf : FnScope ["web", "own", "wished", "slants", "amount", "more", "less"] ["web", "own", "wished"] (defScope sTableOf) := ⟨rfl, rfl, rfl, by decide +kernel, rfl, by decide +kernel, by decide +kernel⟩
abbrev sIsIndex : Stmt := topS 39
theorem scIsIndex : FnScope ["web", "thing"] ["web", "thing"] (defScope sIsIndex) := ⟨rfl, rfl, rfl, by decide +kernel, rfl, by decide +kernel, by decide +kernel⟩
abbrev sWithHeld : Stmt := topS 40
theorem scWithHeld : FnScope ["stall", "ware", "amount", "rest"] ["stall", "ware", "amount"] (defScope sWithHeld) := ⟨rfl, rfl, rfl, by decide +kernel, rfl, by decide +kernel, by decide +kernel⟩
abbrev sWithStall : Stmt := topS 41
theorem scWithStall : FnScope ["web", "index", "stall"] ["web", "index", "stall"] (defScope sWithStall) := ⟨rfl, rfl, rfl, by decide +kernel, rfl, by decide +kernel, by decide +kernel⟩
abbrev sLed : Stmt := topS 42
theorem scLed : FnScope ["web", "index", "amount", "stall"] ["web", "index", "amount"] (defScope sLed) := ⟨rfl, rfl, rfl, by decide +kernel, rfl, by decide +kernel, by decide +kernel⟩
abbrev sOthers : Stmt := topS 44
theorem scOthers : FnScope ["web", "left", "ware"] ["web", "left"] (defScope sOthers) := ⟨rfl, rfl, rfl, by decide +kernel, rfl, by decide +kernel, by decide +kernel⟩
abbrev sBrimOf : Stmt := topS 45
theorem scBrimOf : FnScope ["web", "own", "ware", "table"] ["web", "own", "ware"] (defScope sBrimOf) := ⟨rfl, rfl, rfl, by decide +kernel, rfl, by decide +kernel, by decide +kernel⟩
abbrev sBrim : Stmt := topS 46
theorem scBrim : FnScope ["web", "purse", "ware", "own"] ["web", "purse", "ware"] (defScope sBrim) := ⟨rfl, rfl, rfl, by decide +kernel, rfl, by decide +kernel, by decide +kernel⟩
abbrev sNextScale : Stmt := topS 48
theorem scNextScale : FnScope ["stall", "ware", "scale"] ["stall", "ware", "scale"] (defScope sNextScale) := ⟨rfl, rfl, rfl, by decide +kernel, rfl, by decide +kernel, by decide +kernel⟩
abbrev sScalesAndWays : Stmt := topS 49
theorem scScalesAndWays : FnScope ["web", "found", "ways", "piece", "waiting", "here", "index", "stall", "there"] ["web"] (defScope sScalesAndWays) := ⟨rfl, rfl, rfl, by decide +kernel, rfl, by decide +kernel, by decide +kernel⟩
abbrev sUnevenStall : Stmt := topS 50
theorem scUnevenStall : FnScope ["web", "found", "index", "stall"] ["web", "found"] (defScope sUnevenStall) := ⟨rfl, rfl, rfl, by decide +kernel, rfl, by decide +kernel, by decide +kernel⟩
abbrev sFitExact : Stmt := topS 51
theorem scFitExact : FnScope ["web", "found", "ways", "ware"] ["web"] (defScope sFitExact) := ⟨rfl, rfl, rfl, by decide +kernel, rfl, by decide +kernel, by decide +kernel⟩
abbrev sFit : Stmt := topS 52
theorem scFit : FnScope ["web", "found", "scale"] ["web"] (defScope sFit) := ⟨rfl, rfl, rfl, by decide +kernel, rfl, by decide +kernel, by decide +kernel⟩
abbrev sForNothing : Stmt := topS 53
theorem scForNothing : FnScope ["web", "ware"] ["web", "ware"] (defScope sForNothing) := ⟨rfl, rfl, rfl, by decide +kernel, rfl, by decide +kernel, by decide +kernel⟩
abbrev sUnevenPieces : Stmt := topS 54
theorem scUnevenPieces : FnScope ["web", "found", "ways", "uneven", "piece", "inside", "stall"] ["web"] (defScope sUnevenPieces) := ⟨rfl, rfl, rfl, by decide +kernel, rfl, by decide +kernel, by decide +kernel⟩
abbrev sLHand : Stmt := topS 56
theorem scLHand : FnScope ["_law_script", "_law_cells", "_law_cell"] ["_law_script"] (defScope sLHand) := ⟨rfl, rfl, rfl, by decide +kernel, rfl, by decide +kernel, by decide +kernel⟩
abbrev sLDraw : Stmt := topS 57
theorem scLDraw : FnScope ["_law_hand_here", "_law_many", "_law_cell", "_law_digit", "_law_number"] ["_law_hand_here", "_law_many"] (defScope sLDraw) := ⟨rfl, rfl, rfl, by decide +kernel, rfl, by decide +kernel, by decide +kernel⟩
abbrev sLGcd : Stmt := topS 58
theorem scLGcd : FnScope ["_law_one", "_law_other"] ["_law_one", "_law_other"] (defScope sLGcd) := ⟨rfl, rfl, rfl, by decide +kernel, rfl, by decide +kernel, by decide +kernel⟩
abbrev sLFrac : Stmt := topS 59
theorem scLFrac : FnScope ["_law_top", "_law_bottom", "_law_part"] ["_law_top", "_law_bottom"] (defScope sLFrac) := ⟨rfl, rfl, rfl, by decide +kernel, rfl, by decide +kernel, by decide +kernel⟩
abbrev sLPlus : Stmt := topS 60
theorem scLPlus : FnScope ["_law_one", "_law_other"] ["_law_one", "_law_other"] (defScope sLPlus) := ⟨rfl, rfl, rfl, by decide +kernel, rfl, by decide +kernel, by decide +kernel⟩
abbrev sLMinus : Stmt := topS 61
theorem scLMinus : FnScope ["_law_one", "_law_other"] ["_law_one", "_law_other"] (defScope sLMinus) := ⟨rfl, rfl, rfl, by decide +kernel, rfl, by decide +kernel, by decide +kernel⟩
abbrev sLTimes : Stmt := topS 62
theorem scLTimes : FnScope ["_law_one", "_law_other"] ["_law_one", "_law_other"] (defScope sLTimes) := ⟨rfl, rfl, rfl, by decide +kernel, rfl, by decide +kernel, by decide +kernel⟩
abbrev sLOver : Stmt := topS 63
theorem scLOver : FnScope ["_law_one", "_law_other"] ["_law_one", "_law_other"] (defScope sLOver) := ⟨rfl, rfl, rfl, by decide +kernel, rfl, by decide +kernel, by decide +kernel⟩
abbrev sLSome : Stmt := topS 64
theorem scLSome : FnScope ["_law_hand_here"] ["_law_hand_here"] (defScope sLSome) := ⟨rfl, rfl, rfl, by decide +kernel, rfl, by decide +kernel, by decide +kernel⟩
abbrev sLShuffled : Stmt := topS 65
theorem scLShuffled : FnScope ["_law_hand_here", "_law_things", "_law_pool", "_law_found"] ["_law_hand_here", "_law_things"] (defScope sLShuffled) := ⟨rfl, rfl, rfl, by decide +kernel, rfl, by decide +kernel, by decide +kernel⟩
abbrev sLStall : Stmt := topS 66
theorem scLStall : FnScope ["_law_hand_here", "_law_one", "_law_other", "_law_quotient", "_law_root"] ["_law_hand_here", "_law_one", "_law_other", "_law_quotient"] (defScope sLStall) := ⟨rfl, rfl, rfl, by decide +kernel, rfl, by decide +kernel, by decide +kernel⟩
abbrev sLStalls : Stmt := topS 67
theorem scLStalls : FnScope ["_law_hand_here", "_law_wares", "_law_many", "_law_way", "_law_scales", "_law_ware", "_law_hung", "_law_odd", "_law_found", "_law_k", "_law_one", "_law_other", "_law_quotient"] ["_law_hand_here", "_law_wares", "_law_many", "_law_way"] (defScope sLStalls) := ⟨rfl, rfl, rfl, by decide +kernel, rfl, by decide +kernel, by decide +kernel⟩
abbrev sLSizes : Stmt := topS 68
theorem scLSizes : FnScope ["_law_hand_here", "_law_wares"] ["_law_hand_here"] (defScope sLSizes) := ⟨rfl, rfl, rfl, by decide +kernel, rfl, by decide +kernel, by decide +kernel⟩
abbrev sLWhole : Stmt := topS 69
theorem scLWhole : FnScope ["_law_thing"] ["_law_thing"] (defScope sLWhole) := ⟨rfl, rfl, rfl, by decide +kernel, rfl, by decide +kernel, by decide +kernel⟩
abbrev sLIsAmount : Stmt := topS 70
theorem scLIsAmount : FnScope ["_law_thing"] ["_law_thing"] (defScope sLIsAmount) := ⟨rfl, rfl, rfl, by decide +kernel, rfl, by decide +kernel, by decide +kernel⟩
abbrev sLPieces : Stmt := topS 72
theorem scLPieces : FnScope ["_law_stalls_here", "_law_wares", "_law_kind", "_law_turn", "_law_stall_here", "_law_low", "_law_ware", "_law_one"] ["_law_stalls_here", "_law_wares"] (defScope sLPieces) := ⟨rfl, rfl, rfl, by decide +kernel, rfl, by decide +kernel, by decide +kernel⟩
abbrev sLTable : Stmt := topS 73
theorem scLTable : FnScope ["_law_stalls_here", "_law_wares", "_law_purse", "_law_wish", "_law_slants", "_law_ware", "_law_roots", "_law_one", "_law_other", "_law_held", "_law_beside", "_law_root", "_law_low", "_law_high"] ["_law_stalls_here", "_law_wares", "_law_purse", "_law_wish"] (defScope sLTable) := ⟨rfl, rfl, rfl, by decide +kernel, rfl, by decide +kernel, by decide +kernel⟩
abbrev sLStruck : Stmt := topS 74
theorem scLStruck : FnScope ["_law_slants", "_law_roots", "_law_order", "_law_left", "_law_ware", "_law_slant", "_law_row", "_law_tied", "_law_other", "_law_one", "_law_share", "_law_beside"] ["_law_slants", "_law_roots", "_law_order"] (defScope sLStruck) := ⟨rfl, rfl, rfl, by decide +kernel, rfl, by decide +kernel, by decide +kernel⟩
abbrev sLNone : Stmt := topS 75
theorem scLNone : FnScope ["_law_wares"] ["_law_wares"] (defScope sLNone) := ⟨rfl, rfl, rfl, by decide +kernel, rfl, by decide +kernel, by decide +kernel⟩
abbrev sLBrim : Stmt := topS 76
theorem scLBrim : FnScope ["_law_stalls_here", "_law_wares", "_law_purse", "_law_ware", "_law_slants", "_law_roots", "_law_other"] ["_law_stalls_here", "_law_wares", "_law_purse", "_law_ware"] (defScope sLBrim) := ⟨rfl, rfl, rfl, by decide +kernel, rfl, by decide +kernel, by decide +kernel⟩
abbrev sLIsRight : Stmt := topS 77
theorem scLIsRight : FnScope ["_law_web", "_law_stalls_here", "_law_wares", "_law_dues", "_law_ware", "_law_told", "_law_uneven", "_law_piece", "_law_some_here"] ["_law_web", "_law_stalls_here", "_law_wares"] (defScope sLIsRight) := ⟨rfl, rfl, rfl, by decide +kernel, rfl, by decide +kernel, by decide +kernel⟩
abbrev sLaw : Stmt := topS 78
theorem scLaw : FnScope ["_law_script", "_law_hand_here", "_law_way", "_law_wares", "_law_many", "_law_stalls_here", "_law_web", "_law_pieces_here", "_law_mixed", "_law_at", "_law_later", "_law_piece", "_law_one", "_law_rest", "_law_ringed"] ["_law_script"] (defScope sLaw) := ⟨rfl, rfl, rfl, by decide +kernel, rfl, by decide +kernel, by decide +kernel⟩
end Fair

set_option Elab.async false
set_option linter.all false
set_option maxRecDepth 100000
set_option maxHeartbeats 0
namespace Fair
open PySem PySem.Spec PyProof.Rows L2
/-! the head: facts by names, the run (printed by gen_head.py) -/
def dIsInteger : He.DefD := ⟨("is_integer", none), "is_integer", "is_integer", defArgs sIsInteger, defBody sIsInteger, defScope sIsInteger, [], []⟩
def dCommon : He.DefD := ⟨("common", none), "common", "common", defArgs sCommon, defBody sCommon, defScope sCommon, [], []⟩
def dExactInit : He.DefD := ⟨("Exact", some "__init__"), "__init__", "Exact.__init__", defArgs sExactInit, defBody sExactInit, defScope sExactInit, [], []⟩
def dExactAdd : He.DefD := ⟨("Exact", some "__add__"), "__add__", "Exact.__add__", defArgs sExactAdd, defBody sExactAdd, defScope sExactAdd, [], []⟩
def dExactSub : He.DefD := ⟨("Exact", some "__sub__"), "__sub__", "Exact.__sub__", defArgs sExactSub, defBody sExactSub, defScope sExactSub, [], []⟩
def dExactMul : He.DefD := ⟨("Exact", some "__mul__"), "__mul__", "Exact.__mul__", defArgs sExactMul, defBody sExactMul, defScope sExactMul, [], []⟩
def dExactEq : He.DefD := ⟨("Exact", some "__eq__"), "__eq__", "Exact.__eq__", defArgs sExactEq, defBody sExactEq, defScope sExactEq, [], []⟩
def dExactOver : He.DefD := ⟨("Exact", some "over"), "over", "Exact.over", defArgs sExactOver, defBody sExactOver, defScope sExactOver, [], []⟩
def dExactSign : He.DefD := ⟨("Exact", some "sign"), "sign", "Exact.sign", defArgs sExactSign, defBody sExactSign, defScope sExactSign, [], []⟩
def dExactSquare : He.DefD := ⟨("Exact", some "square"), "square", "Exact.square", defArgs sExactSquare, defBody sExactSquare, defScope sExactSquare, [], []⟩
def dExactPair : He.DefD := ⟨("Exact", some "pair"), "pair", "Exact.pair", defArgs sExactPair, defBody sExactPair, defScope sExactPair, [], []⟩
def dExact : He.DefD := ⟨("exact", none), "exact", "exact", defArgs sExact, defBody sExact, defScope sExact, [], []⟩
def dIsFraction : He.DefD := ⟨("is_fraction", none), "is_fraction", "is_fraction", defArgs sIsFraction, defBody sIsFraction, defScope sIsFraction, [], []⟩
def dIsAmount : He.DefD := ⟨("is_amount", none), "is_amount", "is_amount", defArgs sIsAmount, defBody sIsAmount, defScope sIsAmount, [], []⟩
def dIsSome : He.DefD := ⟨("is_some", none), "is_some", "is_some", defArgs sIsSome, defBody sIsSome, defScope sIsSome, [], []⟩
def dIsWareBelow : He.DefD := ⟨("is_ware_below", none), "is_ware_below", "is_ware_below", defArgs sIsWareBelow, defBody sIsWareBelow, defScope sIsWareBelow, [], []⟩
def dIsStall : He.DefD := ⟨("is_stall", none), "is_stall", "is_stall", defArgs sIsStall, defBody sIsStall, defScope sIsStall, [], []⟩
def dWebInit : He.DefD := ⟨("Web", some "__init__"), "__init__", "Web.__init__", defArgs sWebInit, defBody sWebInit, defScope sWebInit, [], []⟩
def dCheckWare : He.DefD := ⟨("check_ware", none), "check_ware", "check_ware", defArgs sCheckWare, defBody sCheckWare, defScope sCheckWare, [], []⟩
def dIsAmounts : He.DefD := ⟨("is_amounts", none), "is_amounts", "is_amounts", defArgs sIsAmounts, defBody sIsAmounts, defScope sIsAmounts, [], []⟩
def dCheckPurse : He.DefD := ⟨("check_purse", none), "check_purse", "check_purse", defArgs sCheckPurse, defBody sCheckPurse, defScope sCheckPurse, [], []⟩
def dEmpty : He.DefD := ⟨("empty", none), "empty", "empty", defArgs sEmpty, defBody sEmpty, defScope sEmpty, [], []⟩
def dHeldExact : He.DefD := ⟨("held_exact", none), "held_exact", "held_exact", defArgs sHeldExact, defBody sHeldExact, defScope sHeldExact, [], []⟩
def dRootsExact : He.DefD := ⟨("roots_exact", none), "roots_exact", "roots_exact", defArgs sRootsExact, defBody sRootsExact, defScope sRootsExact, [], []⟩
def dOtherWare : He.DefD := ⟨("other_ware", none), "other_ware", "other_ware", defArgs sOtherWare, defBody sOtherWare, defScope sOtherWare, [], []⟩
def dHeldOf : He.DefD := ⟨("held_of", none), "held_of", "held_of", defArgs sHeldOf, defBody sHeldOf, defScope sHeldOf, [], []⟩
def dRootExact : He.DefD := ⟨("root_exact", none), "root_exact", "root_exact", defArgs sRootExact, defBody sRootExact, defScope sRootExact, [], []⟩
def dPieceOf : He.DefD := ⟨("piece_of", none), "piece_of", "piece_of", defArgs sPieceOf, defBody sPieceOf, defScope sPieceOf, [], []⟩
def dPieces : He.DefD := ⟨("pieces", none), "pieces", "pieces", defArgs sPieces, defBody sPieces, defScope sPieces, [], []⟩
def dTableInit : He.DefD := ⟨("Table", some "__init__"), "__init__", "Table.__init__", defArgs sTableInit, defBody sTableInit, defScope sTableInit, [], []⟩
def dTableIsWrong : He.DefD := ⟨("Table", some "is_wrong"), "is_wrong", "Table.is_wrong", defArgs sTableIsWrong, defBody sTableIsWrong, defScope sTableIsWrong, [], []⟩
def dTableRaiseRoot : He.DefD := ⟨("Table", some "raise_root"), "raise_root", "Table.raise_root", defArgs sTableRaiseRoot, defBody sTableRaiseRoot, defScope sTableRaiseRoot, [], []⟩
def dTableStrike : He.DefD := ⟨("Table", some "strike"), "strike", "Table.strike", defArgs sTableStrike, defBody sTableStrike, defScope sTableStrike, [], []⟩
def dTableStrikeAll : He.DefD := ⟨("Table", some "strike_all"), "strike_all", "Table.strike_all", defArgs sTableStrikeAll, defBody sTableStrikeAll, defScope sTableStrikeAll, [], []⟩
def dTableOf : He.DefD := ⟨("table_of", none), "table_of", "table_of", defArgs sTableOf, defBody sTableOf, defScope sTableOf, [], []⟩
def dIsIndex : He.DefD := ⟨("is_index", none), "is_index", "is_index", defArgs sIsIndex, defBody sIsIndex, defScope sIsIndex, [], []⟩
def dWithHeld : He.DefD := ⟨("with_held", none), "with_held", "with_held", defArgs sWithHeld, defBody sWithHeld, defScope sWithHeld, [], []⟩
def dWithStall : He.DefD := ⟨("with_stall", none), "with_stall", "with_stall", defArgs sWithStall, defBody sWithStall, defScope sWithStall, [], []⟩
def dLed : He.DefD := ⟨("led", none), "led", "led", defArgs sLed, defBody sLed, defScope sLed, [], []⟩
def dOthers : He.DefD := ⟨("others", none), "others", "others", defArgs sOthers, defBody sOthers, defScope sOthers, [], []⟩
def dBrimOf : He.DefD := ⟨("brim_of", none), "brim_of", "brim_of", defArgs sBrimOf, defBody sBrimOf, defScope sBrimOf, [], []⟩
def dBrim : He.DefD := ⟨("brim", none), "brim", "brim", defArgs sBrim, defBody sBrim, defScope sBrim, [], []⟩
def dNextScale : He.DefD := ⟨("next_scale", none), "next_scale", "next_scale", defArgs sNextScale, defBody sNextScale, defScope sNextScale, [], []⟩
def dScalesAndWays : He.DefD := ⟨("scales_and_ways", none), "scales_and_ways", "scales_and_ways", defArgs sScalesAndWays, defBody sScalesAndWays, defScope sScalesAndWays, [], []⟩
def dUnevenStall : He.DefD := ⟨("uneven_stall", none), "uneven_stall", "uneven_stall", defArgs sUnevenStall, defBody sUnevenStall, defScope sUnevenStall, [], []⟩
def dFitExact : He.DefD := ⟨("fit_exact", none), "fit_exact", "fit_exact", defArgs sFitExact, defBody sFitExact, defScope sFitExact, [], []⟩
def dFit : He.DefD := ⟨("fit", none), "fit", "fit", defArgs sFit, defBody sFit, defScope sFit, [], []⟩
def dForNothing : He.DefD := ⟨("for_nothing", none), "for_nothing", "for_nothing", defArgs sForNothing, defBody sForNothing, defScope sForNothing, [], []⟩
def dUnevenPieces : He.DefD := ⟨("uneven_pieces", none), "uneven_pieces", "uneven_pieces", defArgs sUnevenPieces, defBody sUnevenPieces, defScope sUnevenPieces, [], []⟩
def dLHand : He.DefD := ⟨("_law_hand", none), "_law_hand", "_law_hand", defArgs sLHand, defBody sLHand, defScope sLHand, [], []⟩
def dLDraw : He.DefD := ⟨("_law_draw", none), "_law_draw", "_law_draw", defArgs sLDraw, defBody sLDraw, defScope sLDraw, [], []⟩
def dLGcd : He.DefD := ⟨("_law_gcd", none), "_law_gcd", "_law_gcd", defArgs sLGcd, defBody sLGcd, defScope sLGcd, [], []⟩
def dLFrac : He.DefD := ⟨("_law_frac", none), "_law_frac", "_law_frac", defArgs sLFrac, defBody sLFrac, defScope sLFrac, [], []⟩
def dLPlus : He.DefD := ⟨("_law_plus", none), "_law_plus", "_law_plus", defArgs sLPlus, defBody sLPlus, defScope sLPlus, [], []⟩
def dLMinus : He.DefD := ⟨("_law_minus", none), "_law_minus", "_law_minus", defArgs sLMinus, defBody sLMinus, defScope sLMinus, [], []⟩
def dLTimes : He.DefD := ⟨("_law_times", none), "_law_times", "_law_times", defArgs sLTimes, defBody sLTimes, defScope sLTimes, [], []⟩
def dLOver : He.DefD := ⟨("_law_over", none), "_law_over", "_law_over", defArgs sLOver, defBody sLOver, defScope sLOver, [], []⟩
def dLSome : He.DefD := ⟨("_law_some", none), "_law_some", "_law_some", defArgs sLSome, defBody sLSome, defScope sLSome, [], []⟩
def dLShuffled : He.DefD := ⟨("_law_shuffled", none), "_law_shuffled", "_law_shuffled", defArgs sLShuffled, defBody sLShuffled, defScope sLShuffled, [], []⟩
def dLStall : He.DefD := ⟨("_law_stall", none), "_law_stall", "_law_stall", defArgs sLStall, defBody sLStall, defScope sLStall, [], []⟩
def dLStalls : He.DefD := ⟨("_law_stalls", none), "_law_stalls", "_law_stalls", defArgs sLStalls, defBody sLStalls, defScope sLStalls, [], []⟩
def dLSizes : He.DefD := ⟨("_law_sizes", none), "_law_sizes", "_law_sizes", defArgs sLSizes, defBody sLSizes, defScope sLSizes, [], []⟩
def dLWhole : He.DefD := ⟨("_law_whole", none), "_law_whole", "_law_whole", defArgs sLWhole, defBody sLWhole, defScope sLWhole, [], []⟩
def dLIsAmount : He.DefD := ⟨("_law_is_amount", none), "_law_is_amount", "_law_is_amount", defArgs sLIsAmount, defBody sLIsAmount, defScope sLIsAmount, [], []⟩
def dLPieces : He.DefD := ⟨("_law_pieces", none), "_law_pieces", "_law_pieces", defArgs sLPieces, defBody sLPieces, defScope sLPieces, [], []⟩
def dLTable : He.DefD := ⟨("_law_table", none), "_law_table", "_law_table", defArgs sLTable, defBody sLTable, defScope sLTable, [], []⟩
def dLStruck : He.DefD := ⟨("_law_struck", none), "_law_struck", "_law_struck", defArgs sLStruck, defBody sLStruck, defScope sLStruck, [], []⟩
def dLNone : He.DefD := ⟨("_law_none", none), "_law_none", "_law_none", defArgs sLNone, defBody sLNone, defScope sLNone, [], []⟩
def dLBrim : He.DefD := ⟨("_law_brim", none), "_law_brim", "_law_brim", defArgs sLBrim, defBody sLBrim, defScope sLBrim, [], []⟩
def dLIsRight : He.DefD := ⟨("_law_is_right", none), "_law_is_right", "_law_is_right", defArgs sLIsRight, defBody sLIsRight, defScope sLIsRight, [], []⟩
def dLaw : He.DefD := ⟨("law", none), "law", "law", defArgs sLaw, defBody sLaw, defScope sLaw, [], []⟩
def fn : List He.DefD := [dIsInteger, dCommon, dExactInit, dExactAdd, dExactSub, dExactMul, dExactEq, dExactOver, dExactSign, dExactSquare, dExactPair, dExact, dIsFraction, dIsAmount, dIsSome, dIsWareBelow, dIsStall, dWebInit, dCheckWare, dIsAmounts, dCheckPurse, dEmpty, dHeldExact, dRootsExact, dOtherWare, dHeldOf, dRootExact, dPieceOf, dPieces, dTableInit, dTableIsWrong, dTableRaiseRoot, dTableStrike, dTableStrikeAll, dTableOf, dIsIndex, dWithHeld, dWithStall, dLed, dOthers, dBrimOf, dBrim, dNextScale, dScalesAndWays, dUnevenStall, dFitExact, dFit, dForNothing, dUnevenPieces, dLHand, dLDraw, dLGcd, dLFrac, dLPlus, dLMinus, dLTimes, dLOver, dLSome, dLShuffled, dLStall, dLStalls, dLSizes, dLWhole, dLIsAmount, dLPieces, dLTable, dLStruck, dLNone, dLBrim, dLIsRight, dLaw]
def fa0 : List He.Fa := [.glo "is_integer", .glo "common", .glo "Exact", .glo "exact", .glo "is_fraction", .glo "is_amount", .glo "is_some", .glo "is_ware_below", .glo "is_stall", .glo "Web", .glo "check_ware", .glo "is_amounts", .glo "check_purse", .glo "empty", .glo "held_exact", .glo "roots_exact", .glo "other_ware", .glo "held_of", .glo "root_exact", .glo "piece_of", .glo "pieces", .glo "Table", .glo "table_of", .glo "is_index", .glo "with_held", .glo "with_stall", .glo "led", .glo "others", .glo "brim_of", .glo "brim"]
def fa1 : List He.Fa := [.glo "next_scale", .glo "scales_and_ways", .glo "uneven_stall", .glo "fit_exact", .glo "fit", .glo "for_nothing", .glo "uneven_pieces", .glo "_law_hand", .glo "_law_draw", .glo "_law_gcd", .glo "_law_frac", .glo "_law_plus", .glo "_law_minus", .glo "_law_times", .glo "_law_over", .glo "_law_some", .glo "_law_shuffled", .glo "_law_stall", .glo "_law_stalls", .glo "_law_sizes", .glo "_law_whole", .glo "_law_is_amount", .glo "_law_pieces", .glo "_law_table", .glo "_law_struck", .glo "_law_none", .glo "_law_brim", .glo "_law_is_right", .glo "law", .free "isinstance"]
def fa2 : List He.Fa := [.free "abs", .free "len", .free "all", .free "any", .free "range", .free "list", .free "tuple", .free "dict", .free "sorted", .free "enumerate", .free "zip", .free "int", .free "min", .free "repr", .free "bool", .int "MOST_WARES" 8, .int "MOST_STALLS" 16, .cls "Exact", .mkr "Exact", .cls "Web", .mkr "Web", .cls "Table", .mkr "Table", .noat "Exact" "top", .noat "Exact" "bottom", .noat "Web" "wares", .noat "Web" "stalls", .noat "Table" "slants", .noat "Table" "beside", .noat "Table" "gone"]
def fa3 : List He.Fa := [.meth "Exact" "__add__", .meth "Exact" "__sub__", .meth "Exact" "__mul__", .meth "Exact" "__eq__", .meth "Exact" "over", .meth "Exact" "sign", .meth "Exact" "square", .meth "Exact" "pair", .meth "Table" "is_wrong", .meth "Table" "raise_root", .meth "Table" "strike", .meth "Table" "strike_all"]
def fa : List He.Fa := fa0 ++ fa1 ++ fa2 ++ fa3
def lo0 : List PySem.Str := ["_wall", "StallError", "BadWares", "BadStall", "BadWare", "BadIndex", "BadAmount", "BadPurse", "is_integer", "common", "Exact", "exact", "is_fraction", "is_amount", "is_some", "MOST_WARES", "MOST_STALLS", "is_ware_below", "is_stall", "Web", "check_ware", "is_amounts", "check_purse", "empty", "held_exact", "roots_exact", "other_ware", "held_of", "root_exact", "piece_of"]
def lo1 : List PySem.Str := ["pieces", "Table", "table_of", "is_index", "with_held", "with_stall", "led", "others", "brim_of", "brim", "next_scale", "scales_and_ways", "uneven_stall", "fit_exact", "fit", "for_nothing", "uneven_pieces", "_law_hand", "_law_draw", "_law_gcd", "_law_frac", "_law_plus", "_law_minus", "_law_times", "_law_over", "_law_some", "_law_shuffled", "_law_stall", "_law_stalls", "_law_sizes"]
def lo2 : List PySem.Str := ["_law_whole", "_law_is_amount", "_law_less", "_law_pieces", "_law_table", "_law_struck", "_law_none", "_law_brim", "_law_is_right"]
def loose : List PySem.Str := lo0 ++ lo1 ++ lo2
/-- more facts of the class of numbers: its own operators come first; unlike is the built-in's -/
def exB (K : PySem.W.Frag) : Bool := PySem.W.selfFirst K (He.ga K "Exact") && (He.eqO (PySem.W.findIn K (.ref (He.ga K "Exact")) "__ne__") (some (some (.builtin "object.__ne__"))) && (decide (PySem.W.subIn K (.ref (He.ga K "Exact")) (.type "object") = some true) && (He.eqO (PySem.W.findIn K (.ref (He.ga K "Exact")) "__class__") (some (some (.builtin "object.__class__"))) &&
  (He.eqO (PySem.W.specialIn K (.builtin "object.__class__") "__get__") (some (some (.builtin "getset_descriptor.__get__"))) && (decide (PySem.W.takesIn K (.builtin "object.__class__") = some true) && (decide (PySem.W.mroIn K (He.ga K "Exact") (.type "object") = some true) && decide (PySem.W.kitOne K (.ref (He.ga K "Exact")) (.ref (He.ga K "Exact")) = some true)))))))
/-- what the addresses reach, each once: a mask tells which were met -/
def seenB {α : Type} : List Addr → Nat → List Addr → (Nat → List Addr → α) → α
  | [], m, l, k => k m l
  | b :: r, m, l, k => HandSHeadRun.frNat b fun b => match Nat.testBit m b with
    | true => seenB r m l k
    | false => HandSHeadRun.frNat (m ||| 1 <<< b) fun m => seenB r m (b :: l) k
def refsAt (g : Addr → Option Obj) (a : Addr) : List Addr := match g a with
  | some o => He.refsD o
  | none => []
def levelB {α : Type} (g : Addr → Option Obj) : List Addr → Nat → List Addr → (Nat → List Addr → α) → α
  | [], m, l, k => k m l
  | a :: r, m, l, k => seenB (refsAt g a) m l fun m l => levelB g r m l k
/-- n levels from the module's names -/
def asB (g : Addr → Option Obj) : Nat → List Addr → Nat → List Addr
  | 0, l, _ => l
  | n + 1, l, m => l ++ levelB g l m [] fun m l => asB g n l m
def asM (g : Addr → Option Obj) (n : Nat) : List Addr := asB g n [mainGlobals] (1 <<< mainGlobals)
abbrev AlM : Type := He.AlD × Bool
def obsM (n : Nat) (g : Addr → Option Obj) : AlM := (He.obsD fa fn (He.frG g (asM g n)), exB (He.frG g (asM g n)))
def hookM (n : Nat) : PySem.W.Hook where
  α := AlM
  obs := fun s => obsM n s.heap.get?
  val := fun _ => (He.valD fn, true)
  says := fun _ h => ∃ K : PySem.W.Frag, K.In h ∧ He.SaysD fa fn K ∧ exB K = true
  of := fun _ _ e => ⟨_, He.frG_in, congrArg (fun z : AlM => z.1) e, congrArg (fun z : AlM => z.2) e⟩
  keeps := fun _ _ _ ⟨K, i, c⟩ e => ⟨K, i.keeps e, c⟩
theorem obsM_eq {n : Nat} {g : Addr → Option Obj} {s : Shared} (h : ∀ a, g a = s.heap.get? a) : obsM n g = (hookM n).obs s := by
  rw [show g = s.heap.get? from funext h] <;> rfl
abbrev R : PySem.W.OpenRow := PySem.W.OpenLaw.row PySem.Challenge.rw_rootstalls_k30_whole_for_nothing_by_own
abbrev hk : PySem.W.Hook := hookM 5
def ob (s : PySem.W.SharedT) : AlM := obsM 5 (HandSHeadRun.getT s)
theorem ob_eq (s : PySem.W.SharedT) : ob s = hk.obs s.abs := obsM_eq (HandSHeadRun.getT_eq s)
theorem run (w : World) : HandSHeadRun.RunEq R (PySem.W.view R.prog [78]) hk ob 8000 loose w := by
  intro os
  kernel_rfl
end Fair

set_option Elab.async false
set_option maxHeartbeats 4000000
namespace Fair
/-! ### fractions in lowest terms -/
theorem gcd_step (a b : Int) (hb : 0 < b) : Int.gcd b (a % b) = Int.gcd a b := by
  have e : a % b = a + b * (-(a / b)) := by rw [Int.emod_def, Int.mul_neg]; omega
  rw [e, Int.gcd_add_mul_left_right, Int.gcd_comm]
theorem div_num {a b : Int} (hb : 0 < b) : a / (Int.gcd a b : Int) = (Rat.divInt a b).num := by
  rw [Rat.num_divInt, Int.sign_eq_one_of_pos hb, Int.one_mul, Int.gcd_comm]
theorem div_den {a b : Int} (hb : 0 < b) : b / (Int.gcd a b : Int) = ((Rat.divInt a b).den : Int) := by
  rw [Rat.den_divInt, if_neg (by omega), Int.gcd_comm]
  have : (b.natAbs : Int) = b := by omega
  rw [Int.natCast_ediv, this]
theorem add_div (r s : Rat) : Rat.divInt (r.num * s.den + s.num * r.den) (r.den * s.den) = r + s := by
  rw [Rat.add_def', ← Int.natCast_mul, Rat.divInt_ofNat]
theorem sub_div (r s : Rat) : Rat.divInt (r.num * s.den - s.num * r.den) (r.den * s.den) = r - s := by
  rw [Rat.sub_def', ← Int.natCast_mul, Rat.divInt_ofNat]
theorem mul_div (r s : Rat) : Rat.divInt (r.num * s.num) (r.den * s.den) = r * s := by
  rw [Rat.mul_def', ← Int.natCast_mul, Rat.divInt_ofNat]
theorem over_div (r s : Rat) : Rat.divInt (r.num * s.den) (r.den * s.num) = r / s := by
  rw [Rat.div_def, Rat.inv_def, ← Rat.divInt_mul_divInt, Rat.num_divInt_den]
theorem self_div (r : Rat) : Rat.divInt r.num r.den = r := Rat.num_divInt_den r
theorem den_pos' (r : Rat) : (0 : Int) < r.den := Int.ofNat_lt.mpr r.den_pos
theorem num_pos' {r : Rat} (h : 0 < r) : 0 < r.num := by
  have h0 : 0 ≤ r.num := Rat.num_nonneg.mpr (Rat.le_of_lt h)
  have h1 : r.num ≠ 0 := fun e => Rat.ne_of_gt h (Rat.num_eq_zero.mp e)
  omega
theorem pos_num {r : Rat} (h : 0 < r.num) : 0 < r := Rat.lt_of_le_of_ne (Rat.num_nonneg.mp (by omega)) fun e => by rw [← e] at h; exact absurd h (by decide)
theorem num_neg {r : Rat} : r.num < 0 ↔ r < 0 := by
  have h1 : 0 ≤ r.num ↔ 0 ≤ r := Rat.num_nonneg
  rw [← Rat.not_le, ← h1]
  omega
theorem num_pos_iff {r : Rat} : 0 < r.num ↔ 0 < r := ⟨pos_num, num_pos'⟩
theorem gcd_num_den (r : Rat) : Int.gcd r.num r.den = 1 := r.reduced
theorem rat_ext_iff {r s : Rat} : r = s ↔ r.num = s.num ∧ (r.den : Int) = s.den := ⟨fun e => by rw [e]; exact ⟨rfl, rfl⟩, fun ⟨h1, h2⟩ => Rat.ext h1 (by omega)⟩
end Fair

set_option Elab.async false
set_option linter.all false
set_option maxRecDepth 100000
set_option maxHeartbeats 4000000
namespace Fair
open PySem PySem.Spec PyProof.Rows L2
/-! ### contracts of defs -/
abbrev PKM := Program → World → PySem.W.Frag
section
variable {P : Program} {w : World} {K : PySem.W.Frag} {mg : Str → Option Value} {base : Heap}
/-- a def of the module stands under its name -/
structure Dx (K : PySem.W.Frag) (mg : Str → Option Value) (x : Str) (st : Stmt) : Prop where
  ex : ∃ f fd, mg x = some (.ref f) ∧ FunD K x x (defArgs st) (defBody st) (defScope st) [] [] f fd
/-- a method -/
structure Mx (K : PySem.W.Frag) (C : Addr) (m qual : Str) (st : Stmt) : Prop where
  ex : ∃ f fd, Cls K C ∧ Meth K C m f ∧ FunD K m qual (defArgs st) (defBody st) (defScope st) [] [] f fd
/-- a class to be made -/
structure Kx (K : PySem.W.Frag) (mg : Str → Option Value) (x : Str) (C : Addr) (qual : Str) (st : Stmt) : Prop where
  ex : ∃ f fd, mg x = some (.ref C) ∧ Mk K C f ∧ FunD K "__init__" qual (defArgs st) (defBody st) (defScope st) [] [] f fd
abbrev BindOk (x qual : Str) (st : Stmt) (ps : List Str) : Prop := ∀ (kV doc pm : Value) (an : Option Addr) (cdv ct : Value) (us : List Value), us.length = ps.length →
  bindArgs (PySem.W.fnOf x qual (defArgs st) (defBody st) (defScope st) .none kV doc pm an cdv ct) ⟨us, []⟩ = pure (ps.zip us)
abbrev LenOk (sp : Sp) (ps : List Str) : Prop := ∀ vs H Q E, sp vs H Q E → vs.length = ps.length
abbrev BodyOk (P : Program) (w : World) (K : PySem.W.Frag) (mg : Str → Option Value) (base : Heap) (N : List Str) (qual : Str) (st : Stmt) (k : Nat) (sp : Sp) : Prop :=
  ∀ (f : Addr) (cdv : Value) (A : Around) (outer : List Env) (s : Shared) (H : Hp) (vs : List V) (Q : VK) (E : XK), Room k (A.deeper (envOfC qual (defScope st) s.heap.objs.size f cdv)) → sp vs H Q E →
    ∃ t, PSs (cxOf C8.CX0 P w K mg base N qual (defScope st) f cdv A outer s H E).nox (defBody st) t ∧ t { nx := fun _ H' => Q .non H', rt := Q } (start N vs) H
theorem fnD {x qual : Str} {st : Stmt} {f : Addr} {fd : FuncData} {N ps : List Str} {k : Nat} {sp : Sp} (F : FunD K x qual (defArgs st) (defBody st) (defScope st) [] [] f fd) (S : FnScope N ps (defScope st)) (len : LenOk sp ps)
    (hbody : BodyOk P w K mg base N qual st k sp) : FnOk P w K mg base C8.CX0 (k + 1) f fd ps sp :=
  F.ok S len fun cdv A outer s H vs Q E hr h => by
    obtain ⟨t, ht, hq⟩ := hbody f cdv A outer s H vs Q E hr h
    exact ⟨t, ht.nox, hq⟩
theorem Dx.cal {x : Str} {st : Stmt} {N ps : List Str} {k : Nat} {sp : Sp} (D : Dx K mg x st) (S : FnScope N ps (defScope st)) (b : BindOk x x st ps) (len : LenOk sp ps) (hbody : BodyOk P w K mg base N x st k sp) : C8.Cal P w K mg base (k + 1) x sp [] := by
  obtain ⟨f, fd, hm, F⟩ := D.ex
  exact ⟨f, fd, ps, [], fnD F S len hbody, hm, F.kp, F.bindsN b, .nil⟩
theorem Mx.met {C : Addr} {m qual : Str} {st : Stmt} {N ps : List Str} {k : Nat} {sp : Sp} (D : Mx K C m qual st) (S : FnScope N ps (defScope st)) (b : BindOk m qual st ps) (len : LenOk sp ps) (hbody : BodyOk P w K mg base N qual st k sp) : C8.Met P w K mg base (k + 1) C m sp [] := by
  obtain ⟨f, fd, hc, hm, F⟩ := D.ex
  exact ⟨f, fd, ps, [], hc, hm, fnD F S len hbody, F.bindsN b, .nil⟩
theorem Kx.mak {C : Addr} {x qual : Str} {st : Stmt} {N ps : List Str} {k : Nat} {sp : Sp} (D : Kx K mg x C qual st) (S : FnScope N ps (defScope st)) (b : BindOk "__init__" qual st ps) (len : LenOk sp ps) (hbody : BodyOk P w K mg base N qual st k sp) : C8.Mak P w K mg base (k + 1) x C sp [] := by
  obtain ⟨f, fd, hm, hk, F⟩ := D.ex
  exact ⟨f, fd, ps, [], hk, fnD F S len hbody, hm, F.bindsN b, .nil⟩
end
/-! ### operators that a class brings itself -/
section
variable {X : Cx} {C f : Addr} {m : Str} {sp : Sp} {j k : Nat}
def rOwn (C : Addr) (sp : Sp) : R2 := fun x y H Q => ∃ a b dx dy fs gs, x = .ref a ∧ y = .ref b ∧ H a = some (.ins C dx fs) ∧ H b = some (.ins C dy gs) ∧ sp [.ref a, .ref b] H Q C8.E0
theorem back_of {v : V} {u : Value} {s : Shared} {Q : Value → Shared → Prop} (r : RelV v u) (h : Q u s) : PySem.W.CmpBack Q u s := by
  unfold PySem.W.CmpBack
  cases v with
  | non => cases r; exact h
  | bl b => cases r; exact h
  | int i => obtain ⟨t, rfl⟩ := r; exact h
  | str x => obtain ⟨t, rfl⟩ := r; exact h
  | byt b => obtain ⟨t, rfl⟩ := r; exact h
  | flt b => obtain ⟨t, rfl⟩ := r; exact h
  | ref a => cases r; exact h
  | ty n => cases r; exact h
theorem op_own {op : Operator} (c : C8.Met X.prog X.w X.K X.mg X.base k C m sp []) (sf : PySem.W.selfFirst X.K C = true) (hr : Room j X.A) (hk : k ≤ j) (hop : PySem.dunder op.info.2 = m := by rfl) : OpR X (binaryOp op) (rOwn C sp) := by
  intro pins s σ H x y v u Q I rx ry hq
  obtain ⟨a, b, dx, dy, fs, gs, rfl, rfl, ha, hb, hsp⟩ := hq
  cases rx
  cases ry
  obtain ⟨f, fd, ps, ds, hc, hm, F, bd, d⟩ := c.ex
  obtain ⟨mA, J, _⟩ := ins_get I.hok ha
  obtain ⟨mB, J', _⟩ := ins_get I.hok hb
  obtain ⟨od, J, _⟩ := J.look
  obtain ⟨od', J', _⟩ := J'.look
  obtain ⟨mm, hF⟩ := I.fr
  refine PySem.W.binop_K (op := op) hF I.ok.mod.kin J J'.type sf (by rw [hop]; exact hm.at_) hm.fn ?_
  refine thn (run_fn (us := [.ref a, .ref b]) (vs := [.ref a, .ref b]) F (hr.mono hk) bd d C8.pass0 I (.cons rfl (.cons rfl .nil)) hsp) fun r s' h => ?_
  obtain ⟨z, H', I', rz, q⟩ := id h
  exact back_of rz h
theorem op_ownEq (c : C8.Met X.prog X.w X.K X.mg X.base k C "__eq__" sp []) (hr : Room j X.A) (hk : k ≤ j) : OpR X (compareOp .Eq) (rOwn C sp) := by
  intro pins s σ H x y v u Q I rx ry hq
  obtain ⟨a, b, dx, dy, fs, gs, rfl, rfl, ha, hb, hsp⟩ := hq
  cases rx
  cases ry
  obtain ⟨f, fd, ps, ds, hc, hm, F, bd, d⟩ := c.ex
  obtain ⟨mA, J, _⟩ := ins_get I.hok ha
  obtain ⟨mB, J', _⟩ := ins_get I.hok hb
  obtain ⟨od, J, _⟩ := J.look
  obtain ⟨od', J', _⟩ := J'.look
  obtain ⟨mm, hF⟩ := I.fr
  show wpAny (model X.prog X.w) X.A (richCompare .Eq (.ref a) (.ref b)) (EP X pins σ Q) X.xe s
  refine PySem.W.cmp_K (op := .Eq) (tb := .ref C) hr.units0 hF I.ok.mod.kin J J'.type (by simp [PySem.W.notFirst]) hm.at_ hm.fn ?_
  refine thn (run_fn (us := [.ref a, .ref b]) (vs := [.ref a, .ref b]) F (hr.mono hk) bd d C8.pass0 I (.cons rfl (.cons rfl .nil)) hsp) fun r s' h => ?_
  obtain ⟨z, H', I', rz, q⟩ := id h
  exact back_of rz h
end
end Fair

set_option Elab.async false
set_option linter.all false
set_option maxRecDepth 100000
set_option maxHeartbeats 4000000
namespace Fair
open PySem PySem.Spec PyProof.Rows L2
open PySem.W (InstAt)
/-! ### a != b by the class's own __eq__: the built-in's __ne__ turns its answer -/
section
variable {prog : Program} {w : World} {A : Around} {E : Value → Shared → Prop} {s : Shared} {K : PySem.W.Frag} {x y C L f : Addr} {ox : Obj} {od : Option Obj}
theorem ifBound_ne {args : List Value} {Q : Option Value → Shared → Prop} (X : K.In s.heap) (I : InstAt s.heap x ox C od) (hs : PySem.W.findIn K (.ref C) "__ne__" = some (some (.builtin "object.__ne__")))
    (h : wpAny (model prog w) A (call (.builtin "object.__ne__") (.ref x :: args)) (fun v => Q (some v)) E s) : wpAny (model prog w) A (callSpecialIfBound? (.ref x) "__ne__" args) Q E s := by
  have fin : wpAny (model prog w) A (call (.builtin "object.__ne__") ([.ref x] ++ args) >>= fun v => pure (some v)) Q E s := wpAny_bind (thn h fun v s' q => wpAny_pure q)
  simp only [callSpecialIfBound?, bindSpecialIfBound?]
  refine wpAny_holding (wpAny_bind (wpAny_bind (wpAny_bind (I.type.here ((PySem.W.looks_findIn X hs).here ?_)))))
  simp only [F.cmp_object.ne.bind]
  refine wpAny_bind (wpAny_askSetting (wpAny_ite ?_))
  split
  · exact wpAny_bind (wpAny_pure (wpAny_pure fin))
  · exact wpAny_tryCatch (wpAny_bind (wpAny_pure (wpAny_pure fin)))
theorem ne_body {Q : Fin → Shared → Prop} (hu : A.units < cLine) (X : K.In s.heap) (I : InstAt s.heap x ox C od) (he : PySem.W.findIn K (.ref C) "__eq__" = some (some (.ref f))) (hf : PySem.W.isFn K (.ref f) = true)
    (h : wpAny (model prog w) A (call (.ref f) [.ref x, .ref y]) (fun v s' => ∃ b, v = .bool b ∧ Q (.done (.ret (.bool (!b)))) s') E s) : wpAny (model prog w) A (Builtin.«object.__ne__» ⟨[.ref x, .ref y], []⟩) Q E s := by
  unfold Builtin.«object.__ne__»
  refine wpAny_bind (m := slotArgs "__ne__" 1 _) (wpAny_pure ?_)
  refine wpAny_bind (wpAny_cRoomFor hu ?_)
  refine wpAny_bind (m := callSpecialIfBound? (.ref x) "__eq__" [.ref y]) (PySem.W.ifBound_K X I he hf (thn h fun v s' q => ?_))
  obtain ⟨b, rfl, q⟩ := q
  refine wpAny_bind (m := truthy (.bool b)) (wpAny_truthy_bool ?_)
  exact wpAny_pure q
theorem rich_ne {Q : Value → Shared → Prop} {h₀ : Heap} {m : Str → Option Value} (hu : A.units + 1 < cLine) (FF : Fr h₀ L s.heap m) (X₀ : K.In h₀) (I : InstAt s.heap x ox C od) (hb : PySem.W.Looks (model prog w) s.heap (typeOf (.ref y)) (.ref C))
    (hn : PySem.W.findIn K (.ref C) "__ne__" = some (some (.builtin "object.__ne__"))) (ho : PySem.W.subIn K (.ref C) (.type "object") = some true) (he : PySem.W.findIn K (.ref C) "__eq__" = some (some (.ref f))) (hf : PySem.W.isFn K (.ref f) = true)
    (h : wpAny (model prog w) A.in1 (call (.ref f) [.ref x, .ref y]) (fun v s' => ∃ b, v = .bool b ∧ Q (.bool (!b)) s') E s) : wpAny (model prog w) A (richCompare .NotEq (.ref x) (.ref y)) Q E s := by
  have X := X₀.keeps FF.keep
  have look : PySem.W.Looks (model prog w) s.heap (isInstance (.ref x) (.type "object")) true := I.type.andThen (PySem.W.looks_subIn X ho)
  have one : wpAny (model prog w) A (tryCompare (.ref x) "__ne__" (.ref y)) (fun r s' => ∃ v, r = some v ∧ Q v s') E s := by
    unfold tryCompare
    refine wpAny_bind (ifBound_ne X I hn (wpAny_call (codeAny_call_builtin F.cmp_object.ne.plain F.cmpEntry_ne (PySem.W.check_slot F.cmpKind_ne F.cmpSplit_ne look (F.cmpArgs_ne _ _) (ne_body (A := A.in1) hu X I he hf (thn h fun v s' q => ?_))))))
    obtain ⟨b, rfl, q⟩ := q
    exact ⟨b, rfl, wpAny_pure ⟨_, rfl, q⟩⟩
  unfold richCompare
  simp only [oneThing_ref]
  refine wpAny_holding (wpAny_bind (wpAny_cRoomFor (Nat.lt_of_succ_lt hu) ?_))
  refine wpAny_bind (I.type.here (wpAny_bind (hb.here ?_)))
  rw [show (Value.ref C != Value.ref C) = false from by simp]
  simp only [Bool.false_eq_true, if_false]
  refine wpAny_bind (wpAny_pure ?_)
  simp only [Bool.false_eq_true, if_false]
  refine wpAny_bind (thn one fun r s' q => ?_)
  obtain ⟨v, rfl, q⟩ := q
  exact wpAny_pure q
end
section
variable {X : Cx} {C : Addr} {sp : Sp} {j k : Nat}
def rOwnNe (C : Addr) (sp : Sp) : R2 := fun x y H Q => ∃ a b dx dy fs gs, x = .ref a ∧ y = .ref b ∧ H a = some (.ins C dx fs) ∧ H b = some (.ins C dy gs) ∧ sp [.ref a, .ref b] H (fun v H' => ∃ c, v = .bl c ∧ Q (.bl (!c)) H') C8.E0
theorem op_ownNe (c : C8.Met X.prog X.w X.K X.mg X.base k C "__eq__" sp []) (hn : PySem.W.findIn X.K (.ref C) "__ne__" = some (some (.builtin "object.__ne__"))) (ho : PySem.W.subIn X.K (.ref C) (.type "object") = some true) (hr : Room j X.A) (hk : k + 1 ≤ j) :
    OpR X (compareOp .NotEq) (rOwnNe C sp) := by
  intro pins s σ H x y v u Q I rx ry hq
  obtain ⟨a, b, dx, dy, fs, gs, rfl, rfl, ha, hb, hsp⟩ := hq
  cases rx
  cases ry
  obtain ⟨f, fd, ps, ds, hc, hm, F, bd, d⟩ := c.ex
  obtain ⟨mA, J, _⟩ := ins_get I.hok ha
  obtain ⟨mB, J', _⟩ := ins_get I.hok hb
  obtain ⟨od, J, _⟩ := J.look
  obtain ⟨od', J', _⟩ := J'.look
  obtain ⟨mm, hF⟩ := I.fr
  show wpAny (model X.prog X.w) X.A (richCompare .NotEq (.ref a) (.ref b)) (EP X pins σ Q) X.xe s
  refine rich_ne (by have := hr.units; omega) hF I.ok.mod.kin J J'.type hn ho hm.at_ hm.fn ?_
  have r1 : Room k X.A.in1 := (hr.mono hk).in1
  have r2 : Vals ([V.ref a, V.ref b] ++ []) ([Value.ref a, Value.ref b] ++ ds) := Vals.append (.cons rfl (.cons rfl .nil)) d
  have hl : ([Value.ref a, Value.ref b] ++ ds).length = ps.length := by
    rw [← r2.length]
    exact F.len _ _ _ _ hsp
  refine wpAny_call (codeAny_mono (F.run X.A.in1 X.stack s H ⟨[.ref a, .ref b], []⟩ ([.ref a, .ref b] ++ ds) ([.ref a, .ref b] ++ []) _ C8.E0 r1 I.env0.in1 (bd s [.ref a, .ref b] I.kIn hl) r2 hsp) fun r s' hq => ?_)
  match r with
  | .error e => exact hq.elim
  | .ok .next => exact hq.elim
  | .ok .brk => exact hq.elim
  | .ok .cont => exact hq.elim
  | .ok (.ret z) =>
    obtain ⟨zv, H', I', rz, c, rfl, q⟩ := I.after hq
    cases rz
    exact ⟨c, rfl, .bl (!c), H', I', rfl, q⟩
end
end Fair

set_option Elab.async false
set_option linter.all false
set_option maxRecDepth 100000
set_option maxHeartbeats 600000
namespace Fair
open PySem PySem.Spec PyProof.Rows L2
/-! ### for a, b, c in zip(xs, ys, zs), three lists of one length -/
def Itz3 (K : PySem.W.Frag) (a b c : Addr) : It where
  go := fun i H => ∃ (xs ys zs : List V) (x y z : V), SqL K H a xs ∧ SqL K H b ys ∧ SqL K H c zs ∧ xs[i]? = some x ∧ ys[i]? = some y ∧ zs[i]? = some z
  yld := fun i H v H' => ∃ T x y z, v = .ref T ∧ H T = none ∧ H' = upd H T (.tup [x, y, z]) ∧ (∀ l, SqL K H a l → l[i]? = some x) ∧ (∀ l, SqL K H b l → l[i]? = some y) ∧ ∀ l, SqL K H c l → l[i]? = some z
  stop := fun i H => ∃ xs ys zs : List V, SqL K H a xs ∧ SqL K H b ys ∧ SqL K H c zs ∧ xs.length = i ∧ ys.length = i ∧ zs.length = i
/-- what stands of the iterators themselves -/
def St3 (z TI TO i1 i2 i3 a b c : Addr) (i : Nat) (h : Heap) : Prop :=
  IsZip h z TI TO .none ∧ IsTupOf3 h TI (.ref i1) (.ref i2) (.ref i3) ∧ (∃ a1 a2 a3, IsTupOf3 h TO a1 a2 a3) ∧ h.IsListIter i1 a i ∧ h.IsListIter i2 b i ∧ h.IsListIter i3 c i
theorem turn_zip3 {P : Program} {w : World} {K : PySem.W.Frag} {elts : List Expr} {kk : Nat} {tpos : Pos} {a b c z TI TO i1 i2 i3 : Addr} (D : ZipSep3 z TI TO i1 i2 i3 [i1, a] [i2, b] [i3, c]) (n1 : a ≠ i1) (n2 : b ≠ i2) (n3 : c ≠ i3) :
    Turn P w K (.Tuple elts kk tpos) (Itz3 K a b c) [z, TI, TO, i1, i2, i3] z (St3 z TI TO i1 i2 i3 a b c) where
  mem := by simp
  obj := fun i h st d hd => by
    obtain ⟨hz, hTI, ⟨x, y, u, hTO⟩, ⟨o1, e1, _, d1⟩, ⟨o2, e2, _, d2⟩, ⟨o3, e3, _, d3⟩⟩ := st
    have q : d = z ∨ d = TI ∨ d = TO ∨ d = i1 ∨ d = i2 ∨ d = i3 := by simpa using hd
    rcases q with rfl | rfl | rfl | rfl | rfl | rfl
    · exact ⟨_, hz, fun v q => nomatch q⟩
    · exact ⟨_, hTI, fun v q => nomatch q⟩
    · exact ⟨_, hTO, fun v q => nomatch q⟩
    · exact ⟨o1, e1, fun v q => by rw [d1] at q; cases q⟩
    · exact ⟨o2, e2, fun v q => by rw [d2] at q; cases q⟩
    · exact ⟨o3, e3, fun v q => by rw [d3] at q; cases q⟩
  keep := fun i h h' st k => by
    obtain ⟨hz, hTI, ⟨x, y, u, hTO⟩, h1, h2, h3⟩ := st
    exact ⟨k z (by simp) _ hz, k TI (by simp) _ hTI, ⟨x, y, u, k TO (by simp) _ hTO⟩, h1.at fun o q => k i1 (by simp) o q, h2.at fun o q => k i2 (by simp) o q, h3.at fun o q => k i3 (by simp) o q⟩
  item := by
    intro X hP hw hK hc i pins s σ H E I hf st hg
    subst hP hw hK
    obtain ⟨hz, hTI, hTO, h1, h2, h3⟩ := st
    obtain ⟨xs, ys, zs, x, y, u, qx, qy, qz, ex, ey, ez⟩ := hg
    obtain ⟨v1, r1, p1, _⟩ := I.list qx
    obtain ⟨v2, r2, p2, _⟩ := I.list qy
    obtain ⟨v3, r3, p3, _⟩ := I.list qz
    have hh : X.A.in1.handled = none := I.ok.hd hc
    have W := GoesN.zip3 (prog := X.prog) (w := X.w) (A := X.A) (elts := elts) (x1 := kk) (pos := tpos) D (Draws.list hh i1 a n1 v1.toArray) (Draws.list hh i2 b n2 v2.toArray) (Draws.list hh i3 c n3 v3.toArray)
    obtain ⟨w1, g1, k1⟩ := r1.get ex
    obtain ⟨w2, g2, k2⟩ := r2.get ey
    obtain ⟨w3, g3, k3⟩ := r3.get ez
    have l1 : i < v1.toArray.size := by simpa using (List.getElem?_eq_some_iff.mp g1).1
    have l2 : i < v2.toArray.size := by simpa using (List.getElem?_eq_some_iff.mp g2).1
    have l3 : i < v3.toArray.size := by simpa using (List.getElem?_eq_some_iff.mp g3).1
    refine W.goes i s (fun v s2 => ∃ x H', Inv X pins σ H' s2 ∧ RelV x v ∧ (Itz3 X.K a b c).yld i H x H' ∧ St3 z TI TO i1 i2 i3 a b c (i + 1) s2.heap ∧ ∀ b ∈ [z, TI, TO, i1, i2, i3], H' b = none) E (by omega) ⟨hz, hTI, hTO, ⟨h1, p1.isList⟩, ⟨h2, p2.isList⟩, ⟨h3, p3.isList⟩⟩ fun v h' tk hY st' hk htk => ?_
    obtain ⟨T, a1, a2, a3, rfl, hn, m1, m2, m3, hT⟩ := hY
    obtain ⟨z', TI', TO', ⟨s1, _⟩, ⟨s2, _⟩, ⟨s3, _⟩⟩ := st'
    have q1 : a1 = w1 := by simpa [g1] using m1.symm
    have q2 : a2 = w2 := by simpa [g2] using m2.symm
    have q3 : a3 = w3 := by simpa [g3] using m3.symm
    subst q1 q2 q3
    have hHT : H T = none := I.hok.fresh hn
    have new : ObjOk X.prog X.w (upd H T (.tup [x, y, u])) h' T (.tup [x, y, u]) := ⟨by show 3 ≤ sizeLine; decide, [a1, a2, a3], .cons k1 (.cons k2 (.cons k3 .nil)), hT⟩
    have I1 : Inv X pins σ (upd H T (.tup [x, y, u])) { s with heap := h', toks := tk } := I.turnedNew (ch := [z, TI, TO, i1, i2, i3]) (fun d o hd e => hk d o (fun q => hd (by
      have q' : d = z ∨ d = TO ∨ d = i1 ∨ d = i2 ∨ d = i3 := by simpa using q
      rcases q' with rfl | rfl | rfl | rfl | rfl <;> simp)) e) hf hn new
    refine ⟨.ref T, _, I1, rfl, ⟨T, x, y, u, rfl, hHT, rfl, fun l hl => by rw [I.list_inj hl qx]; exact ex, fun l hl => by rw [I.list_inj hl qy]; exact ey, fun l hl => by rw [I.list_inj hl qz]; exact ez⟩, ⟨z', TI', TO', s1, s2, s3⟩, fun d hd => ?_⟩
    have hlt : d < s.heap.objs.size := by
      have q : d = z ∨ d = TI ∨ d = TO ∨ d = i1 ∨ d = i2 ∨ d = i3 := by simpa using hd
      obtain ⟨b1, b2, b3, bO⟩ := hTO
      rcases q with rfl | rfl | rfl | rfl | rfl | rfl
      · exact Heap.lt_size hz
      · exact Heap.lt_size hTI
      · exact Heap.lt_size bO
      · obtain ⟨_, e, _⟩ := h1; exact Heap.lt_size e
      · obtain ⟨_, e, _⟩ := h2; exact Heap.lt_size e
      · obtain ⟨_, e, _⟩ := h3; exact Heap.lt_size e
    rw [upd_ne (Nat.ne_of_lt (Nat.lt_of_lt_of_le hlt hn))]
    exact (hf d hd).1
  done := by
    intro X hP hw hK hc i pins s σ H E I hf st hg
    subst hP hw hK
    obtain ⟨hz, hTI, hTO, h1, h2, h3⟩ := st
    obtain ⟨xs, ys, zs, qx, qy, qz, ex, ey, ez⟩ := hg
    obtain ⟨v1, r1, p1, _⟩ := I.list qx
    obtain ⟨v2, r2, p2, _⟩ := I.list qy
    obtain ⟨v3, r3, p3, _⟩ := I.list qz
    have hh : X.A.in1.handled = none := I.ok.hd hc
    have W := GoesN.zip3 (prog := X.prog) (w := X.w) (A := X.A) (elts := elts) (x1 := kk) (pos := tpos) D (Draws.list hh i1 a n1 v1.toArray) (Draws.list hh i2 b n2 v2.toArray) (Draws.list hh i3 c n3 v3.toArray)
    have en : min (min v1.toArray.size v2.toArray.size) v3.toArray.size = i := by
      have := r1.length; have := r2.length; have := r3.length
      simp only [List.size_toArray]; omega
    rw [en] at W
    exact W.stops s (fun s1 => Inv X pins σ H s1) E ⟨hz, hTI, hTO, ⟨h1, p1.isList⟩, ⟨h2, p2.isList⟩, ⟨h3, p3.isList⟩⟩ fun h' tk hk htk => I.turnedL (ch := [z, TI, TO, i1, i2, i3]) (fun d o hd e => hk d o (fun q => hd (by
      have q' : d = z ∨ d = TO ∨ d = i1 ∨ d = i2 ∨ d = i3 := by simpa using q
      rcases q' with rfl | rfl | rfl | rfl | rfl <;> simp)) e) hf
  self := fun A i s Q E st h => wpAny_pyIter_zip st.1 h
def iZip3 (K : PySem.W.Frag) (ta : TA) : TI := fun σ H R => ta σ H fun vs H1 => ∃ a b c xs ys zs, vs = [.ref a, .ref b, .ref c] ∧ SqL K H1 a xs ∧ SqL K H1 b ys ∧ SqL K H1 c zs ∧ R (Itz3 K a b c) H1
theorem three_refs {a b c : Addr} {us : List Value} (r : Vals [V.ref a, V.ref b, V.ref c] us) : us = [.ref a, .ref b, .ref c] := by
  cases r with
  | cons k1 r1 =>
    cases r1 with
    | cons k2 r2 =>
      cases r2 with
      | cons k3 r3 =>
        cases r3
        cases k1
        cases k2
        cases k3
        rfl
theorem pi_zip3 {X : Cx} {e e2 e3 : Expr} {ta : TA} {p pos tpos : Pos} {elts : List Expr} {kk : Nat} (hg : Gl X "zip") (hm : X.mg "zip" = none) (ha : PA X [e, e2, e3] ta)
    (hs : starEach [e, e2, e3] X.env = (false, eval e X.env) :: starEach [e2, e3] X.env := by rfl) (hpl : (backTo pos (starEach [e2, e3] X.env)).any (·.1) = false := by rfl) :
    PI X (.Tuple elts kk tpos) (.Call (.Name "zip" p) [e, e2, e3] [] pos) (iZip3 X.K ta) := by
  refine ⟨fun pins s σ H R I h => ?_⟩
  refine Call_ (ld_blt I hg hm PyProof.Rows.boot_zip (PyProof.Rows.callWith_type1 (thn (ha.run pos pins s σ H _ I h) fun us s1 ⟨vs, H1, I1, r1, q1⟩ => ?_) hs hpl))
  obtain ⟨a, b, c, xs, ys, zs, rfl, qx, qy, qz, q⟩ := q1
  obtain rfl : us = [.ref a, .ref b, .ref c] := three_refs r1
  obtain ⟨v1, r1, p1, _⟩ := I1.list qx
  obtain ⟨v2, r2, p2, _⟩ := I1.list qy
  obtain ⟨v3, r3, p3, _⟩ := I1.list qz
  have la : a < s1.heap.objs.size := p1.lt
  have lb : b < s1.heap.objs.size := p2.lt
  have lc : c < s1.heap.objs.size := p3.lt
  refine zip_begins3 (begins_list a v1.toArray) (begins_list b v2.toArray) (begins_list c v3.toArray) p1.isList p2.isList p3.isList fun h' hz hTI hTO g1 g2 g3 hsz hk => wpAny_pyIter_zip hz ?_
  have I2 : Inv X pins σ H1 { s1 with heap := h' } := I1.kept (t' := s1.toks) hk
  have sep := zip_sep3 (N := s1.heap.objs.size) (fp1 := [a]) (fp2 := [b]) (fp3 := [c]) (by simpa using la) (by simpa using lb) (by simpa using lc)
  have t1 : h'.IsListIter s1.heap.objs.size a 0 := ⟨_, g1, rfl, rfl⟩
  have t2 : h'.IsListIter (s1.heap.objs.size + 1) b 0 := ⟨_, g2, rfl, rfl⟩
  have t3 : h'.IsListIter (s1.heap.objs.size + 2) c 0 := ⟨_, g3, rfl, rfl⟩
  have n1 : a ≠ s1.heap.objs.size := Nat.ne_of_lt la
  have n2 : b ≠ s1.heap.objs.size + 1 := Nat.ne_of_lt (Nat.lt_succ_of_lt lb)
  have n3 : c ≠ s1.heap.objs.size + 2 := Nat.ne_of_lt (Nat.lt_succ_of_lt (Nat.lt_succ_of_lt lc))
  have tr := turn_zip3 (P := X.prog) (w := X.w) (K := X.K) (elts := elts) (kk := kk) (tpos := tpos) sep n1 n2 n3
  refine ⟨s1.heap.objs.size + 5, _, St3 (s1.heap.objs.size + 5) (s1.heap.objs.size + 3) (s1.heap.objs.size + 4) s1.heap.objs.size (s1.heap.objs.size + 1) (s1.heap.objs.size + 2) a b c, Itz3 X.K a b c, H1, rfl, I2, tr, ⟨hz, hTI, ⟨_, _, _, hTO⟩, t1, t2, t3⟩, fun d hd => ?_, q⟩
  have hle : s1.heap.objs.size ≤ d := by
    have q' : d = s1.heap.objs.size + 5 ∨ d = s1.heap.objs.size + 3 ∨ d = s1.heap.objs.size + 4 ∨ d = s1.heap.objs.size ∨ d = s1.heap.objs.size + 1 ∨ d = s1.heap.objs.size + 2 := by simpa using hd
    rcases q' with e | e | e | e | e | e <;> rw [e] <;> first | exact Nat.le_refl _ | exact Nat.le_add_right _ _
  exact I1.fpOk hle (I1.hok.fresh hle)
theorem for_zip3 {K : PySem.W.Frag} {a b c : Addr} {xs ys zs : List V} {g : TG} {tb : TS} {D : Ends} {σ : L2.St} {H : Hp} (e1 : ys.length = xs.length) (e2 : zs.length = xs.length) (Pv : Nat → L2.St → Hp → Prop) (h0 : Pv 0 σ H)
    (hl : ∀ i σ H, i ≤ xs.length → Pv i σ H → SqL K H a xs ∧ SqL K H b ys ∧ SqL K H c zs)
    (hs : ∀ i x y z σ H T, xs[i]? = some x → ys[i]? = some y → zs[i]? = some z → Pv i σ H → H T = none → g (.ref T) σ (upd H T (.tup [x, y, z])) fun σ2 H2 => tb { D with nx := Pv (i + 1), ct := Pv (i + 1), bk := D.nx } σ2 H2) (hd : ∀ σ H, Pv xs.length σ H → D.nx σ H) :
    ∃ W : Nat → Nat → L2.St → Hp → Prop, (∃ m, W 0 m σ H) ∧ ∀ i m σ H, W i m σ H →
      ((Itz3 K a b c).stop i H ∧ D.nx σ H) ∨ ((Itz3 K a b c).go i H ∧ ∃ N : L2.St → Hp → Prop, (∀ σ' H', N σ' H' → ∃ m', m' < m ∧ W (i + 1) m' σ' H') ∧ ∀ x H', (Itz3 K a b c).yld i H x H' → g x σ H' fun σ2 H2 => tb { D with nx := N, ct := N, bk := D.nx } σ2 H2) := by
  refine ⟨fun i m σ H => m = xs.length - i ∧ i ≤ xs.length ∧ Pv i σ H, ⟨_, rfl, Nat.zero_le _, h0⟩, ?_⟩
  rintro i m σ H ⟨rfl, hi, p⟩
  obtain ⟨q1, q2, q3⟩ := hl i σ H hi p
  rcases Nat.lt_or_ge i xs.length with hlt | hge
  · refine .inr ⟨⟨xs, ys, zs, xs[i], ys[i]'(by omega), zs[i]'(by omega), q1, q2, q3, by simp [hlt], List.getElem?_eq_getElem _, List.getElem?_eq_getElem _⟩, Pv (i + 1), fun σ' H' p' => ⟨_, by omega, rfl, hlt, p'⟩, ?_⟩
    rintro x H' ⟨T, y, y2, y3, rfl, hT, rfl, h1, h2, h3⟩
    exact hs i y y2 y3 σ H T (h1 xs q1) (h2 ys q2) (h3 zs q3) p hT
  · obtain rfl : i = xs.length := by omega
    exact .inl ⟨⟨xs, ys, zs, q1, q2, q3, rfl, e1, e2⟩, hd σ H p⟩
end Fair

set_option Elab.async false
set_option linter.all false
set_option maxRecDepth 100000
set_option maxHeartbeats 1000000
namespace Fair
open PySem PySem.Spec PyProof.Rows L2
open Sem (wp)
/-! ### for i, x in enumerate(t), t a tuple -/
abbrev enH (h : Heap) (o : Obj) : Heap := (h.push o).push { cls := .type "enumerate", data := .fields #[.none, .bool false, .ref h.objs.size, rawInt 0, .none, .none] }
theorem enum_new1 {v : Value} {o : Obj} {G : Heap → Prop} (B : Begins v o G) :
    Meets (Builtin.«enumerate.__new__» ⟨[.type "enumerate", v], []⟩) (fun _ R s => G s.heap ∧ R (.ok (.ret (.ref (s.heap.push o).objs.size))) { s with heap := enH s.heap o }) :=
  .of_wp fun prog w A R s hy => by
    obtain ⟨hp, g, d, tk, os⟩ := s
    obtain ⟨hG, hR⟩ := hy
    have sub1 := sub_enumerate
    have it1 : ∀ {A' : Around} {E : Value → Shared → Prop} {Q : Value → Shared → Prop}, Q (.ref hp.objs.size) ⟨hp.push o, g, d, tk, os⟩ → wpAny (model prog w) A' (pyIter v) Q E ⟨hp, g, d, tk, os⟩ := fun q => B.iter prog w _ _ ⟨hp, g, d, tk, os⟩ _ hG q
    wp_walk using it1
    refine wpAny_stack_any fun fr => wpAny_pure ?_
    split
    · rename_i cc _ _ _ _ _
      by_cases eq : (cc == Value.type "enumerate") = true
      · simp only [eq]
        wp_walk using it1
        exact ⟨_, rfl, hR⟩
      · simp only [eq]
        wp_walk using it1
        exact ⟨_, rfl, hR⟩
    · wp_walk using it1
      exact ⟨_, rfl, hR⟩
section
variable {prog : Program} {w : World} {A : Around} {E : Value → Shared → Prop} {s : Shared}
theorem call_enum1 {v : Value} {o : Obj} {G : Heap → Prop} {Q : Value → Shared → Prop} (B : Begins v o G) (hG : G s.heap)
    (k : ∀ h', IsEnum h' (s.heap.objs.size + 1) s.heap.objs.size 0 .none → h'.get? s.heap.objs.size = some o → (∀ b u, s.heap.get? b = some u → h'.get? b = some u) → Q (.ref (s.heap.objs.size + 1)) { s with heap := h' }) :
    wpAny (model prog w) A (call (.type "enumerate") [v]) Q E s := by
  refine callType_new F.called_enumerate (by decide) (F.typeCall_enumerate_1 _) (F.newCall_enumerate_1 _) (fun obj => F.args_object_init_2 obj _) F.entry_enumerate_new (enum_new1 B) ⟨hG, ?_⟩
  have sz : (s.heap.push o).objs.size = s.heap.objs.size + 1 := by rw [Heap.size_push]
  have en : IsEnum (enH s.heap o) (s.heap.push o).objs.size s.heap.objs.size 0 .none := Heap.get?_push_size _ rfl
  have g1 : (enH s.heap o).get? s.heap.objs.size = some o := Heap.get?_push_of_some _ (Heap.get?_push_size _ B.free)
  rw [sz] at en
  show _ ∧ _
  rw [sz]
  exact ⟨⟨_, en, rfl⟩, k _ en g1 fun b u x => Heap.get?_push_of_some _ (Heap.get?_push_of_some _ x)⟩
end
def IteT (K : PySem.W.Frag) (a : Addr) : It where
  go := fun i H => ∃ (xs : List V) (x : V), SqT K H a xs ∧ xs[i]? = some x
  yld := fun i H v H' => ∃ T x, v = .ref T ∧ H T = none ∧ H' = upd H T (.tup [.int (i : Nat), x]) ∧ ∀ l, SqT K H a l → l[i]? = some x
  stop := fun i H => ∃ xs : List V, SqT K H a xs ∧ xs.length = i
def StE (e it a : Addr) (i : Nat) (h : Heap) : Prop := (∃ old, IsEnum h e it (0 + (i : Int)) old) ∧ h.IsTupleIter it a i
theorem turn_enumT {P : Program} {w : World} {K : PySem.W.Frag} {elts : List Expr} {kk : Nat} {tpos : Pos} {a e it : Addr} (n1 : a ≠ it) (n2 : e ≠ it) (n3 : a ≠ e) : Turn P w K (.Tuple elts kk tpos) (IteT K a) [e, it] e (StE e it a) where
  mem := by simp
  obj := fun i h st d hd => by
    obtain ⟨⟨old, he⟩, ⟨o1, e1, _, d1⟩⟩ := st
    have q : d = e ∨ d = it := by simpa using hd
    rcases q with rfl | rfl
    · exact ⟨_, he, fun v q => nomatch q⟩
    · exact ⟨o1, e1, fun v q => by rw [d1] at q; cases q⟩
  keep := fun i h h' st k => ⟨let ⟨old, he⟩ := st.1; ⟨old, k e (by simp) _ he⟩, st.2.at fun o q => k it (by simp) o q⟩
  item := by
    intro X hP hw hK hc i pins s σ H E I hf st hg
    subst hP hw hK
    obtain ⟨xs, x, qx, ex⟩ := hg
    obtain ⟨v1, r1, p1, _⟩ := I.tuple qx
    obtain ⟨w1, g1, k1⟩ := r1.get ex
    have hh : X.A.in1.handled = none := I.ok.hd hc
    have l1 : i < v1.toArray.size := by simpa using (List.getElem?_eq_some_iff.mp g1).1
    have W := GoesN.enumFrom (prog := X.prog) (w := X.w) (A := X.A) (elts := elts) (x1 := kk) (pos := tpos) 0 (Draws.tuple hh it a n1 v1.toArray) e n2 (by simp [n2, n3.symm]) (by simp)
    refine W.goes i s (fun v s2 => ∃ x H', Inv X pins σ H' s2 ∧ RelV x v ∧ (IteT X.K a).yld i H x H' ∧ StE e it a (i + 1) s2.heap ∧ ∀ b ∈ [e, it], H' b = none) E l1 ⟨st.1, st.2, show s.heap.IsTuple a v1.toArray from p1⟩ fun v h' tk hY st' hk htk => ?_
    obtain ⟨T, t, a1, rfl, hn, m1, hT⟩ := hY
    obtain ⟨en', s1, _⟩ := st'
    have q1 : a1 = w1 := by simpa [g1] using m1.symm
    subst q1
    have hHT : H T = none := I.hok.fresh hn
    have e0 : (0 : Int) + ((i : Nat) : Int) = ((i : Nat) : Int) := by omega
    rw [e0] at hT
    have new : ObjOk X.prog X.w (upd H T (.tup [.int (i : Nat), x])) h' T (.tup [.int (i : Nat), x]) := ⟨by show 2 ≤ sizeLine; decide, [.int (i : Nat) t, a1], .cons ⟨t, rfl⟩ (.cons k1 .nil), hT⟩
    have I1 : Inv X pins σ (upd H T (.tup [.int (i : Nat), x])) { s with heap := h', toks := tk } := I.turnedNew (ch := [e, it]) (fun d o hd q => hk d o hd q) hf hn new
    refine ⟨.ref T, _, I1, rfl, ⟨T, x, rfl, hHT, rfl, fun l hl => by rw [I.tuple_inj hl qx]; exact ex⟩, ⟨en', s1⟩, fun d hd => ?_⟩
    have hlt : d < s.heap.objs.size := by
      obtain ⟨⟨old, he⟩, ⟨o1, e1, _, _⟩⟩ := st
      have q : d = e ∨ d = it := by simpa using hd
      rcases q with rfl | rfl
      · exact Heap.lt_size he
      · exact Heap.lt_size e1
    rw [upd_ne (Nat.ne_of_lt (Nat.lt_of_lt_of_le hlt hn))]
    exact (hf d hd).1
  done := by
    intro X hP hw hK hc i pins s σ H E I hf st hg
    subst hP hw hK
    obtain ⟨xs, qx, ex⟩ := hg
    obtain ⟨v1, r1, p1, _⟩ := I.tuple qx
    have hh : X.A.in1.handled = none := I.ok.hd hc
    have W := GoesN.enumFrom (prog := X.prog) (w := X.w) (A := X.A) (elts := elts) (x1 := kk) (pos := tpos) 0 (Draws.tuple hh it a n1 v1.toArray) e n2 (by simp [n2, n3.symm]) (by simp)
    have en : v1.toArray.size = i := by
      have := r1.length
      simp only [List.size_toArray]; omega
    rw [en] at W
    exact W.stops s (fun s1 => Inv X pins σ H s1) E ⟨st.1, st.2, show s.heap.IsTuple a v1.toArray from p1⟩ fun h' tk hk htk => I.turnedL (ch := [e, it]) (fun d o hd q => hk d o hd q) hf
  self := fun A i s Q E st h => let ⟨_, he⟩ := st.1; wpAny_pyIter_enum he h
def iEnumT (K : PySem.W.Frag) (ta : TA) : TI := fun σ H R => ta σ H fun vs H1 => ∃ a xs, vs = [.ref a] ∧ SqT K H1 a xs ∧ R (IteT K a) H1
theorem pi_enumT {X : Cx} {e : Expr} {ta : TA} {p pos tpos : Pos} {elts : List Expr} {kk : Nat} (hg : Gl X "enumerate") (hm : X.mg "enumerate" = none) (ha : PA X [e] ta) (hs : starEach [e] X.env = [(false, eval e X.env)] := by rfl) :
    PI X (.Tuple elts kk tpos) (.Call (.Name "enumerate" p) [e] [] pos) (iEnumT X.K ta) := by
  refine ⟨fun pins s σ H R I h => ?_⟩
  refine Call_ (ld_blt I hg hm boot_enumerate (PyProof.Rows.callWith_type1 (thn (ha.run pos pins s σ H _ I h) fun us s1 ⟨vs, H1, I1, r1, q1⟩ => ?_) hs rfl))
  obtain ⟨a, xs, rfl, qx, q⟩ := q1
  obtain ⟨u, rfl, k1⟩ := vals1 r1
  cases k1
  obtain ⟨v1, r1, p1, _⟩ := I1.tuple qx
  have la : a < s1.heap.objs.size := p1.lt
  refine call_enum1 (begins_tuple a v1.toArray) (show s1.heap.IsTuple a v1.toArray from p1) fun h' he g1 hk => wpAny_pyIter_enum he ?_
  have I2 : Inv X pins σ H1 { s1 with heap := h' } := I1.kept (t' := s1.toks) hk
  have t1 : h'.IsTupleIter s1.heap.objs.size a 0 := ⟨_, g1, rfl, rfl⟩
  have tr := turn_enumT (P := X.prog) (w := X.w) (K := X.K) (elts := elts) (kk := kk) (tpos := tpos) (a := a) (e := s1.heap.objs.size + 1) (it := s1.heap.objs.size) (Nat.ne_of_lt la) (Nat.succ_ne_self _) (Nat.ne_of_lt (Nat.lt_succ_of_lt la))
  refine ⟨s1.heap.objs.size + 1, _, StE (s1.heap.objs.size + 1) s1.heap.objs.size a, IteT X.K a, H1, rfl, I2, tr, ⟨⟨.none, he⟩, t1⟩, fun d hd => ?_, q⟩
  have q' : d = s1.heap.objs.size + 1 ∨ d = s1.heap.objs.size := by simpa using hd
  have hle : s1.heap.objs.size ≤ d := by
    rcases q' with e | e <;> rw [e] <;> first | exact Nat.le_refl _ | exact Nat.le_add_right _ _
  exact I1.fpOk hle (I1.hok.fresh hle)
/-! ### loops over these -/
/-- the tuples that such a loop walks lie as they are; each turn meets a new pair (triple) -/
theorem for_enumT {K : PySem.W.Frag} {a : Addr} {xs : List V} {g : TG} {tb : TS} {D : Ends} {σ : L2.St} {H : Hp} (Pv : Nat → L2.St → Hp → Prop) (h0 : Pv 0 σ H) (hl : ∀ i σ H, i ≤ xs.length → Pv i σ H → SqT K H a xs)
    (hs : ∀ i x σ H T, xs[i]? = some x → Pv i σ H → H T = none → g (.ref T) σ (upd H T (.tup [.int (i : Nat), x])) fun σ2 H2 => tb { D with nx := Pv (i + 1), ct := Pv (i + 1), bk := D.nx } σ2 H2) (hd : ∀ σ H, Pv xs.length σ H → D.nx σ H) :
    ∃ W : Nat → Nat → L2.St → Hp → Prop, (∃ m, W 0 m σ H) ∧ ∀ i m σ H, W i m σ H →
      ((IteT K a).stop i H ∧ D.nx σ H) ∨ ((IteT K a).go i H ∧ ∃ N : L2.St → Hp → Prop, (∀ σ' H', N σ' H' → ∃ m', m' < m ∧ W (i + 1) m' σ' H') ∧ ∀ x H', (IteT K a).yld i H x H' → g x σ H' fun σ2 H2 => tb { D with nx := N, ct := N, bk := D.nx } σ2 H2) := by
  refine ⟨fun i m σ H => m = xs.length - i ∧ i ≤ xs.length ∧ Pv i σ H, ⟨_, rfl, Nat.zero_le _, h0⟩, ?_⟩
  rintro i m σ H ⟨rfl, hi, p⟩
  have q := hl i σ H hi p
  rcases Nat.lt_or_ge i xs.length with hlt | hge
  · refine .inr ⟨⟨xs, xs[i], q, by simp [hlt]⟩, Pv (i + 1), fun σ' H' p' => ⟨_, by omega, rfl, hlt, p'⟩, ?_⟩
    rintro x H' ⟨T, y, rfl, hT, rfl, hy⟩
    exact hs i y σ H T (hy xs q) p hT
  · obtain rfl : i = xs.length := by omega
    exact .inl ⟨⟨xs, q, rfl⟩, hd σ H p⟩
theorem for_enumL {K : PySem.W.Frag} {a : Addr} {xs : List V} {g : TG} {tb : TS} {D : Ends} {σ : L2.St} {H : Hp} (Pv : Nat → L2.St → Hp → Prop) (h0 : Pv 0 σ H) (hl : ∀ i σ H, i ≤ xs.length → Pv i σ H → SqL K H a xs)
    (hs : ∀ i x σ H T, xs[i]? = some x → Pv i σ H → H T = none → g (.ref T) σ (upd H T (.tup [.int (i : Nat), x])) fun σ2 H2 => tb { D with nx := Pv (i + 1), ct := Pv (i + 1), bk := D.nx } σ2 H2) (hd : ∀ σ H, Pv xs.length σ H → D.nx σ H) :
    ∃ W : Nat → Nat → L2.St → Hp → Prop, (∃ m, W 0 m σ H) ∧ ∀ i m σ H, W i m σ H →
      ((Ite K a).stop i H ∧ D.nx σ H) ∨ ((Ite K a).go i H ∧ ∃ N : L2.St → Hp → Prop, (∀ σ' H', N σ' H' → ∃ m', m' < m ∧ W (i + 1) m' σ' H') ∧ ∀ x H', (Ite K a).yld i H x H' → g x σ H' fun σ2 H2 => tb { D with nx := N, ct := N, bk := D.nx } σ2 H2) := by
  refine ⟨fun i m σ H => m = xs.length - i ∧ i ≤ xs.length ∧ Pv i σ H, ⟨_, rfl, Nat.zero_le _, h0⟩, ?_⟩
  rintro i m σ H ⟨rfl, hi, p⟩
  have q := hl i σ H hi p
  rcases Nat.lt_or_ge i xs.length with hlt | hge
  · refine .inr ⟨⟨xs, xs[i], q, by simp [hlt]⟩, Pv (i + 1), fun σ' H' p' => ⟨_, by omega, rfl, hlt, p'⟩, ?_⟩
    rintro x H' ⟨T, y, rfl, hT, rfl, hy⟩
    exact hs i y σ H T (hy xs q) p hT
  · obtain rfl : i = xs.length := by omega
    exact .inl ⟨⟨xs, q, Nat.le_refl _⟩, hd σ H p⟩
end Fair

set_option Elab.async false
set_option linter.all false
set_option maxRecDepth 100000
set_option maxHeartbeats 1000000
namespace Fair
open PySem PySem.Spec PyProof.Rows L2
/-! ### a tuple once: the tuple itself -/
theorem tupOnce (l : Addr) (items : Array Value) (n : Nat) (dd : Option Addr) (sl : Array (Option Value)) (u : Tok) : Meets (Builtin.«tuple.__mul__» ⟨[.ref l, .int 1 u], []⟩)
    (fun _ R s => s.heap.get? l = some ⟨.type "tuple", dd, .seq items n, sl⟩ ∧ R (.ok (.ret (.ref l))) s) :=
  .of_wp fun prog w A R s h => by
    obtain ⟨hp, g, d, tk, os⟩ := s
    obtain ⟨hl, h⟩ := h
    have f1 := AutoSeq1.idx_int
    wp_walk using wpAny_loadPart' hl
    exact ⟨_, rfl, h⟩
def rRepOne (K : PySem.W.Frag) : R2 := fun x y H Q => ∃ l xs, x = .ref l ∧ y = .int 1 ∧ SqT K H l xs ∧ Q (.ref l) H
/-- t * k, k at least 1 -/
def rRepU (K : PySem.W.Frag) : R2 := fun x y H Q => rRepOne K x y H Q ∨ rRepT K x y H Q
theorem op_repU {X : Cx} : OpR X (binaryOp .Mult) (rRepU X.K) := by
  intro pins s σ H x y v u Q I rx ry h
  rcases h with h | h
  · obtain ⟨l, xs, rfl, rfl, hT, q⟩ := h
    cases rx
    obtain ⟨t, rfl⟩ := ry
    obtain ⟨its, r, ⟨⟨cls, dd, data, sl⟩, ho, hc, n, hd⟩, hs⟩ := I.tuple hT
    simp only at hc hd
    subst hc hd
    have hend : EP X pins σ Q (.ref l) s := ⟨.ref l, H, I, rfl, q⟩
    refine wpAny_binaryOp_repeat_ref (T := "tuple") (U := "int") (by decide) ⟨_, ho, rfl⟩ (fun s' => typeIs_int s' 1 t) noFill_tuple_mul F.fills_int_mul F.slot_int_rmul repeat_tuple F.slot_int_index.lookup ?_
    refine call_meets F.slot_int_rmul (typeIs_int s 1 t) F.entry_int_rmul (F.args_int_rmul_2 _ _) (int_rmul_tuple 1 t l its.toArray n dd sl) ⟨ho, rfl, ⟨_, ho, rfl⟩, ?_⟩
    exact call_meets F.slot_tuple_mul ⟨_, ho, rfl⟩ F.entry_tuple_mul (F.args_tuple_mul_2 _ _) (tupOnce l its.toArray n dd sl t) ⟨ho, hend⟩
  · exact op_repT pins s σ H x y v u Q I rx ry h
end Fair

set_option Elab.async false
set_option linter.all false
set_option maxRecDepth 100000
set_option maxHeartbeats 1000000
namespace Fair
open PySem PySem.Spec PyProof.Rows L2
/-! ### defs that ask for a repr: no repr is under way -/
structure FnG (P : Program) (w : World) (K : PySem.W.Frag) (mg : Str → Option Value) (base : Heap) (k : Nat) (f : Addr) (fd : FuncData) (ps : List Str) (sp : Sp) : Prop where
  lenG : LenOk sp ps
  runG : ∀ (B : Around) (out : List Env) (t : Shared) (G : Hp) (ar : Args) (us : List Value) (vs : List V) (R : VK) (E : XK), B.guards = some [] → Room k B → Env0 P w K mg base B out t G → BindsTo t fd ar (ps.zip us) → Vals vs us → sp vs G R E →
    codeAny (model P w) B (.call (.ref f) ar) (CR C8.CX0 out P w G t R E) t
abbrev BodyG (P : Program) (w : World) (K : PySem.W.Frag) (mg : Str → Option Value) (base : Heap) (N : List Str) (qual : Str) (st : Stmt) (k : Nat) (sp : Sp) : Prop :=
  ∀ (f : Addr) (cdv : Value) (A : Around) (outer : List Env) (s : Shared) (H : Hp) (vs : List V) (Q : VK) (E : XK), A.guards = some [] → Room k (A.deeper (envOfC qual (defScope st) s.heap.objs.size f cdv)) → sp vs H Q E →
    ∃ t, PSs (cxOf C8.CX0 P w K mg base N qual (defScope st) f cdv A outer s H E).nox (defBody st) t ∧ t { nx := fun _ H' => Q .non H', rt := Q } (start N vs) H
section
variable {P : Program} {w : World} {K : PySem.W.Frag} {mg : Str → Option Value} {base : Heap}
theorem fnG {x qual : Str} {st : Stmt} {f : Addr} {fd : FuncData} {N ps : List Str} {k : Nat} {sp : Sp} (F : FunD K x qual (defArgs st) (defBody st) (defScope st) [] [] f fd) (S : FnScope N ps (defScope st)) (len : LenOk sp ps)
    (hb : BodyG P w K mg base N qual st k sp) : FnG P w K mg base (k + 1) f fd ps sp := by
  obtain ⟨oc, od, dV, kV, doc, pm, an, cdv, ct, osl, rfl, lk, hcd, _, _⟩ := F.ex
  refine ⟨len, fun B out t G ar us vs R E g room env bd rel asked => ?_⟩
  have n1 := len _ _ _ _ asked
  have inK : K.In t.heap := env.mod.kin.keeps fun b o e => (env.bs b o e).1
  have noL : t.heap.NoLimit := env.mod.nolimit.keeps fun b o e => (env.bs b o e).1
  have kinds : ∀ y ∈ ps.zip us, (defScope st).names.lookup y.1 = some .local ∨ ((defScope st).names.lookup y.1 = some .cell ∧ ((cellsFrom (t.heap.objs.size + 1) (defScope st).names []).lookup y.1).isSome = true) := fun ⟨m, v⟩ hy =>
    (S.par m (List.of_mem_zip hy).1).imp id fun z => ⟨z, PySem.W.cellsFrom_some _ _ _ (.inl z)⟩
  refine codeAny_call_function room.depth (inK _ _ lk) rfl S.co S.gen rfl (PySem.W.codeRec_of inK hcd) (bd _ _ _ _ ?_)
  refine wpAny_newFunctionEnv_cells S.kind kinds fun e2 he t1 laid => ?_
  subst he
  refine ⟨noL.keeps laid.toInCall.keep, codeAny_func ?_⟩
  obtain ⟨wk, hw, now⟩ := hb f cdv B out t G vs R E g (room.deeper _) asked
  have I := inv_start (CX := C8.CX0) (E := E) S room.hd env n1 rel laid
  have back : ∀ {σ' : L2.St} {G' : Hp} {v : V} {u : Value} {t' : Shared}, Inv (cxOf C8.CX0 P w K mg base N qual (defScope st) f cdv B out t G E) [] σ' G' t' → RelV v u → R v G' → CE out P w G t R u t' :=
    fun {σ' G' v u t'} J r z => ⟨v, G', J.os, J.bare, J.base, J.hok, r, z⟩
  refine wpAny_mono (hw.nox.run [] t1 (start N vs) G _ I now) (fun fl t' got => ?_) fun e t' got => got
  cases fl with
  | ret u => exact let ⟨_, _, _, J, r, z⟩ := got; back J r z
  | next => exact let ⟨_, _, J, z⟩ := got; back (v := V.non) (u := Value.none) J rfl z
  | brk => exact let ⟨_, _, _, z⟩ := got; False.elim z
  | cont => exact let ⟨_, _, _, z⟩ := got; False.elim z
structure CalG (P : Program) (w : World) (K : PySem.W.Frag) (mg : Str → Option Value) (base : Heap) (k : Nat) (x : Str) (sp : Sp) : Prop where
  exG : ∃ (f : Addr) (fd : FuncData) (ps : List Str), FnG P w K mg base k f fd ps sp ∧ mg x = some (.ref f) ∧ PySem.W.keepIn K (.ref f) = true ∧ Binds K fd ps []
theorem Dx.calG {x : Str} {st : Stmt} {N ps : List Str} {k : Nat} {sp : Sp} (D : Dx K mg x st) (S : FnScope N ps (defScope st)) (b : BindOk x x st ps) (len : LenOk sp ps) (hb : BodyG P w K mg base N x st k sp) : CalG P w K mg base (k + 1) x sp := by
  obtain ⟨f, fd, hm, F⟩ := D.ex
  exact ⟨f, fd, ps, fnG F S len hb, hm, F.kp, F.bindsN b⟩
end
section
variable {X : Cx} {k j : Nat} {x : Str} {sp : Sp} {p pos : Pos} {e : Expr} {es : List Expr} {t : TA}
theorem pe_cG (c : CalG X.prog X.w X.K X.mg X.base k x sp) (g : X.A.guards = some []) (hr : Room j X.A) (hk : k ≤ j) (hg : Gl X x) (ha : PA X (e :: es) t) (hdb : (x == ("__debug__" : Str)) = false := by decide)
    (he : starEach (e :: es) X.env = (false, eval e X.env) :: starEach es X.env := by rfl) (hpl : (backTo pos (starEach es X.env)).any (·.1) = false := by rfl) : PE X (.Call (.Name x p) (e :: es) [] pos) (tCall sp [] C8.E0 t) := by
  obtain ⟨f, fd, ps, F, hm, kp, b⟩ := c.exG
  refine ⟨fun pins s σ H Q I h => wpAny_Call_Name_kw (ld_glob I hg hm (PySem.W.callWith_K (h₀ := X.base) I.ok.mod.kin kp (thn (ha.run pos pins s σ H _ I h) fun us s1 ⟨vs, H1, I1, r, q⟩ => ⟨I1.kIn, ?_⟩) he hpl) hdb)⟩
  have r2 : Vals (vs ++ []) (us ++ []) := r.append .nil
  have n1 : (us ++ []).length = ps.length := r2.length.symm.trans (F.lenG _ _ _ _ q)
  refine wpAny_call (codeAny_mono (F.runG X.A X.stack s1 H1 ⟨us, []⟩ (us ++ []) (vs ++ []) Q C8.E0 g (hr.mono hk) I1.env0 (b s1 us I1.kIn n1) r2 q) fun res s' got => ?_)
  match res, got with
  | .error z, got => exact (show Passes C8.CX0 X C8.E0 from C8.pass0) pins σ H1 s1 z s' I1 got
  | .ok (.ret u), got => exact I1.after got
  | .ok .next, got => exact False.elim got
  | .ok .brk, got => exact False.elim got
  | .ok .cont, got => exact False.elim got
/-- repr(..) of data -/
def rRepr (K : PySem.W.Frag) : List V → Hp → VK → Prop := fun xs H Q => ∃ (a : Addr) (d : PyData), xs = [.ref a] ∧ Dp K H (.ref a) d ∧ d.showable = true ∧ d.hasDict = false ∧ d.depth ≤ 20 ∧ d.shown.length ≤ sizeLine ∧ Q (.str d.shown) H
theorem call_reprD (g : X.A.guards = some []) (hr : Room j X.A) : CallR X (.builtin "repr") (rRepr X.K) := by
  intro pins s σ H xs us Q I r h
  obtain ⟨a, d, rfl, hd, h1, h2, h3, h4, q⟩ := h
  obtain ⟨u, rfl, rx⟩ := vals1 r
  cases rx
  obtain ⟨as, rd⟩ := Dp.reads I d (.ref a) (.ref a) hd rfl
  have un := hr.un
  exact repr_of_reads' rd h1 (fun z => by rw [h2] at z; cases z) g (by omega) (fun b o e => e) (fun h' u tk kp => ⟨.str d.shown, H, I.kept (t' := tk) kp, ⟨_, rfl⟩, q⟩) h4
end
end Fair

set_option Elab.async false
set_option linter.all false
set_option maxRecDepth 100000
set_option maxHeartbeats 1000000
namespace Fair
open PySem PySem.Spec PyProof.Rows L2
/-! ### the law's call, no repr under way -/
section
variable {P : Program} {w : World} {K : PySem.W.Frag} {mg mb : Str → Option Value} {k : Nat} {fa a : Addr} {fd : FuncData} {x : Str} {sp : Sp} {t : Shared} {vs : List Value} {ns : List Int}
abbrev EndG (t : Shared) (r : Result) (t' : Shared) : Prop := r = .ok (.ret (.bool true)) ∧ OldK t.heap t'.heap ∧ t'.os = t.os ∧ AllBare t'.gens
theorem coreG (inK : K.In t.heap) (nsm : t.heap.Ns mainGlobals mg) (nsb : t.heap.Ns builtinsNs mb) (boot : ∀ y : Str, y ≠ "__name__" → mb y = bootBuiltins y) (noL : t.heap.NoLimit) (bare : t.gens = #[])
    (ea : t.heap.get? a = some { cls := .type "list", data := .seq vs.toArray }) (room : Room k callerA) (F : ∀ base : Heap, K.In base → base.Ns mainGlobals mg → FnG P w K mg base k fa fd [x] sp)
    (bd : ∀ (s : Shared) (u : Value), BindsTo s fd ⟨[u], []⟩ [(x, u)]) (ask : ∀ H : Hp, Only H → SqL K H a (ns.map V.int) → sp [.ref a] H (fun v _ => v = .bl true) C8.E0)
    (G : Hp) (only : Only G) (sq : SqL K G a (ns.map V.int)) (hok : HOk P w G t.heap) (at_a : ∀ b, G b ≠ none → b = a) (notK : G a ≠ none → K.lookup a = none) : codeAny (model P w) callerA (.call (.ref fa) ⟨[.ref a], []⟩) (EndG t) t := by
  have under : ∀ {b : Addr} {o : Obj}, t.heap.get? b = some o → G b = none → (hidT t.heap G).get? b = some o := fun e n => hidT_get e n
  have noDict : ∀ {b : Addr} {o : Obj} {es : Array DictEntry} {ep : Nat}, t.heap.get? b = some o → o.data = .dict es ep → G b = none := fun {b o es ep} e d => by
    cases z : G b with
    | none => rfl
    | some u =>
      obtain rfl := at_a b (by rw [z]; simp)
      rw [ea] at e
      obtain rfl := Option.some.inj e
      cases (show Data.seq vs.toArray _ = Data.dict es ep from d)
  have nsG : ∀ {b : Addr} {m : Str → Option Value}, t.heap.Ns b m → (hidT t.heap G).Ns b m := fun {b m} ⟨o, es, ep, e, d, r⟩ => ⟨o, es, ep, under e (noDict e d), d, r⟩
  have kG : K.In (hidT t.heap G) := fun b o e => under (inK b o e) (by
    cases z : G b with
    | none => rfl
    | some u =>
      have nb : G b ≠ none := by rw [z]; simp
      obtain rfl := at_a b nb
      rw [notK nb] at e; cases e)
  have mod : Mod K mg (hidT t.heap G) := ⟨kG, nsG nsm, ⟨mb, nsG nsb, boot⟩, let ⟨mc, h1, h2⟩ := noL; ⟨mc, nsG h1, h2⟩⟩
  have env : Env0 P w K mg (hidT t.heap G) callerA [] t G :=
    ⟨rfl, mod, fun b o e => of_hidT e, Nat.le_of_eq (hidT_size _ _), trivial, fun b hb => absurd (show b ∈ ([] : List Addr) from hb) (by simp), hok, .of_eq bare⟩
  refine codeAny_mono ((F _ kG (nsG nsm)).runG callerA [] t G ⟨[.ref a], []⟩ [.ref a] [.ref a] _ _ rfl room env (bd t (.ref a)) (.cons rfl .nil) (ask G only sq)) fun r t' got => ?_
  match r, got with
  | .error e, got => exact False.elim got
  | .ok .next, got => exact False.elim got
  | .ok .brk, got => exact False.elim got
  | .ok .cont, got => exact False.elim got
  | .ok (.ret u), got =>
    obtain ⟨v, G', os, brs, un, hok', rel, ev⟩ := got
    obtain rfl : v = .bl true := ev
    obtain rfl : u = Value.bool true := rel
    refine ⟨rfl, OldK.of_keep fun b o e => ?_, os, brs⟩
    cases z : G b with
    | none => exact un.keep b o e z (fun y => absurd (show b ∈ ([] : List Addr) from y) (by simp)) (by simp)
    | some u =>
      rcases only b with y | ⟨ob, xs, y⟩
      · rw [z] at y; cases y
      · obtain ⟨f1, _⟩ := hok b _ y
        obtain ⟨f2, _⟩ := hok' b _ (un.frzs b ob _ y)
        rw [e] at f1
        obtain rfl := Option.some.inj f1
        exact f2
theorem law_callG (inK : K.In t.heap) (nsm : t.heap.Ns mainGlobals mg) (nsb : t.heap.Ns builtinsNs mb) (boot : ∀ y : Str, y ≠ "__name__" → mb y = bootBuiltins y) (noL : t.heap.NoLimit) (bare : t.gens = #[])
    (ea : t.heap.get? a = some { cls := .type "list", data := .seq vs.toArray }) (nums : IntsAre vs ns) (len : ns.length ≤ sizeLine) (room : Room k callerA) (F : ∀ base : Heap, K.In base → base.Ns mainGlobals mg → FnG P w K mg base k fa fd [x] sp)
    (bd : ∀ (s : Shared) (u : Value), BindsTo s fd ⟨[u], []⟩ [(x, u)]) (ask : ∀ H : Hp, Only H → SqL K H a (ns.map V.int) → sp [.ref a] H (fun v _ => v = .bl true) C8.E0) : codeAny (model P w) callerA (.call (.ref fa) ⟨[.ref a], []⟩) (EndG t) t := by
  have rel := vals_ints nums
  have n1 := nums.length
  by_cases hk : K.lookup a = none
  · let G : Hp := fun b => if b = a then some (.frz { cls := .type "list", data := .seq vs.toArray } (.lst (ns.map V.int))) else none
    have ga : G a = some (.frz { cls := .type "list", data := .seq vs.toArray } (.lst (ns.map V.int))) := if_pos rfl
    have gn : ∀ b, b ≠ a → G b = none := fun b h => if_neg h
    refine coreG inK nsm nsb boot noL bare ea room F bd ask G (fun b => ?_) (.inl (.inr ⟨_, ga⟩)) (fun b u z => ?_) (fun b z => ?_) fun _ => hk
    · by_cases e : b = a
      · subst e; exact .inr ⟨_, _, ga⟩
      · exact .inl (gn b e)
    · by_cases e : b = a
      · subst e
        rw [ga] at z
        obtain rfl := Option.some.inj z
        exact ⟨ea, by rw [List.length_map]; exact len, vs, _, rel, ea⟩
      · rw [gn b e] at z; cases z
    · exact Classical.byContradiction fun e => z (gn b e)
  · obtain ⟨o, e⟩ := Option.ne_none_iff_exists'.mp hk
    have e2 := inK a o e
    rw [ea] at e2
    obtain rfl := Option.some.inj e2
    exact coreG inK nsm nsb boot noL bare ea room F bd ask (fun _ => none) (fun _ => .inl rfl) (.inr ⟨_, vs.toArray, _, e, rfl, rfl, rfl, by rw [List.size_toArray, n1]; exact len, by simpa using rel⟩) (fun b u z => by cases z) (fun b z => absurd rfl z) fun z => absurd rfl z
end
theorem walkG {l : PySem.W.OpenLaw} {n k : Nat} {q : Program} {loose : List Str} {XP : (Str → Option Value) → Heap → Prop} {YP : World → Heap → Prop} {d : DefRec} {x : Str} (most : l.most = some n) (small : n ≤ sizeLine) (nodef : d.params.defaults = []) (room : Room k callerA)
    (F : ∀ (w : World) (mg : Str → Option Value) (fa : Addr) (h : Heap), YP w h → h.Ns mainGlobals mg → mg d.name = some (.ref fa) →
      ∃ (K : PySem.W.Frag) (fd : FuncData) (sp : Sp), K.In h ∧ (∀ (s : Shared) (u : Value), BindsTo s fd ⟨[u], []⟩ [(x, u)]) ∧ (∀ (H : Hp) (a : Addr) (ns : List Int), ns.length ≤ n → Only H → SqL K H a (ns.map V.int) → sp [.ref a] H (fun v _ => v = .bl true) C8.E0) ∧
        ∀ base : Heap, K.In base → base.Ns mainGlobals mg → FnG l.prog w K mg base k fa fd [x] sp) : PySem.W.WalkO q loose XP YP l.row.toRowW d [] (fun f vs => PySem.call f vs) := by
  refine Att.attach_call most nodef fun w t0 t1 mg mb fa o pm cd doc a vs ns G Y ho hd hcd named listed nums len bare => ?_
  obtain ⟨K, fd, sp, inK, bd, ask, FF⟩ := F w mg fa _ Y G.T.g named
  exact law_callG inK G.T.g G.T.b G.T.builtins G.T.nolimit bare listed nums (Nat.le_trans len small) room FF bd fun H only sq => ask H a ns len only sq
end Fair

set_option Elab.async false
set_option linter.all false
set_option maxRecDepth 100000
set_option maxHeartbeats 4000000
namespace Fair
open PySem PySem.Spec PyProof.Rows L2
/-! ### where the classes stand; what is known of the text -/
def cE (K : PySem.W.Frag) : Addr := He.ga K "Exact"
def cW (K : PySem.W.Frag) : Addr := He.ga K "Web"
def cT (K : PySem.W.Frag) : Addr := He.ga K "Table"
structure TX (K : PySem.W.Frag) (mg : Str → Option Value) : Prop where
  mgE : mg "Exact" = some (.ref (cE K))
  clE : Cls K (cE K)
  nTop : NoAttr K (cE K) "top"
  nBot : NoAttr K (cE K) "bottom"
  sfE : PySem.W.selfFirst K (cE K) = true
  neE : PySem.W.findIn K (.ref (cE K)) "__ne__" = some (some (.builtin "object.__ne__"))
  obE : PySem.W.subIn K (.ref (cE K)) (.type "object") = some true
  inE : C8.InsC K (cE K)
  clW : Cls K (cW K)
  nWares : NoAttr K (cW K) "wares"
  nStalls : NoAttr K (cW K) "stalls"
  clT : Cls K (cT K)
  nSl : NoAttr K (cT K) "slants"
  nBe : NoAttr K (cT K) "beside"
  nGo : NoAttr K (cT K) "gone"
  f_isinstance : mg "isinstance" = none
  f_abs : mg "abs" = none
  f_len : mg "len" = none
  f_all : mg "all" = none
  f_any : mg "any" = none
  f_range : mg "range" = none
  f_list : mg "list" = none
  f_tuple : mg "tuple" = none
  f_dict : mg "dict" = none
  f_sorted : mg "sorted" = none
  f_enumerate : mg "enumerate" = none
  f_zip : mg "zip" = none
  f_int : mg "int" = none
  f_min : mg "min" = none
  f_repr : mg "repr" = none
  f_bool : mg "bool" = none
  mWares : ∃ u, mg "MOST_WARES" = some u ∧ RelV (.int 8) u
  mStalls : ∃ u, mg "MOST_STALLS" = some u ∧ RelV (.int 16) u
/-! ### heaps that have grown -/
theorem same_of_upd {H H1 : Hp} {p : Addr} {o : HO} (s : Same H H1) (n : H1 p = none) : Same H (upd H1 p o) := fun b u e => by
  rw [upd_ne (ne_of_none (s b u e) n)]
  exact s b u e
theorem same_upd1 {H : Hp} {p : Addr} {o : HO} (n : H p = none) : Same H (upd H p o) := same_of_upd (Same.refl H) n
theorem same_tup {K : PySem.W.Frag} {H H' : Hp} {a : Addr} {xs : List V} (e : Same H H') (h : SqT K H a xs) : SqT K H' a xs := by
  rcases h with (h | ⟨o, h⟩) | h
  · exact .inl (.inl (e _ _ h))
  · exact .inl (.inr ⟨o, e _ _ h⟩)
  · exact .inr h
/-! ### numbers as the package keeps them: an instance of Exact; a pair -/
def exF (r : Rat) : List (Str × V) := [("top", .int r.num), ("bottom", .int r.den)]
def ExAt (K : PySem.W.Frag) (H : Hp) (p : Addr) (r : Rat) : Prop := ∃ dx, H p = some (.ins (cE K) dx (exF r))
def FrAt (K : PySem.W.Frag) (H : Hp) (p : Addr) (r : Rat) : Prop := SqT K H p [.int r.num, .int r.den]
theorem ExAt.same {K : PySem.W.Frag} {H H' : Hp} {p : Addr} {r : Rat} (h : ExAt K H p r) (s : Same H H') : ExAt K H' p r := by
  obtain ⟨dx, e⟩ := h
  exact ⟨dx, s _ _ e⟩
theorem FrAt.same {K : PySem.W.Frag} {H H' : Hp} {p : Addr} {r : Rat} (h : FrAt K H p r) (s : Same H H') : FrAt K H' p r := same_tup s h
theorem exF_top (r : Rat) : (exF r).lookup ("top" : Str) = some (.int r.num) := rfl
theorem exF_bot (r : Rat) : (exF r).lookup ("bottom" : Str) = some (.int r.den) := by
  unfold exF
  rw [List.lookup_cons, show (("bottom" : Str) == "top") = false by decide +kernel, List.lookup_cons, show (("bottom" : Str) == "bottom") = true by decide +kernel]
theorem exF_no {r : Rat} {m : Str} (h1 : ¬ m = "top") (h2 : ¬ m = "bottom") : (exF r).lookup m = none := by
  unfold exF
  rw [List.lookup_cons, beq_eq_false_iff_ne.mpr h1, List.lookup_cons, beq_eq_false_iff_ne.mpr h2]
  rfl
theorem exF_put (r : Rat) : putF "bottom" (.int r.den) (putF "top" (.int r.num) []) = exF r := by
  show (if ("top" : Str) = "bottom" then _ else ((("top" : Str), V.int r.num) :: putF "bottom" (V.int r.den) [])) = _
  rw [if_neg (by decide +kernel)]
  rfl
/-- of a size with which all is reckoned -/
def Sm (n : Nat) (r : Rat) : Prop := r.num.natAbs < 2 ^ n ∧ r.den < 2 ^ n
abbrev Ok (r : Rat) : Prop := Sm 4400 r
theorem Sm.mono {n m : Nat} {r : Rat} (h : Sm n r) (hm : n ≤ m) : Sm m r := ⟨Nat.lt_of_lt_of_le h.1 (Nat.pow_le_pow_right (by decide) hm), Nat.lt_of_lt_of_le h.2 (Nat.pow_le_pow_right (by decide) hm)⟩
theorem ok_den {r : Rat} (h : Ok r) : ((r.den : Int)).natAbs < 2 ^ 4400 := h.2
theorem mul_ok {i j : Int} (h1 : i.natAbs < 2 ^ 4400) (h2 : j.natAbs < 2 ^ 4400) : CMulW i j := wide_mul h1 h2 (by decide) (by decide) (by decide)
theorem mul_lt {i j : Int} (h1 : i.natAbs < 2 ^ 4400) (h2 : j.natAbs < 2 ^ 4400) : (i * j).natAbs < 2 ^ 9000 := Nat.lt_of_lt_of_le (wide_lt h1 h2) (Nat.pow_le_pow_right (by decide) (by decide))
theorem mul_lt' {i : Int} (h1 : i.natAbs < 2 ^ 4400) : i.natAbs < 2 ^ 9000 := Nat.lt_of_lt_of_le h1 (Nat.pow_le_pow_right (by decide) (by decide))
/-! ### the promises of the numbers -/
def spIsInteger : Sp := fun vs H Q _ => ∃ i : Int, vs = [.int i] ∧ Q (.bl true) H
def spCommon : Sp := fun vs H Q _ => ∃ a b : Int, vs = [.int a, .int b] ∧ Q (.int (Int.gcd a b)) H
def spExactInit (K : PySem.W.Frag) : Sp := fun vs H Q _ => ∃ (p dx : Addr) (a b : Int), vs = [.ref p, .int a, .int b] ∧ H p = some (.ins (cE K) dx []) ∧ 0 < b ∧ b.natAbs < 2 ^ 9000 ∧
  ∀ H' : Hp, ExAt K H' p (Rat.divInt a b) → (∀ c o, H c = some o → c ≠ p → H' c = some o) → Q .non H'
/-- a new number is the answer -/
def spEx2 (K : PySem.W.Frag) (c : Rat → Rat → Prop) (g : Rat → Rat → Rat) : Sp := fun vs H Q _ => ∃ (a b : Addr) (r s : Rat), vs = [.ref a, .ref b] ∧ ExAt K H a r ∧ ExAt K H b s ∧ Ok r ∧ Ok s ∧ c r s ∧
  ∀ (p : Addr) (H' : Hp), Same H H' → H p = none → ExAt K H' p (g r s) → Q (.ref p) H'
def spEx1 (K : PySem.W.Frag) (g : Rat → Rat) : Sp := fun vs H Q _ => ∃ (a : Addr) (r : Rat), vs = [.ref a] ∧ ExAt K H a r ∧ Ok r ∧
  ∀ (p : Addr) (H' : Hp), Same H H' → H p = none → ExAt K H' p (g r) → Q (.ref p) H'
abbrev spAdd (K : PySem.W.Frag) : Sp := spEx2 K (fun _ _ => True) (· + ·)
abbrev spSub (K : PySem.W.Frag) : Sp := spEx2 K (fun _ _ => True) (· - ·)
abbrev spMul (K : PySem.W.Frag) : Sp := spEx2 K (fun _ _ => True) (· * ·)
abbrev spOver (K : PySem.W.Frag) : Sp := spEx2 K (fun _ s => 0 < s) (· / ·)
abbrev spSquare (K : PySem.W.Frag) : Sp := spEx1 K fun r => r * r
def spEq (K : PySem.W.Frag) : Sp := fun vs H Q _ => ∃ (a b : Addr) (r s : Rat), vs = [.ref a, .ref b] ∧ ExAt K H a r ∧ ExAt K H b s ∧ Q (.bl (decide (r = s))) H
def sgn (r : Rat) : Int := if 0 < r then 1 else if r < 0 then -1 else 0
def spSign (K : PySem.W.Frag) : Sp := fun vs H Q _ => ∃ (a : Addr) (r : Rat), vs = [.ref a] ∧ ExAt K H a r ∧ Q (.int (sgn r)) H
def spPair (K : PySem.W.Frag) : Sp := fun vs H Q _ => ∃ (a : Addr) (r : Rat), vs = [.ref a] ∧ ExAt K H a r ∧ ∀ (p : Addr) (H' : Hp), Same H H' → H p = none → FrAt K H' p r → Q (.ref p) H'
def spExact (K : PySem.W.Frag) : Sp := fun vs H Q _ => ∃ (a : Addr) (r : Rat), vs = [.ref a] ∧ FrAt K H a r ∧ Ok r ∧
  ∀ (p : Addr) (H' : Hp), Same H H' → H p = none → ExAt K H' p r → Q (.ref p) H'
/-! ### tests whose answer is known -/
theorem iteD {c A B : Prop} [Decidable c] (hc : c) (h : A) : if decide c = true then A else B := by
  rw [decide_eq_true hc, if_pos rfl]; exact h
theorem iteDN {c A B : Prop} [Decidable c] (hc : ¬ c) (h : B) : if decide c = true then A else B := by
  rw [decide_eq_false hc, if_neg Bool.false_ne_true]; exact h
theorem iteND {c A B : Prop} [Decidable c] (hc : ¬ c) (h : A) : if (!decide c) = true then A else B := by
  rw [decide_eq_false hc]; exact iteT h
theorem iteB {b : Bool} {A B : Prop} (hb : b = true) (h : A) : if b = true then A else B := by rw [if_pos hb]; exact h
theorem iteBN {b : Bool} {A B : Prop} (hb : b = false) (h : B) : if b = true then A else B := by rw [hb]; exact iteF h
/-! ### classes of values, asked -/
theorem kII {K : PySem.W.Frag} : PySem.W.kitOne K (.type "int") (.type "int") = some true := kit_ty (by decide +kernel)
theorem kIB {K : PySem.W.Frag} : PySem.W.kitOne K (.type "int") (.type "bool") = some false := kit_ty (by decide +kernel)
theorem kTT {K : PySem.W.Frag} : PySem.W.kitOne K (.type "tuple") (.type "tuple") = some true := kit_ty (by decide +kernel)
theorem kTL {K : PySem.W.Frag} : PySem.W.kitOne K (.type "tuple") (.type "list") = some false := kit_ty (by decide +kernel)
theorem kLL {K : PySem.W.Frag} : PySem.W.kitOne K (.type "list") (.type "list") = some true := kit_ty (by decide +kernel)
theorem kLT {K : PySem.W.Frag} : PySem.W.kitOne K (.type "list") (.type "tuple") = some false := kit_ty (by decide +kernel)
theorem tyX_tup {K : PySem.W.Frag} {H : Hp} {a : Addr} {xs : List V} (h : SqT K H a xs) : TyX K H (.ref a) (.type "tuple") := by
  rcases h with (h | ⟨o, h⟩) | ⟨o, its, n, h1, h2, _⟩
  · exact .base (.tup h)
  · exact .fTuple h
  · exact .kTuple h1 h2
theorem tyX_lst {K : PySem.W.Frag} {H : Hp} {a : Addr} {xs : List V} (h : SqL K H a xs) : TyX K H (.ref a) (.type "list") := by
  rcases h with (h | ⟨o, h⟩) | ⟨o, its, n, h1, h2, _⟩
  · exact .base (.lst h)
  · exact .base (.frz h)
  · exact .kList h1 h2
end Fair

set_option Elab.async false
set_option linter.all false
set_option maxRecDepth 100000
set_option maxHeartbeats 1000000
namespace Fair
open PySem PySem.Spec PyProof.Rows L2
/-! ### rows of things -/
def Each {α : Type} (R : Addr → α → Prop) (as : List Addr) (xs : List α) : Prop := as.length = xs.length ∧ ∀ (i : Nat) a x, as[i]? = some a → xs[i]? = some x → R a x
section
variable {α : Type} {R R' : Addr → α → Prop} {as : List Addr} {xs : List α}
theorem Each.mono (h : Each R as xs) (f : ∀ a x, R a x → R' a x) : Each R' as xs := ⟨h.1, fun i a x h1 h2 => f a x (h.2 i a x h1 h2)⟩
theorem Each.nil : Each R [] [] := ⟨rfl, fun i a x h => by simp at h⟩
theorem Each.snoc {a : Addr} {x : α} (h : Each R as xs) (r : R a x) : Each R (as ++ [a]) (xs ++ [x]) := by
  refine ⟨by simp [h.1], fun i b y h1 h2 => ?_⟩
  rcases Nat.lt_trichotomy i as.length with q | q | q
  · rw [List.getElem?_append_left q] at h1
    rw [List.getElem?_append_left (by rw [← h.1]; exact q)] at h2
    exact h.2 i b y h1 h2
  · subst q
    rw [List.getElem?_append_right (Nat.le_refl _)] at h1
    rw [h.1, List.getElem?_append_right (Nat.le_refl _)] at h2
    simp at h1 h2
    subst h1 h2
    exact r
  · rw [List.getElem?_append_right (by omega), List.getElem?_singleton, if_neg (by omega)] at h1
    cases h1
theorem Each.get {y : V} {i : Nat} (h : Each R as xs) (e : (as.map V.ref)[i]? = some y) : ∃ a x, y = V.ref a ∧ as[i]? = some a ∧ xs[i]? = some x ∧ R a x := by
  rw [List.getElem?_map] at e
  cases q : as[i]? with
  | none => rw [q] at e; cases e
  | some a =>
    rw [q] at e
    cases e
    have hl : i < xs.length := by rw [← h.1]; exact (List.getElem?_eq_some_iff.mp q).1
    exact ⟨a, xs[i], rfl, rfl, List.getElem?_eq_getElem hl, h.2 i a _ q (List.getElem?_eq_getElem hl)⟩
theorem Each.of {x : α} {i : Nat} (h : Each R as xs) (e : xs[i]? = some x) : ∃ a, as[i]? = some a ∧ R a x := by
  have hl : i < as.length := by rw [h.1]; exact (List.getElem?_eq_some_iff.mp e).1
  exact ⟨as[i], List.getElem?_eq_getElem hl, h.2 i _ x (List.getElem?_eq_getElem hl) e⟩
end
theorem refs_get {as : List Addr} {y : V} {i : Nat} (e : (as.map V.ref)[i]? = some y) : ∃ a, y = V.ref a ∧ as[i]? = some a := by
  rw [List.getElem?_map] at e
  cases q : as[i]? with
  | none => rw [q] at e; cases e
  | some a => rw [q] at e; cases e; exact ⟨a, rfl, rfl⟩
theorem refs_at {as : List Addr} {a : Addr} {i : Nat} (h : as[i]? = some a) : (as.map V.ref)[i]? = some (V.ref a) := by rw [List.getElem?_map, h]; rfl
theorem ints_get {ns : List Int} {y : V} {i : Nat} (e : (ns.map V.int)[i]? = some y) : ∃ a, y = V.int a ∧ ns[i]? = some a := by
  rw [List.getElem?_map] at e
  cases q : ns[i]? with
  | none => rw [q] at e; cases e
  | some a => rw [q] at e; cases e; exact ⟨a, rfl, rfl⟩
/-! ### dicts whose keys are small numbers -/
def dkv (ks : List Nat) (g : Nat → V) : List (Key × V) := ks.map fun (j : Nat) => ((Sum.inl (j : Int) : Key), g j)
theorem inl_ne {i j : Nat} (h : ¬ i = j) : ¬ (Sum.inl (i : Int) : Key) = Sum.inl (j : Int) := fun q => h (Int.ofNat.inj (Sum.inl.inj q))
theorem valV_dkv (g : Nat → V) (i : Nat) : ∀ ks : List Nat, valV (dkv ks g) (Sum.inl (i : Int)) = if i ∈ ks then some (g i) else none
  | [] => by simp [dkv, valV]
  | j :: r => by
    have ih := valV_dkv g i r
    by_cases h : j = i
    · subst h
      rw [if_pos List.mem_cons_self]
      exact valV_pos (p := (Sum.inl (j : Int), g j)) rfl
    · have h' : ¬ (Sum.inl (j : Int) : Key) = Sum.inl (i : Int) := fun q => h (Int.ofNat.inj (Sum.inl.inj q))
      have e : valV (dkv (j :: r) g) (Sum.inl (i : Int)) = valV (dkv r g) (Sum.inl (i : Int)) := valV_neg (p := (Sum.inl (j : Int), g j)) h'
      rw [e, ih]
      by_cases hm : i ∈ r
      · rw [if_pos hm, if_pos (List.mem_cons_of_mem _ hm)]
      · rw [if_neg hm, if_neg (by simp [hm]; exact fun q => h q.symm)]
theorem dkv_keys (ks : List Nat) (g : Nat → V) : (dkv ks g).map (·.1) = (ks.map Int.ofNat).map Sum.inl := by
  unfold dkv
  rw [List.map_map, List.map_map]
  rfl
theorem putK_dkv (ks : List Nat) (g : Nat → V) (i : Nat) (v : V) : putK (dkv ks g) (Sum.inl (i : Int)) v = dkv (if i ∈ ks then ks else ks ++ [i]) (fun j => if j = i then v else g j) := by
  have ha : ((dkv ks g).any fun kv => decide (kv.1 = Sum.inl (i : Int))) = decide (i ∈ ks) := by
    rw [valV_any, valV_dkv]
    by_cases h : i ∈ ks <;> simp [h]
  unfold putK
  rw [ha]
  by_cases h : i ∈ ks
  · rw [if_pos (by simpa using h), if_pos h]
    unfold dkv
    rw [List.map_map]
    refine List.map_congr_left fun j hj => ?_
    show (if (Sum.inl (j : Int) : Key) = Sum.inl (i : Int) then _ else _) = _
    by_cases e : j = i
    · subst e; simp
    · rw [if_neg (inl_ne e)]
      show _ = ((Sum.inl (j : Int) : Key), if j = i then v else g j)
      rw [if_neg e]
  · rw [if_neg (by simpa using h), if_neg h]
    unfold dkv
    rw [List.map_append]
    congr 1
    · refine List.map_congr_left fun j hj => ?_
      have e : ¬ j = i := fun e => h (by rw [← e]; exact hj)
      show _ = ((Sum.inl (j : Int) : Key), if j = i then v else g j)
      rw [if_neg e]
    · simp
theorem dropK_dkv (ks : List Nat) (g : Nat → V) (i : Nat) : dropK (dkv ks g) (Sum.inl (i : Int)) = dkv (ks.filter fun j => decide (j ≠ i)) g := by
  unfold dropK dkv
  rw [List.filter_map]
  congr 1
  refine List.filter_congr fun j hj => ?_
  show decide ((Sum.inl (j : Int) : Key) ≠ Sum.inl (i : Int)) = decide (j ≠ i)
  by_cases e : j = i
  · subst e; simp
  · rw [decide_eq_true e, decide_eq_true (inl_ne e)]
/-! ### stalls, webs -/
structure Stl where
  u : Nat
  v : Nat
  h : Rat
  g : Rat
  r : Rat
/-- a whole number of the smallest parts, so many of the greatest amounts at most -/
def Nq (m : Nat) (x : Rat) : Prop := ∃ z : Int, x = (z : Rat) / 518400 ∧ z.natAbs ≤ m * 447897600
structure StlOk (n : Nat) (s : Stl) : Prop where
  un : s.u < n
  vn : s.v < n
  ne : s.u ≠ s.v
  h0 : 0 < s.h
  g0 : 0 < s.g
  r0 : 0 < s.r
  rt : s.h * s.g = s.r * s.r
  hq : Nq 1 s.h
  gq : Nq 1 s.g
  rq : Nq 1 s.r
structure WebOk (n : Nat) (ss : List Stl) : Prop where
  n1 : 1 ≤ n
  n8 : n ≤ 8
  len : ss.length ≤ 16
  ok : ∀ s ∈ ss, StlOk n s
def StlAt (K : PySem.W.Frag) (H : Hp) (a : Addr) (s : Stl) : Prop := ∃ th tg tr, SqT K H a [.int s.u, .int s.v, .ref th, .ref tg, .ref tr] ∧ FrAt K H th s.h ∧ FrAt K H tg s.g ∧ FrAt K H tr s.r
theorem StlAt.same {K : PySem.W.Frag} {H H' : Hp} {a : Addr} {s : Stl} (h : StlAt K H a s) (e : Same H H') : StlAt K H' a s := by
  obtain ⟨th, tg, tr, h0, h1, h2, h3⟩ := h
  exact ⟨th, tg, tr, same_tup e h0, h1.same e, h2.same e, h3.same e⟩
/-- a list, a tuple of stalls -/
def LstS (K : PySem.W.Frag) (H : Hp) (a : Addr) (ss : List Stl) : Prop := ∃ as, H a = some (.lst (as.map V.ref)) ∧ Each (StlAt K H) as ss
def TupS (K : PySem.W.Frag) (H : Hp) (a : Addr) (ss : List Stl) : Prop := ∃ as, SqT K H a (as.map V.ref) ∧ Each (StlAt K H) as ss
theorem TupS.same {K : PySem.W.Frag} {H H' : Hp} {a : Addr} {ss : List Stl} (h : TupS K H a ss) (e : Same H H') : TupS K H' a ss := by
  obtain ⟨as, h0, h1⟩ := h
  exact ⟨as, same_tup e h0, h1.mono fun _ _ q => q.same e⟩
theorem LstS.same {K : PySem.W.Frag} {H H' : Hp} {a : Addr} {ss : List Stl} (h : LstS K H a ss) (e : Same H H') : LstS K H' a ss := by
  obtain ⟨as, h0, h1⟩ := h
  exact ⟨as, e _ _ h0, h1.mono fun _ _ q => q.same e⟩
def wbF (n : Nat) (t : Addr) : List (Str × V) := [("wares", .int n), ("stalls", .ref t)]
theorem wbF_w (n : Nat) (t : Addr) : (wbF n t).lookup ("wares" : Str) = some (.int n) := rfl
theorem wbF_s (n : Nat) (t : Addr) : (wbF n t).lookup ("stalls" : Str) = some (.ref t) := by
  unfold wbF
  rw [List.lookup_cons, show (("stalls" : Str) == "wares") = false by decide +kernel, List.lookup_cons, show (("stalls" : Str) == "stalls") = true by decide +kernel]
theorem wbF_put (n : Nat) (t : Addr) : putF "stalls" (.ref t) (putF "wares" (.int n) []) = wbF n t := by
  show (if ("wares" : Str) = "stalls" then _ else ((("wares" : Str), V.int n) :: putF "stalls" (V.ref t) [])) = _
  rw [if_neg (by decide +kernel)]
  rfl
def WebAt (K : PySem.W.Frag) (H : Hp) (p : Addr) (n : Nat) (ss : List Stl) : Prop := ∃ dx t, H p = some (.ins (cW K) dx (wbF n t)) ∧ TupS K H t ss
theorem WebAt.same {K : PySem.W.Frag} {H H' : Hp} {p : Addr} {n : Nat} {ss : List Stl} (h : WebAt K H p n ss) (e : Same H H') : WebAt K H' p n ss := by
  obtain ⟨dx, t, h0, h1⟩ := h
  exact ⟨dx, t, e _ _ h0, h1.same e⟩
/-! ### sizes of such amounts -/
theorem sm_of_div {x : Rat} {z : Int} {d : Nat} {a b : Nat} (e : x = (z : Rat) / (d : Rat)) (hd : 0 < d) (hz : z.natAbs < 2 ^ a) (hb : d < 2 ^ b) : x.num.natAbs < 2 ^ a ∧ x.den < 2 ^ b := by
  have e2 : x = Rat.divInt z d := by rw [e, Rat.divInt_eq_div, Rat.intCast_natCast]
  subst e2
  have g0 : 0 < Int.gcd z d := Int.gcd_pos_iff.mpr (.inr (by omega))
  have hn := div_num (a := z) (b := (d : Int)) (by omega)
  have hden := div_den (a := z) (b := (d : Int)) (by omega)
  constructor
  · rw [← hn]
    refine Nat.lt_of_le_of_lt ?_ hz
    exact Int.natAbs_ediv_le_natAbs _ _
  · have : ((Rat.divInt z d).den : Int) ≤ d := by
      rw [← hden]
      exact Int.ediv_le_self _ (by omega)
    omega
theorem Nq.sm {m : Nat} {x : Rat} (h : Nq m x) (hm : m ≤ 16) : Sm 33 x := by
  obtain ⟨z, e, hz⟩ := h
  have := sm_of_div (d := 518400) (a := 33) (b := 33) (by simpa using e) (by decide) (by omega) (by decide)
  exact this
theorem Nq.ok {m : Nat} {x : Rat} (h : Nq m x) (hm : m ≤ 16) : Ok x := (h.sm hm).mono (by decide)
theorem Nq.mono {m k : Nat} {x : Rat} (h : Nq m x) (hm : m ≤ k) : Nq k x := by
  obtain ⟨z, e, hz⟩ := h
  exact ⟨z, e, Nat.le_trans hz (Nat.mul_le_mul_right _ hm)⟩
theorem Nq.zero {m : Nat} : Nq m 0 := ⟨0, by simp [Rat.div_def], by simp⟩
theorem Nq.add {m k : Nat} {x y : Rat} (h : Nq m x) (h' : Nq k y) : Nq (m + k) (x + y) := by
  obtain ⟨z, e, hz⟩ := h
  obtain ⟨z', e', hz'⟩ := h'
  refine ⟨z + z', ?_, ?_⟩
  · rw [e, e', Rat.intCast_add, Rat.div_def, Rat.div_def, Rat.div_def, Rat.add_mul]
  · rw [Nat.add_mul]
    omega
end Fair

set_option Elab.async false
set_option linter.all false
set_option maxRecDepth 100000
set_option maxHeartbeats 1000000
namespace Fair
open PySem PySem.Spec PyProof.Rows L2
/-! ### all but lists and dicts stands as it was -/
def stands : HO → Prop
  | .lst _ => False
  | .dK _ => False
  | _ => True
def Imm (H H' : Hp) : Prop := ∀ b o, H b = some o → stands o → H' b = some o
theorem Imm.refl (H : Hp) : Imm H H := fun _ _ h _ => h
theorem Imm.trans {H H1 H2 : Hp} (a : Imm H H1) (b : Imm H1 H2) : Imm H H2 := fun c o h s => b c o (a c o h s) s
theorem Imm.of {H H' : Hp} (s : Same H H') : Imm H H' := fun b o h _ => s b o h
theorem Imm.lst {H : Hp} {a : Addr} {xs : List V} {o : HO} (h : H a = some (.lst xs)) : Imm H (upd H a o) := fun b u e s => by
  have : b ≠ a := fun q => by subst q; rw [h] at e; cases e; exact s
  rw [upd_ne this]; exact e
theorem Imm.dK {H : Hp} {a : Addr} {kvs : List (Key × V)} {o : HO} (h : H a = some (.dK kvs)) : Imm H (upd H a o) := fun b u e s => by
  have : b ≠ a := fun q => by subst q; rw [h] at e; cases e; exact s
  rw [upd_ne this]; exact e
theorem same_new {H0 H : Hp} {a : Addr} {o : HO} (s : Same H0 H) (n : H0 a = none) : Same H0 (upd H a o) := fun b u e => by
  rw [upd_ne (ne_of_none e n)]; exact s b u e
theorem imm_tup {K : PySem.W.Frag} {H H' : Hp} {a : Addr} {xs : List V} (s : Imm H H') (h : SqT K H a xs) : SqT K H' a xs := by
  rcases h with (h | ⟨o, h⟩) | h
  · exact .inl (.inl (s _ _ h trivial))
  · exact .inl (.inr ⟨o, s _ _ h trivial⟩)
  · exact .inr h
/-- all tuples stand as they were -/
def isT : HO → Prop
  | .tup _ => True
  | .frz _ _ => True
  | _ => False
def Tk (H H' : Hp) : Prop := ∀ b o, H b = some o → isT o → H' b = some o
theorem Tk.of {H H' : Hp} {p C dx : Addr} {fs : List (Str × V)} (hp : H p = some (.ins C dx fs)) (k : ∀ c o, H c = some o → c ≠ p → H' c = some o) : Tk H H' := fun b o e t => k b o e fun z => by
  subst z; rw [hp] at e; cases e; exact t
theorem tk_tup {K : PySem.W.Frag} {H H' : Hp} {a : Addr} {xs : List V} (s : Tk H H') (h : SqT K H a xs) : SqT K H' a xs := by
  rcases h with (h | ⟨o, h⟩) | h
  · exact .inl (.inl (s _ _ h trivial))
  · exact .inl (.inr ⟨o, s _ _ h trivial⟩)
  · exact .inr h
theorem StlAt.tk {K : PySem.W.Frag} {H H' : Hp} {a : Addr} {x : Stl} (h : StlAt K H a x) (s : Tk H H') : StlAt K H' a x := by
  obtain ⟨th, tg, tr, h0, h1, h2, h3⟩ := h
  exact ⟨th, tg, tr, tk_tup s h0, tk_tup s h1, tk_tup s h2, tk_tup s h3⟩
section
variable {K : PySem.W.Frag} {H H' : Hp} {p a : Addr} {r : Rat} {n : Nat}
theorem ExAt.imm (h : ExAt K H p r) (s : Imm H H') : ExAt K H' p r := let ⟨dx, e⟩ := h; ⟨dx, s _ _ e trivial⟩
theorem FrAt.imm (h : FrAt K H p r) (s : Imm H H') : FrAt K H' p r := imm_tup s h
theorem StlAt.imm {x : Stl} (h : StlAt K H a x) (s : Imm H H') : StlAt K H' a x := by
  obtain ⟨th, tg, tr, h0, h1, h2, h3⟩ := h
  exact ⟨th, tg, tr, imm_tup s h0, h1.imm s, h2.imm s, h3.imm s⟩
theorem TupS.imm {ss : List Stl} (h : TupS K H a ss) (s : Imm H H') : TupS K H' a ss := by
  obtain ⟨as, h0, h1⟩ := h
  exact ⟨as, imm_tup s h0, h1.mono fun _ _ q => q.imm s⟩
theorem WebAt.imm {ss : List Stl} (h : WebAt K H p n ss) (s : Imm H H') : WebAt K H' p n ss := by
  obtain ⟨dx, t, h0, h1⟩ := h
  exact ⟨dx, t, s _ _ h0 trivial, h1.imm s⟩
end
/-! ### lists of numbers, rows (dicts) of numbers, tables -/
/-- a list of n numbers; R tells how each lies -/
def VecR (R : Hp → Addr → Rat → Prop) (H : Hp) (a : Addr) (n : Nat) (s : Nat → Rat) : Prop := ∃ as : List Addr, H a = some (.lst (as.map V.ref)) ∧ as.length = n ∧ ∀ i q, as[i]? = some q → R H q (s i)
abbrev VecE (K : PySem.W.Frag) := VecR (ExAt K)
abbrev VecF (K : PySem.W.Frag) := VecR (FrAt K)
theorem VecR.upd {R : Hp → Addr → Rat → Prop} {H H1 : Hp} {a : Addr} {n : Nat} {s : Nat → Rat} (hR : ∀ H H' q r, R H q r → Imm H H' → R H' q r) (h : VecR R H a n s) (e : Imm H H1) {as : List Addr} (h1 : H a = some (.lst (as.map V.ref))) (h2 : H1 a = some (.lst (as.map V.ref))) {j : Nat} {q : Addr} {x : Rat} (hx : R H1 q x) :
    VecR R (L2.upd H1 a (.lst ((as.map V.ref).set j (.ref q)))) a n (fun i => if i = j then x else s i) := by
  obtain ⟨as', g1, g2, g3⟩ := h
  have ea : as' = as := by
    rw [h1] at g1
    have := HO.lst.inj (Option.some.inj g1)
    exact (List.map_inj_right (fun _ _ z => V.ref.inj z)).mp this.symm
  subst ea
  refine ⟨as'.set j q, by rw [upd_same, List.map_set], by rw [List.length_set]; exact g2, fun i b hb => ?_⟩
  have im := Imm.lst (o := .lst ((as'.map V.ref).set j (.ref q))) h2
  by_cases hj : i = j
  · subst hj
    dsimp only
    rw [if_pos rfl]
    have hi : i < as'.length := by
      have := (List.getElem?_eq_some_iff.mp hb).1
      rwa [List.length_set] at this
    rw [List.getElem?_set_self hi] at hb
    cases hb
    exact hR _ _ _ _ hx im
  · dsimp only
    rw [if_neg hj]
    rw [List.getElem?_set_ne (fun z => hj z.symm)] at hb
    exact hR _ _ _ _ (hR _ _ _ _ (g3 i b hb) e) im
theorem VecR.mono {R : Hp → Addr → Rat → Prop} {H H1 : Hp} {a : Addr} {n : Nat} {s : Nat → Rat} (hR : ∀ H H' q r, R H q r → Imm H H' → R H' q r) (h : VecR R H a n s) (e : Imm H H1) (h2 : H1 a = H a) : VecR R H1 a n s := by
  obtain ⟨as, g1, g2, g3⟩ := h
  exact ⟨as, by rw [h2]; exact g1, g2, fun i q hq => hR _ _ _ _ (g3 i q hq) e⟩
theorem VecR.same {R : Hp → Addr → Rat → Prop} {H H1 : Hp} {a : Addr} {n : Nat} {s : Nat → Rat} (hR : ∀ H H' q r, R H q r → Imm H H' → R H' q r) (h : VecR R H a n s) (e : Same H H1) : VecR R H1 a n s := by
  obtain ⟨as, g1, g2, g3⟩ := h
  exact ⟨as, e _ _ g1, g2, fun i q hq => hR _ _ _ _ (g3 i q hq) (Imm.of e)⟩
theorem VecR.nil {R : Hp → Addr → Rat → Prop} {H : Hp} {D : Addr} {f : Nat → Rat} : VecR R (L2.upd H D (.lst [])) D 0 f := ⟨[], upd_same, rfl, fun j q h => by rw [List.getElem?_nil] at h; cases h⟩
theorem VecR.push {R : Hp → Addr → Rat → Prop} {H H1 : Hp} {D : Addr} {i : Nat} {f : Nat → Rat} {q : Addr} (hR : ∀ H H' q r, R H q r → Imm H H' → R H' q r) (h : VecR R H D i f) (e : Same H H1) (hq : R H1 q (f i)) :
    ∃ acc, H1 D = some (.lst acc) ∧ acc.length = i ∧ VecR R (L2.upd H1 D (.lst (acc ++ [.ref q]))) D (i + 1) f := by
  obtain ⟨as, g1, g2, g3⟩ := h
  have hd := e _ _ g1
  refine ⟨_, hd, by rw [List.length_map]; exact g2, as ++ [q], by rw [upd_same, List.map_append]; rfl, by simp [g2], fun j y hy => ?_⟩
  refine hR _ _ _ _ ?_ (Imm.lst hd)
  rcases Nat.lt_or_ge j as.length with z | z
  · rw [List.getElem?_append_left z] at hy
    exact hR _ _ _ _ (g3 j y hy) (Imm.of e)
  · rw [List.getElem?_append_right z] at hy
    cases hj : j - as.length with
    | zero =>
      rw [hj] at hy
      have ey : q = y := by simpa using hy
      have ej : j = i := by omega
      rw [← ey, ej]
      exact hq
    | succ m => rw [hj] at hy; simp at hy
theorem exR {K : PySem.W.Frag} : ∀ H H' q r, ExAt K H q r → Imm H H' → ExAt K H' q r := fun _ _ _ _ h s => h.imm s
theorem frR {K : PySem.W.Frag} : ∀ H H' q r, FrAt K H q r → Imm H H' → FrAt K H' q r := fun _ _ _ _ h s => h.imm s
/-- a dict: under each ware below n the number, where it is not 0 -/
def RowAt (K : PySem.W.Frag) (H : Hp) (d : Addr) (n : Nat) (f : Nat → Rat) : Prop := ∃ (ks : List Nat) (g : Nat → Addr), H d = some (.dK (dkv ks fun j => .ref (g j))) ∧ ks.Nodup ∧ (∀ j, j ∈ ks ↔ j < n ∧ f j ≠ 0) ∧ ∀ j ∈ ks, ExAt K H (g j) (f j)
theorem RowAt.mono {K : PySem.W.Frag} {H H1 : Hp} {d : Addr} {n : Nat} {f : Nat → Rat} (h : RowAt K H d n f) (e : Imm H H1) (h2 : H1 d = H d) : RowAt K H1 d n f := by
  obtain ⟨ks, g, g1, g2, g3, g4⟩ := h
  exact ⟨ks, g, by rw [h2]; exact g1, g2, g3, fun j hj => (g4 j hj).imm e⟩
theorem nodup_len {n : Nat} : ∀ {ks : List Nat}, ks.Nodup → (∀ j ∈ ks, j < n) → ks.length ≤ n := fun {ks} h1 h2 => by
  have := List.Nodup.length_le_of_subset h1 (show ks ⊆ List.range n from fun j hj => List.mem_range.mpr (h2 j hj))
  simpa using this
/-- the rows, each a dict of its own -/
def MatE (K : PySem.W.Frag) (H : Hp) (b : Addr) (ds : List Addr) (n : Nat) (r : Nat → Nat → Rat) : Prop := H b = some (.lst (ds.map V.ref)) ∧ ds.length = n ∧ ds.Nodup ∧ ∀ i d, ds[i]? = some d → RowAt K H d n (r i)
structure Tb where
  s : Nat → Rat
  r : Nat → Nat → Rat
def Tb.zero : Tb := ⟨fun _ => 0, fun _ _ => 0⟩
def addS (T : Tb) (x : Stl) : Tb := ⟨fun w => T.s w + (if w = x.u then x.h else 0) + (if w = x.v then x.g else 0), fun i j => T.r i j + (if (i = x.u ∧ j = x.v) ∨ (i = x.v ∧ j = x.u) then x.r else 0)⟩
def tab0 (ss : List Stl) : Tb := ss.foldl addS Tb.zero
theorem tab0_snoc (ss : List Stl) (x : Stl) : tab0 (ss ++ [x]) = addS (tab0 ss) x := by unfold tab0; rw [List.foldl_append]; rfl
theorem list_snoc {α : Type} (P : List α → Prop) (h0 : P []) (hs : ∀ l x, P l → P (l ++ [x])) (l : List α) : P l := by
  have : ∀ l : List α, P l.reverse := fun l => by
    induction l with
    | nil => exact h0
    | cons a r ih => rw [List.reverse_cons]; exact hs _ _ ih
  rw [← List.reverse_reverse l]
  exact this _
theorem tab0_ok (n : Nat) (ss : List Stl) : (∀ s ∈ ss, StlOk n s) → (∀ w, Nq ss.length ((tab0 ss).s w)) ∧ (∀ i j, Nq ss.length ((tab0 ss).r i j) ∧ 0 ≤ (tab0 ss).r i j ∧ (tab0 ss).r i j = (tab0 ss).r j i ∧ ((tab0 ss).r i j ≠ 0 → i < n ∧ j < n ∧ i ≠ j)) := by
  refine list_snoc (fun ss => (∀ s ∈ ss, StlOk n s) → (∀ w, Nq ss.length ((tab0 ss).s w)) ∧ (∀ i j, Nq ss.length ((tab0 ss).r i j) ∧ 0 ≤ (tab0 ss).r i j ∧ (tab0 ss).r i j = (tab0 ss).r j i ∧ ((tab0 ss).r i j ≠ 0 → i < n ∧ j < n ∧ i ≠ j))) ?_ ?_ ss
  · intro _
    exact ⟨fun w => Nq.zero, fun i j => ⟨Nq.zero, Rat.le_refl, rfl, fun h => absurd rfl h⟩⟩
  · intro l x ih hok
    obtain ⟨h1, h2⟩ := ih fun s hs => hok s (List.mem_append_left _ hs)
    have hx := hok x (by simp)
    rw [tab0_snoc, List.length_append]
    refine ⟨fun w => ?_, fun i j => ?_⟩
    · show Nq (l.length + 1) ((tab0 l).s w + (if w = x.u then x.h else 0) + (if w = x.v then x.g else 0))
      by_cases e1 : w = x.u
      · rw [if_pos e1, if_neg (fun e2 => hx.ne (e1.symm.trans e2)), Rat.add_zero]
        exact (h1 w).add hx.hq
      · rw [if_neg e1, Rat.add_zero]
        by_cases e2 : w = x.v
        · rw [if_pos e2]
          exact (h1 w).add hx.gq
        · rw [if_neg e2, Rat.add_zero]
          exact (h1 w).mono (by omega)
    · obtain ⟨q1, q2, q3, q4⟩ := h2 i j
      show Nq (l.length + 1) ((tab0 l).r i j + _) ∧ 0 ≤ (tab0 l).r i j + _ ∧ (tab0 l).r i j + _ = (tab0 l).r j i + _ ∧ ((tab0 l).r i j + _ ≠ 0 → _)
      have es : ((j = x.u ∧ i = x.v) ∨ (j = x.v ∧ i = x.u)) ↔ ((i = x.u ∧ j = x.v) ∨ (i = x.v ∧ j = x.u)) := ⟨fun h => h.elim (fun ⟨a, b⟩ => .inr ⟨b, a⟩) fun ⟨a, b⟩ => .inl ⟨b, a⟩, fun h => h.elim (fun ⟨a, b⟩ => .inr ⟨b, a⟩) fun ⟨a, b⟩ => .inl ⟨b, a⟩⟩
      by_cases c : (i = x.u ∧ j = x.v) ∨ (i = x.v ∧ j = x.u)
      · rw [if_pos c, if_pos (es.mpr c)]
        refine ⟨q1.add hx.rq, Rat.add_nonneg q2 (Rat.le_of_lt hx.r0), by rw [q3], fun _ => ?_⟩
        rcases c with ⟨rfl, rfl⟩ | ⟨rfl, rfl⟩
        · exact ⟨hx.un, hx.vn, hx.ne⟩
        · exact ⟨hx.vn, hx.un, hx.ne.symm⟩
      · rw [if_neg c, if_neg (fun z => c (es.mp z)), Rat.add_zero, Rat.add_zero]
        exact ⟨q1.mono (by omega), q2, q3, q4⟩
/-! ### readings of the numbers' operators and methods -/
theorem own_of {K : PySem.W.Frag} {H : Hp} {a b : Addr} {r s : Rat} {sp : Sp} {Q : VK} (ha : ExAt K H a r) (hb : ExAt K H b s) (h : sp [.ref a, .ref b] H Q C8.E0) : rOwn (cE K) sp (.ref a) (.ref b) H Q := by
  obtain ⟨dx, e1⟩ := ha
  obtain ⟨dy, e2⟩ := hb
  exact ⟨a, b, dx, dy, _, _, rfl, rfl, e1, e2, h⟩
theorem ownNe_of {K : PySem.W.Frag} {H : Hp} {a b : Addr} {r s : Rat} {sp : Sp} {Q : VK} (ha : ExAt K H a r) (hb : ExAt K H b s) (h : sp [.ref a, .ref b] H (fun v H' => ∃ c, v = .bl c ∧ Q (.bl (!c)) H') C8.E0) : rOwnNe (cE K) sp (.ref a) (.ref b) H Q := by
  obtain ⟨dx, e1⟩ := ha
  obtain ⟨dy, e2⟩ := hb
  exact ⟨a, b, dx, dy, _, _, rfl, rfl, e1, e2, h⟩
theorem meth_of {K : PySem.W.Frag} {H : Hp} {a : Addr} {r : Rat} {m : Str} {A : Prop} (ha : ExAt K H a r) (h1 : ¬ m = "top") (h2 : ¬ m = "bottom") (h : A) : ∃ (a' : Addr) (dx : Addr) (fs : List (Str × V)), V.ref a = .ref a' ∧ H a' = some (.ins (cE K) dx fs) ∧ fs.lookup m = none ∧ A := by
  obtain ⟨dx, e⟩ := ha
  exact ⟨a, dx, _, rfl, e, exF_no h1 h2, h⟩
theorem StlOk.oh {n : Nat} {x : Stl} (h : StlOk n x) : Ok x.h := h.hq.ok (by decide)
theorem StlOk.og {n : Nat} {x : Stl} (h : StlOk n x) : Ok x.g := h.gq.ok (by decide)
theorem StlOk.or {n : Nat} {x : Stl} (h : StlOk n x) : Ok x.r := h.rq.ok (by decide)
theorem kAnyL {K : PySem.W.Frag} : PySem.W.kitAny K (.type "list") [.type "list", .type "tuple"] = some true := kitAny_cons kLL (fun h => by cases h) (fun _ => rfl)
theorem kAnyT {K : PySem.W.Frag} : PySem.W.kitAny K (.type "tuple") [.type "list", .type "tuple"] = some true := kitAny_cons kTL (fun _ => kitAny_cons kTT (fun h => by cases h) fun _ => rfl) (fun h => by cases h)
/-! ### the promises of webs.py -/
def spIsFraction (K : PySem.W.Frag) : Sp := fun vs H Q _ => ∃ (a : Addr) (r : Rat), vs = [.ref a] ∧ FrAt K H a r ∧ Q (.bl true) H
def spIsAmount (K : PySem.W.Frag) : Sp := fun vs H Q _ => ∃ (a : Addr) (r : Rat), vs = [.ref a] ∧ FrAt K H a r ∧ 0 ≤ r ∧ Q (.bl true) H
def spIsSome (K : PySem.W.Frag) : Sp := fun vs H Q _ => ∃ (a : Addr) (r : Rat), vs = [.ref a] ∧ FrAt K H a r ∧ 0 < r ∧ Q (.bl true) H
def spIsWareBelow : Sp := fun vs H Q _ => ∃ i n : Int, vs = [.int i, .int n] ∧ 0 ≤ i ∧ i < n ∧ Q (.bl true) H
def spIsStall (K : PySem.W.Frag) : Sp := fun vs H Q _ => ∃ (a : Addr) (x : Stl) (n : Nat), vs = [.ref a, .int n] ∧ StlAt K H a x ∧ StlOk n x ∧ ∀ H', Same H H' → Q (.bl true) H'
def spWebInit (K : PySem.W.Frag) : Sp := fun vs H Q _ => ∃ (p dx a : Addr) (n : Nat) (ss : List Stl), vs = [.ref p, .int n, .ref a] ∧ H p = some (.ins (cW K) dx []) ∧ (LstS K H a ss ∨ TupS K H a ss) ∧ WebOk n ss ∧
  ∀ H' : Hp, WebAt K H' p n ss → (∀ c o, H c = some o → c ≠ p → H' c = some o) → Q .non H'
def spCheckWare (K : PySem.W.Frag) : Sp := fun vs H Q _ => ∃ (p : Addr) (n : Nat) (ss : List Stl) (i : Int), vs = [.ref p, .int i] ∧ WebAt K H p n ss ∧ 0 ≤ i ∧ i < n ∧ Q (.int i) H
/-- a tuple of amounts -/
def TupF (K : PySem.W.Frag) (H : Hp) (a : Addr) (xs : List Rat) : Prop := ∃ as, SqT K H a (as.map V.ref) ∧ Each (FrAt K H) as xs
def spIsAmounts (K : PySem.W.Frag) : Sp := fun vs H Q _ => ∃ (a : Addr) (xs : List Rat), vs = [.ref a, .int xs.length] ∧ TupF K H a xs ∧ (∀ x ∈ xs, 0 ≤ x) ∧ xs.length ≤ 8 ∧ ∀ H', Same H H' → Q (.bl true) H'
def spCheckPurse (K : PySem.W.Frag) : Sp := fun vs H Q _ => ∃ (p a : Addr) (n : Nat) (ss : List Stl), vs = [.ref p, .ref a] ∧ WebAt K H p n ss ∧ n ≤ 8 ∧ TupF K H a (List.replicate n 0) ∧
  ∀ (q : Addr) (H' : Hp), Same H H' → H q = none → VecE K H' q n (fun _ => 0) → Q (.ref q) H'
def spEmpty (K : PySem.W.Frag) : Sp := fun vs H Q _ => ∃ (p : Addr) (n : Nat) (ss : List Stl), vs = [.ref p] ∧ WebAt K H p n ss ∧ n ≤ 8 ∧
  ∀ (q : Addr) (H' : Hp), Same H H' → H q = none → VecE K H' q n (fun _ => 0) → Q (.ref q) H'
def spHeldExact (K : PySem.W.Frag) : Sp := fun vs H Q _ => ∃ (p : Addr) (n : Nat) (ss : List Stl), vs = [.ref p] ∧ WebAt K H p n ss ∧ WebOk n ss ∧
  ∀ (q : Addr) (H' : Hp), Same H H' → H q = none → VecE K H' q n (tab0 ss).s → Q (.ref q) H'
def spRootsExact (K : PySem.W.Frag) : Sp := fun vs H Q _ => ∃ (p : Addr) (n : Nat) (ss : List Stl), vs = [.ref p] ∧ WebAt K H p n ss ∧ WebOk n ss ∧
  ∀ (q : Addr) (ds : List Addr) (H' : Hp), Same H H' → H q = none → (∀ d ∈ ds, H d = none) → MatE K H' q ds n (tab0 ss).r → Q (.ref q) H'
def spOtherWare (K : PySem.W.Frag) : Sp := fun vs H Q _ => ∃ (a : Addr) (x : Stl) (w : Nat), vs = [.ref a, .int w] ∧ StlAt K H a x ∧ Q (.int ((if x.u = w then x.v else x.u : Nat) : Int)) H
def Stl.of (x : Stl) (w : Nat) : Rat := if x.u = w then x.h else x.g
def spHeldOf (K : PySem.W.Frag) : Sp := fun vs H Q _ => ∃ (a : Addr) (x : Stl) (w : Nat), vs = [.ref a, .int w] ∧ StlAt K H a x ∧ Ok x.h ∧ Ok x.g ∧
  ∀ (p : Addr) (H' : Hp), Same H H' → H p = none → ExAt K H' p (x.of w) → Q (.ref p) H'
def spRootExact (K : PySem.W.Frag) : Sp := fun vs H Q _ => ∃ (a : Addr) (x : Stl), vs = [.ref a] ∧ StlAt K H a x ∧ Ok x.r ∧
  ∀ (p : Addr) (H' : Hp), Same H H' → H p = none → ExAt K H' p x.r → Q (.ref p) H'
end Fair

set_option Elab.async false
set_option linter.all false
set_option maxRecDepth 100000
set_option maxHeartbeats 1000000
namespace Fair
open PySem PySem.Spec PyProof.Rows L2
/-! ### rows and tables: read, written -/
theorem ixN_nat {n j : Nat} (h : j < n) : ixN n (j : Int) = some j := by
  unfold ixN
  rw [if_pos (by omega), if_pos (by omega), Int.toNat_natCast]
section
variable {K : PySem.W.Frag} {H H' : Hp} {d b p z : Addr} {ds : List Addr} {n j : Nat} {f : Nat → Rat} {r : Nat → Nat → Rat} {x : Rat}
theorem RowAt.isD (h : RowAt K H d n f) : ∃ kvs, H d = some (.dK kvs) := let ⟨ks, g, e, _⟩ := h; ⟨_, e⟩
theorem RowAt.get (h : RowAt K H d n f) (hz : ExAt K H z 0) (hj : j < n) : ∃ o p0, DGet H d (.int j) o ∧ o.getD (.ref z) = .ref p0 ∧ ExAt K H p0 (f j) := by
  obtain ⟨ks, g, e, g2, g3, g4⟩ := h
  refine ⟨_, if j ∈ ks then g j else z, DGet.k (k := Sum.inl (j : Int)) e, ?_, ?_⟩
  · rw [valV_dkv]
    by_cases c : j ∈ ks
    · rw [if_pos c, if_pos c]; rfl
    · rw [if_neg c, if_neg c]; rfl
  · by_cases c : j ∈ ks
    · rw [if_pos c]; exact g4 j c
    · rw [if_neg c]
      have : f j = 0 := Classical.byContradiction fun q => c ((g3 j).mpr ⟨hj, q⟩)
      rw [this]; exact hz
/-- what stands under a key that is there -/
theorem RowAt.item (h : RowAt K H d n f) (hj : j < n) (h0 : f j ≠ 0) : ∃ p0, DGet H d (.int j) (some (.ref p0)) ∧ ExAt K H p0 (f j) := by
  obtain ⟨ks, g, e, g2, g3, g4⟩ := h
  have c : j ∈ ks := (g3 j).mpr ⟨hj, h0⟩
  refine ⟨g j, ?_, g4 j c⟩
  have q := DGet.k (k := Sum.inl (j : Int)) e
  rw [valV_dkv, if_pos c] at q
  exact q
theorem RowAt.put (h : RowAt K H d n f) (hp : ExAt K H p x) (hx : x ≠ 0) (hj : j < n) (hn : n ≤ 8) : ∃ kvs, DPut H d (.int j) (.ref p) (upd H d (.dK kvs)) ∧ RowAt K (upd H d (.dK kvs)) d n (fun i => if i = j then x else f i) := by
  obtain ⟨ks, g, e, g2, g3, g4⟩ := h
  have hl : ks.length ≤ n := nodup_len g2 fun i hi => ((g3 i).mp hi).1
  have q := DPut.k (k := Sum.inl (j : Int)) (v := .ref p) e (small1000 (by unfold dkv; rw [List.length_map]; omega))
  rw [putK_dkv] at q
  have eg : (fun i => if i = j then V.ref p else V.ref (g i)) = fun i => V.ref (if i = j then p else g i) := funext fun i => by split <;> rfl
  rw [eg] at q
  refine ⟨_, q, if j ∈ ks then ks else ks ++ [j], fun i => if i = j then p else g i, upd_same, ?_, fun i => ?_, fun i hi => ?_⟩
  · split
    · exact g2
    · rename_i c
      exact List.nodup_append.mpr ⟨g2, by simp, fun a ha b hb => by simp at hb; subst hb; intro q; subst q; exact c ha⟩
  · by_cases c : i = j
    · subst c
      dsimp only
      rw [if_pos rfl]
      constructor
      · intro _; exact ⟨hj, hx⟩
      · intro _
        split
        · assumption
        · simp
    · dsimp only
      rw [if_neg c, ← g3 i]
      split
      · exact Iff.rfl
      · simp [c]
  · have im := Imm.dK (o := .dK (dkv (if j ∈ ks then ks else ks ++ [j]) fun i => V.ref (if i = j then p else g i))) e
    by_cases c : i = j
    · subst c
      dsimp only
      rw [if_pos rfl, if_pos rfl]
      exact hp.imm im
    · dsimp only
      rw [if_neg c, if_neg c]
      have hi2 : i ∈ ks := by
        split at hi
        · exact hi
        · simpa [c] using hi
      exact (g4 i hi2).imm im
theorem RowAt.drop (h : RowAt K H d n f) (hj : j < n) (h0 : f j ≠ 0) : ∃ kvs kvs', H d = some (.dK kvs) ∧ (valV kvs (Sum.inl (j : Int))).isSome = true ∧ dropK kvs (Sum.inl (j : Int)) = kvs' ∧ RowAt K (upd H d (.dK kvs')) d n (fun i => if i = j then 0 else f i) := by
  obtain ⟨ks, g, e, g2, g3, g4⟩ := h
  have c : j ∈ ks := (g3 j).mpr ⟨hj, h0⟩
  refine ⟨_, _, e, ?_, dropK_dkv _ _ _, ks.filter (fun i => decide (i ≠ j)), g, upd_same, g2.filter _, fun i => ?_, fun i hi => ?_⟩
  · rw [valV_dkv, if_pos c]; rfl
  · rw [List.mem_filter, g3 i, decide_eq_true_iff]
    by_cases q : i = j
    · subst q; simp
    · dsimp only
      rw [if_neg q]; simp [q]
  · have q := List.mem_filter.mp hi
    have hne : i ≠ j := of_decide_eq_true q.2
    dsimp only
    rw [if_neg hne]
    exact (g4 i q.1).imm (Imm.dK e)
/-- a dict of a table is changed -/
theorem MatE.put {a : Nat} {o : HO} {f' : Nat → Rat} (h : MatE K H b ds n r) (hd : ds[a]? = some d) (hr : RowAt K (upd H d o) d n f') : MatE K (upd H d o) b ds n (fun i => if i = a then f' else r i) := by
  obtain ⟨h1, h2, h3, h4⟩ := h
  obtain ⟨kvs, e⟩ := (h4 a d hd).isD
  have im := Imm.dK (o := o) e
  refine ⟨?_, h2, h3, fun i y hy => ?_⟩
  · rw [upd_ne (ne_of h1 e (by intro z; cases z))]; exact h1
  · by_cases c : i = a
    · subst c
      dsimp only
      rw [if_pos rfl]
      rw [hd] at hy; cases hy
      exact hr
    · dsimp only
      rw [if_neg c]
      have hne : y ≠ d := fun q => c (nodup_ix' h3 hy (q ▸ hd))
      exact (h4 i y hy).mono im (upd_ne hne)
where nodup_ix' {l : List Addr} (hN : l.Nodup) {i j : Nat} {x : Addr} (a : l[i]? = some x) (b : l[j]? = some x) : i = j := nd_ix hN a b
theorem MatE.mono (h : MatE K H b ds n r) (e : Imm H H') (hb : H' b = H b) (hd : ∀ d ∈ ds, H' d = H d) : MatE K H' b ds n r :=
  ⟨by rw [hb]; exact h.1, h.2.1, h.2.2.1, fun i d q => (h.2.2.2 i d q).mono e (hd d (List.mem_of_getElem? q))⟩
theorem MatE.same (h : MatE K H b ds n r) (e : Same H H') : MatE K H' b ds n r :=
  h.mono (Imm.of e) (by rw [h.1]; exact e _ _ h.1) fun d hd => by
    obtain ⟨i, hi, q⟩ := List.mem_iff_getElem.mp hd
    obtain ⟨kvs, e1⟩ := (h.2.2.2 i d (by rw [List.getElem?_eq_getElem hi, q])).isD
    rw [e1]; exact e _ _ e1
theorem MatE.row {i : Nat} (h : MatE K H b ds n r) (hi : i < n) : ∃ d, ds[i]? = some d ∧ RowAt K H d n (r i) := by
  have : i < ds.length := by rw [h.2.1]; exact hi
  exact ⟨ds[i], List.getElem?_eq_getElem this, h.2.2.2 i _ (List.getElem?_eq_getElem this)⟩
theorem RowAt.nil (h : H d = some (.dK [])) : RowAt K H d n (fun _ => 0) := ⟨[], fun _ => 0, h, List.nodup_nil, fun j => ⟨fun q => (by cases q), fun q => absurd rfl q.2⟩, fun j q => (by cases q)⟩
end
section
variable {R : Hp → Addr → Rat → Prop} {H H1 : Hp} {a : Addr} {n i : Nat} {s : Nat → Rat}
theorem VecR.get (h : VecR R H a n s) (hi : i < n) : ∃ (as : List Addr) (q : Addr), H a = some (.lst (as.map V.ref)) ∧ as.length = n ∧ as[i]? = some q ∧ (as.map V.ref)[i]? = some (.ref q) ∧ R H q (s i) := by
  obtain ⟨as, g1, g2, g3⟩ := h
  have hl : i < as.length := by omega
  have e := List.getElem?_eq_getElem hl
  exact ⟨as, as[i], g1, g2, e, refs_at e, g3 i _ e⟩
end
theorem addS_s {T : Tb} {x : Stl} (ne : x.u ≠ x.v) : (fun i => if i = x.v then (if x.v = x.u then T.s x.u + x.h else T.s x.v) + x.g else if i = x.u then T.s x.u + x.h else T.s i) = (addS T x).s := funext fun i => by
  show _ = T.s i + (if i = x.u then x.h else 0) + (if i = x.v then x.g else 0)
  by_cases c1 : i = x.v
  · have c2 : ¬ i = x.u := fun q => ne (q.symm.trans c1)
    rw [if_pos c1, if_pos c1, if_neg c2, if_neg (fun q => ne q.symm), Rat.add_zero, c1]
  · rw [if_neg c1, if_neg c1, Rat.add_zero]
    by_cases c2 : i = x.u
    · rw [if_pos c2, if_pos c2, c2]
    · rw [if_neg c2, if_neg c2, Rat.add_zero]
def putR (R : Nat → Nat → Rat) (a b : Nat) (z : Rat) : Nat → Nat → Rat := fun i => if i = a then (fun j => if j = b then z else R a j) else R i
/-- the roots, one way and then the other way raised by a stall -/
def RR (T : Tb) (x : Stl) : Nat → Nat → Nat → Rat
  | 0 => T.r
  | 1 => putR T.r x.u x.v (T.r x.u x.v + x.r)
  | _ => putR (putR T.r x.u x.v (T.r x.u x.v + x.r)) x.v x.u (T.r x.v x.u + x.r)
theorem putR_ne {R : Nat → Nat → Rat} {a b i j : Nat} {z : Rat} (h : ¬ i = a) : putR R a b z i j = R i j := by unfold putR; rw [if_neg h]
theorem RR2 {T : Tb} {x : Stl} (ne : x.u ≠ x.v) : RR T x 2 = (addS T x).r := by
  funext i j
  show putR (putR T.r x.u x.v (T.r x.u x.v + x.r)) x.v x.u (T.r x.v x.u + x.r) i j = T.r i j + _
  unfold putR
  by_cases c1 : i = x.v
  · have c2 : ¬ i = x.u := fun q => ne (q.symm.trans c1)
    have c3 : ¬ x.v = x.u := fun q => ne q.symm
    rw [if_pos c1, if_neg c3]
    by_cases c4 : j = x.u
    · rw [if_pos c4, if_pos (.inr ⟨c1, c4⟩), c1, c4]
    · rw [if_neg c4, if_neg (fun z => z.elim (fun w => c2 w.1) fun w => c4 w.2), Rat.add_zero, c1]
  · rw [if_neg c1]
    by_cases c2 : i = x.u
    · rw [if_pos c2]
      by_cases c4 : j = x.v
      · rw [if_pos c4, if_pos (.inl ⟨c2, c4⟩), c2, c4]
      · rw [if_neg c4, if_neg (fun z => z.elim (fun w => c4 w.2) fun w => c1 w.1), Rat.add_zero, c2]
    · rw [if_neg c2, if_neg (fun z => z.elim (fun w => c2 w.1) fun w => c1 w.1), Rat.add_zero]
theorem MatE.nil {K : PySem.W.Frag} {H : Hp} {b : Addr} {ds : List Addr} {n : Nat} (h1 : H b = some (.lst (ds.map V.ref))) (h2 : ds.length = n) (h3 : ds.Nodup) (h4 : ∀ d ∈ ds, H d = some (.dK [])) : MatE K H b ds n Tb.zero.r :=
  ⟨h1, h2, h3, fun i d hd => RowAt.nil (h4 d (List.mem_of_getElem? hd))⟩
theorem take_snoc {α : Type} {l : List α} {i : Nat} {x : α} (h : l[i]? = some x) : l.take (i + 1) = l.take i ++ [x] := by
  rw [List.take_succ, h]; rfl
end Fair

set_option Elab.async false
set_option linter.all false
set_option maxRecDepth 100000
set_option maxHeartbeats 1000000
namespace Fair
open PySem PySem.Spec PyProof.Rows L2
/-! ### the table as an object -/
structure Foot where
  a1 : Addr
  a2 : Addr
  a3 : Addr
  ds : List Addr
  g : Nat
def Own (F : Foot) (c : Addr) : Prop := c = F.a1 ∨ c = F.a2 ∨ c = F.a3 ∨ c ∈ F.ds
def tbF (a1 a2 a3 : Addr) : List (Str × V) := [("slants", .ref a1), ("beside", .ref a2), ("gone", .ref a3)]
theorem sb1 : (("beside" : Str) == "slants") = false := by decide +kernel
theorem sb2 : (("gone" : Str) == "slants") = false := by decide +kernel
theorem sb3 : (("gone" : Str) == "beside") = false := by decide +kernel
theorem tbF_s (a1 a2 a3 : Addr) : (tbF a1 a2 a3).lookup ("slants" : Str) = some (.ref a1) := rfl
theorem tbF_b (a1 a2 a3 : Addr) : (tbF a1 a2 a3).lookup ("beside" : Str) = some (.ref a2) := by
  unfold tbF
  rw [List.lookup_cons, sb1, List.lookup_cons, show (("beside" : Str) == "beside") = true by decide +kernel]
theorem tbF_g (a1 a2 a3 : Addr) : (tbF a1 a2 a3).lookup ("gone" : Str) = some (.ref a3) := by
  unfold tbF
  rw [List.lookup_cons, sb2, List.lookup_cons, sb3, List.lookup_cons, show (("gone" : Str) == "gone") = true by decide +kernel]
theorem tbF_no {a1 a2 a3 : Addr} {m : Str} (h1 : ¬ m = "slants") (h2 : ¬ m = "beside") (h3 : ¬ m = "gone") : (tbF a1 a2 a3).lookup m = none := by
  unfold tbF
  rw [List.lookup_cons, beq_eq_false_iff_ne.mpr h1, List.lookup_cons, beq_eq_false_iff_ne.mpr h2, List.lookup_cons, beq_eq_false_iff_ne.mpr h3]
  rfl
theorem tbF_put1 (a1 a2 : Addr) : putF "beside" (.ref a2) (putF "slants" (.ref a1) []) = ([("slants", .ref a1), ("beside", .ref a2)] : List (Str × V)) := by
  show (if ("slants" : Str) = "beside" then _ else ((("slants" : Str), V.ref a1) :: putF "beside" (V.ref a2) [])) = _
  rw [if_neg (by decide +kernel)]
  rfl
theorem tbF_put2 (a1 a2 a3 : Addr) : putF "gone" (.ref a3) ([("slants", .ref a1), ("beside", .ref a2)] : List (Str × V)) = tbF a1 a2 a3 := by
  show (if ("slants" : Str) = "gone" then _ else ((("slants" : Str), V.ref a1) :: (if ("beside" : Str) = "gone" then _ else ((("beside" : Str), V.ref a2) :: putF "gone" (V.ref a3) [])))) = _
  rw [if_neg (by decide +kernel), if_neg (by decide +kernel)]
  rfl
structure TabAt (K : PySem.W.Frag) (H : Hp) (p : Addr) (n : Nat) (T : Tb) (F : Foot) : Prop where
  ob : ∃ dx, H p = some (.ins (cT K) dx (tbF F.a1 F.a2 F.a3))
  sl : VecE K H F.a1 n T.s
  be : MatE K H F.a2 F.ds n T.r
  go : ∃ gs, H F.a3 = some (.lst gs) ∧ gs.length = F.g
  n12 : F.a1 ≠ F.a2
  n13 : F.a1 ≠ F.a3
  n23 : F.a2 ≠ F.a3
/-- all that is not of the table stands as it was -/
def Keep (F : Foot) (H H' : Hp) : Prop := ∀ c o, H c = some o → ¬ Own F c → H' c = some o
section
variable {K : PySem.W.Frag} {H H' H1 H2 : Hp} {p : Addr} {n : Nat} {T : Tb} {F F' : Foot}
theorem TabAt.own (h : TabAt K H p n T F) {c : Addr} (o : Own F c) : ∃ u, H c = some u ∧ ¬ stands u := by
  rcases o with rfl | rfl | rfl | o
  · obtain ⟨as, e, _⟩ := h.sl
    exact ⟨_, e, fun z => z⟩
  · exact ⟨_, h.be.1, fun z => z⟩
  · obtain ⟨gs, e, _⟩ := h.go
    exact ⟨_, e, fun z => z⟩
  · obtain ⟨i, hi, e⟩ := List.mem_iff_getElem.mp o
    obtain ⟨kvs, e1⟩ := (h.be.2.2.2 i c (by rw [List.getElem?_eq_getElem hi, e])).isD
    exact ⟨_, e1, fun z => z⟩
theorem TabAt.imm (h : TabAt K H p n T F) (k : Keep F H H') : Imm H H' := fun b o e s => k b o e fun w => by
  obtain ⟨u, e1, e2⟩ := h.own w
  rw [e] at e1; cases e1
  exact e2 s
theorem Keep.refl : Keep F H H := fun _ _ e _ => e
theorem Keep.trans (a : Keep F H H1) (b : Keep F H1 H2) : Keep F H H2 := fun c o e w => b c o (a c o e w) w
theorem Keep.of (s : Same H H1) : Keep F H H1 := fun c o e _ => s c o e
theorem TabAt.same (h : TabAt K H p n T F) (s : Same H H1) : TabAt K H1 p n T F :=
  ⟨let ⟨dx, e⟩ := h.ob; ⟨dx, s _ _ e⟩, h.sl.same exR s, h.be.same s, let ⟨gs, e, l⟩ := h.go; ⟨gs, s _ _ e, l⟩, h.n12, h.n13, h.n23⟩
/-- the slants are written -/
theorem TabAt.putS (h : TabAt K H p n T F) {as : List Addr} (h1 : H F.a1 = some (.lst (as.map V.ref))) {j : Nat} {q : Addr} {x : Rat} (hx : ExAt K H q x) :
    TabAt K (upd H F.a1 (.lst ((as.map V.ref).set j (.ref q)))) p n ⟨fun i => if i = j then x else T.s i, T.r⟩ F ∧ Keep F H (upd H F.a1 (.lst ((as.map V.ref).set j (.ref q)))) := by
  have im : Imm H (upd H F.a1 (.lst ((as.map V.ref).set j (.ref q)))) := Imm.lst h1
  refine ⟨⟨?_, h.sl.upd exR (Imm.refl H) h1 h1 hx, h.be.mono im (upd_ne h.n12.symm) fun d hd => upd_ne fun z => ?_, ?_, h.n12, h.n13, h.n23⟩, fun c o e w => ?_⟩
  · obtain ⟨dx, e⟩ := h.ob
    exact ⟨dx, im _ _ e trivial⟩
  · obtain ⟨i, hi, e⟩ := List.mem_iff_getElem.mp hd
    obtain ⟨kvs, e1⟩ := (h.be.2.2.2 i d (by rw [List.getElem?_eq_getElem hi, e])).isD
    rw [z, h1] at e1; cases e1
  · obtain ⟨gs, e, l⟩ := h.go
    exact ⟨gs, by rw [upd_ne h.n13.symm]; exact e, l⟩
  · rw [upd_ne fun z => w (.inl z)]; exact e
/-- a row is written -/
theorem TabAt.putD (h : TabAt K H p n T F) {a : Nat} {d : Addr} {o : HO} {f' : Nat → Rat} (hd : F.ds[a]? = some d) (hr : RowAt K (upd H d o) d n f') :
    TabAt K (upd H d o) p n ⟨T.s, fun i => if i = a then f' else T.r i⟩ F ∧ Keep F H (upd H d o) := by
  obtain ⟨kvs, ed⟩ := (h.be.2.2.2 a d hd).isD
  have im : Imm H (upd H d o) := Imm.dK ed
  obtain ⟨as, e1, _⟩ := id h.sl
  obtain ⟨gs, e3, l⟩ := h.go
  refine ⟨⟨?_, h.sl.mono exR im (upd_ne (ne_of e1 ed (by intro z; cases z))), h.be.put hd hr, ⟨gs, by rw [upd_ne (ne_of e3 ed (by intro z; cases z))]; exact e3, l⟩, h.n12, h.n13, h.n23⟩, fun c u e w => ?_⟩
  · obtain ⟨dx, e⟩ := h.ob
    exact ⟨dx, im _ _ e trivial⟩
  · rw [upd_ne fun z => w (.inr (.inr (.inr (by rw [z]; exact List.mem_of_getElem? hd))))]; exact e
end
/-! ### striking -/
def strikeT (k : Nat) (T : Tb) : Tb := ⟨fun i => if i = k then T.s k else T.s i - T.r k i * T.r k i / T.s k, fun i j => if i = k ∨ j = k then 0 else if i = j then T.r i j else T.r i j + T.r k i * T.r k j / T.s k⟩
structure StOk (n k : Nat) (T : Tb) : Prop where
  sym : ∀ i j, T.r i j = T.r j i
  dia : ∀ i, T.r i i = 0
  nn : ∀ i j, 0 ≤ T.r i j
  sup : ∀ i j, T.r i j ≠ 0 → i < n ∧ j < n
  wr : 0 < T.s k ∨ (T.s k = 0 ∧ ∀ j, T.r k j = 0)
  os : ∀ i, Ok (T.s i)
  or : ∀ i j, Ok (T.r i j)
  om : ∀ i j, Ok (T.r k i * T.r k j)
  oq : ∀ i j, Ok (T.r k i * T.r k j / T.s k)
  oh : ∀ i, Ok (T.r k i / T.s k)
def RunOk (n : Nat) : Tb → List Nat → Prop
  | _, [] => True
  | T, k :: ws => k < n ∧ StOk n k T ∧ RunOk n (strikeT k T) ws
def strikeAll (T : Tb) (ws : List Nat) : Tb := ws.foldl (fun T k => strikeT k T) T
def othersN (n w : Nat) : List Nat := (List.range n).filter fun j => decide (j ≠ w)
/-- what can be had for nothing of a ware -/
def due (n : Nat) (ss : List Stl) (w : Nat) : Rat := (strikeAll (tab0 ss) (othersN n w)).s w
/-! ### the promises of striking.py, brims.py -/
abbrev NatL (ws : List Nat) : List V := ws.map fun (j : Nat) => V.int (j : Int)
def spTableInit (K : PySem.W.Frag) : Sp := fun vs H Q _ => ∃ (p dx a b : Addr) (ds : List Addr) (n : Nat) (T : Tb), vs = [.ref p, .ref a, .ref b] ∧ H p = some (.ins (cT K) dx []) ∧ n ≤ 8 ∧ VecE K H a n T.s ∧ MatE K H b ds n T.r ∧
  ∀ (H' : Hp) (F : Foot), TabAt K H' p n T F → (∀ c, Own F c → H c = none) → F.g = 0 → (∀ c o, H c = some o → c ≠ p → H' c = some o) → Q .non H'
def spIsWrong (K : PySem.W.Frag) : Sp := fun vs H Q _ => ∃ (p : Addr) (k n : Nat) (T : Tb) (F : Foot), vs = [.ref p, .int k] ∧ TabAt K H p n T F ∧ k < n ∧ (0 < T.s k ∨ (T.s k = 0 ∧ ∀ j, T.r k j = 0)) ∧ Q (.bl false) H
def spRaiseRoot (K : PySem.W.Frag) : Sp := fun vs H Q _ => ∃ (p : Addr) (a b : Nat) (q : Addr) (n : Nat) (T : Tb) (F : Foot) (z : Rat), vs = [.ref p, .int a, .int b, .ref q] ∧ TabAt K H p n T F ∧ n ≤ 8 ∧ a < n ∧ b < n ∧ a ≠ b ∧ ExAt K H q z ∧ Ok z ∧ 0 < z ∧
  Ok (T.r a b) ∧ Ok (T.r b a) ∧ 0 ≤ T.r a b ∧ 0 ≤ T.r b a ∧ ∀ H' : Hp, TabAt K H' p n ⟨T.s, putR (putR T.r a b (T.r a b + z)) b a (T.r b a + z)⟩ F → Keep F H H' → Q .non H'
def spStrike (K : PySem.W.Frag) : Sp := fun vs H Q _ => ∃ (p : Addr) (k n : Nat) (T : Tb) (F : Foot), vs = [.ref p, .int k] ∧ TabAt K H p n T F ∧ n ≤ 8 ∧ k < n ∧ F.g < 1000 ∧ StOk n k T ∧
  ∀ (H' : Hp) (F' : Foot), TabAt K H' p n (strikeT k T) F' → Keep F H H' → (∀ c, Own F' c → Own F c ∨ H c = none) → F'.g = F.g + 1 → Q .non H'
def spStrikeAll (K : PySem.W.Frag) : Sp := fun vs H Q _ => ∃ (p w : Addr) (ws : List Nat) (n : Nat) (T : Tb) (F : Foot), vs = [.ref p, .ref w] ∧ H w = some (.lst (NatL ws)) ∧ ¬ Own F w ∧ TabAt K H p n T F ∧ n ≤ 8 ∧ ws.length ≤ 100 ∧ F.g = 0 ∧ RunOk n T ws ∧
  ∀ (H' : Hp) (F' : Foot), TabAt K H' p n (strikeAll T ws) F' → Keep F H H' → Q .non H'
def spTableOf (K : PySem.W.Frag) : Sp := fun vs H Q _ => ∃ (p o w : Addr) (n : Nat) (ss : List Stl), vs = [.ref p, .ref o, .ref w] ∧ WebAt K H p n ss ∧ WebOk n ss ∧ VecE K H o n (fun _ => 0) ∧ VecE K H w n (fun _ => 0) ∧
  ∀ (t : Addr) (H' : Hp) (F : Foot), Same H H' → H t = none → TabAt K H' t n (tab0 ss) F → (∀ c, Own F c → H c = none) → F.g = 0 → Q (.ref t) H'
def spOthers (K : PySem.W.Frag) : Sp := fun vs H Q _ => ∃ (p l : Addr) (n w : Nat) (ss : List Stl), vs = [.ref p, .ref l] ∧ WebAt K H p n ss ∧ n ≤ 8 ∧ H l = some (.lst [.int w]) ∧
  ∀ (q : Addr) (H' : Hp), Same H H' → H q = none → H' q = some (.lst (NatL (othersN n w))) → Q (.ref q) H'
def spBrimOf (K : PySem.W.Frag) : Sp := fun vs H Q _ => ∃ (p o : Addr) (n w : Nat) (ss : List Stl), vs = [.ref p, .ref o, .int w] ∧ WebAt K H p n ss ∧ WebOk n ss ∧ VecE K H o n (fun _ => 0) ∧ w < n ∧ RunOk n (tab0 ss) (othersN n w) ∧
  ∀ (q : Addr) (H' : Hp), Same H H' → ExAt K H' q (due n ss w) → Q (.ref q) H'
def spBrim (K : PySem.W.Frag) : Sp := fun vs H Q _ => ∃ (p a : Addr) (n w : Nat) (ss : List Stl), vs = [.ref p, .ref a, .int w] ∧ WebAt K H p n ss ∧ WebOk n ss ∧ TupF K H a (List.replicate n 0) ∧ w < n ∧ RunOk n (tab0 ss) (othersN n w) ∧
  ∀ (q : Addr) (H' : Hp), Same H H' → FrAt K H' q (due n ss w) → Q (.ref q) H'
def spForNothing (K : PySem.W.Frag) : Sp := fun vs H Q _ => ∃ (p : Addr) (n w : Nat) (ss : List Stl), vs = [.ref p, .int w] ∧ WebAt K H p n ss ∧ WebOk n ss ∧ w < n ∧ RunOk n (tab0 ss) (othersN n w) ∧
  ∀ (q : Addr) (H' : Hp), Same H H' → FrAt K H' q (due n ss w) → Q (.ref q) H'
end Fair

set_option Elab.async false
set_option linter.all false
set_option maxRecDepth 100000
set_option maxHeartbeats 4000000
namespace Fair
open PySem PySem.Spec PyProof.Rows L2
/-! ### IsInteger -/
theorem ok_IsInteger {P : Program} {w : World} {K : PySem.W.Frag} {mg : Str → Option Value} {base : Heap} (T : TX K mg) (D : Dx K mg "is_integer" sIsInteger)
     : C8.Cal P w K mg base 1 "is_integer" (spIsInteger) [] := by
  refine D.cal scIsInteger (fun _ _ _ _ _ _ us hl => match us, hl with | [_], _ => rfl) (fun vs H Q E h => ?_) (fun f cdv A outer s H vs Q E hr h => ?_)
  · obtain ⟨i, rfl, k⟩ := h
    rfl
  · obtain ⟨i, rfl, k⟩ := h
    refine ⟨_, (pss_one (ps_ret (pe_and (pe_callB call_isi (by rfl) T.f_isinstance (by decide +kernel) (pa_cons (pv 0) (pa_cons (pe_bltn (v := .ty "int") (by rfl) T.f_int (by decide +kernel) rfl) pa_nil))) (pe_one (pe_not (pe_callB call_isi (by rfl) T.f_isinstance (by decide +kernel) (pa_cons (pv 0) (pa_cons (pe_bltn (v := .ty "bool") (by rfl) T.f_bool (by decide +kernel) rfl) pa_nil)))))))), ?_⟩
    refine ⟨_, rfl, _, _, _, _, _, rfl, .ty "int", .base (.int i), kII, _, rfl, iteT ?_⟩
    exact ⟨_, rfl, _, _, _, _, _, rfl, .ty "bool", .base (.int i), kIB, _, rfl, k⟩

/-! ### Common -/
theorem ok_Common {P : Program} {w : World} {K : PySem.W.Frag} {mg : Str → Option Value} {base : Heap} (T : TX K mg) (D : Dx K mg "common" sCommon)
     : C8.Cal P w K mg base 1 "common" (spCommon) [] := by
  refine D.cal scCommon (fun _ _ _ _ _ _ us hl => match us, hl with | [_, _], _ => rfl) (fun vs H Q E h => ?_) (fun f cdv A outer s H vs Q E hr h => ?_)
  · obtain ⟨a, b, rfl, k⟩ := h
    rfl
  · obtain ⟨a, b, rfl, k⟩ := h
    refine ⟨_, (pss_cons (ps_par (i := 0) (j := 1) (by rfl) scCommon.nd rfl rfl (by decide) rfl rfl (pa_cons (pe_callB call_abs (by rfl) T.f_abs (by decide +kernel) (pa_cons (pv 0) pa_nil)) (pa_cons (pe_callB call_abs (by rfl) T.f_abs (by decide +kernel) (pa_cons (pv 1) pa_nil)) pa_nil)) (by rfl))
        (pss_cons (ps_while PassesOwn.never (pt_cmpR op_gt (pv 1) pe_int (nomark _)) (pss_one (ps_par (i := 0) (j := 1) (by rfl) scCommon.nd rfl rfl (by decide) rfl rfl (pa_cons (pv 1) (pa_cons (pe_op op_mod (pv 0) (pv 1)) pa_nil)) (by rfl))))
        (pss_one (ps_ret (pv 0))))), ?_⟩
    refine ⟨_, rfl, _, rfl, _, rfl, _, rfl, _, _, rfl, ?_⟩
    refine ⟨fun m σ H' => ∃ x y : Int, σ = [some (.int x), some (.int y)] ∧ 0 ≤ x ∧ 0 ≤ y ∧ m = y.toNat ∧ Int.gcd x y = Int.gcd a b ∧ H' = H, ⟨_, _, _, rfl, by split <;> omega, by split <;> omega, rfl, ?_, rfl⟩, ?_⟩
    · have e1 : (if a < 0 then -a else a).natAbs = a.natAbs := by split <;> omega
      have e2 : (if b < 0 then -b else b).natAbs = b.natAbs := by split <;> omega
      rw [Int.gcd_eq_natAbs_gcd_natAbs, Int.gcd_eq_natAbs_gcd_natAbs, e1, e2]
    rintro m σ H' ⟨x, y, rfl, hx, hy, rfl, hg, rfl⟩
    refine ⟨_, rfl, _, _, rfl, rfl, _, rfl, ite2 (fun c => ?_) (fun c => ?_)⟩
    · have c' : 0 < y := of_decide_eq_true c
      refine ⟨fun σ' H'' => ∃ x' y' : Int, σ' = [some (.int x'), some (.int y')] ∧ 0 ≤ x' ∧ 0 ≤ y' ∧ y' < y ∧ Int.gcd x' y' = Int.gcd a b ∧ H'' = H', fun σ' H'' ⟨x', y', e1, e2, e3, e4, e5, e6⟩ => ⟨_, by omega, x', y', e1, e2, e3, rfl, e5, e6⟩, ?_⟩
      refine ⟨_, rfl, _, rfl, _, rfl, _, _, rfl, rfl, c', _, _, rfl, ?_⟩
      exact ⟨_, _, rfl, hy, Int.emod_nonneg _ (by omega), Int.emod_lt_of_pos _ c', by rw [gcd_step x y c', hg], rfl⟩
    · have c' : y = 0 := by
        have : ¬ (0 < y) := fun z => c (decide_eq_true z)
        omega
      subst c'
      refine ⟨_, rfl, ?_⟩
      have e : x = (Int.gcd a b : Int) := by
        rw [← hg, Int.gcd_eq_natAbs_gcd_natAbs]
        simp
        omega
      show Q (.int x) H'
      rw [e]
      exact k

/-! ### ExactInit -/
theorem ok_ExactInit {P : Program} {w : World} {K : PySem.W.Frag} {mg : Str → Option Value} {base : Heap} (T : TX K mg) (D : Kx K mg "Exact" (cE K) "Exact.__init__" sExactInit)
    (c_Common : C8.Cal P w K mg base 1 "common" (spCommon) []) : C8.Mak P w K mg base 2 "Exact" (cE K) (spExactInit K) [] := by
  refine D.mak scExactInit (fun _ _ _ _ _ _ us hl => match us, hl with | [_, _, _], _ => rfl) (fun vs H Q E h => ?_) (fun f cdv A outer s H vs Q E hr h => ?_)
  · obtain ⟨p, dx, a, b, rfl, hp, hb, hs, k⟩ := h
    rfl
  · obtain ⟨p, dx, a, b, rfl, hp, hb, hs, k⟩ := h
    refine ⟨_, (pss_cons (ps_if (pt_cmpR op_lt (pv 2) pe_int (nomark _)) (pss_one (ps_par (i := 1) (j := 2) (by rfl) scExactInit.nd rfl rfl (by decide) rfl rfl (pa_cons (pe_un un_neg (pv 1)) (pa_cons (pe_un un_neg (pv 2)) pa_nil)) (by rfl)))
        pss_nil)
        (pss_cons (ps_set (i := 3) scExactInit.nd rfl (by first | exact Or.inl rfl | exact Or.inr rfl) (C8.pe_c c_Common hr (by decide) (by rfl) (pa_cons (pv 1) (pa_cons (pv 2) pa_nil))))
        (pss_cons (ps_fld (pv 0) (pe_op op_fdivW (pv 1) (pv 3)) rfl)
        (pss_one (ps_fld (pv 0) (pe_op op_fdivW (pv 2) (pv 3)) rfl))))), ?_⟩
    have hg : (Int.gcd a b : Int) ≤ b := Int.le_of_dvd hb (Int.gcd_dvd_right ..)
    have hg0 : 0 < (Int.gcd a b : Int) := Int.ofNat_lt.mpr (Int.gcd_pos_iff.mpr (.inr (by omega)))
    have hd : CDivW 0 (Int.gcd a b) := wide_div (b := 9000) hg0 (by omega) (by decide) (by decide)
    refine ⟨_, rfl, _, _, rfl, rfl, _, rfl, ite2 (fun c => ?_) (fun c => ?_)⟩
    · have c' : b < 0 := of_decide_eq_true c
      omega
    refine ⟨_, rfl, _, rfl, a, b, rfl, ?_⟩
    refine ⟨_, rfl, _, rfl, _, _, rfl, rfl, hd, _, rfl, p, cE K, dx, [], rfl, hp, T.clE, T.nTop, (by show 0 < 1000; decide), ?_⟩
    refine ⟨_, rfl, _, rfl, _, _, rfl, rfl, hd, _, rfl, p, cE K, dx, _, rfl, upd_same, T.clE, T.nBot, (by show 1 < 1000; decide), ?_⟩
    refine k _ ⟨dx, ?_⟩ fun c o e hc => by rw [upd_ne hc, upd_ne hc]; exact e
    rw [upd_same, ← exF_put, ← div_num hb, ← div_den hb]

/-! ### ExactAdd -/
theorem ok_ExactAdd {P : Program} {w : World} {K : PySem.W.Frag} {mg : Str → Option Value} {base : Heap} (T : TX K mg) (D : Mx K (cE K) "__add__" "Exact.__add__" sExactAdd)
    (c_ExactInit : C8.Mak P w K mg base 2 "Exact" (cE K) (spExactInit K) []) : C8.Met P w K mg base 4 (cE K) "__add__" (spAdd K) [] := by
  refine D.met scExactAdd (fun _ _ _ _ _ _ us hl => match us, hl with | [_, _], _ => rfl) (fun vs H Q E h => ?_) (fun f cdv A outer s H vs Q E hr h => ?_)
  · obtain ⟨a, b, r, s1, rfl, ha, hb, oa, ob, hc, k⟩ := h
    rfl
  · obtain ⟨a, b, r, s1, rfl, ha, hb, oa, ob, hc, k⟩ := h
    refine ⟨_, (pss_one (ps_ret (C8.pe_mk c_ExactInit hr (by decide) (by rfl) (pa_cons (pe_op op_add (pe_op op_mulW (pe_fld (pv 0) rfl) (pe_fld (pv 1) rfl)) (pe_op op_mulW (pe_fld (pv 1) rfl) (pe_fld (pv 0) rfl))) (pa_cons (pe_op op_mulW (pe_fld (pv 0) rfl) (pe_fld (pv 1) rfl)) pa_nil))))), ?_⟩
    obtain ⟨dx, ha⟩ := ha
    obtain ⟨dy, hb⟩ := hb
    refine ⟨_, rfl, a, _, dx, _, _, rfl, ha, T.clE, T.nTop, exF_top r, _, rfl, b, _, dy, _, _, rfl, hb, T.clE, T.nBot, exF_bot s1, _, _, rfl, rfl, mul_ok oa.1 (ok_den ob), ?_⟩
    refine ⟨_, rfl, b, _, dy, _, _, rfl, hb, T.clE, T.nTop, exF_top s1, _, rfl, a, _, dx, _, _, rfl, ha, T.clE, T.nBot, exF_bot r, _, _, rfl, rfl, mul_ok ob.1 (ok_den oa), ?_⟩
    refine ⟨_, _, rfl, rfl, ?_⟩
    refine ⟨_, rfl, a, _, dx, _, _, rfl, ha, T.clE, T.nBot, exF_bot r, _, rfl, b, _, dy, _, _, rfl, hb, T.clE, T.nBot, exF_bot s1, _, _, rfl, rfl, mul_ok (ok_den oa) (ok_den ob), ?_⟩
    intro x dz nx nz nez
    refine ⟨x, dz, _, _, rfl, upd_same, Int.mul_pos (den_pos' r) (den_pos' s1), mul_lt (ok_den oa) (ok_den ob), fun H' h1 h2 => ⟨rfl, ?_⟩⟩
    rw [add_div] at h1
    exact k x H' (Same.made nx nz h2) nx h1

/-! ### ExactSub -/
theorem ok_ExactSub {P : Program} {w : World} {K : PySem.W.Frag} {mg : Str → Option Value} {base : Heap} (T : TX K mg) (D : Mx K (cE K) "__sub__" "Exact.__sub__" sExactSub)
    (c_ExactInit : C8.Mak P w K mg base 2 "Exact" (cE K) (spExactInit K) []) : C8.Met P w K mg base 4 (cE K) "__sub__" (spSub K) [] := by
  refine D.met scExactSub (fun _ _ _ _ _ _ us hl => match us, hl with | [_, _], _ => rfl) (fun vs H Q E h => ?_) (fun f cdv A outer s H vs Q E hr h => ?_)
  · obtain ⟨a, b, r, s1, rfl, ha, hb, oa, ob, hc, k⟩ := h
    rfl
  · obtain ⟨a, b, r, s1, rfl, ha, hb, oa, ob, hc, k⟩ := h
    refine ⟨_, (pss_one (ps_ret (C8.pe_mk c_ExactInit hr (by decide) (by rfl) (pa_cons (pe_op op_sub (pe_op op_mulW (pe_fld (pv 0) rfl) (pe_fld (pv 1) rfl)) (pe_op op_mulW (pe_fld (pv 1) rfl) (pe_fld (pv 0) rfl))) (pa_cons (pe_op op_mulW (pe_fld (pv 0) rfl) (pe_fld (pv 1) rfl)) pa_nil))))), ?_⟩
    obtain ⟨dx, ha⟩ := ha
    obtain ⟨dy, hb⟩ := hb
    refine ⟨_, rfl, a, _, dx, _, _, rfl, ha, T.clE, T.nTop, exF_top r, _, rfl, b, _, dy, _, _, rfl, hb, T.clE, T.nBot, exF_bot s1, _, _, rfl, rfl, mul_ok oa.1 (ok_den ob), ?_⟩
    refine ⟨_, rfl, b, _, dy, _, _, rfl, hb, T.clE, T.nTop, exF_top s1, _, rfl, a, _, dx, _, _, rfl, ha, T.clE, T.nBot, exF_bot r, _, _, rfl, rfl, mul_ok ob.1 (ok_den oa), ?_⟩
    refine ⟨_, _, rfl, rfl, ?_⟩
    refine ⟨_, rfl, a, _, dx, _, _, rfl, ha, T.clE, T.nBot, exF_bot r, _, rfl, b, _, dy, _, _, rfl, hb, T.clE, T.nBot, exF_bot s1, _, _, rfl, rfl, mul_ok (ok_den oa) (ok_den ob), ?_⟩
    intro x dz nx nz nez
    refine ⟨x, dz, _, _, rfl, upd_same, Int.mul_pos (den_pos' r) (den_pos' s1), mul_lt (ok_den oa) (ok_den ob), fun H' h1 h2 => ⟨rfl, ?_⟩⟩
    rw [sub_div] at h1
    exact k x H' (Same.made nx nz h2) nx h1

/-! ### ExactMul -/
theorem ok_ExactMul {P : Program} {w : World} {K : PySem.W.Frag} {mg : Str → Option Value} {base : Heap} (T : TX K mg) (D : Mx K (cE K) "__mul__" "Exact.__mul__" sExactMul)
    (c_ExactInit : C8.Mak P w K mg base 2 "Exact" (cE K) (spExactInit K) []) : C8.Met P w K mg base 4 (cE K) "__mul__" (spMul K) [] := by
  refine D.met scExactMul (fun _ _ _ _ _ _ us hl => match us, hl with | [_, _], _ => rfl) (fun vs H Q E h => ?_) (fun f cdv A outer s H vs Q E hr h => ?_)
  · obtain ⟨a, b, r, s1, rfl, ha, hb, oa, ob, hc, k⟩ := h
    rfl
  · obtain ⟨a, b, r, s1, rfl, ha, hb, oa, ob, hc, k⟩ := h
    refine ⟨_, (pss_one (ps_ret (C8.pe_mk c_ExactInit hr (by decide) (by rfl) (pa_cons (pe_op op_mulW (pe_fld (pv 0) rfl) (pe_fld (pv 1) rfl)) (pa_cons (pe_op op_mulW (pe_fld (pv 0) rfl) (pe_fld (pv 1) rfl)) pa_nil))))), ?_⟩
    obtain ⟨dx, ha⟩ := ha
    obtain ⟨dy, hb⟩ := hb
    refine ⟨_, rfl, a, _, dx, _, _, rfl, ha, T.clE, T.nTop, exF_top r, _, rfl, b, _, dy, _, _, rfl, hb, T.clE, T.nTop, exF_top s1, _, _, rfl, rfl, mul_ok oa.1 ob.1, ?_⟩
    refine ⟨_, rfl, a, _, dx, _, _, rfl, ha, T.clE, T.nBot, exF_bot r, _, rfl, b, _, dy, _, _, rfl, hb, T.clE, T.nBot, exF_bot s1, _, _, rfl, rfl, mul_ok (ok_den oa) (ok_den ob), ?_⟩
    intro x dz nx nz nez
    refine ⟨x, dz, _, _, rfl, upd_same, Int.mul_pos (den_pos' r) (den_pos' s1), mul_lt (ok_den oa) (ok_den ob), fun H' h1 h2 => ⟨rfl, ?_⟩⟩
    rw [mul_div] at h1
    exact k x H' (Same.made nx nz h2) nx h1

/-! ### ExactEq -/
theorem ok_ExactEq {P : Program} {w : World} {K : PySem.W.Frag} {mg : Str → Option Value} {base : Heap} (T : TX K mg) (D : Mx K (cE K) "__eq__" "Exact.__eq__" sExactEq)
     : C8.Met P w K mg base 1 (cE K) "__eq__" (spEq K) [] := by
  refine D.met scExactEq (fun _ _ _ _ _ _ us hl => match us, hl with | [_, _], _ => rfl) (fun vs H Q E h => ?_) (fun f cdv A outer s H vs Q E hr h => ?_)
  · obtain ⟨a, b, r, s1, rfl, ha, hb, k⟩ := h
    rfl
  · obtain ⟨a, b, r, s1, rfl, ha, hb, k⟩ := h
    refine ⟨_, (pss_one (ps_ret (pe_and (pe_callB (C8.call_isC T.inE) (by rfl) T.f_isinstance (by decide +kernel) (pa_cons (pv 1) (pa_cons (pe_glob (v := .ref (cE K)) (by rfl) T.mgE rfl) pa_nil))) (pe_and (pe_cmpR op_eq (pe_fld (pv 0) rfl) (pe_fld (pv 1) rfl) (nomark _)) (pe_one (pe_cmpR op_eq (pe_fld (pv 0) rfl) (pe_fld (pv 1) rfl) (nomark _))))))), ?_⟩
    obtain ⟨dx, ha⟩ := ha
    obtain ⟨dy, hb⟩ := hb
    refine ⟨_, rfl, b, dy, _, rfl, hb, _, rfl, iteT ?_⟩
    refine ⟨_, rfl, a, _, dx, _, _, rfl, ha, T.clE, T.nTop, exF_top r, _, rfl, b, _, dy, _, _, rfl, hb, T.clE, T.nTop, exF_top s1, rfl, _, rfl, ite2 (fun c => ?_) (fun c => ?_)⟩
    · refine ⟨_, rfl, a, _, dx, _, _, rfl, ha, T.clE, T.nBot, exF_bot r, _, rfl, b, _, dy, _, _, rfl, hb, T.clE, T.nBot, exF_bot s1, rfl, ?_⟩
      have c' : r.num = s1.num := V.int.inj (of_decide_eq_true c)
      have e : decide (V.int (r.den : Int) = V.int (s1.den : Int)) = decide (r = s1) := by
        by_cases z : r = s1
        · subst z; simp
        · rw [decide_eq_false z, decide_eq_false fun q => z (rat_ext_iff.mpr ⟨c', V.int.inj q⟩)]
      show Q (.bl (decide (V.int (r.den : Int) = V.int (s1.den : Int)))) H
      rw [e]
      exact k
    · have e : decide (r = s1) = false := decide_eq_false fun z => c (by rw [z]; simp)
      rw [e] at k
      exact k

/-! ### ExactOver -/
theorem ok_ExactOver {P : Program} {w : World} {K : PySem.W.Frag} {mg : Str → Option Value} {base : Heap} (T : TX K mg) (D : Mx K (cE K) "over" "Exact.over" sExactOver)
    (c_ExactInit : C8.Mak P w K mg base 2 "Exact" (cE K) (spExactInit K) []) : C8.Met P w K mg base 4 (cE K) "over" (spOver K) [] := by
  refine D.met scExactOver (fun _ _ _ _ _ _ us hl => match us, hl with | [_, _], _ => rfl) (fun vs H Q E h => ?_) (fun f cdv A outer s H vs Q E hr h => ?_)
  · obtain ⟨a, b, r, s1, rfl, ha, hb, oa, ob, hc, k⟩ := h
    rfl
  · obtain ⟨a, b, r, s1, rfl, ha, hb, oa, ob, hc, k⟩ := h
    refine ⟨_, (pss_one (ps_ret (C8.pe_mk c_ExactInit hr (by decide) (by rfl) (pa_cons (pe_op op_mulW (pe_fld (pv 0) rfl) (pe_fld (pv 1) rfl)) (pa_cons (pe_op op_mulW (pe_fld (pv 0) rfl) (pe_fld (pv 1) rfl)) pa_nil))))), ?_⟩
    obtain ⟨dx, ha⟩ := ha
    obtain ⟨dy, hb⟩ := hb
    refine ⟨_, rfl, a, _, dx, _, _, rfl, ha, T.clE, T.nTop, exF_top r, _, rfl, b, _, dy, _, _, rfl, hb, T.clE, T.nBot, exF_bot s1, _, _, rfl, rfl, mul_ok oa.1 (ok_den ob), ?_⟩
    refine ⟨_, rfl, a, _, dx, _, _, rfl, ha, T.clE, T.nBot, exF_bot r, _, rfl, b, _, dy, _, _, rfl, hb, T.clE, T.nTop, exF_top s1, _, _, rfl, rfl, mul_ok (ok_den oa) ob.1, ?_⟩
    intro x dz nx nz nez
    refine ⟨x, dz, _, _, rfl, upd_same, Int.mul_pos (den_pos' r) (num_pos' hc), mul_lt (ok_den oa) ob.1, fun H' h1 h2 => ⟨rfl, ?_⟩⟩
    rw [over_div] at h1
    exact k x H' (Same.made nx nz h2) nx h1

/-! ### ExactSign -/
theorem ok_ExactSign {P : Program} {w : World} {K : PySem.W.Frag} {mg : Str → Option Value} {base : Heap} (T : TX K mg) (D : Mx K (cE K) "sign" "Exact.sign" sExactSign)
     : C8.Met P w K mg base 1 (cE K) "sign" (spSign K) [] := by
  refine D.met scExactSign (fun _ _ _ _ _ _ us hl => match us, hl with | [_], _ => rfl) (fun vs H Q E h => ?_) (fun f cdv A outer s H vs Q E hr h => ?_)
  · obtain ⟨a, r, rfl, ha, k⟩ := h
    rfl
  · obtain ⟨a, r, rfl, ha, k⟩ := h
    refine ⟨_, (pss_one (ps_ret (pe_op op_sub (pe_callTy call_int1 (by rfl) T.f_int (by decide +kernel) (pa_cons (pe_cmpR op_gt (pe_fld (pv 0) rfl) pe_int (nomark _)) pa_nil)) (pe_callTy call_int1 (by rfl) T.f_int (by decide +kernel) (pa_cons (pe_cmpR op_lt (pe_fld (pv 0) rfl) pe_int (nomark _)) pa_nil))))), ?_⟩
    obtain ⟨dx, ha⟩ := ha
    refine ⟨_, rfl, a, _, dx, _, _, rfl, ha, T.clE, T.nTop, exF_top r, _, _, rfl, rfl, .inr ⟨_, rfl, ?_⟩⟩
    refine ⟨_, rfl, a, _, dx, _, _, rfl, ha, T.clE, T.nTop, exF_top r, _, _, rfl, rfl, .inr ⟨_, rfl, _, _, rfl, rfl, ?_⟩⟩
    have e : (if decide (r.num > 0) = true then (1 : Int) else 0) - (if decide (r.num < 0) = true then (1 : Int) else 0) = sgn r := by
      unfold sgn
      have h1 : (r.num > 0) ↔ 0 < r := num_pos_iff
      have h2 := @num_neg r
      by_cases c1 : r.num > 0
      · rw [if_pos (decide_eq_true c1), if_neg (fun z => by have := of_decide_eq_true z; omega), if_pos (h1.mp c1)]; rfl
      · rw [if_neg (by simpa using c1), if_neg (fun z => c1 (h1.mpr z))]
        by_cases c2 : r.num < 0
        · rw [if_pos (decide_eq_true c2), if_pos (h2.mp c2)]; rfl
        · rw [if_neg (by simpa using c2), if_neg (fun z => c2 (h2.mpr z))]; rfl
    show Q (.int (_ - _)) H
    rw [e]
    exact k

/-! ### ExactSquare -/
theorem ok_ExactSquare {P : Program} {w : World} {K : PySem.W.Frag} {mg : Str → Option Value} {base : Heap} (T : TX K mg) (D : Mx K (cE K) "square" "Exact.square" sExactSquare)
    (c_ExactInit : C8.Mak P w K mg base 2 "Exact" (cE K) (spExactInit K) []) : C8.Met P w K mg base 4 (cE K) "square" (spSquare K) [] := by
  refine D.met scExactSquare (fun _ _ _ _ _ _ us hl => match us, hl with | [_], _ => rfl) (fun vs H Q E h => ?_) (fun f cdv A outer s H vs Q E hr h => ?_)
  · obtain ⟨a, r, rfl, ha, oa, k⟩ := h
    rfl
  · obtain ⟨a, r, rfl, ha, oa, k⟩ := h
    refine ⟨_, (pss_one (ps_ret (C8.pe_mk c_ExactInit hr (by decide) (by rfl) (pa_cons (pe_op op_mulW (pe_fld (pv 0) rfl) (pe_fld (pv 0) rfl)) (pa_cons (pe_op op_mulW (pe_fld (pv 0) rfl) (pe_fld (pv 0) rfl)) pa_nil))))), ?_⟩
    obtain ⟨dx, ha⟩ := ha
    refine ⟨_, rfl, a, _, dx, _, _, rfl, ha, T.clE, T.nTop, exF_top r, _, rfl, a, _, dx, _, _, rfl, ha, T.clE, T.nTop, exF_top r, _, _, rfl, rfl, mul_ok oa.1 oa.1, ?_⟩
    refine ⟨_, rfl, a, _, dx, _, _, rfl, ha, T.clE, T.nBot, exF_bot r, _, rfl, a, _, dx, _, _, rfl, ha, T.clE, T.nBot, exF_bot r, _, _, rfl, rfl, mul_ok (ok_den oa) (ok_den oa), ?_⟩
    intro x dz nx nz nez
    refine ⟨x, dz, _, _, rfl, upd_same, Int.mul_pos (den_pos' r) (den_pos' r), mul_lt (ok_den oa) (ok_den oa), fun H' h1 h2 => ⟨rfl, ?_⟩⟩
    rw [mul_div] at h1
    exact k x H' (Same.made nx nz h2) nx h1

/-! ### ExactPair -/
theorem ok_ExactPair {P : Program} {w : World} {K : PySem.W.Frag} {mg : Str → Option Value} {base : Heap} (T : TX K mg) (D : Mx K (cE K) "pair" "Exact.pair" sExactPair)
     : C8.Met P w K mg base 1 (cE K) "pair" (spPair K) [] := by
  refine D.met scExactPair (fun _ _ _ _ _ _ us hl => match us, hl with | [_], _ => rfl) (fun vs H Q E h => ?_) (fun f cdv A outer s H vs Q E hr h => ?_)
  · obtain ⟨a, r, rfl, ha, k⟩ := h
    rfl
  · obtain ⟨a, r, rfl, ha, k⟩ := h
    refine ⟨_, (pss_one (ps_ret (pe_tup (pa_cons (pe_fld (pv 0) rfl) (pa_cons (pe_fld (pv 0) rfl) pa_nil))))), ?_⟩
    obtain ⟨dx, ha⟩ := ha
    refine ⟨_, rfl, a, _, dx, _, _, rfl, ha, T.clE, T.nTop, exF_top r, _, rfl, a, _, dx, _, _, rfl, ha, T.clE, T.nBot, exF_bot r, (by show 2 ≤ sizeLine; decide), fun p hp => ?_⟩
    exact k p _ (same_upd1 hp) hp (SqT.of upd_same)

/-! ### Exact -/
theorem ok_Exact {P : Program} {w : World} {K : PySem.W.Frag} {mg : Str → Option Value} {base : Heap} (T : TX K mg) (D : Dx K mg "exact" sExact)
    (c_ExactInit : C8.Mak P w K mg base 2 "Exact" (cE K) (spExactInit K) []) : C8.Cal P w K mg base 4 "exact" (spExact K) [] := by
  refine D.cal scExact (fun _ _ _ _ _ _ us hl => match us, hl with | [_], _ => rfl) (fun vs H Q E h => ?_) (fun f cdv A outer s H vs Q E hr h => ?_)
  · obtain ⟨a, r, rfl, ha, oa, k⟩ := h
    rfl
  · obtain ⟨a, r, rfl, ha, oa, k⟩ := h
    refine ⟨_, (pss_one (ps_ret (C8.pe_mk c_ExactInit hr (by decide) (by rfl) (pa_cons (pe_ix ix_tup (pv 0) pe_int (fun _ _ => rfl)) (pa_cons (pe_ix ix_tup (pv 0) pe_int (fun _ _ => rfl)) pa_nil))))), ?_⟩
    refine ⟨_, rfl, a, _, _, _, rfl, rfl, ha, atI_nat (j := 0) rfl, _, rfl, a, _, _, _, rfl, rfl, ha, atI_nat (j := 1) rfl, ?_⟩
    intro x dz nx nz nez
    refine ⟨x, dz, _, _, rfl, upd_same, den_pos' r, mul_lt' (ok_den oa), fun H' h1 h2 => ⟨rfl, ?_⟩⟩
    rw [self_div] at h1
    exact k x H' (Same.made nx nz h2) nx h1

end Fair

set_option Elab.async false
set_option linter.all false
set_option maxRecDepth 100000
set_option maxHeartbeats 4000000
namespace Fair
open PySem PySem.Spec PyProof.Rows L2
/-! ### IsFraction -/
theorem ok_IsFraction {P : Program} {w : World} {K : PySem.W.Frag} {mg : Str → Option Value} {base : Heap} (T : TX K mg) (D : Dx K mg "is_fraction" sIsFraction)
    (c_IsInteger : C8.Cal P w K mg base 1 "is_integer" (spIsInteger) [])
    (c_Common : C8.Cal P w K mg base 1 "common" (spCommon) []) : C8.Cal P w K mg base 2 "is_fraction" (spIsFraction K) [] := by
  refine D.cal scIsFraction (fun _ _ _ _ _ _ us hl => match us, hl with | [_], _ => rfl) (fun vs H Q E h => ?_) (fun f cdv A outer s H vs Q E hr h => ?_)
  · obtain ⟨a, r, rfl, ha, k⟩ := h
    rfl
  · obtain ⟨a, r, rfl, ha, k⟩ := h
    refine ⟨_, (pss_cons (ps_if (PW.pt (pw_or (pt_not (pt_val (pe_callB call_isi (by rfl) T.f_isinstance (by decide +kernel) (pa_cons (pv 0) (pa_cons (pe_bltn (v := .ty "tuple") (by rfl) T.f_tuple (by decide +kernel) rfl) pa_nil))))) (pw_or (pt_cmpR op_ne (pe_callB call_len_seq (by rfl) T.f_len (by decide +kernel) (pa_cons (pv 0) pa_nil)) pe_int (nomark _)) (pw_or (pt_not (pt_val (C8.pe_c c_IsInteger hr (by decide) (by rfl) (pa_cons (pe_ix ix_tup (pv 0) pe_int (fun _ _ => rfl)) pa_nil)))) (pw_or1 (pt_not (pt_val (C8.pe_c c_IsInteger hr (by decide) (by rfl) (pa_cons (pe_ix ix_tup (pv 0) pe_int (fun _ _ => rfl)) pa_nil))))))))) (pss_one (ps_ret pe_bl))
        pss_nil)
        (pss_one (ps_ret (pe_and (pe_cmpR op_gt (pe_ix ix_tup (pv 0) pe_int (fun _ _ => rfl)) pe_int (nomark _)) (pe_one (pe_cmpR op_eq (C8.pe_c c_Common hr (by decide) (by rfl) (pa_cons (pe_ix ix_tup (pv 0) pe_int (fun _ _ => rfl)) (pa_cons (pe_ix ix_tup (pv 0) pe_int (fun _ _ => rfl)) pa_nil))) pe_int (nomark _))))))), ?_⟩
    refine ⟨_, rfl, _, _, _, _, _, rfl, .ty "tuple", tyX_tup ha, kTT, _, rfl, iteF ?_⟩
    refine ⟨_, rfl, a, _, rfl, .inr ha, rfl, _, rfl, iteNS rfl ?_⟩
    refine ⟨_, rfl, a, _, _, _, rfl, rfl, ha, atI_nat (j := 0) rfl, _, rfl, _, rfl, iteF ?_⟩
    refine ⟨_, rfl, a, _, _, _, rfl, rfl, ha, atI_nat (j := 1) rfl, _, rfl, _, rfl, iteF ?_⟩
    refine ⟨_, rfl, a, _, _, _, rfl, rfl, ha, atI_nat (j := 1) rfl, _, _, rfl, rfl, _, rfl, iteD (den_pos' r) ?_⟩
    refine ⟨_, rfl, a, _, _, _, rfl, rfl, ha, atI_nat (j := 0) rfl, _, rfl, a, _, _, _, rfl, rfl, ha, atI_nat (j := 1) rfl, _, _, rfl, rfl, ?_⟩
    have e : decide (V.int (Int.gcd r.num r.den : Int) = V.int 1) = true := by rw [gcd_num_den]; rfl
    show Q (.bl (decide (V.int (Int.gcd r.num r.den : Int) = V.int 1))) H
    rw [e]
    exact k

/-! ### IsAmount -/
theorem ok_IsAmount {P : Program} {w : World} {K : PySem.W.Frag} {mg : Str → Option Value} {base : Heap} (T : TX K mg) (D : Dx K mg "is_amount" sIsAmount)
    (c_IsFraction : C8.Cal P w K mg base 2 "is_fraction" (spIsFraction K) []) : C8.Cal P w K mg base 3 "is_amount" (spIsAmount K) [] := by
  refine D.cal scIsAmount (fun _ _ _ _ _ _ us hl => match us, hl with | [_], _ => rfl) (fun vs H Q E h => ?_) (fun f cdv A outer s H vs Q E hr h => ?_)
  · obtain ⟨a, r, rfl, ha, h0, k⟩ := h
    rfl
  · obtain ⟨a, r, rfl, ha, h0, k⟩ := h
    refine ⟨_, (pss_one (ps_ret (pe_and (C8.pe_c c_IsFraction hr (by decide) (by rfl) (pa_cons (pv 0) pa_nil)) (pe_one (pe_cmpR op_ge (pe_ix ix_tup (pv 0) pe_int (fun _ _ => rfl)) pe_int (nomark _)))))), ?_⟩
    refine ⟨_, rfl, a, r, rfl, ha, _, rfl, iteT ?_⟩
    refine ⟨_, rfl, a, _, _, _, rfl, rfl, ha, atI_nat (j := 0) rfl, _, _, rfl, rfl, ?_⟩
    have e : decide (r.num ≥ 0) = true := decide_eq_true (Rat.num_nonneg.mpr h0)
    show Q (.bl (decide (r.num ≥ 0))) H
    rw [e]
    exact k

/-! ### IsSome -/
theorem ok_IsSome {P : Program} {w : World} {K : PySem.W.Frag} {mg : Str → Option Value} {base : Heap} (T : TX K mg) (D : Dx K mg "is_some" sIsSome)
    (c_IsFraction : C8.Cal P w K mg base 2 "is_fraction" (spIsFraction K) []) : C8.Cal P w K mg base 3 "is_some" (spIsSome K) [] := by
  refine D.cal scIsSome (fun _ _ _ _ _ _ us hl => match us, hl with | [_], _ => rfl) (fun vs H Q E h => ?_) (fun f cdv A outer s H vs Q E hr h => ?_)
  · obtain ⟨a, r, rfl, ha, h0, k⟩ := h
    rfl
  · obtain ⟨a, r, rfl, ha, h0, k⟩ := h
    refine ⟨_, (pss_one (ps_ret (pe_and (C8.pe_c c_IsFraction hr (by decide) (by rfl) (pa_cons (pv 0) pa_nil)) (pe_one (pe_cmpR op_gt (pe_ix ix_tup (pv 0) pe_int (fun _ _ => rfl)) pe_int (nomark _)))))), ?_⟩
    refine ⟨_, rfl, a, r, rfl, ha, _, rfl, iteT ?_⟩
    refine ⟨_, rfl, a, _, _, _, rfl, rfl, ha, atI_nat (j := 0) rfl, _, _, rfl, rfl, ?_⟩
    have e : decide (r.num > 0) = true := decide_eq_true (num_pos' h0)
    show Q (.bl (decide (r.num > 0))) H
    rw [e]
    exact k

/-! ### IsWareBelow -/
theorem ok_IsWareBelow {P : Program} {w : World} {K : PySem.W.Frag} {mg : Str → Option Value} {base : Heap} (T : TX K mg) (D : Dx K mg "is_ware_below" sIsWareBelow)
    (c_IsInteger : C8.Cal P w K mg base 1 "is_integer" (spIsInteger) []) : C8.Cal P w K mg base 2 "is_ware_below" (spIsWareBelow) [] := by
  refine D.cal scIsWareBelow (fun _ _ _ _ _ _ us hl => match us, hl with | [_, _], _ => rfl) (fun vs H Q E h => ?_) (fun f cdv A outer s H vs Q E hr h => ?_)
  · obtain ⟨i, n, rfl, h0, hn, k⟩ := h
    rfl
  · obtain ⟨i, n, rfl, h0, hn, k⟩ := h
    refine ⟨_, (pss_one (ps_ret (pe_and (C8.pe_c c_IsInteger hr (by decide) (by rfl) (pa_cons (pv 0) pa_nil)) (pe_one (pe_chain op_le op_lt pe_int (pv 0) (pv 1)))))), ?_⟩
    refine ⟨_, rfl, _, rfl, _, rfl, iteT ?_⟩
    refine ⟨_, rfl, _, _, rfl, rfl, _, rfl, iteD h0 ?_⟩
    refine ⟨_, rfl, _, _, rfl, rfl, ?_⟩
    have e : decide (i < n) = true := decide_eq_true hn
    show Q (.bl (decide (i < n))) H
    rw [e]
    exact k

/-! ### CheckWare -/
theorem ok_CheckWare {P : Program} {w : World} {K : PySem.W.Frag} {mg : Str → Option Value} {base : Heap} (T : TX K mg) (D : Dx K mg "check_ware" sCheckWare)
    (c_IsWareBelow : C8.Cal P w K mg base 2 "is_ware_below" (spIsWareBelow) []) : C8.Cal P w K mg base 3 "check_ware" (spCheckWare K) [] := by
  refine D.cal scCheckWare (fun _ _ _ _ _ _ us hl => match us, hl with | [_, _], _ => rfl) (fun vs H Q E h => ?_) (fun f cdv A outer s H vs Q E hr h => ?_)
  · obtain ⟨p, n, ss, i, rfl, hp, h0, hn, k⟩ := h
    rfl
  · obtain ⟨p, n, ss, i, rfl, hp, h0, hn, k⟩ := h
    refine ⟨_, (pss_cons (ps_if (pt_not (pt_val (C8.pe_c c_IsWareBelow hr (by decide) (by rfl) (pa_cons (pv 1) (pa_cons (pe_fld (pv 0) rfl) pa_nil))))) (pss_one ps_never)
        pss_nil)
        (pss_one (ps_ret (pv 1)))), ?_⟩
    obtain ⟨dx, t, hw, _⟩ := id hp
    refine ⟨_, rfl, _, rfl, p, _, dx, _, _, rfl, hw, T.clW, T.nWares, wbF_w n t, _, _, rfl, h0, hn, _, rfl, iteF ?_⟩
    exact ⟨_, rfl, k⟩

/-! ### OtherWare -/
theorem ok_OtherWare {P : Program} {w : World} {K : PySem.W.Frag} {mg : Str → Option Value} {base : Heap} (T : TX K mg) (D : Dx K mg "other_ware" sOtherWare)
     : C8.Cal P w K mg base 1 "other_ware" (spOtherWare K) [] := by
  refine D.cal scOtherWare (fun _ _ _ _ _ _ us hl => match us, hl with | [_, _], _ => rfl) (fun vs H Q E h => ?_) (fun f cdv A outer s H vs Q E hr h => ?_)
  · obtain ⟨a, x, w1, rfl, ha, k⟩ := h
    rfl
  · obtain ⟨a, x, w1, rfl, ha, k⟩ := h
    refine ⟨_, (pss_one (ps_ret (pe_ifExp (pt_cmpR op_eq (pe_ix ix_tup (pv 0) pe_int (fun _ _ => rfl)) (pv 1) (nomark _)) (pe_ix ix_tup (pv 0) pe_int (fun _ _ => rfl)) (pe_ix ix_tup (pv 0) pe_int (fun _ _ => rfl))))), ?_⟩
    obtain ⟨th, tg, tr, h0, h1, h2, h3⟩ := ha
    refine ⟨_, rfl, a, _, _, _, rfl, rfl, h0, atI_nat (j := 0) rfl, _, rfl, rfl, _, rfl, ite2 (fun c => ?_) (fun c => ?_)⟩
    · refine ⟨_, rfl, a, _, _, _, rfl, rfl, h0, atI_nat (j := 1) rfl, ?_⟩
      have e : x.u = w1 := Int.ofNat.inj (V.int.inj (of_decide_eq_true c))
      rw [if_pos e] at k
      exact k
    · refine ⟨_, rfl, a, _, _, _, rfl, rfl, h0, atI_nat (j := 0) rfl, ?_⟩
      have e : ¬ x.u = w1 := fun z => c (by rw [z]; simp)
      rw [if_neg e] at k
      exact k

/-! ### HeldOf -/
theorem ok_HeldOf {P : Program} {w : World} {K : PySem.W.Frag} {mg : Str → Option Value} {base : Heap} (T : TX K mg) (D : Dx K mg "held_of" sHeldOf)
    (c_Exact : C8.Cal P w K mg base 4 "exact" (spExact K) []) : C8.Cal P w K mg base 5 "held_of" (spHeldOf K) [] := by
  refine D.cal scHeldOf (fun _ _ _ _ _ _ us hl => match us, hl with | [_, _], _ => rfl) (fun vs H Q E h => ?_) (fun f cdv A outer s H vs Q E hr h => ?_)
  · obtain ⟨a, x, w1, rfl, ha, o1, o2, k⟩ := h
    rfl
  · obtain ⟨a, x, w1, rfl, ha, o1, o2, k⟩ := h
    refine ⟨_, (pss_one (ps_ret (C8.pe_c c_Exact hr (by decide) (by rfl) (pa_cons (pe_ifExp (pt_cmpR op_eq (pe_ix ix_tup (pv 0) pe_int (fun _ _ => rfl)) (pv 1) (nomark _)) (pe_ix ix_tup (pv 0) pe_int (fun _ _ => rfl)) (pe_ix ix_tup (pv 0) pe_int (fun _ _ => rfl))) pa_nil)))), ?_⟩
    obtain ⟨th, tg, tr, h0, h1, h2, h3⟩ := ha
    refine ⟨_, rfl, a, _, _, _, rfl, rfl, h0, atI_nat (j := 0) rfl, _, rfl, rfl, _, rfl, ite2 (fun c => ?_) (fun c => ?_)⟩
    · have e : x.u = w1 := Int.ofNat.inj (V.int.inj (of_decide_eq_true c))
      refine ⟨_, rfl, a, _, _, _, rfl, rfl, h0, atI_nat (j := 2) rfl, th, x.h, rfl, h1, o1, fun p H' s1 s2 s3 => k p H' s1 s2 ?_⟩
      unfold Stl.of
      rw [if_pos e]
      exact s3
    · have e : ¬ x.u = w1 := fun z => c (by rw [z]; simp)
      refine ⟨_, rfl, a, _, _, _, rfl, rfl, h0, atI_nat (j := 3) rfl, tg, x.g, rfl, h2, o2, fun p H' s1 s2 s3 => k p H' s1 s2 ?_⟩
      unfold Stl.of
      rw [if_neg e]
      exact s3

/-! ### RootExact -/
theorem ok_RootExact {P : Program} {w : World} {K : PySem.W.Frag} {mg : Str → Option Value} {base : Heap} (T : TX K mg) (D : Dx K mg "root_exact" sRootExact)
    (c_Exact : C8.Cal P w K mg base 4 "exact" (spExact K) []) : C8.Cal P w K mg base 5 "root_exact" (spRootExact K) [] := by
  refine D.cal scRootExact (fun _ _ _ _ _ _ us hl => match us, hl with | [_], _ => rfl) (fun vs H Q E h => ?_) (fun f cdv A outer s H vs Q E hr h => ?_)
  · obtain ⟨a, x, rfl, ha, o1, k⟩ := h
    rfl
  · obtain ⟨a, x, rfl, ha, o1, k⟩ := h
    refine ⟨_, (pss_one (ps_ret (C8.pe_c c_Exact hr (by decide) (by rfl) (pa_cons (pe_ix ix_tup (pv 0) pe_int (fun _ _ => rfl)) pa_nil)))), ?_⟩
    obtain ⟨th, tg, tr, h0, h1, h2, h3⟩ := ha
    exact ⟨_, rfl, a, _, _, _, rfl, rfl, h0, atI_nat (j := 4) rfl, tr, x.r, rfl, h3, o1, k⟩

/-! ### Empty -/
theorem ok_Empty {P : Program} {w : World} {K : PySem.W.Frag} {mg : Str → Option Value} {base : Heap} (T : TX K mg) (D : Dx K mg "empty" sEmpty)
    (c_ExactInit : C8.Mak P w K mg base 2 "Exact" (cE K) (spExactInit K) []) : C8.Cal P w K mg base 4 "empty" (spEmpty K) [] := by
  refine D.cal scEmpty (fun _ _ _ _ _ _ us hl => match us, hl with | [_], _ => rfl) (fun vs H Q E h => ?_) (fun f cdv A outer s H vs Q E hr h => ?_)
  · obtain ⟨p, n, ss, rfl, hp, hn, k⟩ := h
    rfl
  · obtain ⟨p, n, ss, rfl, hp, hn, k⟩ := h
    refine ⟨_, (pss_one (ps_ret (pe_lc (own := [("ware", 1)]) (by rfl) scEmpty.nd (pi_range1 rfl T.f_range (pa_cons (pe_fld (pv 0) rfl) pa_nil)) (blkOk_by (N := ["web", "ware"]) (sc := defScope sEmpty) (by decide +kernel)) (fun _ _ _ _ _ => pg_name (i := 1) scEmpty.nd rfl (Or.inl rfl)) (fun _ _ _ _ _ => pts_nil) (fun _ _ _ _ _ => (C8.pe_mk c_ExactInit hr (by decide) (by rfl) (pa_cons pe_int (pa_cons pe_int pa_nil))))))), ?_⟩
    obtain ⟨dx, t, hw, _⟩ := id hp
    refine ⟨_, rfl, p, _, dx, _, _, rfl, hw, T.clW, T.nWares, wbF_w n t, (n : Int), rfl, by omega, by omega, fun D hD => lc_range (lo := 0) (n := ((n : Int)).toNat) (fun i H' => VecE K H' D i (fun _ => 0) ∧ Same H H') ⟨VecR.nil, same_upd1 hD⟩ ?_ ?_⟩
    · rintro i H1 hi ⟨g1, g4⟩
      refine ⟨rfl, ?_⟩
      intro y dy ny ndy ney
      refine ⟨y, dy, 0, 1, rfl, upd_same, by decide, by decide, fun H2 h1 h2 => ⟨rfl, ?_⟩⟩
      have s1 : Same H1 H2 := Same.made ny ndy h2
      obtain ⟨acc, ha, hl, hv⟩ := g1.push exR s1 (q := y) h1
      exact ⟨acc, ha, small1000 (by omega), hv, same_new (g4.trans s1) hD⟩
    · rintro H1 ⟨g1, g4⟩
      exact k D H1 g4 hD g1

end Fair

set_option Elab.async false
set_option linter.all false
set_option maxRecDepth 100000
set_option maxHeartbeats 4000000
namespace Fair
open PySem PySem.Spec PyProof.Rows L2
/-! ### IsStall -/
theorem ok_IsStall {P : Program} {w : World} {K : PySem.W.Frag} {mg : Str → Option Value} {base : Heap} (T : TX K mg) (D : Dx K mg "is_stall" sIsStall)
    (c_IsWareBelow : C8.Cal P w K mg base 2 "is_ware_below" (spIsWareBelow) [])
    (c_IsSome : C8.Cal P w K mg base 3 "is_some" (spIsSome K) [])
    (c_Exact : C8.Cal P w K mg base 4 "exact" (spExact K) [])
    (c_ExactMul : C8.Met P w K mg base 4 (cE K) "__mul__" (spMul K) [])
    (c_ExactSquare : C8.Met P w K mg base 4 (cE K) "square" (spSquare K) [])
    (c_ExactEq : C8.Met P w K mg base 1 (cE K) "__eq__" (spEq K) []) : C8.Cal P w K mg base 5 "is_stall" (spIsStall K) [] := by
  refine D.cal scIsStall (fun _ _ _ _ _ _ us hl => match us, hl with | [_, _], _ => rfl) (fun vs H Q E h => ?_) (fun f cdv A outer s H vs Q E hr h => ?_)
  · obtain ⟨a, x, n, rfl, ha, ok, k⟩ := h
    rfl
  · obtain ⟨a, x, n, rfl, ha, ok, k⟩ := h
    refine ⟨_, (pss_cons (ps_if (PW.pt (pw_or (pt_not (pt_val (pe_callB call_isi (by rfl) T.f_isinstance (by decide +kernel) (pa_cons (pv 0) (pa_cons (pe_bltn (v := .ty "tuple") (by rfl) T.f_tuple (by decide +kernel) rfl) pa_nil))))) (pw_or (pt_cmpR op_ne (pe_callB call_len_seq (by rfl) T.f_len (by decide +kernel) (pa_cons (pv 0) pa_nil)) pe_int (nomark _)) (pw_or1 (pt_not (pt_val (pe_callB (cr_all rfl) (by rfl) T.f_all (by decide +kernel) (pa_cons (pe_lc (own := [("ware", 2)]) (by rfl) scIsStall.nd (pi_tup (pe_slice sl_tupA (pv 0) po_none (po_some pe_int))) (blkOk_by (N := ["thing", "wares", "ware", "amount"]) (sc := defScope sIsStall) (by decide +kernel)) (fun _ _ _ _ _ => pg_name (i := 2) scIsStall.nd rfl (Or.inl rfl)) (fun _ _ _ _ _ => pts_nil) (fun _ _ _ _ _ => (C8.pe_c c_IsWareBelow hr (by decide) (by rfl) (pa_cons (pv 2) (pa_cons (pv 1) pa_nil))))) pa_nil)))))))) (pss_one (ps_ret pe_bl))
        pss_nil)
        (pss_cons (ps_if (PW.pt (pw_or (pt_cmpR op_eq (pe_ix ix_tup (pv 0) pe_int (fun _ _ => rfl)) (pe_ix ix_tup (pv 0) pe_int (fun _ _ => rfl)) (nomark _)) (pw_or1 (pt_not (pt_val (pe_callB (cr_all rfl) (by rfl) T.f_all (by decide +kernel) (pa_cons (pe_lc (own := [("amount", 3)]) (by rfl) scIsStall.nd (pi_tup (pe_slice sl_tupA (pv 0) (po_some pe_int) po_none)) (blkOk_by (N := ["thing", "wares", "ware", "amount"]) (sc := defScope sIsStall) (by decide +kernel)) (fun _ _ _ _ _ => pg_name (i := 3) scIsStall.nd rfl (Or.inl rfl)) (fun _ _ _ _ _ => pts_nil) (fun _ _ _ _ _ => (C8.pe_c c_IsSome hr (by decide) (by rfl) (pa_cons (pv 3) pa_nil)))) pa_nil))))))) (pss_one (ps_ret pe_bl))
        pss_nil)
        (pss_one (ps_ret (pe_cmpR (op_ownEq c_ExactEq hr (by decide)) (pe_op (op_own c_ExactMul T.sfE hr (by decide)) (C8.pe_c c_Exact hr (by decide) (by rfl) (pa_cons (pe_ix ix_tup (pv 0) pe_int (fun _ _ => rfl)) pa_nil)) (C8.pe_c c_Exact hr (by decide) (by rfl) (pa_cons (pe_ix ix_tup (pv 0) pe_int (fun _ _ => rfl)) pa_nil))) (C8.pe_mt0 c_ExactSquare hr (by decide) (C8.pe_c c_Exact hr (by decide) (by rfl) (pa_cons (pe_ix ix_tup (pv 0) pe_int (fun _ _ => rfl)) pa_nil))) (nomark _)))))), ?_⟩
    obtain ⟨th, tg, tr, h0, h1, h2, h3⟩ := ha
    refine ⟨_, rfl, _, _, _, _, _, rfl, .ty "tuple", tyX_tup h0, kTT, _, rfl, iteF ?_⟩
    refine ⟨_, rfl, a, _, rfl, .inr h0, rfl, _, rfl, iteNS rfl ?_⟩
    refine ⟨_, rfl, _, rfl, a, _, rfl, h0, fun hw => absurd hw (show ¬ (HT.sIx 5 0 none = 0 ∧ HT.sIx 5 5 (some 2) = 5) by decide), fun _ t1 nt1 => ?_⟩
    refine ⟨t1, rfl, ⟨_, SqT.of upd_same⟩, fun D hD => lc_tup (K := K) (a := t1) (xs := [.int x.u, .int x.v]) (fun i H' => H' D = some (.lst (List.replicate i (.bl true))) ∧ Same H H' ∧ SqT K H' t1 [.int x.u, .int x.v]) ⟨upd_same, same_new (same_upd1 nt1) (Same.free (same_upd1 nt1) hD), same_tup (same_upd1 hD) (SqT.of upd_same)⟩ (fun i H1 _ ⟨_, _, q⟩ => q) ?_ ?_⟩
    · rintro i y H1 hi ⟨g1, g2, g3⟩
      refine ⟨rfl, ?_⟩
      obtain ⟨m, rfl, hm⟩ : ∃ m : Nat, y = .int m ∧ m < n := by
        match i, hi with
        | 0, hi => exact ⟨x.u, (Option.some.inj hi).symm, ok.un⟩
        | 1, hi => exact ⟨x.v, (Option.some.inj hi).symm, ok.vn⟩
      have hi2 : i < 2 := (List.getElem?_eq_some_iff.mp hi).1
      refine ⟨_, rfl, _, rfl, _, _, rfl, by omega, by omega, _, g1, small1000 (by rw [List.length_replicate]; omega), ?_, ?_, ?_⟩
      · rw [upd_same, List.replicate_succ']
      · exact same_new g2 (Same.free (same_upd1 nt1) hD)
      · exact imm_tup (Imm.lst g1) g3
    rintro H1 ⟨g1, g2, g3⟩
    refine ⟨D, [true, true], rfl, SqL.of g1, _, rfl, iteF ?_⟩
    have q0 := same_tup g2 h0
    refine ⟨_, rfl, a, _, _, _, rfl, rfl, q0, atI_nat (j := 0) rfl, _, rfl, a, _, _, _, rfl, rfl, q0, atI_nat (j := 1) rfl, rfl, _, rfl, iteDN (fun z => ok.ne (Int.ofNat.inj (V.int.inj z))) ?_⟩
    refine ⟨_, rfl, _, rfl, a, _, rfl, q0, fun hw => absurd hw (show ¬ (HT.sIx 5 0 (some 2) = 0 ∧ HT.sIx 5 5 none = 5) by decide), fun _ t2 nt2 => ?_⟩
    refine ⟨t2, rfl, ⟨_, SqT.of upd_same⟩, fun D2 hD2 => lc_tup (K := K) (a := t2) (xs := [.ref th, .ref tg, .ref tr]) (fun i H' => H' D2 = some (.lst (List.replicate i (.bl true))) ∧ Same H1 H' ∧ SqT K H' t2 [.ref th, .ref tg, .ref tr]) ⟨upd_same, same_new (same_upd1 nt2) (Same.free (same_upd1 nt2) hD2), same_tup (same_upd1 hD2) (SqT.of upd_same)⟩ (fun i H1 _ ⟨_, _, q⟩ => q) ?_ ?_⟩
    · rintro i y H2 hi ⟨e1, e2, e3⟩
      refine ⟨rfl, ?_⟩
      have gg := g2.trans e2
      obtain ⟨m, r1, rfl, hm, hp⟩ : ∃ (m : Addr) (r1 : Rat), y = .ref m ∧ FrAt K H2 m r1 ∧ 0 < r1 := by
        match i, hi with
        | 0, hi => exact ⟨th, x.h, (Option.some.inj hi).symm, h1.same gg, ok.h0⟩
        | 1, hi => exact ⟨tg, x.g, (Option.some.inj hi).symm, h2.same gg, ok.g0⟩
        | 2, hi => exact ⟨tr, x.r, (Option.some.inj hi).symm, h3.same gg, ok.r0⟩
      have hi2 : i < 3 := (List.getElem?_eq_some_iff.mp hi).1
      refine ⟨_, rfl, _, _, rfl, hm, hp, _, e1, small1000 (by rw [List.length_replicate]; omega), ?_, ?_, ?_⟩
      · rw [upd_same, List.replicate_succ']
      · exact same_new e2 (Same.free (same_upd1 nt2) hD2)
      · exact imm_tup (Imm.lst e1) e3
    rintro H2 ⟨e1, e2, e3⟩
    refine ⟨D2, [true, true, true], rfl, SqL.of e1, _, rfl, iteF ?_⟩
    have gg := g2.trans e2
    have q2 := same_tup e2 q0
    refine ⟨_, rfl, a, _, _, _, rfl, rfl, q2, atI_nat (j := 2) rfl, th, x.h, rfl, h1.same gg, ok.oh, fun p1 H3 s3 n3 x3 => ?_⟩
    refine ⟨_, rfl, a, _, _, _, rfl, rfl, same_tup s3 q2, atI_nat (j := 3) rfl, tg, x.g, rfl, h2.same (gg.trans s3), ok.og, fun p2 H4 s4 n4 x4 => ?_⟩
    refine own_of (x3.same s4) x4 ⟨p1, p2, _, _, rfl, x3.same s4, x4, ok.oh, ok.og, trivial, fun p3 H5 s5 n5 x5 => ?_⟩
    have g5 := ((gg.trans s3).trans s4).trans s5
    refine ⟨_, rfl, a, _, _, _, rfl, rfl, same_tup g5 h0, atI_nat (j := 4) rfl, tr, x.r, rfl, h3.same g5, ok.or, fun p6 H6 s6 n6 x6 => ?_⟩
    refine meth_of x6 (by decide +kernel) (by decide +kernel) ⟨p6, _, rfl, x6, ok.or, fun p7 H7 s7 n7 x7 => ?_⟩
    have x8 := x5.same (s6.trans s7)
    refine own_of x8 x7 ⟨p3, p7, _, _, rfl, x8, x7, ?_⟩
    rw [decide_eq_true ok.rt]
    exact k _ ((g5.trans s6).trans s7)

end Fair

set_option Elab.async false
set_option linter.all false
set_option maxRecDepth 100000
set_option maxHeartbeats 4000000
namespace Fair
open PySem PySem.Spec PyProof.Rows L2
/-! ### WebInit -/
theorem ok_WebInit {P : Program} {w : World} {K : PySem.W.Frag} {mg : Str → Option Value} {base : Heap} (T : TX K mg) (D : Kx K mg "Web" (cW K) "Web.__init__" sWebInit)
    (c_IsInteger : C8.Cal P w K mg base 1 "is_integer" (spIsInteger) [])
    (c_IsStall : C8.Cal P w K mg base 5 "is_stall" (spIsStall K) []) : C8.Mak P w K mg base 6 "Web" (cW K) (spWebInit K) [] := by
  refine D.mak scWebInit (fun _ _ _ _ _ _ us hl => match us, hl with | [_, _, _], _ => rfl) (fun vs H Q E h => ?_) (fun f cdv A outer s H vs Q E hr h => ?_)
  · obtain ⟨p, dx, a, n, ss, rfl, hp, ha, ok, k⟩ := h
    rfl
  · obtain ⟨p, dx, a, n, ss, rfl, hp, ha, ok, k⟩ := h
    have h8 : (n : Int) ≤ 8 := by have := ok.n8; omega
    have h1 : (1 : Int) ≤ n := by have := ok.n1; omega
    rcases ha with ⟨as, hq0, he⟩ | ⟨as, hq, he⟩
    · have hq := SqL.of (K := K) hq0
      refine ⟨_, (pss_cons (ps_if (PW.pt (pw_or (pt_not (pt_val (C8.pe_c c_IsInteger hr (by decide) (by rfl) (pa_cons (pv 1) pa_nil)))) (pw_or1 (pt_not (pt_chain op_le op_le pe_int (pv 1) (C8.pe_gc (by rfl) T.mWares)))))) (pss_one ps_never)
        pss_nil)
        (pss_cons (ps_if (PW.pt (pw_or (pt_not (pt_val (pe_callB call_isiT (by rfl) T.f_isinstance (by decide +kernel) (pa_cons (pv 2) (pa_cons (pe_tup (pa_cons (pe_bltn (v := .ty "list") (by rfl) T.f_list (by decide +kernel) rfl) (pa_cons (pe_bltn (v := .ty "tuple") (by rfl) T.f_tuple (by decide +kernel) rfl) pa_nil))) pa_nil))))) (pw_or1 (pt_cmpR op_gt (pe_callB call_len_seq (by rfl) T.f_len (by decide +kernel) (pa_cons (pv 2) pa_nil)) (C8.pe_gc (by rfl) T.mStalls) (nomark _))))) (pss_one ps_never)
        pss_nil)
        (pss_cons (ps_for PassesOwn.never rfl (pi_enum (by rfl) T.f_enumerate (pa_cons (pv 2) pa_nil)) (pg_tup rfl (pgs_cons (pg_name (i := 3) scWebInit.nd rfl (by first | exact Or.inl rfl | exact Or.inr rfl)) (pgs_cons (pg_name (i := 4) scWebInit.nd rfl (by first | exact Or.inl rfl | exact Or.inr rfl)) pgs_nil)))
        (pss_one (ps_if (pt_not (pt_val (C8.pe_c c_IsStall hr (by decide) (by rfl) (pa_cons (pv 4) (pa_cons (pv 1) pa_nil))))) (pss_one ps_never)
        pss_nil)))
        (pss_cons (ps_fld (pv 0) (pv 1) rfl)
        (pss_one (ps_fld (pv 0) (pe_callTy call_tuple_of (by rfl) T.f_tuple (by decide +kernel) (pa_cons (pv 2) pa_nil)) rfl)))))), ?_⟩
      refine ⟨_, rfl, _, rfl, _, rfl, iteF ?_⟩
      refine ⟨_, rfl, _, _, rfl, rfl, _, rfl, iteD h1 ⟨_, _, rfl, rfl, _, rfl, iteNS h8 ?_⟩⟩
      refine ⟨_, rfl, (by show 2 ≤ sizeLine; decide), fun t nt => ?_⟩
      have s1 : Same H (upd H t (.tup [.ty "list", .ty "tuple"])) := same_upd1 nt
      refine ⟨_, t, _, _, _, _, rfl, upd_same, .cons (.ty _) (.cons (.ty _) .nil), tyX_lst (s1.seq hq), kAnyL, _, rfl, iteF ?_⟩
      refine ⟨_, rfl, a, _, rfl, .inl (s1.seq hq), _, _, rfl, rfl, _, rfl, iteDN (by have := ok.len; have := he.1; simp only [List.length_map]; omega) ?_⟩
      refine ⟨_, rfl, a, _, rfl, s1.seq hq, for_enumL (K := K) (a := a) (xs := as.map V.ref) (fun i σ H' => ∃ v3 v4, σ = [some (.ref p), some (.int n), some (.ref a), v3, v4] ∧ Same H H') ⟨_, _, rfl, s1⟩ (fun i σ H' _ ⟨_, _, _, q⟩ => q.seq hq) ?_ ?_⟩
      · rintro i y σ H1 t1 hi ⟨v3, v4, rfl, g⟩ n1
        obtain ⟨x1, x, rfl, e1, e2, e3⟩ := he.get hi
        refine ⟨t1, _, rfl, SqT.of upd_same, rfl, _, _, rfl, _, _, rfl, rfl, ?_⟩
        refine ⟨_, rfl, _, rfl, x1, x, n, rfl, e3.same (same_of_upd g n1), ok.ok x (List.mem_of_getElem? e2), fun H2 s2 => ⟨_, rfl, iteF ?_⟩⟩
        exact ⟨_, _, rfl, (same_of_upd g n1).trans s2⟩
      · rintro σ H1 ⟨v3, v4, rfl, g⟩
        refine ⟨_, rfl, _, rfl, p, cW K, dx, [], rfl, g _ _ hp, T.clW, T.nWares, (by show 0 < 1000; decide), ?_⟩
        have g2 : ∀ c o, H c = some o → c ≠ p → upd H1 p (.ins (cW K) dx (putF "wares" (.int n) [])) c = some o := fun c o e hc => by rw [upd_ne hc]; exact g c o e
        have nap : a ≠ p := ne_of hq0 hp (by intro z; cases z)
        refine ⟨_, rfl, a, _, rfl, .inl ⟨SqL.of (by rw [upd_ne nap]; exact g _ _ hq0), fun l nl => ?_⟩⟩
        have npl : p ≠ l := ne_of_none upd_same nl
        refine ⟨_, rfl, p, cW K, dx, _, rfl, (by rw [upd_ne npl]; exact upd_same), T.clW, T.nStalls, (by show 1 < 1000; decide), ?_⟩
        have g3 : ∀ c o, H c = some o → c ≠ p → upd (upd (upd H1 p (.ins (cW K) dx (putF "wares" (.int n) []))) l (.tup (as.map V.ref))) p (.ins (cW K) dx (putF "stalls" (.ref l) (putF "wares" (.int n) []))) c = some o := fun c o e hc => by
          rw [upd_ne hc, upd_ne (ne_of_none (g2 c o e hc) nl)]; exact g2 c o e hc
        refine k _ ⟨dx, l, by rw [upd_same, wbF_put], as, SqT.of (by rw [upd_ne npl.symm, upd_same]), he.mono fun _ _ q => q.tk (Tk.of hp g3)⟩ g3
    · refine ⟨_, (pss_cons (ps_if (PW.pt (pw_or (pt_not (pt_val (C8.pe_c c_IsInteger hr (by decide) (by rfl) (pa_cons (pv 1) pa_nil)))) (pw_or1 (pt_not (pt_chain op_le op_le pe_int (pv 1) (C8.pe_gc (by rfl) T.mWares)))))) (pss_one ps_never)
        pss_nil)
        (pss_cons (ps_if (PW.pt (pw_or (pt_not (pt_val (pe_callB call_isiT (by rfl) T.f_isinstance (by decide +kernel) (pa_cons (pv 2) (pa_cons (pe_tup (pa_cons (pe_bltn (v := .ty "list") (by rfl) T.f_list (by decide +kernel) rfl) (pa_cons (pe_bltn (v := .ty "tuple") (by rfl) T.f_tuple (by decide +kernel) rfl) pa_nil))) pa_nil))))) (pw_or1 (pt_cmpR op_gt (pe_callB call_len_seq (by rfl) T.f_len (by decide +kernel) (pa_cons (pv 2) pa_nil)) (C8.pe_gc (by rfl) T.mStalls) (nomark _))))) (pss_one ps_never)
        pss_nil)
        (pss_cons (ps_for PassesOwn.never rfl (pi_enumT (by rfl) T.f_enumerate (pa_cons (pv 2) pa_nil)) (pg_tup rfl (pgs_cons (pg_name (i := 3) scWebInit.nd rfl (by first | exact Or.inl rfl | exact Or.inr rfl)) (pgs_cons (pg_name (i := 4) scWebInit.nd rfl (by first | exact Or.inl rfl | exact Or.inr rfl)) pgs_nil)))
        (pss_one (ps_if (pt_not (pt_val (C8.pe_c c_IsStall hr (by decide) (by rfl) (pa_cons (pv 4) (pa_cons (pv 1) pa_nil))))) (pss_one ps_never)
        pss_nil)))
        (pss_cons (ps_fld (pv 0) (pv 1) rfl)
        (pss_one (ps_fld (pv 0) (pe_callTy call_tuple_of (by rfl) T.f_tuple (by decide +kernel) (pa_cons (pv 2) pa_nil)) rfl)))))), ?_⟩
      refine ⟨_, rfl, _, rfl, _, rfl, iteF ?_⟩
      refine ⟨_, rfl, _, _, rfl, rfl, _, rfl, iteD h1 ⟨_, _, rfl, rfl, _, rfl, iteNS h8 ?_⟩⟩
      refine ⟨_, rfl, (by show 2 ≤ sizeLine; decide), fun t nt => ?_⟩
      have s1 : Same H (upd H t (.tup [.ty "list", .ty "tuple"])) := same_upd1 nt
      refine ⟨_, t, _, _, _, _, rfl, upd_same, .cons (.ty _) (.cons (.ty _) .nil), tyX_tup (same_tup s1 hq), kAnyT, _, rfl, iteF ?_⟩
      refine ⟨_, rfl, a, _, rfl, .inr (same_tup s1 hq), _, _, rfl, rfl, _, rfl, iteDN (by have := ok.len; have := he.1; simp only [List.length_map]; omega) ?_⟩
      refine ⟨_, rfl, a, _, rfl, same_tup s1 hq, for_enumT (K := K) (a := a) (xs := as.map V.ref) (fun i σ H' => ∃ v3 v4, σ = [some (.ref p), some (.int n), some (.ref a), v3, v4] ∧ Same H H') ⟨_, _, rfl, s1⟩ (fun i σ H' _ ⟨_, _, _, q⟩ => same_tup q hq) ?_ ?_⟩
      · rintro i y σ H1 t1 hi ⟨v3, v4, rfl, g⟩ n1
        obtain ⟨x1, x, rfl, e1, e2, e3⟩ := he.get hi
        refine ⟨t1, _, rfl, SqT.of upd_same, rfl, _, _, rfl, _, _, rfl, rfl, ?_⟩
        refine ⟨_, rfl, _, rfl, x1, x, n, rfl, e3.same (same_of_upd g n1), ok.ok x (List.mem_of_getElem? e2), fun H2 s2 => ⟨_, rfl, iteF ?_⟩⟩
        exact ⟨_, _, rfl, (same_of_upd g n1).trans s2⟩
      · rintro σ H1 ⟨v3, v4, rfl, g⟩
        refine ⟨_, rfl, _, rfl, p, cW K, dx, [], rfl, g _ _ hp, T.clW, T.nWares, (by show 0 < 1000; decide), ?_⟩
        have g2 : ∀ c o, H c = some o → c ≠ p → upd H1 p (.ins (cW K) dx (putF "wares" (.int n) [])) c = some o := fun c o e hc => by rw [upd_ne hc]; exact g c o e
        have tk := Tk.of hp g2
        refine ⟨_, rfl, a, _, rfl, .inr ⟨tk_tup tk hq, ?_⟩⟩
        refine ⟨_, rfl, p, cW K, dx, _, rfl, upd_same, T.clW, T.nStalls, (by show 1 < 1000; decide), ?_⟩
        have g3 : ∀ c o, H c = some o → c ≠ p → upd (upd H1 p (.ins (cW K) dx (putF "wares" (.int n) []))) p (.ins (cW K) dx (putF "stalls" (.ref a) (putF "wares" (.int n) []))) c = some o := fun c o e hc => by
          rw [upd_ne hc]; exact g2 c o e hc
        refine k _ ⟨dx, a, by rw [upd_same, wbF_put], as, tk_tup (Tk.of hp g3) hq, he.mono fun _ _ q => q.tk (Tk.of hp g3)⟩ g3

end Fair

set_option Elab.async false
set_option linter.all false
set_option maxRecDepth 100000
set_option maxHeartbeats 4000000
namespace Fair
open PySem PySem.Spec PyProof.Rows L2
/-! ### IsAmounts -/
theorem ok_IsAmounts {P : Program} {w : World} {K : PySem.W.Frag} {mg : Str → Option Value} {base : Heap} (T : TX K mg) (D : Dx K mg "is_amounts" sIsAmounts)
    (c_IsAmount : C8.Cal P w K mg base 3 "is_amount" (spIsAmount K) []) : C8.Cal P w K mg base 4 "is_amounts" (spIsAmounts K) [] := by
  refine D.cal scIsAmounts (fun _ _ _ _ _ _ us hl => match us, hl with | [_, _], _ => rfl) (fun vs H Q E h => ?_) (fun f cdv A outer s H vs Q E hr h => ?_)
  · obtain ⟨a, xs, rfl, ha, h0, hl, k⟩ := h
    rfl
  · obtain ⟨a, xs, rfl, ha, h0, hl, k⟩ := h
    refine ⟨_, (pss_one (ps_ret (pe_and (pe_callB call_isiT (by rfl) T.f_isinstance (by decide +kernel) (pa_cons (pv 0) (pa_cons (pe_tup (pa_cons (pe_bltn (v := .ty "list") (by rfl) T.f_list (by decide +kernel) rfl) (pa_cons (pe_bltn (v := .ty "tuple") (by rfl) T.f_tuple (by decide +kernel) rfl) pa_nil))) pa_nil))) (pe_and (pe_cmpR op_eq (pe_callB call_len_seq (by rfl) T.f_len (by decide +kernel) (pa_cons (pv 0) pa_nil)) (pv 1) (nomark _)) (pe_one (pe_callB (cr_all rfl) (by rfl) T.f_all (by decide +kernel) (pa_cons (pe_lc (own := [("item", 2)]) (by rfl) scIsAmounts.nd (pi_tup (pv 0)) (blkOk_by (N := ["thing", "many", "item"]) (sc := defScope sIsAmounts) (by decide +kernel)) (fun _ _ _ _ _ => pg_name (i := 2) scIsAmounts.nd rfl (Or.inl rfl)) (fun _ _ _ _ _ => pts_nil) (fun _ _ _ _ _ => (C8.pe_c c_IsAmount hr (by decide) (by rfl) (pa_cons (pv 2) pa_nil)))) pa_nil))))))), ?_⟩
    obtain ⟨as, hq, he⟩ := ha
    refine ⟨_, rfl, (by show 2 ≤ sizeLine; decide), fun t nt => ?_⟩
    have s1 : Same H (upd H t (.tup [.ty "list", .ty "tuple"])) := same_upd1 nt
    refine ⟨_, t, _, _, _, _, rfl, upd_same, .cons (.ty _) (.cons (.ty _) .nil), tyX_tup (same_tup s1 hq), kAnyT, _, rfl, iteT ?_⟩
    refine ⟨_, rfl, a, _, rfl, .inr (same_tup s1 hq), _, rfl, rfl, _, rfl, iteD (by rw [List.length_map, he.1]) ?_⟩
    refine ⟨_, rfl, a, rfl, ⟨_, same_tup s1 hq⟩, fun D hD => lc_tup (K := K) (a := a) (xs := as.map V.ref) (fun i H' => H' D = some (.lst (List.replicate i (.bl true))) ∧ Same H H') ⟨upd_same, same_of_upd s1 hD⟩ (fun i H1 _ ⟨_, q⟩ => same_tup q hq) ?_ ?_⟩
    · rintro i y H1 hi ⟨g1, g2⟩
      refine ⟨rfl, ?_⟩
      obtain ⟨m, r1, rfl, e1, e2, hm⟩ := he.get hi
      have hl2 : i < as.length := (List.getElem?_eq_some_iff.mp e1).1
      refine ⟨_, rfl, _, _, rfl, hm.same g2, h0 r1 (List.mem_of_getElem? e2), _, g1, small1000 (by have := he.1; rw [List.length_replicate]; omega), ?_, ?_⟩
      · rw [upd_same, List.replicate_succ']
      · exact same_new g2 (Same.free s1 hD)
    rintro H1 ⟨g1, g2⟩
    refine ⟨D, List.replicate as.length true, rfl, SqL.of (by rw [g1, List.map_replicate, List.length_map]), ?_⟩
    have e : (List.replicate as.length true).all id = true := List.all_eq_true.mpr fun b hb => (List.mem_replicate.mp hb).2
    show Q (.bl ((List.replicate as.length true).all id)) H1
    rw [e]
    exact k H1 g2

/-! ### CheckPurse -/
theorem ok_CheckPurse {P : Program} {w : World} {K : PySem.W.Frag} {mg : Str → Option Value} {base : Heap} (T : TX K mg) (D : Dx K mg "check_purse" sCheckPurse)
    (c_IsAmounts : C8.Cal P w K mg base 4 "is_amounts" (spIsAmounts K) [])
    (c_Exact : C8.Cal P w K mg base 4 "exact" (spExact K) []) : C8.Cal P w K mg base 5 "check_purse" (spCheckPurse K) [] := by
  refine D.cal scCheckPurse (fun _ _ _ _ _ _ us hl => match us, hl with | [_, _], _ => rfl) (fun vs H Q E h => ?_) (fun f cdv A outer s H vs Q E hr h => ?_)
  · obtain ⟨p, a, n, ss, rfl, hp, hn, ha, k⟩ := h
    rfl
  · obtain ⟨p, a, n, ss, rfl, hp, hn, ha, k⟩ := h
    refine ⟨_, (pss_cons (ps_if (pt_not (pt_val (C8.pe_c c_IsAmounts hr (by decide) (by rfl) (pa_cons (pv 1) (pa_cons (pe_fld (pv 0) rfl) pa_nil))))) (pss_one ps_never)
        pss_nil)
        (pss_one (ps_ret (pe_lc (own := [("amount", 2)]) (by rfl) scCheckPurse.nd (pi_tup (pv 1)) (blkOk_by (N := ["web", "purse", "amount"]) (sc := defScope sCheckPurse) (by decide +kernel)) (fun _ _ _ _ _ => pg_name (i := 2) scCheckPurse.nd rfl (Or.inl rfl)) (fun _ _ _ _ _ => pts_nil) (fun _ _ _ _ _ => (C8.pe_c c_Exact hr (by decide) (by rfl) (pa_cons (pv 2) pa_nil))))))), ?_⟩
    obtain ⟨dx, t, hw, _⟩ := id hp
    refine ⟨_, rfl, _, rfl, p, _, dx, _, _, rfl, hw, T.clW, T.nWares, wbF_w n t, a, List.replicate n 0, (by rw [List.length_replicate]; rfl), ha, (fun x hx => by rw [(List.mem_replicate.mp hx).2]; exact Rat.le_refl), (by rw [List.length_replicate]; exact hn), fun H1 s1 => ⟨_, rfl, iteF ?_⟩⟩
    obtain ⟨as, hq, he⟩ := ha
    have hl : as.length = n := by rw [he.1, List.length_replicate]
    refine ⟨_, rfl, a, rfl, ⟨_, same_tup s1 hq⟩, fun D hD => lc_tup (K := K) (a := a) (xs := as.map V.ref) (fun i H' => VecE K H' D i (fun _ => 0) ∧ Same H H') ⟨VecR.nil, same_of_upd s1 hD⟩ (fun i H1 _ ⟨_, q⟩ => same_tup q hq) ?_ ?_⟩
    · rintro i y H2 hi ⟨g1, g2⟩
      refine ⟨rfl, ?_⟩
      obtain ⟨m, r1, rfl, e1, e2, hm⟩ := he.get hi
      have e3 : r1 = 0 := (List.mem_replicate.mp (List.mem_of_getElem? e2)).2
      subst e3
      have hl2 : i < as.length := (List.getElem?_eq_some_iff.mp e1).1
      refine ⟨_, rfl, m, 0, rfl, hm.same g2, ⟨by decide, by decide⟩, fun q H3 s3 n3 x3 => ?_⟩
      obtain ⟨acc, h1, h2, h3⟩ := g1.push exR s3 x3
      exact ⟨acc, h1, small1000 (by omega), h3, same_new (g2.trans s3) (Same.free s1 hD)⟩
    · rintro H2 ⟨g1, g2⟩
      rw [List.length_map, hl] at g1
      exact k D H2 g2 (Same.free s1 hD) g1

/-! ### HeldExact -/
theorem ok_HeldExact {P : Program} {w : World} {K : PySem.W.Frag} {mg : Str → Option Value} {base : Heap} (T : TX K mg) (D : Dx K mg "held_exact" sHeldExact)
    (c_Empty : C8.Cal P w K mg base 4 "empty" (spEmpty K) [])
    (c_Exact : C8.Cal P w K mg base 4 "exact" (spExact K) [])
    (c_ExactAdd : C8.Met P w K mg base 4 (cE K) "__add__" (spAdd K) []) : C8.Cal P w K mg base 5 "held_exact" (spHeldExact K) [] := by
  refine D.cal scHeldExact (fun _ _ _ _ _ _ us hl => match us, hl with | [_], _ => rfl) (fun vs H Q E h => ?_) (fun f cdv A outer s H vs Q E hr h => ?_)
  · obtain ⟨p, n, ss, rfl, hp, ok, k⟩ := h
    rfl
  · obtain ⟨p, n, ss, rfl, hp, ok, k⟩ := h
    refine ⟨_, (pss_cons (ps_set (i := 1) scHeldExact.nd rfl (by first | exact Or.inl rfl | exact Or.inr rfl) (C8.pe_c c_Empty hr (by decide) (by rfl) (pa_cons (pv 0) pa_nil)))
        (pss_cons (ps_for PassesOwn.never rfl (pi_tup (pe_fld (pv 0) rfl)) (pg_tup rfl (pgs_cons (pg_name (i := 2) scHeldExact.nd rfl (by first | exact Or.inl rfl | exact Or.inr rfl)) (pgs_cons (pg_name (i := 3) scHeldExact.nd rfl (by first | exact Or.inl rfl | exact Or.inr rfl)) (pgs_cons (pg_name (i := 4) scHeldExact.nd rfl (by first | exact Or.inl rfl | exact Or.inr rfl)) (pgs_cons (pg_name (i := 5) scHeldExact.nd rfl (by first | exact Or.inl rfl | exact Or.inr rfl)) (pgs_cons (pg_name (i := 6) scHeldExact.nd rfl (by first | exact Or.inl rfl | exact Or.inr rfl)) pgs_nil))))))
        (pss_cons (ps_asg (pe_op (op_own c_ExactAdd T.sfE hr (by decide)) (pe_ix ix_list (pv 1) (pv 2) (fun _ _ => rfl)) (C8.pe_c c_Exact hr (by decide) (by rfl) (pa_cons (pv 4) pa_nil))) (pg_sub (pv 1) (pv 2) set_list))
        (pss_one (ps_asg (pe_op (op_own c_ExactAdd T.sfE hr (by decide)) (pe_ix ix_list (pv 1) (pv 3) (fun _ _ => rfl)) (C8.pe_c c_Exact hr (by decide) (by rfl) (pa_cons (pv 5) pa_nil))) (pg_sub (pv 1) (pv 3) set_list)))))
        (pss_one (ps_ret (pv 1))))), ?_⟩
    obtain ⟨dx, t, hw, as, hq, he⟩ := id hp
    refine ⟨_, rfl, p, n, ss, rfl, hp, ok.n8, fun q H1 s1 nq v1 => ?_⟩
    refine ⟨_, rfl, p, _, dx, _, _, rfl, s1 _ _ hw, T.clW, T.nStalls, wbF_s n t, t, rfl, ⟨_, same_tup s1 hq⟩, for_tup (K := K) (a := t) (xs := as.map V.ref) (fun i σ H' => (∃ v2 v3 v4 v5 v6, σ = [some (.ref p), some (.ref q), v2, v3, v4, v5, v6]) ∧ VecE K H' q n (tab0 (ss.take i)).s ∧ Same H H')
      ⟨⟨_, _, _, _, _, rfl⟩, v1, s1⟩ (fun i σ H' _ ⟨_, _, g⟩ => same_tup g hq) ?_ ?_⟩
    · rintro i y σ H2 hi ⟨⟨v2, v3, v4, v5, v6, rfl⟩, g1, g2⟩
      obtain ⟨x1, x, rfl, e1, e2, hx⟩ := he.get hi
      have kx := ok.ok x (List.mem_of_getElem? e2)
      have hlen : (ss.take i).length ≤ 16 := by have := ok.len; rw [List.length_take]; omega
      have okT := (tab0_ok n (ss.take i) fun s hs => ok.ok s (List.mem_of_mem_take hs)).1
      obtain ⟨th, tg, tr, h0, h1, h2, h3⟩ := hx.same g2
      refine ⟨x1, _, rfl, h0, rfl, _, _, rfl, _, _, rfl, _, _, rfl, _, _, rfl, _, _, rfl, rfl, ?_⟩
      obtain ⟨bs, p0, b1, b2, b3, b4, b5⟩ := g1.get kx.un
      refine ⟨_, rfl, _, rfl, q, _, _, _, rfl, rfl, SqL.of b1, atI_nat b4, _, rfl, th, x.h, rfl, h1, kx.oh, fun p1 H3 s3 n3 x3 => ?_⟩
      refine own_of (b5.same s3) x3 ⟨p0, p1, _, _, rfl, b5.same s3, x3, (okT _).ok hlen, kx.oh, trivial, fun p2 H4 s4 n4 x4 => ?_⟩
      have s34 := s3.trans s4
      have c1 := s34 _ _ b1
      have w1 := g1.upd exR (Imm.of s34) b1 c1 (j := x.u) x4
      refine ⟨_, rfl, _, rfl, q, _, _, x.u, rfl, rfl, c1, ixN_nat (by rw [List.length_map, b2]; exact kx.un), ?_⟩
      have g3 : Same H (upd H4 q (.lst ((bs.map V.ref).set x.u (.ref p2)))) := same_new (g2.trans s34) nq
      have im : Imm H4 (upd H4 q (.lst ((bs.map V.ref).set x.u (.ref p2)))) := Imm.lst c1
      obtain ⟨ds, p3, d1, d2, d3, d4, d5⟩ := w1.get kx.vn
      have h2' := (h2.same s34).imm im
      refine ⟨_, rfl, _, rfl, q, _, _, _, rfl, rfl, SqL.of d1, atI_nat d4, _, rfl, tg, x.g, rfl, h2', kx.og, fun p4 H5 s5 n5 x5 => ?_⟩
      have o3 : Ok (if x.v = x.u then (tab0 (ss.take i)).s x.u + x.h else (tab0 (ss.take i)).s x.v) := by
        rw [if_neg (fun z => kx.ne z.symm)]
        exact (okT _).ok hlen
      refine own_of (d5.same s5) x5 ⟨p3, p4, _, _, rfl, d5.same s5, x5, o3, kx.og, trivial, fun p6 H6 s6 n6 x6 => ?_⟩
      have s56 := s5.trans s6
      have c2 := s56 _ _ d1
      have w2 := w1.upd exR (Imm.of s56) d1 c2 (j := x.v) x6
      refine ⟨_, rfl, _, rfl, q, _, _, x.v, rfl, rfl, c2, ixN_nat (by rw [List.length_map, d2]; exact kx.vn), ?_⟩
      refine ⟨⟨_, _, _, _, _, rfl⟩, ?_, same_new (g3.trans s56) nq⟩
      rw [take_snoc e2, tab0_snoc, ← addS_s kx.ne]
      exact w2
    · rintro σ H2 ⟨⟨v2, v3, v4, v5, v6, rfl⟩, g1, g2⟩
      have e : ss.take (as.map V.ref).length = ss := List.take_of_length_le (by rw [List.length_map, he.1]; exact Nat.le_refl _)
      rw [e] at g1
      exact ⟨_, rfl, k q H2 g2 nq g1⟩

end Fair

set_option Elab.async false
set_option linter.all false
set_option maxRecDepth 100000
set_option maxHeartbeats 4000000
namespace Fair
open PySem PySem.Spec PyProof.Rows L2
/-! ### RootsExact -/
theorem ok_RootsExact {P : Program} {w : World} {K : PySem.W.Frag} {mg : Str → Option Value} {base : Heap} (T : TX K mg) (D : Dx K mg "roots_exact" sRootsExact)
    (c_ExactInit : C8.Mak P w K mg base 2 "Exact" (cE K) (spExactInit K) [])
    (c_Exact : C8.Cal P w K mg base 4 "exact" (spExact K) [])
    (c_ExactAdd : C8.Met P w K mg base 4 (cE K) "__add__" (spAdd K) []) : C8.Cal P w K mg base 5 "roots_exact" (spRootsExact K) [] := by
  refine D.cal scRootsExact (fun _ _ _ _ _ _ us hl => match us, hl with | [_], _ => rfl) (fun vs H Q E h => ?_) (fun f cdv A outer s H vs Q E hr h => ?_)
  · obtain ⟨p, n, ss, rfl, hp, ok, k⟩ := h
    rfl
  · obtain ⟨p, n, ss, rfl, hp, ok, k⟩ := h
    have hu := hu_of hr
    refine ⟨_, (pss_cons (ps_setLc (i := 1) (own := [("ware", 2)]) (by rfl) scRootsExact.nd rfl rfl (sw_true rfl rfl rfl (by decide +kernel)) (pi_range1 rfl T.f_range (pa_cons (pe_fld (pv 0) rfl) pa_nil)) (blkOk_by (N := ["web", "found", "ware", "one", "other", "amount", "second", "root", "here", "there"]) (sc := defScope sRootsExact) (by decide +kernel)) (fun _ _ _ _ _ => pg_name (i := 2) scRootsExact.nd rfl (Or.inl rfl)) (fun _ _ _ _ _ => pts_nil) (fun _ _ _ _ _ => pe_dnewK))
        (pss_cons (ps_for PassesOwn.never rfl (pi_tup (pe_fld (pv 0) rfl)) (pg_tup rfl (pgs_cons (pg_name (i := 3) scRootsExact.nd rfl (by first | exact Or.inl rfl | exact Or.inr rfl)) (pgs_cons (pg_name (i := 4) scRootsExact.nd rfl (by first | exact Or.inl rfl | exact Or.inr rfl)) (pgs_cons (pg_name (i := 5) scRootsExact.nd rfl (by first | exact Or.inl rfl | exact Or.inr rfl)) (pgs_cons (pg_name (i := 6) scRootsExact.nd rfl (by first | exact Or.inl rfl | exact Or.inr rfl)) (pgs_cons (pg_name (i := 7) scRootsExact.nd rfl (by first | exact Or.inl rfl | exact Or.inr rfl)) pgs_nil))))))
        (pss_one (ps_for PassesOwn.never rfl (pi_tup (pe_tup (pa_cons (pe_tup (pa_cons (pv 3) (pa_cons (pv 4) pa_nil))) (pa_cons (pe_tup (pa_cons (pv 4) (pa_cons (pv 3) pa_nil))) pa_nil)))) (pg_tup rfl (pgs_cons (pg_name (i := 8) scRootsExact.nd rfl (by first | exact Or.inl rfl | exact Or.inr rfl)) (pgs_cons (pg_name (i := 9) scRootsExact.nd rfl (by first | exact Or.inl rfl | exact Or.inr rfl)) pgs_nil)))
        (pss_one (ps_dput hu (pe_ix ix_list (pv 1) (pv 8) (fun _ _ => rfl)) (pv 9) (pe_op (op_own c_ExactAdd T.sfE hr (by decide)) (pe_dget2 hu (pe_ix ix_list (pv 1) (pv 8) (fun _ _ => rfl)) (pv 9) (C8.pe_mk c_ExactInit hr (by decide) (by rfl) (pa_cons pe_int (pa_cons pe_int pa_nil))) ⟨by rfl, by rfl, by rfl, by rfl⟩) (C8.pe_c c_Exact hr (by decide) (by rfl) (pa_cons (pv 7) pa_nil))) rfl)))))
        (pss_one (ps_ret (pv 1))))), ?_⟩
    obtain ⟨dx, t, hw, as, hq, he⟩ := id hp
    refine ⟨_, rfl, p, _, dx, _, _, rfl, hw, T.clW, T.nWares, wbF_w n t, (n : Int), rfl, by have := ok.n8; omega, by have := ok.n8; omega, fun q nq => lc_range (lo := 0) (n := ((n : Int)).toNat)
      (fun i H' => ∃ ds : List Addr, H' q = some (.lst (ds.map V.ref)) ∧ ds.length = i ∧ ds.Nodup ∧ (∀ d ∈ ds, H' d = some (.dK []) ∧ H d = none) ∧ Same H H') ⟨[], upd_same, rfl, List.nodup_nil, fun d hd => (by cases hd), same_upd1 nq⟩ ?_ ?_⟩
    · rintro i H1 hi ⟨ds, g1, g2, g3, g4, g5⟩
      refine ⟨rfl, ?_⟩
      intro d nd
      have s1 : Same H1 (upd H1 d (.dK [])) := same_upd1 nd
      refine ⟨_, s1 _ _ g1, small1000 (by rw [List.length_map]; have := ok.n8; omega), ds ++ [d], by rw [upd_same, List.map_append]; rfl, by simp [g2], ?_, ?_, same_new (g5.trans s1) nq⟩
      · exact List.nodup_append.mpr ⟨g3, by simp, fun a ha b hb => by simp at hb; subst hb; exact ne_of_none (g4 a ha).1 nd⟩
      · intro c hc
        have hcq : c ≠ q := fun z => by
          subst z
          rcases List.mem_append.mp hc with hc | hc
          · have e := (g4 c hc).1; rw [g1] at e; cases e
          · simp at hc; subst hc; rw [g1] at nd; cases nd
        rw [upd_ne hcq]
        rcases List.mem_append.mp hc with hc | hc
        · exact ⟨s1 _ _ (g4 c hc).1, (g4 c hc).2⟩
        · simp at hc; subst hc
          exact ⟨upd_same, g5.free nd⟩
    rintro H1 ⟨ds, g1, g2, g3, g4, s1⟩
    have hds : ds.length = n := by omega
    have fr : ∀ d ∈ ds, H d = none := fun d hd => (g4 d hd).2
    refine ⟨_, rfl, p, _, dx, _, _, rfl, s1 _ _ hw, T.clW, T.nStalls, wbF_s n t, t, rfl, ⟨_, same_tup s1 hq⟩, for_tup (K := K) (a := t) (xs := as.map V.ref) (fun i σ H' => (∃ v3 v4 v5 v6 v7 v8 v9, σ = [some (.ref p), some (.ref q), none, v3, v4, v5, v6, v7, v8, v9]) ∧ MatE K H' q ds n (tab0 (ss.take i)).r ∧ Same H H')
      ⟨⟨_, _, _, _, _, _, _, rfl⟩, MatE.nil g1 hds g3 fun d hd => (g4 d hd).1, s1⟩ (fun i σ H' _ ⟨_, _, g⟩ => same_tup g hq) ?_ ?_⟩
    · rintro i y σ H2 hi ⟨⟨v3, v4, v5, v6, v7, v8, v9, rfl⟩, m1, s2⟩
      obtain ⟨x1, x, rfl, e1, e2, hx⟩ := he.get hi
      have kx := ok.ok x (List.mem_of_getElem? e2)
      have hlen : (ss.take i).length ≤ 16 := by have := ok.len; rw [List.length_take]; omega
      have okT := (tab0_ok n (ss.take i) fun s hs => ok.ok s (List.mem_of_mem_take hs)).2
      obtain ⟨th, tg, tr, h0, h1, h2, h3⟩ := hx.same s2
      refine ⟨x1, _, rfl, h0, rfl, _, _, rfl, _, _, rfl, _, _, rfl, _, _, rfl, _, _, rfl, rfl, ?_⟩
      refine ⟨_, rfl, _, rfl, (by show 2 ≤ sizeLine; decide), fun t1 n1 => ?_⟩
      refine ⟨_, rfl, _, rfl, (by show 2 ≤ sizeLine; decide), fun t2 n2 => ?_⟩
      refine ⟨(by show 2 ≤ sizeLine; decide), fun t3 n3 => ?_⟩
      have a1 : Same H2 (upd H2 t1 (.tup [.int x.u, .int x.v])) := same_upd1 n1
      have a2 := same_of_upd (o := .tup [.int x.v, .int x.u]) a1 n2
      have a3 := same_of_upd (o := .tup [.ref t1, .ref t2]) a2 n3
      have n12 : t1 ≠ t2 := ne_of_none upd_same n2
      have n23 : t2 ≠ t3 := ne_of_none upd_same n3
      have n13 : t1 ≠ t3 := ne_of_none (by rw [upd_ne n12]; exact upd_same) n3
      refine ⟨t3, rfl, ⟨_, SqT.of upd_same⟩, for_tup (K := K) (a := t3) (xs := [.ref t1, .ref t2]) (fun j σ H' => (∃ w8 w9, σ = [some (.ref p), some (.ref q), none, some (.int x.u), some (.int x.v), some (.ref th), some (.ref tg), some (.ref tr), w8, w9]) ∧ MatE K H' q ds n (RR (tab0 (ss.take i)) x j) ∧ Same H H' ∧
        SqT K H' t3 [.ref t1, .ref t2] ∧ SqT K H' t1 [.int x.u, .int x.v] ∧ SqT K H' t2 [.int x.v, .int x.u] ∧ FrAt K H' tr x.r) ⟨⟨_, _, rfl⟩, m1.same a3, s2.trans a3, SqT.of upd_same, SqT.of (by rw [upd_ne n13, upd_ne n12]; exact upd_same), SqT.of (by rw [upd_ne n23]; exact upd_same), h3.same a3⟩ (fun j σ H' _ ⟨_, _, _, g, _⟩ => g) ?_ ?_⟩
      · rintro j y σ H3 hj ⟨⟨w8, w9, rfl⟩, m2, s3, b3, b1, b2, br⟩
        obtain ⟨T2, a, b, rfl, hT2, ha, hb, o1, o2, eR⟩ : ∃ (T2 : Addr) (a b : Nat), y = .ref T2 ∧ SqT K H3 T2 [.int a, .int b] ∧ a < n ∧ b < n ∧ Ok (RR (tab0 (ss.take i)) x j a b) ∧ 0 ≤ RR (tab0 (ss.take i)) x j a b ∧
            RR (tab0 (ss.take i)) x (j + 1) = putR (RR (tab0 (ss.take i)) x j) a b (RR (tab0 (ss.take i)) x j a b + x.r) := by
          match j, hj with
          | 0, hj => exact ⟨t1, x.u, x.v, (Option.some.inj hj).symm, b1, kx.un, kx.vn, (okT _ _).1.ok hlen, (okT _ _).2.1, rfl⟩
          | 1, hj =>
            have e : RR (tab0 (ss.take i)) x 1 x.v x.u = (tab0 (ss.take i)).r x.v x.u := putR_ne fun z => kx.ne z.symm
            refine ⟨t2, x.v, x.u, (Option.some.inj hj).symm, b2, kx.vn, kx.un, ?_, ?_, ?_⟩
            · rw [e]; exact (okT _ _).1.ok hlen
            · rw [e]; exact (okT _ _).2.1
            · rw [e]; rfl
        refine ⟨T2, _, rfl, hT2, rfl, _, _, rfl, _, _, rfl, rfl, ?_⟩
        obtain ⟨d, hd, hr1⟩ := m2.row ha
        refine ⟨_, rfl, _, rfl, q, _, _, _, rfl, rfl, SqL.of m2.1, atI_nat (refs_at hd), d, rfl, .inl (let ⟨kvs, e⟩ := hr1.isD; ⟨kvs, .inl e⟩), _, rfl, ?_⟩
        intro z dz nz ndz nez
        refine ⟨z, dz, 0, 1, rfl, upd_same, by decide, by decide, fun H4 f1 f2 => ⟨rfl, ?_⟩⟩
        have s4 : Same H3 H4 := Same.made nz ndz f2
        have m4 := m2.same s4
        obtain ⟨d', hd', hr4⟩ := m4.row ha
        have edd : d' = d := by rw [hd] at hd'; exact (Option.some.inj hd').symm
        subst edd
        obtain ⟨o, p0, q1, q2, q3⟩ := hr4.get f1 hb
        refine ⟨o, q1, ?_⟩
        rw [q2]
        refine ⟨_, rfl, tr, x.r, rfl, br.same s4, kx.or, fun p1 H5 s5 n5 x5 => ?_⟩
        refine own_of (q3.same s5) x5 ⟨p0, p1, _, _, rfl, q3.same s5, x5, o1, kx.or, trivial, fun p2 H6 s6 n6 x6 => ?_⟩
        have s46 := (s4.trans s5).trans s6
        have m6 := m2.same s46
        obtain ⟨d2, hd2, hr6⟩ := m6.row ha
        have edd : d2 = d' := by rw [hd] at hd2; exact (Option.some.inj hd2).symm
        subst edd
        have hx0 : RR (tab0 (ss.take i)) x j a b + x.r ≠ 0 := by
          have := kx.r0
          intro z
          have h5 : (0 : Rat) < RR (tab0 (ss.take i)) x j a b + x.r := by grind
          rw [z] at h5
          exact absurd h5 (by decide)
        obtain ⟨kvs, dp, hr7⟩ := hr6.put x6 hx0 hb ok.n8
        obtain ⟨kv0, ek⟩ := hr6.isD
        have im : Imm H6 (upd H6 d2 (.dK kvs)) := Imm.dK ek
        refine ⟨_, rfl, _, rfl, q, _, _, _, rfl, rfl, SqL.of m6.1, atI_nat (refs_at hd2), _, rfl, d2, _, rfl, dp, ⟨_, _, rfl⟩, ?_, same_new (s3.trans s46) (fr d2 (List.mem_of_getElem? hd2)), imm_tup im (same_tup s46 b3), imm_tup im (same_tup s46 b1), imm_tup im (same_tup s46 b2), imm_tup im (same_tup s46 br)⟩
        rw [eR]
        exact m6.put hd2 hr7
      · rintro σ H3 ⟨⟨w8, w9, rfl⟩, m2, s3, b3, b1, b2, br⟩
        refine ⟨⟨_, _, _, _, _, _, _, rfl⟩, ?_, s3⟩
        rw [take_snoc e2, tab0_snoc, ← RR2 kx.ne]
        exact m2
    · rintro σ H2 ⟨⟨v3, v4, v5, v6, v7, v8, v9, rfl⟩, m1, s2⟩
      have e : ss.take (as.map V.ref).length = ss := List.take_of_length_le (by rw [List.length_map, he.1]; exact Nat.le_refl _)
      rw [e] at m1
      exact ⟨_, rfl, k q ds H2 s2 nq fr m1⟩

end Fair

set_option Elab.async false
set_option linter.all false
set_option maxRecDepth 100000
set_option maxHeartbeats 1000000
namespace Fair
open PySem PySem.Spec PyProof.Rows L2
/-! ### rules inside of comprehensions -/
section
variable {X : Cx} {K : PySem.W.Frag}
theorem ixTK (h : X.K = K) : IxR X (rIxT K) := by subst h; exact ix_tup
theorem ixLK (h : X.K = K) : IxR X (rIxL K) := by subst h; exact ix_list
theorem opInK (h : X.K = K) : OpR X (compareOp .In) (rIn K false) := by subst h; exact op_in_seq
theorem opNotInK (h : X.K = K) : OpR X (compareOp .NotIn) (rIn K true) := by subst h; exact op_notIn_seq
theorem slTK (h : X.K = K) : SlR X (rSlA K) := by subst h; exact sl_tupA
variable {e : Expr} {ta : TE} {f : Str} {pos : Pos}
theorem fldK (h : X.K = K) (he : PE X e ta) (hb : attributeBase e f X.env (eval e X.env) = eval e X.env) : PE X (.Attribute e f pos) (tFld K ta f) := by subst h; exact pe_fld he hb
end
/-! ### one ware is struck: the heap -/
theorem nodup_set {α : Type} {x : α} : ∀ {l : List α} {k : Nat}, l.Nodup → x ∉ l → (l.set k x).Nodup
  | [], _, h, _ => h
  | a :: l, 0, h, hx => by
    rw [List.set_cons_zero, List.nodup_cons]
    exact ⟨fun z => hx (List.mem_cons_of_mem _ z), (List.nodup_cons.mp h).2⟩
  | a :: l, k + 1, h, hx => by
    rw [List.set_cons_succ, List.nodup_cons]
    refine ⟨fun z => ?_, nodup_set (List.nodup_cons.mp h).2 fun z => hx (List.mem_cons_of_mem _ z)⟩
    rcases List.mem_or_eq_of_mem_set z with z | z
    · exact (List.nodup_cons.mp h).1 z
    · exact hx (by rw [z]; exact List.mem_cons_self)
section
variable {K : PySem.W.Frag} {H H' : Hp} {p d d0 : Addr} {n k : Nat} {T : Tb} {F : Foot}
theorem TabAt.newRow (h : TabAt K H p n T F) (nd : H d = none) (hd : F.ds[k]? = some d0) :
    TabAt K (upd (upd H d (.dK [])) F.a2 (.lst ((F.ds.map V.ref).set k (.ref d)))) p n ⟨T.s, fun i => if i = k then (fun _ => 0) else T.r i⟩ ⟨F.a1, F.a2, F.a3, F.ds.set k d, F.g⟩ ∧
    Keep F H (upd (upd H d (.dK [])) F.a2 (.lst ((F.ds.map V.ref).set k (.ref d)))) ∧ RowAt K (upd (upd H d (.dK [])) F.a2 (.lst ((F.ds.map V.ref).set k (.ref d)))) d0 n (T.r k) ∧
    ¬ Own ⟨F.a1, F.a2, F.a3, F.ds.set k d, F.g⟩ d0 ∧ (∀ c, Own ⟨F.a1, F.a2, F.a3, F.ds.set k d, F.g⟩ c → Own F c ∨ c = d) := by
  obtain ⟨m1, m2, m3, m4⟩ := id h.be
  have s1 : Same H (upd H d (.dK [])) := same_upd1 nd
  have h1 := h.same s1
  have e2 := h1.be.1
  have im : Imm (upd H d (.dK [])) (upd (upd H d (.dK [])) F.a2 (.lst ((F.ds.map V.ref).set k (.ref d)))) := Imm.lst e2
  obtain ⟨kv0, ek0⟩ := (m4 k d0 hd).isD
  have kl : k < F.ds.length := (List.getElem?_eq_some_iff.mp hd).1
  have nmem : ∀ c ∈ F.ds, c ≠ d := fun c hc => by
    obtain ⟨i, hi, e⟩ := List.mem_iff_getElem.mp hc
    obtain ⟨kv, ek⟩ := (m4 i c (by rw [List.getElem?_eq_getElem hi, e])).isD
    exact ne_of_none ek nd
  have n2 : d ≠ F.a2 := fun z => by rw [z, m1] at nd; cases nd
  have dsn : ∀ c ∈ F.ds, c ≠ F.a2 := fun c hc => by
    obtain ⟨i, hi, e⟩ := List.mem_iff_getElem.mp hc
    obtain ⟨kv, ek⟩ := (m4 i c (by rw [List.getElem?_eq_getElem hi, e])).isD
    exact ne_of ek m1 (by intro z; cases z)
  have rowk : ∀ i c, F.ds[i]? = some c → RowAt K (upd (upd H d (.dK [])) F.a2 (.lst ((F.ds.map V.ref).set k (.ref d)))) c n (T.r i) := fun i c hc => by
    have r1 := h1.be.2.2.2 i c hc
    exact r1.mono im (upd_ne (dsn c (List.mem_of_getElem? hc)))
  obtain ⟨as, g1, _⟩ := id h1.sl
  obtain ⟨gs, g3, gl⟩ := id h1.go
  refine ⟨⟨?_, h1.sl.mono exR im (upd_ne h.n12), ⟨?_, ?_, ?_, fun i c hc => ?_⟩, ⟨gs, by rw [upd_ne h.n23.symm]; exact g3, gl⟩, h.n12, h.n13, h.n23⟩, fun c o e w => ?_, rowk k d0 hd, ?_, ?_⟩
  · obtain ⟨dx, e⟩ := h1.ob
    exact ⟨dx, im _ _ e trivial⟩
  · show upd _ _ _ F.a2 = _
    rw [upd_same, List.map_set]
  · show (F.ds.set k d).length = n
    rw [List.length_set]; exact m2
  · show (F.ds.set k d).Nodup
    refine nodup_set m3 (fun z => nmem _ z rfl)
  · rw [List.getElem?_set] at hc
    by_cases c1 : k = i
    · subst c1
      rw [if_pos rfl, if_pos kl] at hc
      cases hc
      dsimp only
      rw [if_pos rfl]
      exact RowAt.nil (by rw [upd_ne n2, upd_same])
    · rw [if_neg c1] at hc
      dsimp only
      rw [if_neg (fun z => c1 z.symm)]
      exact rowk i c hc
  · rw [upd_ne (fun z => w (.inr (.inl z)))]
    exact s1 _ _ e
  · have hm := List.mem_of_getElem? hd
    rintro (z | z | z | z)
    · obtain ⟨as', e1, _⟩ := id h.sl
      exact ne_of ek0 e1 (by intro z; cases z) z
    · exact dsn d0 hm z
    · obtain ⟨gs', e1, _⟩ := id h.go
      exact ne_of ek0 e1 (by intro z; cases z) z
    · obtain ⟨i, hi, e⟩ := List.mem_iff_getElem.mp z
      have e' : (F.ds.set k d)[i]? = some d0 := by
        show (F.ds.set k d)[i]? = some d0
        rw [List.getElem?_eq_getElem hi, e]
      rw [List.getElem?_set] at e'
      by_cases c1 : k = i
      · rw [if_pos c1, if_pos kl] at e'
        exact nmem d0 hm (Option.some.inj e').symm
      · rw [if_neg c1] at e'
        exact c1 (nd_ix m3 hd e')
  · rintro c (z | z | z | z)
    · exact .inl (.inl z)
    · exact .inl (.inr (.inl z))
    · exact .inl (.inr (.inr (.inl z)))
    · rcases List.mem_or_eq_of_mem_set z with z | z
      · exact .inl (.inr (.inr (.inr z)))
      · exact .inr z
theorem TabAt.putG (h : TabAt K H p n T F) {gs : List V} {v : V} (hg : H F.a3 = some (.lst gs)) :
    TabAt K (upd H F.a3 (.lst (gs ++ [v]))) p n T ⟨F.a1, F.a2, F.a3, F.ds, F.g + 1⟩ ∧ Keep F H (upd H F.a3 (.lst (gs ++ [v]))) := by
  have im : Imm H (upd H F.a3 (.lst (gs ++ [v]))) := Imm.lst hg
  refine ⟨⟨?_, h.sl.mono exR im (upd_ne h.n13), h.be.mono im (upd_ne h.n23) fun d hd => upd_ne fun z => ?_, ⟨_, upd_same, ?_⟩, h.n12, h.n13, h.n23⟩, fun c o e w => ?_⟩
  · obtain ⟨dx, e⟩ := h.ob
    exact ⟨dx, im _ _ e trivial⟩
  · obtain ⟨i, hi, e⟩ := List.mem_iff_getElem.mp hd
    obtain ⟨kvs, e1⟩ := (h.be.2.2.2 i d (by rw [List.getElem?_eq_getElem hi, e])).isD
    rw [z, hg] at e1; cases e1
  · obtain ⟨gs', e, l⟩ := h.go
    rw [hg] at e; cases e
    rw [List.length_append]
    show gs.length + 1 = F.g + 1
    rw [l]
  · rw [upd_ne fun z => w (.inr (.inr (.inl z)))]; exact e
theorem RowAt.keep {f : Nat → Rat} (h : RowAt K H d n f) (ht : TabAt K H p n T F) (w : ¬ Own F d) (k : Keep F H H') : RowAt K H' d n f := by
  obtain ⟨kv, e⟩ := h.isD
  exact h.mono (ht.imm k) (by rw [k _ _ e w, e])
end
/-! ### one ware is struck: the numbers -/
/-- what is near to it -/
structure Near (k n : Nat) (T : Tb) (ns : List Nat) : Prop where
  nd : ns.Nodup
  mem : ∀ j, j ∈ ns ↔ j < n ∧ T.r k j ≠ 0
theorem near_of {k n : Nat} {T : Tb} {ks : List Nat} {ys : List Int} (h1 : ks.Nodup) (h2 : ∀ j, j ∈ ks ↔ j < n ∧ T.r k j ≠ 0) (p : ys.Perm (ks.map Int.ofNat)) : ∃ ns : List Nat, ys = ns.map (fun (j : Nat) => (j : Int)) ∧ Near k n T ns := by
  refine ⟨ys.map Int.toNat, ?_, ?_, fun j => ?_⟩
  · rw [List.map_map]
    have : ∀ y ∈ ys, y = ((fun (j : Nat) => (j : Int)) ∘ Int.toNat) y := fun y hy => by
      obtain ⟨m, _, e⟩ := List.mem_map.mp (p.mem_iff.mp hy)
      rw [← e]
      rfl
    rw [← List.map_congr_left this]
    simp
  · have q := p.map Int.toNat
    rw [List.map_map] at q
    have e : List.map (Int.toNat ∘ Int.ofNat) ks = ks := by
      rw [show (Int.toNat ∘ Int.ofNat) = id from rfl, List.map_id]
    rw [e] at q
    exact q.nodup_iff.mpr h1
  · have q := p.map Int.toNat
    rw [List.map_map] at q
    have e : List.map (Int.toNat ∘ Int.ofNat) ks = ks := by
      rw [show (Int.toNat ∘ Int.ofNat) = id from rfl, List.map_id]
    rw [e] at q
    rw [q.mem_iff]
    exact h2 j
theorem Near.zero {k n : Nat} {T : Tb} {ns : List Nat} (h : Near k n T ns) (ok : StOk n k T) {j : Nat} (hj : j ∉ ns) : T.r k j = 0 := Classical.byContradiction fun q => hj ((h.mem j).mpr ⟨(ok.sup k j q).2, q⟩)
theorem Near.ne {k n : Nat} {T : Tb} {ns : List Nat} (h : Near k n T ns) (ok : StOk n k T) {j : Nat} (hj : j ∈ ns) : j ≠ k := fun z => ((h.mem j).mp hj).2 (by rw [z]; exact ok.dia k)
theorem Near.len {k n : Nat} {T : Tb} {ns : List Nat} (h : Near k n T ns) : ns.length ≤ n := nodup_len h.nd fun j hj => ((h.mem j).mp hj).1
theorem Near.pos {k n : Nat} {T : Tb} {ns : List Nat} (h : Near k n T ns) (ok : StOk n k T) {j : Nat} (hj : j ∈ ns) : 0 < T.r k j := Rat.lt_of_le_of_ne (ok.nn k j) fun z => ((h.mem j).mp hj).2 z.symm
theorem Near.spos {k n : Nat} {T : Tb} {ns : List Nat} (h : Near k n T ns) (ok : StOk n k T) {j : Nat} (hj : j ∈ ns) : 0 < T.s k := by
  rcases ok.wr with q | ⟨_, q⟩
  · exact q
  · exact absurd (q j) ((h.mem j).mp hj).2
/-- after the first loop's turns -/
def st1 (k : Nat) (T : Tb) (P : List Nat) : Tb := ⟨fun a => if a ∈ P then T.s a - T.r k a * T.r k a / T.s k else T.s a, fun a b => if a = k then 0 else if b = k ∧ a ∈ P then 0 else T.r a b⟩
theorem tb_ext {s s' : Nat → Rat} {r r' : Nat → Nat → Rat} (h1 : ∀ a, s a = s' a) (h2 : ∀ a b, r a b = r' a b) : (⟨s, r⟩ : Tb) = ⟨s', r'⟩ := by
  have e1 : s = s' := funext h1
  have e2 : r = r' := funext fun a => funext (h2 a)
  rw [e1, e2]
theorem st1_nil (k : Nat) (T : Tb) : st1 k T [] = ⟨T.s, fun i => if i = k then (fun _ => 0) else T.r i⟩ := by
  refine tb_ext (fun a => ?_) (fun a b => ?_)
  · rw [if_neg (by simp)]
  · by_cases c : a = k
    · rw [if_pos c, if_pos c]
    · rw [if_neg c, if_neg c, if_neg (by simp)]
theorem st1_snoc {k : Nat} {T : Tb} {P : List Nat} {m : Nat} (hm : m ∉ P) (hk : m ≠ k) :
    (⟨fun i => if i = m then (st1 k T P).s m - T.r k m * T.r k m / T.s k else (st1 k T P).s i, fun i => if i = m then (fun b => if b = k then 0 else (st1 k T P).r m b) else (st1 k T P).r i⟩ : Tb) = st1 k T (P ++ [m]) := by
  refine tb_ext (fun a => ?_) (fun a b => ?_)
  · unfold st1
    dsimp only
    by_cases c : a = m
    · subst c
      rw [if_pos rfl, if_neg hm, if_pos (by simp)]
    · rw [if_neg c]
      by_cases c2 : a ∈ P
      · rw [if_pos c2, if_pos (by simp [c2])]
      · rw [if_neg c2, if_neg (by simp [c2, c])]
  · unfold st1
    dsimp only
    by_cases c : a = m
    · subst c
      rw [if_pos rfl, if_neg hk, if_neg hk]
      by_cases c2 : b = k
      · rw [if_pos c2, if_pos ⟨c2, by simp⟩]
      · rw [if_neg c2, if_neg (fun z => c2 z.1), if_neg (fun z => c2 z.1)]
    · rw [if_neg c]
      by_cases c3 : a = k
      · rw [if_pos c3, if_pos c3]
      · rw [if_neg c3, if_neg c3]
        by_cases c2 : b = k ∧ a ∈ P
        · rw [if_pos c2, if_pos ⟨c2.1, by simp [c2.2]⟩]
        · rw [if_neg c2, if_neg (fun z => c2 ⟨z.1, by simpa [c] using z.2⟩)]
open Classical in
/-- while the second loop runs: these pairs are done -/
noncomputable def rr (k : Nat) (T : Tb) (P : Nat → Nat → Prop) : Nat → Nat → Rat := fun a b => if a = k ∨ b = k then 0 else if P a b ∨ P b a then T.r a b + T.r k a * T.r k b / T.s k else T.r a b
theorem rr_not {k : Nat} {T : Tb} {P : Nat → Nat → Prop} {a b : Nat} (ha : a ≠ k) (hb : b ≠ k) (h : ¬ P a b) (h' : ¬ P b a) : rr k T P a b = T.r a b := by
  unfold rr
  rw [if_neg (fun z => z.elim ha hb), if_neg (fun z => z.elim h h')]
theorem rr_step {k : Nat} {T : Tb} {P P' : Nat → Nat → Prop} {a0 b0 : Nat} (ha : a0 ≠ k) (hb : b0 ≠ k) (ne : a0 ≠ b0) (h : ∀ a b, P' a b ↔ P a b ∨ (a = a0 ∧ b = b0)) (n1 : ¬ P a0 b0) (n2 : ¬ P b0 a0) :
    putR (putR (rr k T P) a0 b0 (rr k T P a0 b0 + T.r k a0 * T.r k b0 / T.s k)) b0 a0 (rr k T P b0 a0 + T.r k a0 * T.r k b0 / T.s k) = rr k T P' := by
  funext a b
  rw [rr_not ha hb n1 n2, rr_not hb ha n2 n1]
  have hother : ¬ (a = a0 ∧ b = b0) → ¬ (a = b0 ∧ b = a0) → rr k T P a b = rr k T P' a b := fun w1 w2 => by
    unfold rr
    by_cases c : a = k ∨ b = k
    · rw [if_pos c, if_pos c]
    · rw [if_neg c, if_neg c]
      have e : (P a b ∨ P b a) ↔ (P' a b ∨ P' b a) := by
        rw [h a b, h b a]
        constructor
        · rintro (z | z)
          · exact .inl (.inl z)
          · exact .inr (.inl z)
        · rintro ((z | z) | (z | z))
          · exact .inl z
          · exact absurd z w1
          · exact .inr z
          · exact absurd ⟨z.2, z.1⟩ w2
      by_cases c2 : P a b ∨ P b a
      · rw [if_pos c2, if_pos (e.mp c2)]
      · rw [if_neg c2, if_neg (fun z => c2 (e.mpr z))]
  have p1 : P' a0 b0 := (h a0 b0).mpr (.inr ⟨rfl, rfl⟩)
  unfold putR
  by_cases c1 : a = b0
  · rw [if_pos c1]
    by_cases c2 : b = a0
    · rw [if_pos c2]
      subst c1 c2
      unfold rr
      rw [if_neg (fun z => z.elim hb ha), if_pos (.inr p1), Rat.mul_comm (T.r k b)]
    · rw [if_neg c2]
      have c3 : ¬ b0 = a0 := fun z => ne z.symm
      rw [if_neg c3, ← c1]
      exact hother (fun z => c3 (c1.symm.trans z.1)) (fun z => c2 z.2)
  · rw [if_neg c1]
    by_cases c2 : a = a0
    · rw [if_pos c2]
      by_cases c3 : b = b0
      · rw [if_pos c3]
        subst c2 c3
        unfold rr
        rw [if_neg (fun z => z.elim ha hb), if_pos (.inl p1)]
      · rw [if_neg c3, ← c2]
        exact hother (fun z => c3 z.2) (fun z => c1 z.1)
    · rw [if_neg c2]
      exact hother (fun z => c2 z.1) (fun z => c1 z.1)
/-- the pairs that are done: ahead of the turn i, and m of the turn i -/
def Pd (ns : List Nat) (i m : Nat) (a b : Nat) : Prop := ∃ x y, ns[x]? = some a ∧ ns[y]? = some b ∧ x < y ∧ (x < i ∨ (x = i ∧ y < i + 1 + m))
theorem pd_step {ns : List Nat} {i m a0 b0 : Nat} (h1 : ns[i]? = some a0) (h2 : ns[i + 1 + m]? = some b0) (a b : Nat) : Pd ns i (m + 1) a b ↔ Pd ns i m a b ∨ (a = a0 ∧ b = b0) := by
  constructor
  · rintro ⟨x, y, e1, e2, e3, e4 | ⟨e4, e5⟩⟩
    · exact .inl ⟨x, y, e1, e2, e3, .inl e4⟩
    · by_cases c : y < i + 1 + m
      · exact .inl ⟨x, y, e1, e2, e3, .inr ⟨e4, c⟩⟩
      · have : y = i + 1 + m := by omega
        subst this e4
        rw [h1] at e1; rw [h2] at e2
        exact .inr ⟨(Option.some.inj e1).symm, (Option.some.inj e2).symm⟩
  · rintro (⟨x, y, e1, e2, e3, e4⟩ | ⟨rfl, rfl⟩)
    · exact ⟨x, y, e1, e2, e3, e4.imp id fun z => ⟨z.1, by omega⟩⟩
    · exact ⟨i, i + 1 + m, h1, h2, by omega, .inr ⟨rfl, by omega⟩⟩
theorem pd_not {ns : List Nat} {i m a0 b0 : Nat} (nd : ns.Nodup) (h1 : ns[i]? = some a0) (h2 : ns[i + 1 + m]? = some b0) : ¬ Pd ns i m a0 b0 ∧ ¬ Pd ns i m b0 a0 := by
  constructor
  · rintro ⟨x, y, e1, e2, e3, e4⟩
    have := nd_ix nd e1 h1
    have := nd_ix nd e2 h2
    omega
  · rintro ⟨x, y, e1, e2, e3, e4⟩
    have := nd_ix nd e1 h2
    have := nd_ix nd e2 h1
    omega
theorem pd_next {ns : List Nat} {i : Nat} : Pd ns i (ns.length - (i + 1)) = Pd ns (i + 1) 0 := by
  funext a b
  apply propext
  constructor
  · rintro ⟨x, y, e1, e2, e3, e4⟩
    exact ⟨x, y, e1, e2, e3, .inl (by omega)⟩
  · rintro ⟨x, y, e1, e2, e3, e4⟩
    have := (List.getElem?_eq_some_iff.mp e2).1
    exact ⟨x, y, e1, e2, e3, by omega⟩
theorem pd_end {ns : List Nat} {a b : Nat} (ha : a ∈ ns) (hb : b ∈ ns) (ne : a ≠ b) : Pd ns ns.length 0 a b ∨ Pd ns ns.length 0 b a := by
  obtain ⟨x, hx, e1⟩ := List.mem_iff_getElem.mp ha
  obtain ⟨y, hy, e2⟩ := List.mem_iff_getElem.mp hb
  have f1 : ns[x]? = some a := by rw [List.getElem?_eq_getElem hx, e1]
  have f2 : ns[y]? = some b := by rw [List.getElem?_eq_getElem hy, e2]
  rcases Nat.lt_trichotomy x y with q | q | q
  · exact .inl ⟨x, y, f1, f2, q, .inl hx⟩
  · subst q
    rw [f1] at f2
    exact absurd (Option.some.inj f2) ne
  · exact .inr ⟨y, x, f2, f1, q, .inl hy⟩
theorem pd_mem {ns : List Nat} {i m a b : Nat} (nd : ns.Nodup) (h : Pd ns i m a b) : a ∈ ns ∧ b ∈ ns ∧ a ≠ b := by
  obtain ⟨x, y, e1, e2, e3, e4⟩ := h
  refine ⟨List.mem_of_getElem? e1, List.mem_of_getElem? e2, fun z => ?_⟩
  subst z
  have := nd_ix nd e1 e2
  omega
theorem rr_start {k n : Nat} {T : Tb} {ns : List Nat} (h : Near k n T ns) (ok : StOk n k T) : st1 k T ns = ⟨(strikeT k T).s, rr k T (Pd ns 0 0)⟩ := by
  refine tb_ext (fun a => ?_) (fun a b => ?_)
  · unfold strikeT
    dsimp only
    by_cases c : a ∈ ns
    · rw [if_pos c, if_neg (h.ne ok c)]
    · rw [if_neg c]
      by_cases c2 : a = k
      · rw [if_pos c2, c2]
      · rw [if_neg c2, h.zero ok c]
        grind
  · have np : ∀ a b, ¬ Pd ns 0 0 a b := fun a b ⟨x, y, e1, e2, e3, e4⟩ => by omega
    unfold rr
    by_cases c : a = k
    · rw [if_pos c, if_pos (.inl c)]
    · rw [if_neg c]
      by_cases c2 : b = k
      · by_cases c3 : a ∈ ns
        · rw [if_pos ⟨c2, c3⟩, if_pos (.inr c2)]
        · rw [if_neg (fun z => c3 z.2), if_pos (.inr c2), c2, ok.sym]
          exact h.zero ok c3
      · rw [if_neg (fun z => c2 z.1), if_neg (fun z => z.elim c c2), if_neg (fun z => z.elim (np _ _) (np _ _))]
theorem rr_end {k n : Nat} {T : Tb} {ns : List Nat} (h : Near k n T ns) (ok : StOk n k T) : rr k T (Pd ns ns.length 0) = (strikeT k T).r := by
  funext a b
  show rr k T (Pd ns ns.length 0) a b = if a = k ∨ b = k then 0 else if a = b then T.r a b else T.r a b + T.r k a * T.r k b / T.s k
  unfold rr
  by_cases c : a = k ∨ b = k
  · rw [if_pos c, if_pos c]
  · rw [if_neg c, if_neg c]
    by_cases c2 : a = b
    · rw [if_pos c2, if_neg (fun z => z.elim (fun w => (pd_mem h.nd w).2.2 c2) (fun w => (pd_mem h.nd w).2.2 c2.symm))]
    · rw [if_neg c2]
      by_cases c3 : a ∈ ns
      · by_cases c4 : b ∈ ns
        · rw [if_pos (pd_end c3 c4 c2)]
        · rw [if_neg (fun z => z.elim (fun w => c4 (pd_mem h.nd w).2.1) (fun w => c4 (pd_mem h.nd w).1)), h.zero ok c4]
          grind
      · rw [if_neg (fun z => z.elim (fun w => c3 (pd_mem h.nd w).1) (fun w => c3 (pd_mem h.nd w).2.1)), h.zero ok c3]
        grind
theorem natl_get {ns : List Nat} {i : Nat} {y : V} (h : (NatL ns)[i]? = some y) : ∃ m : Nat, y = .int m ∧ ns[i]? = some m := by
  rw [List.getElem?_map] at h
  cases e : ns[i]? with
  | none => rw [e] at h; cases h
  | some m => rw [e] at h; exact ⟨m, (Option.some.inj h).symm, rfl⟩
theorem cut_drop (ns : List Nat) (i : Nat) : cutV (NatL ns) (some ((i : Int) + 1)) none = NatL (ns.drop (i + 1)) := by
  have e : HT.sIx (NatL ns).length 0 (some ((i : Int) + 1)) = min (i + 1) ns.length := by
    simp only [HT.sIx, NatL, List.length_map]
    split <;> omega
  have e2 : HT.sIx (NatL ns).length (NatL ns).length none = ns.length := by simp [HT.sIx, NatL]
  unfold cutV
  rw [e, e2]
  have e3 : List.drop (min (i + 1) ns.length) (NatL ns) = NatL (ns.drop (i + 1)) := by
    unfold NatL
    rw [← List.map_drop]
    congr 1
    rcases Nat.le_total (i + 1) ns.length with z | z
    · rw [Nat.min_eq_left z]
    · rw [Nat.min_eq_right z, List.drop_eq_nil_of_le (Nat.le_refl _), List.drop_eq_nil_of_le z]
  rw [e3, List.take_of_length_le]
  unfold NatL
  rw [List.length_map, List.length_drop]
  omega
end Fair

set_option Elab.async false
set_option linter.all false
set_option maxRecDepth 100000
set_option maxHeartbeats 4000000
namespace Fair
open PySem PySem.Spec PyProof.Rows L2
/-! ### TableIsWrong -/
theorem ok_TableIsWrong {P : Program} {w : World} {K : PySem.W.Frag} {mg : Str → Option Value} {base : Heap} (T : TX K mg) (D : Mx K (cT K) "is_wrong" "Table.is_wrong" sTableIsWrong)
    (c_ExactSign : C8.Met P w K mg base 1 (cE K) "sign" (spSign K) []) : C8.Met P w K mg base 2 (cT K) "is_wrong" (spIsWrong K) [] := by
  refine D.met scTableIsWrong (fun _ _ _ _ _ _ us hl => match us, hl with | [_, _], _ => rfl) (fun vs H Q E h => ?_) (fun f cdv A outer s H vs Q E hr h => ?_)
  · obtain ⟨p, k1, n, T0, F, rfl, ht, hk, hw, k⟩ := h
    rfl
  · obtain ⟨p, k1, n, T0, F, rfl, ht, hk, hw, k⟩ := h
    refine ⟨_, (pss_cons (ps_set (i := 2) scTableIsWrong.nd rfl (by first | exact Or.inl rfl | exact Or.inr rfl) (C8.pe_mt0 c_ExactSign hr (by decide) (pe_ix ix_list (pe_fld (pv 0) rfl) (pv 1) (fun _ _ => rfl))))
        (pss_one (ps_ret (pe_or (pe_cmpR op_lt (pv 2) pe_int (nomark _)) (pe_one (pe_and (pe_cmpR op_eq (pv 2) pe_int (nomark _)) (pe_one (pe_cmpR op_gt (pe_callB call_lenD (by rfl) T.f_len (by decide +kernel) (pa_cons (pe_ix ix_list (pe_fld (pv 0) rfl) (pv 1) (fun _ _ => rfl)) pa_nil)) pe_int (nomark _))))))))), ?_⟩
    obtain ⟨dx, e0⟩ := ht.ob
    obtain ⟨as, q0, b1, b2, b3, b4, b5⟩ := ht.sl.get hk
    refine ⟨_, rfl, p, _, dx, _, _, rfl, e0, T.clT, T.nSl, tbF_s _ _ _, _, rfl, F.a1, _, _, _, rfl, rfl, SqL.of b1, atI_nat b4, ?_⟩
    refine meth_of b5 (by decide +kernel) (by decide +kernel) ⟨q0, _, rfl, b5, ?_⟩
    rcases hw with h0 | ⟨h0, hz⟩
    · have e : sgn (T0.s k1) = 1 := by unfold sgn; rw [if_pos h0]
      rw [e]
      refine ⟨_, rfl, _, _, rfl, rfl, _, rfl, iteDN (by decide) ?_⟩
      exact ⟨_, rfl, rfl, _, rfl, iteDN (by decide) k⟩
    · have e : sgn (T0.s k1) = 0 := by rw [h0]; rfl
      rw [e]
      refine ⟨_, rfl, _, _, rfl, rfl, _, rfl, iteDN (by decide) ?_⟩
      refine ⟨_, rfl, rfl, _, rfl, iteD (by rfl) ?_⟩
      obtain ⟨d, hd, ks, g, e1, e2, e3, e4⟩ := ht.be.row hk
      have ek : ks = [] := List.eq_nil_iff_forall_not_mem.mpr fun j hj => ((e3 j).mp hj).2 (hz j)
      subst ek
      refine ⟨_, rfl, p, _, dx, _, _, rfl, e0, T.clT, T.nBe, tbF_b _ _ _, _, rfl, F.a2, _, _, _, rfl, rfl, SqL.of ht.be.1, atI_nat (refs_at hd), d, _, rfl, e1, _, _, rfl, rfl, k⟩

/-! ### TableRaiseRoot -/
theorem ok_TableRaiseRoot {P : Program} {w : World} {K : PySem.W.Frag} {mg : Str → Option Value} {base : Heap} (T : TX K mg) (D : Mx K (cT K) "raise_root" "Table.raise_root" sTableRaiseRoot)
    (c_ExactInit : C8.Mak P w K mg base 2 "Exact" (cE K) (spExactInit K) [])
    (c_ExactAdd : C8.Met P w K mg base 4 (cE K) "__add__" (spAdd K) []) : C8.Met P w K mg base 5 (cT K) "raise_root" (spRaiseRoot K) [] := by
  refine D.met scTableRaiseRoot (fun _ _ _ _ _ _ us hl => match us, hl with | [_, _, _, _], _ => rfl) (fun vs H Q E h => ?_) (fun f cdv A outer s H vs Q E hr h => ?_)
  · obtain ⟨p, a, b, q, n, T0, F, z, rfl, ht, hn, ha, hb, hab, hq, oz, z0, o1, o2, p1, p2, k⟩ := h
    rfl
  · obtain ⟨p, a, b, q, n, T0, F, z, rfl, ht, hn, ha, hb, hab, hq, oz, z0, o1, o2, p1, p2, k⟩ := h
    have hu := hu_of hr
    refine ⟨_, (pss_cons (ps_dput hu (pe_ix ix_list (pe_fld (pv 0) rfl) (pv 1) (fun _ _ => rfl)) (pv 2) (pe_op (op_own c_ExactAdd T.sfE hr (by decide)) (pe_dget2 hu (pe_ix ix_list (pe_fld (pv 0) rfl) (pv 1) (fun _ _ => rfl)) (pv 2) (C8.pe_mk c_ExactInit hr (by decide) (by rfl) (pa_cons pe_int (pa_cons pe_int pa_nil))) ⟨by rfl, by rfl, by rfl, by rfl⟩) (pv 3)) rfl)
        (pss_one (ps_dput hu (pe_ix ix_list (pe_fld (pv 0) rfl) (pv 2) (fun _ _ => rfl)) (pv 1) (pe_op (op_own c_ExactAdd T.sfE hr (by decide)) (pe_dget2 hu (pe_ix ix_list (pe_fld (pv 0) rfl) (pv 2) (fun _ _ => rfl)) (pv 1) (C8.pe_mk c_ExactInit hr (by decide) (by rfl) (pa_cons pe_int (pa_cons pe_int pa_nil))) ⟨by rfl, by rfl, by rfl, by rfl⟩) (pv 3)) rfl))), ?_⟩
    obtain ⟨dx, e0⟩ := ht.ob
    obtain ⟨d, hd, hr1⟩ := ht.be.row ha
    refine ⟨_, rfl, p, _, dx, _, _, rfl, e0, T.clT, T.nBe, tbF_b _ _ _, _, rfl, F.a2, _, _, _, rfl, rfl, SqL.of ht.be.1, atI_nat (refs_at hd), d, rfl, .inl (let ⟨kvs, e⟩ := hr1.isD; ⟨kvs, .inl e⟩), _, rfl, ?_⟩
    intro y dy ny ndy ney
    refine ⟨y, dy, 0, 1, rfl, upd_same, by decide, by decide, fun H1 f1 f2 => ⟨rfl, ?_⟩⟩
    have s1 : Same H H1 := Same.made ny ndy f2
    have t1 := ht.same s1
    obtain ⟨d', hd', hr2⟩ := t1.be.row ha
    obtain rfl : d' = d := by rw [hd] at hd'; exact (Option.some.inj hd').symm
    obtain ⟨o, p0, q1, q2, q3⟩ := hr2.get f1 hb
    refine ⟨o, q1, ?_⟩
    rw [q2]
    have hq1 := hq.same s1
    refine ⟨_, rfl, own_of q3 hq1 ⟨p0, q, _, _, rfl, q3, hq1, o1, oz, trivial, fun p2 H2 s2 n2 x2 => ?_⟩⟩
    have s12 := s1.trans s2
    have t2 := ht.same s12
    obtain ⟨d2, hd2, hr3⟩ := t2.be.row ha
    obtain rfl : d2 = d' := by rw [hd] at hd2; exact (Option.some.inj hd2).symm
    have nz1 : T0.r a b + z ≠ 0 := fun w => by
      have : (0 : Rat) < T0.r a b + z := by grind
      rw [w] at this; exact absurd this (by decide)
    obtain ⟨kvs, dp, hr4⟩ := hr3.put x2 nz1 hb hn
    obtain ⟨t3, k3⟩ := t2.putD hd2 hr4
    obtain ⟨dx2, e2⟩ := t2.ob
    refine ⟨_, rfl, p, _, dx2, _, _, rfl, e2, T.clT, T.nBe, tbF_b _ _ _, _, rfl, F.a2, _, _, _, rfl, rfl, SqL.of t2.be.1, atI_nat (refs_at hd2), _, rfl, d2, _, rfl, dp, ?_⟩
    -- the other way
    have k02 : Keep F H (upd H2 d2 (.dK kvs)) := (Keep.of s12).trans k3
    have im := ht.imm k02
    generalize upd H2 d2 (.dK kvs) = H3 at t3 k02 im
    obtain ⟨dx3, e3⟩ := t3.ob
    obtain ⟨c, hc, hs1⟩ := t3.be.row hb
    have erow : (if b = a then (fun i => if i = b then T0.r a b + z else T0.r a i) else T0.r b) = T0.r b := if_neg fun w => hab w.symm
    dsimp only at hs1
    rw [erow] at hs1
    refine ⟨_, rfl, p, _, dx3, _, _, rfl, e3, T.clT, T.nBe, tbF_b _ _ _, _, rfl, F.a2, _, _, _, rfl, rfl, SqL.of t3.be.1, atI_nat (refs_at hc), c, rfl, .inl (let ⟨kvs, e⟩ := hs1.isD; ⟨kvs, .inl e⟩), _, rfl, ?_⟩
    intro y2 dy2 ny2 ndy2 ney2
    refine ⟨y2, dy2, 0, 1, rfl, upd_same, by decide, by decide, fun H4 f3 f4 => ⟨rfl, ?_⟩⟩
    have s4 : Same H3 H4 := Same.made ny2 ndy2 f4
    have t4 := t3.same s4
    obtain ⟨c', hc', hs2⟩ := t4.be.row hb
    dsimp only at hs2
    rw [erow] at hs2
    obtain rfl : c' = c := by rw [hc] at hc'; exact (Option.some.inj hc').symm
    obtain ⟨o', p3, r1, r2, r3⟩ := hs2.get f3 ha
    refine ⟨o', r1, ?_⟩
    rw [r2]
    have hq4 := (hq.imm im).same s4
    refine ⟨_, rfl, own_of r3 hq4 ⟨p3, q, _, _, rfl, r3, hq4, o2, oz, trivial, fun p5 H5 s5 n5 x5 => ?_⟩⟩
    have s45 := s4.trans s5
    have t5 := t3.same s45
    obtain ⟨c2, hc2, hs3⟩ := t5.be.row hb
    dsimp only at hs3
    rw [erow] at hs3
    have nz2 : T0.r b a + z ≠ 0 := fun w => by
      have : (0 : Rat) < T0.r b a + z := by grind
      rw [w] at this; exact absurd this (by decide)
    obtain ⟨kvs2, dp2, hs4⟩ := hs3.put x5 nz2 ha hn
    obtain ⟨t6, k6⟩ := t5.putD hc2 hs4
    obtain ⟨dx5, e5⟩ := t5.ob
    refine ⟨_, rfl, p, _, dx5, _, _, rfl, e5, T.clT, T.nBe, tbF_b _ _ _, _, rfl, F.a2, _, _, _, rfl, rfl, SqL.of t5.be.1, atI_nat (refs_at hc2), _, rfl, c2, _, rfl, dp2, ?_⟩
    refine k _ ?_ ((k02.trans (Keep.of s45)).trans k6)
    have er : (fun i => if i = b then (fun j => if j = a then T0.r b a + z else T0.r b j) else if i = a then (fun j => if j = b then T0.r a b + z else T0.r a j) else T0.r i) = putR (putR T0.r a b (T0.r a b + z)) b a (T0.r b a + z) := by
      funext i j
      unfold putR
      by_cases w : i = b
      · rw [if_pos w, if_pos w]
        by_cases v : j = a
        · rw [if_pos v, if_pos v]
        · rw [if_neg v, if_neg v, if_neg (fun u => hab u.symm)]
      · rw [if_neg w, if_neg w]
    rw [← er]
    exact t6

/-! ### TableStrikeAll -/
theorem ok_TableStrikeAll {P : Program} {w : World} {K : PySem.W.Frag} {mg : Str → Option Value} {base : Heap} (T : TX K mg) (D : Mx K (cT K) "strike_all" "Table.strike_all" sTableStrikeAll)
    (c_TableIsWrong : C8.Met P w K mg base 2 (cT K) "is_wrong" (spIsWrong K) [])
    (c_TableStrike : C8.Met P w K mg base 6 (cT K) "strike" (spStrike K) []) : C8.Met P w K mg base 7 (cT K) "strike_all" (spStrikeAll K) [] := by
  refine D.met scTableStrikeAll (fun _ _ _ _ _ _ us hl => match us, hl with | [_, _], _ => rfl) (fun vs H Q E h => ?_) (fun f cdv A outer s H vs Q E hr h => ?_)
  · obtain ⟨p, w1, ws, n, T0, F, rfl, hw, hww, ht, hn, hl, hg, ok, k⟩ := h
    rfl
  · obtain ⟨p, w1, ws, n, T0, F, rfl, hw, hww, ht, hn, hl, hg, ok, k⟩ := h
    refine ⟨_, (pss_cons (ps_for PassesOwn.never rfl (pi_list (pv 1)) (pg_name (i := 2) scTableStrikeAll.nd rfl (by first | exact Or.inl rfl | exact Or.inr rfl))
        (pss_cons (ps_if (pt_val (C8.pe_mt c_TableIsWrong hr (by decide) (pv 0) (pa_cons (pv 2) pa_nil))) (pss_one (ps_ret (pv 2)))
        pss_nil)
        (pss_one (ps_expr (C8.pe_mt c_TableStrike hr (by decide) (pv 0) (pa_cons (pv 2) pa_nil))))))
        (pss_one (ps_ret pe_non))), ?_⟩
    refine ⟨_, rfl, w1, rfl, ⟨_, SqL.of hw⟩, for_list (K := K) (a := w1) (xs := NatL ws) (fun i σ H' => (∃ v2, σ = [some (.ref p), some (.ref w1), v2]) ∧ ∃ F', TabAt K H' p n (strikeAll T0 (ws.take i)) F' ∧ Keep F H H' ∧ (∀ c, Own F' c → Own F c ∨ H c = none) ∧ F'.g = i ∧ RunOk n (strikeAll T0 (ws.take i)) (ws.drop i))
      ⟨⟨_, rfl⟩, F, ht, Keep.refl, fun c h => .inl h, hg, ok⟩ (fun i σ H' _ ⟨_, F', _, q, _⟩ => SqL.of (q _ _ hw hww)) ?_ ?_⟩
    · rintro i y σ H1 hi ⟨⟨v2, rfl⟩, F', t1, k1, f1, g1, r1⟩
      obtain ⟨m, rfl, hm⟩ : ∃ m : Nat, y = .int m ∧ ws[i]? = some m := by
        rw [List.getElem?_map] at hi
        cases e : ws[i]? with
        | none => rw [e] at hi; cases hi
        | some m => rw [e] at hi; exact ⟨m, (Option.some.inj hi).symm, rfl⟩
      have hi2 : i < ws.length := (List.getElem?_eq_some_iff.mp hm).1
      have em : ws[i] = m := (List.getElem?_eq_some_iff.mp hm).2
      rw [List.drop_eq_getElem_cons hi2, em] at r1
      obtain ⟨m1, m2, m3⟩ := r1
      obtain ⟨dx, e0⟩ := t1.ob
      refine ⟨_, rfl, p, dx, _, rfl, e0, tbF_no (by decide +kernel) (by decide +kernel) (by decide +kernel), _, rfl, p, m, n, _, F', rfl, t1, m1, m2.wr, _, rfl, iteF ?_⟩
      refine ⟨_, rfl, p, dx, _, rfl, e0, tbF_no (by decide +kernel) (by decide +kernel) (by decide +kernel), _, rfl, p, m, n, _, F', rfl, t1, hn, m1, by omega, m2, fun H2 F2 t2 k2 f2 g2 => ?_⟩
      refine ⟨⟨_, rfl⟩, F2, ?_, ?_, ?_, by omega, ?_⟩
      · rw [take_snoc hm]
        unfold strikeAll
        rw [List.foldl_append]
        exact t2
      · intro c o e w
        exact k2 c o (k1 c o e w) fun z => by
          rcases f1 c z with q | q
          · exact w q
          · rw [q] at e; cases e
      · intro c h
        rcases f2 c h with q | q
        · exact f1 c q
        · by_cases w : Own F c
          · exact .inl w
          · refine .inr ?_
            cases e : H c with
            | none => rfl
            | some o => rw [k1 c o e w] at q; cases q
      · rw [take_snoc hm]
        unfold strikeAll
        rw [List.foldl_append]
        exact m3
    · rintro σ H1 ⟨⟨v2, rfl⟩, F', t1, k1, f1, g1, r1⟩
      have e : ws.take (NatL ws).length = ws := List.take_of_length_le (by rw [List.length_map]; exact Nat.le_refl _)
      rw [e] at t1
      exact k H1 F' t1 k1

end Fair

set_option Elab.async false
set_option linter.all false
set_option maxRecDepth 100000
set_option maxHeartbeats 4000000
namespace Fair
open PySem PySem.Spec PyProof.Rows L2
/-! ### TableInit -/
theorem ok_TableInit {P : Program} {w : World} {K : PySem.W.Frag} {mg : Str → Option Value} {base : Heap} (T : TX K mg) (D : Kx K mg "Table" (cT K) "Table.__init__" sTableInit)
     : C8.Mak P w K mg base 1 "Table" (cT K) (spTableInit K) [] := by
  refine D.mak scTableInit (fun _ _ _ _ _ _ us hl => match us, hl with | [_, _, _], _ => rfl) (fun vs H Q E h => ?_) (fun f cdv A outer s H vs Q E hr h => ?_)
  · obtain ⟨p, dx, a, b, ds, n, T0, rfl, hp, hn, h1, h2, k⟩ := h
    rfl
  · obtain ⟨p, dx, a, b, ds, n, T0, rfl, hp, hn, h1, h2, k⟩ := h
    refine ⟨_, (pss_cons (ps_fld (pv 0) (pe_callTy call_list_of (by rfl) T.f_list (by decide +kernel) (pa_cons (pv 1) pa_nil)) rfl)
        (pss_cons (ps_fld (pv 0) (pe_lc (own := [("row", 3)]) (by rfl) scTableInit.nd (pi_list (pv 2)) (blkOk_by (N := ["self", "slants", "beside", "row"]) (sc := defScope sTableInit) (by decide +kernel)) (fun _ _ _ _ _ => pg_name (i := 3) scTableInit.nd rfl (Or.inl rfl)) (fun _ _ _ _ _ => pts_nil) (fun _ _ _ _ _ => (pe_callTy call_dictD (by rfl) T.f_dict (by decide +kernel) (pa_cons (pv 3) pa_nil)))) rfl)
        (pss_one (ps_fld (pv 0) (pe_lst pa_nil) rfl)))), ?_⟩
    obtain ⟨as, q1, q2, q3⟩ := id h1
    obtain ⟨m1, m2, m3, m4⟩ := id h2
    refine ⟨_, rfl, a, _, rfl, .inl (SqL.of q1), fun l nl => ?_⟩
    have npl : p ≠ l := ne_of_none hp nl
    have nbp : b ≠ p := ne_of m1 hp (by intro z; cases z)
    have nap : a ≠ p := ne_of q1 hp (by intro z; cases z)
    refine ⟨_, rfl, p, cT K, dx, [], rfl, (by rw [upd_ne npl]; exact hp), T.clT, T.nSl, (by show 0 < 1000; decide), ?_⟩
    have k1 : ∀ c o, H c = some o → c ≠ p → upd (upd H l (.lst (as.map V.ref))) p (.ins (cT K) dx (putF "slants" (.ref l) [])) c = some o := fun c o e hc => by
      rw [upd_ne hc, upd_ne (ne_of_none e nl)]; exact e
    have e1l : upd (upd H l (.lst (as.map V.ref))) p (.ins (cT K) dx (putF "slants" (.ref l) [])) l = some (.lst (as.map V.ref)) := by rw [upd_ne npl.symm, upd_same]
    have e1p : upd (upd H l (.lst (as.map V.ref))) p (.ins (cT K) dx (putF "slants" (.ref l) [])) p = some (.ins (cT K) dx (putF "slants" (.ref l) [])) := upd_same
    generalize upd (upd H l (.lst (as.map V.ref))) p (.ins (cT K) dx (putF "slants" (.ref l) [])) = H1 at k1 e1l e1p
    have v1 : VecE K H1 l n T0.s := ⟨as, e1l, q2, fun i q hq => let ⟨dy, e⟩ := q3 i q hq; ⟨dy, k1 _ _ e (ne_of e hp (by
      intro z
      have := (HO.ins.inj z).2.2
      cases this))⟩⟩
    have r1 : ∀ i d, ds[i]? = some d → RowAt K H1 d n (T0.r i) := fun i d hd => by
      obtain ⟨ks, g, g1, g2, g3, g4⟩ := m4 i d hd
      refine ⟨ks, g, k1 _ _ g1 (ne_of g1 hp (by intro z; cases z)), g2, g3, fun j hj => ?_⟩
      obtain ⟨dy, e⟩ := g4 j hj
      exact ⟨dy, k1 _ _ e (ne_of e hp (by
        intro z
        have := (HO.ins.inj z).2.2
        cases this))⟩
    have f1 : ∀ c, H1 c = none → H c = none := fun c e => by
      cases e2 : H c with
      | none => rfl
      | some o =>
        by_cases w : c = p
        · subst w; rw [e1p] at e; cases e
        · rw [k1 c o e2 w] at e; cases e
    refine ⟨_, rfl, b, rfl, ⟨_, SqL.of (k1 _ _ m1 nbp)⟩, fun D hD => lc_list (K := K) (a := b) (xs := ds.map V.ref) (fun i H' => ∃ es : List Addr, H' D = some (.lst (es.map V.ref)) ∧ es.length = i ∧ es.Nodup ∧ (∀ j e, es[j]? = some e → RowAt K H' e n (T0.r j)) ∧ (∀ e ∈ es, H1 e = none) ∧ Same H1 H') ⟨[], upd_same, rfl, List.nodup_nil, fun j e h => (by rw [List.getElem?_nil] at h; cases h), fun e h => (by cases h), same_upd1 hD⟩ (fun i H' _ ⟨_, _, _, _, _, _, s⟩ => SqL.of (s _ _ (k1 _ _ m1 nbp))) ?_ ?_⟩
    · rintro i y H2 hi ⟨es, g1, g2, g3, g4, g5, g6⟩
      obtain ⟨d, rfl, hd⟩ := refs_get hi
      have hi2 : i < n := by rw [← m2]; exact (List.getElem?_eq_some_iff.mp hd).1
      obtain ⟨ks, g, u1, u2, u3, u4⟩ := r1 i d hd
      refine ⟨rfl, _, rfl, d, _, rfl, .inl (g6 _ _ u1), fun c nc => ?_⟩
      have s2 : Same H2 (upd H2 c (.dK (dkv ks fun j => .ref (g j)))) := same_upd1 nc
      have dE := s2 _ _ g1
      have im : Imm (upd H2 c (.dK (dkv ks fun j => .ref (g j)))) (upd (upd H2 c (.dK (dkv ks fun j => .ref (g j)))) D (.lst (es.map V.ref ++ [.ref c]))) := Imm.lst dE
      refine ⟨_, dE, small1000 (by rw [List.length_map]; omega), es ++ [c], by rw [upd_same, List.map_append]; rfl, by simp [g2], ?_, ?_, ?_, same_new (g6.trans s2) hD⟩
      · exact List.nodup_append.mpr ⟨g3, by simp, fun x hx z hz => by
          simp at hz; subst hz
          obtain ⟨jx, hjx, ejx⟩ := List.mem_iff_getElem.mp hx
          obtain ⟨kv, ek⟩ := (g4 jx x (by rw [List.getElem?_eq_getElem hjx, ejx])).isD
          exact ne_of_none ek nc⟩
      · intro j e he
        have hne : ∀ kv, upd H2 c (.dK (dkv ks fun j => .ref (g j))) e = some (.dK kv) → e ≠ D := fun kv ek => ne_of ek dE (by intro z; cases z)
        rcases Nat.lt_trichotomy j es.length with z | z | z
        · rw [List.getElem?_append_left z] at he
          have r2 := g4 j e he
          obtain ⟨kv, ek⟩ := r2.isD
          have r3 := r2.mono (Imm.of s2) (by rw [s2 _ _ ek, ek])
          obtain ⟨kv2, ek2⟩ := r3.isD
          exact r3.mono im (upd_ne (hne _ ek2))
        · subst z
          rw [List.getElem?_append_right (Nat.le_refl _)] at he
          simp at he; subst he
          have r3 : RowAt K (upd H2 c (.dK (dkv ks fun j => .ref (g j)))) c n (T0.r i) := ⟨ks, g, upd_same, u2, u3, fun j hj => (u4 j hj).same (g6.trans s2)⟩
          obtain ⟨kv2, ek2⟩ := r3.isD
          rw [g2]
          exact r3.mono im (upd_ne (hne _ ek2))
        · rw [List.getElem?_append_right (by omega), List.getElem?_singleton, if_neg (by omega)] at he
          cases he
      · intro e he
        rcases List.mem_append.mp he with he | he
        · exact g5 e he
        · simp at he; subst he
          exact g6.free nc
    rintro H2 ⟨es, g1, g2, g3, g4, g5, g6⟩
    rw [List.length_map, m2] at g2
    have e2p := g6 _ _ e1p
    have nDp : D ≠ p := ne_of g1 e2p (by intro z; cases z)
    have nlD : l ≠ D := ne_of_none e1l hD
    refine ⟨_, rfl, p, cT K, dx, _, rfl, e2p, T.clT, T.nBe, (by show 1 < 1000; decide), ?_⟩
    have rr : putF "beside" (.ref D) (putF "slants" (.ref l) []) = ([("slants", .ref l), ("beside", .ref D)] : List (Str × V)) := tbF_put1 l D
    rw [rr]
    refine ⟨(by show 0 ≤ sizeLine; decide), fun z nz => ?_⟩
    have nzp : z ≠ p := fun w => by rw [w, upd_same] at nz; cases nz
    have nz2 : H2 z = none := by rw [upd_ne nzp] at nz; exact nz
    refine ⟨_, rfl, p, cT K, dx, _, rfl, (by rw [upd_ne nzp.symm]; exact upd_same), T.clT, T.nGo, (by show 2 < 1000; decide), ?_⟩
    rw [tbF_put2]
    have k3 : ∀ c o, H2 c = some o → c ≠ p → upd (upd (upd H2 p (.ins (cT K) dx [("slants", .ref l), ("beside", .ref D)])) z (.lst [])) p (.ins (cT K) dx (tbF l D z)) c = some o := fun c o e hc => by
      rw [upd_ne hc, upd_ne (ne_of_none e nz2), upd_ne hc]; exact e
    have e3z : upd (upd (upd H2 p (.ins (cT K) dx [("slants", .ref l), ("beside", .ref D)])) z (.lst [])) p (.ins (cT K) dx (tbF l D z)) z = some (.lst []) := by rw [upd_ne nzp, upd_same]
    have e3p : upd (upd (upd H2 p (.ins (cT K) dx [("slants", .ref l), ("beside", .ref D)])) z (.lst [])) p (.ins (cT K) dx (tbF l D z)) p = some (.ins (cT K) dx (tbF l D z)) := upd_same
    generalize upd (upd (upd H2 p (.ins (cT K) dx [("slants", .ref l), ("beside", .ref D)])) z (.lst [])) p (.ins (cT K) dx (tbF l D z)) = H3 at k3 e3z e3p
    have exk : ∀ q r, ExAt K H2 q r → ExAt K H3 q r := fun q r ⟨dy, e⟩ => ⟨dy, k3 _ _ e (ne_of e e2p (by
      intro z
      have := congrArg List.length (HO.ins.inj z).2.2
      have : (2 : Nat) = 1 := this
      cases this))⟩
    refine k H3 ⟨l, D, z, es, 0⟩ ⟨⟨dx, e3p⟩, ?_, ⟨k3 _ _ g1 nDp, g2, g3, fun i e he => ?_⟩, ⟨[], e3z, rfl⟩, nlD, ne_of_none (g6 _ _ e1l) nz2, ne_of_none g1 nz2⟩ ?_ rfl ?_
    · obtain ⟨as2, w1, w2, w3⟩ := v1.same exR g6
      exact ⟨as2, k3 _ _ w1 (ne_of w1 e2p (by intro z; cases z)), w2, fun i q hq => exk _ _ (w3 i q hq)⟩
    · obtain ⟨ks, g, u1, u2, u3, u4⟩ := g4 i e he
      exact ⟨ks, g, k3 _ _ u1 (ne_of u1 e2p (by intro z; cases z)), u2, u3, fun j hj => exk _ _ (u4 j hj)⟩
    · rintro c (rfl | rfl | rfl | hc)
      · exact nl
      · exact f1 _ hD
      · exact f1 _ (g6.free nz2)
      · exact f1 _ (g5 c hc)
    · exact fun c o e hc => k3 _ _ (g6 _ _ (k1 c o e hc)) hc

end Fair

set_option Elab.async false
set_option linter.all false
set_option maxRecDepth 100000
set_option maxHeartbeats 4000000
namespace Fair
open PySem PySem.Spec PyProof.Rows L2
/-! ### TableStrike -/
theorem ok_TableStrike {P : Program} {w : World} {K : PySem.W.Frag} {mg : Str → Option Value} {base : Heap} (T : TX K mg) (D : Mx K (cT K) "strike" "Table.strike" sTableStrike)
    (c_ExactSquare : C8.Met P w K mg base 4 (cE K) "square" (spSquare K) [])
    (c_ExactOver : C8.Met P w K mg base 4 (cE K) "over" (spOver K) [])
    (c_ExactSub : C8.Met P w K mg base 4 (cE K) "__sub__" (spSub K) [])
    (c_TableRaiseRoot : C8.Met P w K mg base 5 (cT K) "raise_root" (spRaiseRoot K) [])
    (c_ExactMul : C8.Met P w K mg base 4 (cE K) "__mul__" (spMul K) []) : C8.Met P w K mg base 6 (cT K) "strike" (spStrike K) [] := by
  refine D.met scTableStrike (fun _ _ _ _ _ _ us hl => match us, hl with | [_, _], _ => rfl) (fun vs H Q E h => ?_) (fun f cdv A outer s H vs Q E hr h => ?_)
  · obtain ⟨p, k1, n, T0, F, rfl, ht, hn, hk, hg, ok, k⟩ := h
    rfl
  · obtain ⟨p, k1, n, T0, F, rfl, ht, hn, hk, hg, ok, k⟩ := h
    have hu := hu_of hr
    refine ⟨_, (pss_cons (ps_set (i := 2) scTableStrike.nd rfl (by first | exact Or.inl rfl | exact Or.inr rfl) (pe_ix ix_list (pe_fld (pv 0) rfl) (pv 1) (fun _ _ => rfl)))
        (pss_cons (ps_set (i := 3) scTableStrike.nd rfl (by first | exact Or.inl rfl | exact Or.inr rfl) (pe_ix ix_list (pe_fld (pv 0) rfl) (pv 1) (fun _ _ => rfl)))
        (pss_cons (ps_asg pe_dnewK (pg_sub (pe_fld (pv 0) rfl) (pv 1) set_list))
        (pss_cons (ps_set (i := 4) scTableStrike.nd rfl (by first | exact Or.inl rfl | exact Or.inr rfl) (pe_callB (call_sortedDI rfl) (by rfl) T.f_sorted (by decide +kernel) (pa_cons (pv 3) pa_nil)))
        (pss_cons (ps_for PassesOwn.never rfl (pi_list (pv 4)) (pg_name (i := 5) scTableStrike.nd rfl (by first | exact Or.inl rfl | exact Or.inr rfl))
        (pss_cons (ps_ddel (pe_ix ix_list (pe_fld (pv 0) rfl) (pv 5) (fun _ _ => rfl)) (pv 1))
        (pss_one (ps_asg (pe_op (op_own c_ExactSub T.sfE hr (by decide)) (pe_ix ix_list (pe_fld (pv 0) rfl) (pv 5) (fun _ _ => rfl)) (C8.pe_mt c_ExactOver hr (by decide) (C8.pe_mt0 c_ExactSquare hr (by decide) (pe_dget hu (pv 3) (pv 5) (fun _ _ => rfl))) (pa_cons (pv 2) pa_nil))) (pg_sub (pe_fld (pv 0) rfl) (pv 5) set_list)))))
        (pss_cons (ps_for PassesOwn.never rfl (pi_enum (by rfl) T.f_enumerate (pa_cons (pv 4) pa_nil)) (pg_tup rfl (pgs_cons (pg_name (i := 6) scTableStrike.nd rfl (by first | exact Or.inl rfl | exact Or.inr rfl)) (pgs_cons (pg_name (i := 5) scTableStrike.nd rfl (by first | exact Or.inl rfl | exact Or.inr rfl)) pgs_nil)))
        (pss_one (ps_for PassesOwn.never rfl (pi_list (pe_slice sl_list (pv 4) (po_some (pe_op op_add (pv 6) pe_int)) po_none)) (pg_name (i := 7) scTableStrike.nd rfl (by first | exact Or.inl rfl | exact Or.inr rfl))
        (pss_one (ps_expr (C8.pe_mt c_TableRaiseRoot hr (by decide) (pv 0) (pa_cons (pv 5) (pa_cons (pv 7) (pa_cons (C8.pe_mt c_ExactOver hr (by decide) (pe_op (op_own c_ExactMul T.sfE hr (by decide)) (pe_dget hu (pv 3) (pv 5) (fun _ _ => rfl)) (pe_dget hu (pv 3) (pv 7) (fun _ _ => rfl))) (pa_cons (pv 2) pa_nil)) pa_nil)))))))))
        (pss_one (ps_expr (pe_bm PySem.F.plainAttrs_list PySem.F.slot_list_append PySem.F.type_list_append mt_append (pe_fld (pv 0) rfl) (pa_cons (pe_tup (pa_cons (pv 1) (pa_cons (pv 2) (pa_cons (pv 3) pa_nil)))) pa_nil)))))))))), ?_⟩
    obtain ⟨dx, e0⟩ := ht.ob
    obtain ⟨as, q0, b1, b2, b3, b4, b5⟩ := ht.sl.get hk
    obtain ⟨d0, hd0, hr0⟩ := ht.be.row hk
    refine ⟨_, rfl, p, _, dx, _, _, rfl, e0, T.clT, T.nSl, tbF_s _ _ _, _, rfl, F.a1, _, _, _, rfl, rfl, SqL.of b1, atI_nat b4, ?_⟩
    refine ⟨_, rfl, p, _, dx, _, _, rfl, e0, T.clT, T.nBe, tbF_b _ _ _, _, rfl, F.a2, _, _, _, rfl, rfl, SqL.of ht.be.1, atI_nat (refs_at hd0), ?_⟩
    intro d nd
    have s1 : Same H (upd H d (.dK [])) := same_upd1 nd
    refine ⟨_, rfl, p, _, dx, _, _, rfl, s1 _ _ e0, T.clT, T.nBe, tbF_b _ _ _, _, rfl, F.a2, _, _, k1, rfl, rfl, s1 _ _ ht.be.1, ixN_nat (by rw [List.length_map, ht.be.2.1]; exact hk), ?_⟩
    obtain ⟨t1, kp1, r1, w1, ow1⟩ := ht.newRow nd hd0
    have x0 : ExAt K (upd (upd H d (.dK [])) F.a2 (.lst ((F.ds.map V.ref).set k1 (.ref d)))) q0 (T0.s k1) := b5.imm (ht.imm kp1)
    generalize upd (upd H d (.dK [])) F.a2 (.lst ((F.ds.map V.ref).set k1 (.ref d))) = H1 at t1 kp1 r1 x0
    obtain ⟨ks, g, u1, u2, u3, u4⟩ := id r1
    refine ⟨_, rfl, d0, _, ks.map Int.ofNat, rfl, .inl u1, dkv_keys _ _, ?_, fun ys l perm _ nl => ?_⟩
    · rw [List.length_map]
      have := nodup_len u2 fun j hj => ((u3 j).mp hj).1
      omega
    obtain ⟨ns, rfl, near⟩ := near_of u2 u3 perm
    have s2 : Same H1 (upd H1 l (.lst ((ns.map fun (j : Nat) => (j : Int)).map V.int))) := same_upd1 nl
    have el : upd H1 l (.lst ((ns.map fun (j : Nat) => (j : Int)).map V.int)) l = some (.lst (NatL ns)) := by
      rw [upd_same, List.map_map]; rfl
    have t2 := t1.same s2
    have r2 : RowAt K (upd H1 l (.lst ((ns.map fun (j : Nat) => (j : Int)).map V.int))) d0 n (T0.r k1) := r1.mono (Imm.of s2) (by rw [s2 _ _ u1, u1])
    have x2 := x0.same s2
    have wl : ¬ Own ⟨F.a1, F.a2, F.a3, F.ds.set k1 d, F.g⟩ l := fun z => by
      obtain ⟨u, e, _⟩ := t1.own z
      rw [nl] at e; cases e
    have kp2 : Keep F H (upd H1 l (.lst ((ns.map fun (j : Nat) => (j : Int)).map V.int))) := kp1.trans (Keep.of s2)
    generalize upd H1 l (.lst ((ns.map fun (j : Nat) => (j : Int)).map V.int)) = H2 at el t2 r2 x2 kp2
    generalize eF1 : (⟨F.a1, F.a2, F.a3, F.ds.set k1 d, F.g⟩ : Foot) = F1 at t2 w1 ow1 wl
    have eg : F1.g = F.g := by rw [← eF1]
    rw [← st1_nil] at t2
    refine ⟨_, rfl, l, rfl, ⟨_, SqL.of el⟩, for_list (K := K) (a := l) (xs := NatL ns) (fun i σ H' => (∃ v5 v6 v7, σ = [some (.ref p), some (.int k1), some (.ref q0), some (.ref d0), some (.ref l), v5, v6, v7]) ∧ TabAt K H' p n (st1 k1 T0 (ns.take i)) F1 ∧ Keep F1 H2 H')
      ⟨⟨_, _, _, rfl⟩, t2, Keep.refl⟩ (fun i σ H' _ ⟨_, _, q⟩ => SqL.of (q _ _ el wl)) ?_ ?_⟩
    · rintro i y σ H3 hi ⟨⟨v5, v6, v7, rfl⟩, t3, k3⟩
      obtain ⟨m, rfl, hm⟩ := natl_get hi
      have mem : m ∈ ns := List.mem_of_getElem? hm
      have hmn := ((near.mem m).mp mem).1
      have hm0 := ((near.mem m).mp mem).2
      have mk := near.ne ok mem
      have sp := near.spos ok mem
      have mt : m ∉ ns.take i := fun z => by
        obtain ⟨x, hx, e⟩ := List.mem_iff_getElem.mp z
        rw [List.length_take] at hx
        rw [List.getElem_take] at e
        have := nd_ix near.nd (show ns[x]? = some m by rw [List.getElem?_eq_getElem (by omega), e]) hm
        omega
      obtain ⟨dx3, e3⟩ := t3.ob
      obtain ⟨dm, hdm, hr3⟩ := t3.be.row hmn
      have rmk : (st1 k1 T0 (ns.take i)).r m k1 = T0.r k1 m := by
        show (if m = k1 then (0 : Rat) else if k1 = k1 ∧ m ∈ ns.take i then 0 else T0.r m k1) = _
        rw [if_neg mk, if_neg (fun z => mt z.2), ok.sym]
      have sm : (st1 k1 T0 (ns.take i)).s m = T0.s m := if_neg mt
      obtain ⟨kvs, kvs', d1, d2, d3, d4⟩ := hr3.drop hk (by rw [rmk]; exact hm0)
      refine ⟨_, rfl, p, _, dx3, _, _, rfl, e3, T.clT, T.nBe, tbF_b _ _ _, _, rfl, F1.a2, _, _, _, rfl, rfl, SqL.of t3.be.1, atI_nat (refs_at hdm), _, rfl, dm, kvs, Sum.inl (k1 : Int), rfl, d1, rfl, d2, ?_⟩
      rw [d3]
      obtain ⟨t4, k4⟩ := t3.putD hdm d4
      have k24 := k3.trans k4
      have im := t2.imm k24
      generalize upd H3 dm (.dK kvs') = H4 at t4 k24 im
      obtain ⟨dx4, e4⟩ := t4.ob
      obtain ⟨as4, q4, c1, c2, c3, c4, c5⟩ := t4.sl.get hmn
      refine ⟨_, rfl, p, _, dx4, _, _, rfl, e4, T.clT, T.nSl, tbF_s _ _ _, _, rfl, F1.a1, _, _, _, rfl, rfl, SqL.of c1, atI_nat c4, ?_⟩
      have r4 := r2.keep t2 w1 k24
      obtain ⟨p0, g1, g2⟩ := r4.item hmn hm0
      refine ⟨_, rfl, _, rfl, d0, _, rfl, g1, ?_⟩
      refine meth_of g2 (by decide +kernel) (by decide +kernel) ⟨p0, _, rfl, g2, ok.or _ _, fun p5 H5 s5 n5 x5 => ?_⟩
      refine meth_of x5 (by decide +kernel) (by decide +kernel) ⟨_, rfl, p5, q0, _, _, rfl, x5, (x2.imm im).same s5, ok.om _ _, ok.os _, sp, fun p6 H6 s6 n6 x6 => ?_⟩
      have s56 := s5.trans s6
      refine own_of (c5.same s56) x6 ⟨q4, p6, _, _, rfl, c5.same s56, x6, by rw [sm]; exact ok.os _, ok.oq _ _, trivial, fun p7 H7 s7 n7 x7 => ?_⟩
      have s57 := s56.trans s7
      have t7 := t4.same s57
      obtain ⟨dx7, e7⟩ := t7.ob
      have c7 := s57 _ _ c1
      refine ⟨_, rfl, p, _, dx7, _, _, rfl, e7, T.clT, T.nSl, tbF_s _ _ _, _, rfl, F1.a1, _, _, m, rfl, rfl, c7, ixN_nat (by rw [List.length_map, c2]; exact hmn), ?_⟩
      obtain ⟨t8, k8⟩ := t7.putS c7 x7
      refine ⟨⟨_, _, _, rfl⟩, ?_, (k24.trans (Keep.of s57)).trans k8⟩
      rw [take_snoc hm, ← st1_snoc mt mk]
      exact t8
    rintro σ H3 ⟨⟨v5, v6, v7, rfl⟩, t3, k3⟩
    have eN : ns.take (NatL ns).length = ns := List.take_of_length_le (by rw [List.length_map]; exact Nat.le_refl _)
    rw [eN, rr_start near ok] at t3
    refine ⟨_, rfl, l, _, rfl, SqL.of (k3 _ _ el wl), for_enumL (K := K) (a := l) (xs := NatL ns) (fun i σ H' => (∃ v5 v6 v7, σ = [some (.ref p), some (.int k1), some (.ref q0), some (.ref d0), some (.ref l), v5, v6, v7]) ∧ TabAt K H' p n ⟨(strikeT k1 T0).s, rr k1 T0 (Pd ns i 0)⟩ F1 ∧ Keep F1 H2 H')
      ⟨⟨_, _, _, rfl⟩, t3, k3⟩ (fun i σ H' _ ⟨_, _, q⟩ => SqL.of (q _ _ el wl)) ?_ ?_⟩
    · rintro i y σ H4 t hi ⟨⟨v5, v6, v7, rfl⟩, t4, k4⟩ nt
      obtain ⟨m, rfl, hm⟩ := natl_get hi
      have mem : m ∈ ns := List.mem_of_getElem? hm
      have hmn := ((near.mem m).mp mem).1
      have hm0 := ((near.mem m).mp mem).2
      have mk := near.ne ok mem
      have sp := near.spos ok mem
      refine ⟨t, _, rfl, SqT.of upd_same, rfl, _, _, rfl, _, _, rfl, rfl, ?_⟩
      have s5 : Same H4 (upd H4 t (.tup [.int i, .int m])) := same_upd1 nt
      have t5 := t4.same s5
      have k5 := k4.trans (Keep.of s5)
      generalize upd H4 t (.tup [.int i, .int m]) = H5 at t5 k5
      refine ⟨_, rfl, _, rfl, _, _, rfl, rfl, _, rfl, l, _, rfl, SqL.of (k5 _ _ el wl), fun c nc => ?_⟩
      have ecut : cutV (NatL ns) (some ((i : Int) + 1)) none = NatL (ns.drop (i + 1)) := cut_drop ns i
      rw [ecut]
      have s6 : Same H5 (upd H5 c (.lst (NatL (ns.drop (i + 1))))) := same_upd1 nc
      have wc : ¬ Own F1 c := fun z => by
        obtain ⟨u, e, _⟩ := t5.own z
        rw [nc] at e; cases e
      have t6 := t5.same s6
      have k6 := k5.trans (Keep.of s6)
      have e6 : upd H5 c (.lst (NatL (ns.drop (i + 1)))) c = some (.lst (NatL (ns.drop (i + 1)))) := upd_same
      generalize upd H5 c (.lst (NatL (ns.drop (i + 1)))) = H6 at t6 k6 e6
      refine ⟨c, rfl, ⟨_, SqL.of e6⟩, for_list (K := K) (a := c) (xs := NatL (ns.drop (i + 1))) (fun j σ H' => (∃ v7, σ = [some (.ref p), some (.int k1), some (.ref q0), some (.ref d0), some (.ref l), some (.int m), some (.int i), v7]) ∧ TabAt K H' p n ⟨(strikeT k1 T0).s, rr k1 T0 (Pd ns i j)⟩ F1 ∧ Keep F1 H2 H' ∧ H' c = some (.lst (NatL (ns.drop (i + 1)))))
        ⟨⟨_, rfl⟩, t6, k6, e6⟩ (fun i σ H' _ ⟨_, _, _, q⟩ => SqL.of q) ?_ ?_⟩
      · rintro j z σ H7 hj ⟨⟨v7, rfl⟩, t7, k7, e7⟩
        obtain ⟨o, rfl, ho⟩ := natl_get hj
        rw [List.getElem?_drop] at ho
        have memo : o ∈ ns := List.mem_of_getElem? ho
        have hon := ((near.mem o).mp memo).1
        have ho0 := ((near.mem o).mp memo).2
        have ok' := near.ne ok memo
        have ne : m ≠ o := fun z => by
          subst z
          have := nd_ix near.nd hm ho
          omega
        obtain ⟨n1, n2⟩ := pd_not near.nd hm ho
        have r7 := r2.keep t2 w1 k7
        obtain ⟨p0, g1, g2⟩ := r7.item hmn hm0
        obtain ⟨p1, g3, g4⟩ := r7.item hon ho0
        obtain ⟨dx7, f7⟩ := t7.ob
        have x7 := x2.imm (t2.imm k7)
        refine ⟨_, rfl, p, dx7, _, rfl, f7, tbF_no (by decide +kernel) (by decide +kernel) (by decide +kernel), _, rfl, _, rfl, _, rfl, _, rfl, d0, _, rfl, g1, _, rfl, _, rfl, d0, _, rfl, g3, ?_⟩
        refine own_of g2 g4 ⟨p0, p1, _, _, rfl, g2, g4, ok.or _ _, ok.or _ _, trivial, fun p8 H8 s8 n8 x8 => ?_⟩
        refine meth_of x8 (by decide +kernel) (by decide +kernel) ⟨_, rfl, p8, q0, _, _, rfl, x8, x7.same s8, ok.om _ _, ok.os _, sp, fun p9 H9 s9 n9 x9 => ?_⟩
        have s89 := s8.trans s9
        have zp : 0 < T0.r k1 m * T0.r k1 o / T0.s k1 := by
          rw [Rat.div_def]
          exact Rat.mul_pos (Rat.mul_pos (near.pos ok mem) (near.pos ok memo)) (Rat.inv_pos.mpr sp)
        refine ⟨p, m, o, p9, n, _, F1, _, rfl, t7.same s89, hn, hmn, hon, ne, x9, ok.oq _ _, zp, ?_, ?_, ?_, ?_, fun H10 t10 k10 => ?_⟩
        · dsimp only; rw [rr_not mk ok' n1 n2]; exact ok.or _ _
        · dsimp only; rw [rr_not ok' mk n2 n1]; exact ok.or _ _
        · dsimp only; rw [rr_not mk ok' n1 n2]; exact ok.nn _ _
        · dsimp only; rw [rr_not ok' mk n2 n1]; exact ok.nn _ _
        · dsimp only at t10; rw [rr_step mk ok' ne (pd_step hm ho) n1 n2] at t10
          exact ⟨⟨_, rfl⟩, t10, (k7.trans (Keep.of s89)).trans k10, k10 _ _ (s89 _ _ e7) wc⟩
      · rintro σ H7 ⟨⟨v7, rfl⟩, t7, k7, e7⟩
        have eJ : (NatL (ns.drop (i + 1))).length = ns.length - (i + 1) := by rw [List.length_map, List.length_drop]
        rw [eJ, pd_next] at t7
        exact ⟨⟨_, _, _, rfl⟩, t7, k7⟩
    rintro σ H4 ⟨⟨v5, v6, v7, rfl⟩, t4, k4⟩
    have eL : (NatL ns).length = ns.length := List.length_map _
    rw [eL, rr_end near ok] at t4
    obtain ⟨dx4, e4⟩ := t4.ob
    obtain ⟨gs, e5, gl⟩ := t4.go
    refine ⟨_, rfl, p, _, dx4, _, _, rfl, e4, T.clT, T.nGo, tbF_g _ _ _, .inl ⟨rfl, _, SqL.of e5⟩, _, rfl, _, rfl, _, rfl, (by show 3 ≤ sizeLine; decide), fun t nt => ?_⟩
    have s5 : Same H4 (upd H4 t (.tup [.int k1, .ref q0, .ref d0])) := same_upd1 nt
    have t5 := t4.same s5
    refine ⟨F1.a3, gs, _, rfl, rfl, s5 _ _ e5, small1000 (by omega), ?_⟩
    obtain ⟨t6, k6⟩ := t5.putG (v := .ref t) (s5 _ _ e5)
    have kF : Keep F1 H2 (upd (upd H4 t (.tup [.int k1, .ref q0, .ref d0])) F1.a3 (.lst (gs ++ [.ref t]))) := (k4.trans (Keep.of s5)).trans k6
    have ow : ∀ c, Own F1 c → Own F c ∨ H c = none := fun c w => (ow1 c w).imp id fun z => by rw [z]; exact nd
    refine k _ _ t6 (fun c o e w => kF c o (kp2 c o e w) fun z => ?_) ow (by show F1.g + 1 = _; rw [eg])
    rcases ow c z with z | z
    · exact w z
    · rw [e] at z; cases z

end Fair

set_option Elab.async false
set_option linter.all false
set_option maxRecDepth 100000
set_option maxHeartbeats 4000000
namespace Fair
open PySem PySem.Spec PyProof.Rows L2
/-! ### TableOf -/
theorem ok_TableOf {P : Program} {w : World} {K : PySem.W.Frag} {mg : Str → Option Value} {base : Heap} (T : TX K mg) (D : Dx K mg "table_of" sTableOf)
    (c_HeldExact : C8.Cal P w K mg base 5 "held_exact" (spHeldExact K) [])
    (c_ExactAdd : C8.Met P w K mg base 4 (cE K) "__add__" (spAdd K) [])
    (c_ExactSub : C8.Met P w K mg base 4 (cE K) "__sub__" (spSub K) [])
    (c_RootsExact : C8.Cal P w K mg base 5 "roots_exact" (spRootsExact K) [])
    (c_TableInit : C8.Mak P w K mg base 1 "Table" (cT K) (spTableInit K) []) : C8.Cal P w K mg base 6 "table_of" (spTableOf K) [] := by
  refine D.cal scTableOf (fun _ _ _ _ _ _ us hl => match us, hl with | [_, _, _], _ => rfl) (fun vs H Q E h => ?_) (fun f cdv A outer s H vs Q E hr h => ?_)
  · obtain ⟨p, o, w1, n, ss, rfl, hp, ok, ho, hw, k⟩ := h
    rfl
  · obtain ⟨p, o, w1, n, ss, rfl, hp, ok, ho, hw, k⟩ := h
    refine ⟨_, (pss_cons (ps_set (i := 3) scTableOf.nd rfl (by first | exact Or.inl rfl | exact Or.inr rfl) (pe_lst pa_nil))
        (pss_cons (ps_for PassesOwn.never rfl (pi_zip3 (by rfl) T.f_zip (pa_cons (C8.pe_c c_HeldExact hr (by decide) (by rfl) (pa_cons (pv 0) pa_nil)) (pa_cons (pv 1) (pa_cons (pv 2) pa_nil)))) (pg_tup rfl (pgs_cons (pg_name (i := 4) scTableOf.nd rfl (by first | exact Or.inl rfl | exact Or.inr rfl)) (pgs_cons (pg_name (i := 5) scTableOf.nd rfl (by first | exact Or.inl rfl | exact Or.inr rfl)) (pgs_cons (pg_name (i := 6) scTableOf.nd rfl (by first | exact Or.inl rfl | exact Or.inr rfl)) pgs_nil))))
        (pss_one (ps_expr (pe_bm PySem.F.plainAttrs_list PySem.F.slot_list_append PySem.F.type_list_append mt_append (pv 3) (pa_cons (pe_op (op_own c_ExactSub T.sfE hr (by decide)) (pe_op (op_own c_ExactAdd T.sfE hr (by decide)) (pv 4) (pv 5)) (pv 6)) pa_nil)))))
        (pss_one (ps_ret (C8.pe_mk c_TableInit hr (by decide) (by rfl) (pa_cons (pv 3) (pa_cons (C8.pe_c c_RootsExact hr (by decide) (by rfl) (pa_cons (pv 0) pa_nil)) pa_nil))))))), ?_⟩
    obtain ⟨bs, w1', w2, w3⟩ := id ho
    obtain ⟨cs, z1, z2, z3⟩ := id hw
    have okT := (tab0_ok n ss ok.ok).1
    refine ⟨by decide, fun q nq => ?_⟩
    have s1 : Same H (upd H q (.lst [])) := same_upd1 nq
    have v0 : VecE K (upd H q (.lst [])) q 0 (tab0 ss).s := VecR.nil
    have e1q : upd H q (.lst []) q = some (.lst []) := upd_same
    generalize upd H q (.lst []) = H1 at s1 v0 e1q
    refine ⟨_, rfl, p, n, ss, rfl, hp.same s1, ok, fun a H2 s2 na ha => ?_⟩
    obtain ⟨as, a1, a2, a3⟩ := id ha
    have s12 := s1.trans s2
    have nqa : q ≠ a := ne_of_none e1q na
    have ok0 : Ok 0 := Nq.zero.ok (m := 1) (by decide)
    refine ⟨_, rfl, _, rfl, a, o, w1, _, _, _, rfl, SqL.of a1, SqL.of (s12 _ _ w1'), SqL.of (s12 _ _ z1), for_zip3 (K := K) (a := a) (b := o) (c := w1) (xs := as.map V.ref) (ys := bs.map V.ref) (zs := cs.map V.ref) (by simp only [List.length_map]; omega) (by simp only [List.length_map]; omega)
      (fun i σ H' => (∃ v4 v5 v6, σ = [some (.ref p), some (.ref o), some (.ref w1), some (.ref q), v4, v5, v6]) ∧ VecE K H' q i (tab0 ss).s ∧ Same H H' ∧ VecE K H' a n (tab0 ss).s ∧ H' a = some (.lst (as.map V.ref)))
      ⟨⟨_, _, _, rfl⟩, v0.same exR s2, s12, ha, a1⟩ (fun i σ H' _ ⟨_, _, g, _, g2⟩ => ⟨SqL.of g2, SqL.of (g _ _ w1'), SqL.of (g _ _ z1)⟩) ?_ ?_⟩
    · rintro i x y z σ H3 t hx hy hz ⟨⟨v4, v5, v6, rfl⟩, v3, s3, ha3, e3⟩ nt
      obtain ⟨x1, rfl, ex⟩ := refs_get hx
      obtain ⟨y1, rfl, ey⟩ := refs_get hy
      obtain ⟨z1', rfl, ez⟩ := refs_get hz
      refine ⟨t, _, rfl, SqT.of upd_same, rfl, _, _, rfl, _, _, rfl, _, _, rfl, rfl, ?_⟩
      have s4 : Same H3 (upd H3 t (.tup [.ref x1, .ref y1, .ref z1'])) := same_upd1 nt
      generalize upd H3 t (.tup [.ref x1, .ref y1, .ref z1']) = H4 at s4
      have fx : ExAt K H4 x1 ((tab0 ss).s i) := by
        obtain ⟨as', f1, f2, f3⟩ := ha3
        have : as' = as := by
          rw [e3] at f1
          exact (List.map_inj_right (fun _ _ z => V.ref.inj z)).mp (HO.lst.inj (Option.some.inj f1)).symm
        subst this
        exact (f3 i x1 ex).same s4
      have fy : ExAt K H4 y1 0 := (w3 i y1 ey).same (s3.trans s4)
      have fz : ExAt K H4 z1' 0 := (z3 i z1' ez).same (s3.trans s4)
      have v4 := v3.same exR s4
      obtain ⟨acc, g1, g2, _⟩ := id v4
      have hi : i < n := by
        have := (List.getElem?_eq_some_iff.mp ex).1
        omega
      refine ⟨_, rfl, .inl ⟨rfl, _, SqL.of g1⟩, _, rfl, _, rfl, own_of fx fy ⟨x1, y1, _, _, rfl, fx, fy, (okT i).ok ok.len, ok0, trivial, fun p5 H5 s5 n5 x5 => ?_⟩⟩
      refine ⟨_, rfl, own_of x5 (fz.same s5) ⟨p5, z1', _, _, rfl, x5, fz.same s5, ?_, ok0, trivial, fun p6 H6 s6 n6 x6 => ?_⟩⟩
      · dsimp only; rw [Rat.add_zero]; exact (okT i).ok ok.len
      dsimp only at x6
      rw [Rat.add_zero, show (tab0 ss).s i - 0 = (tab0 ss).s i by grind] at x6
      have s56 := s5.trans s6
      obtain ⟨acc2, g3, g4, g5⟩ := v4.push exR s56 x6
      refine ⟨q, acc2, _, rfl, rfl, g3, small1000 (by have := ok.n8; omega), ⟨_, _, _, rfl⟩, g5, same_new (s3.trans (s4.trans s56)) nq, ?_, ?_⟩
      · exact (ha3.same exR (s4.trans s56)).mono exR (Imm.lst g3) (upd_ne nqa.symm)
      · rw [upd_ne nqa.symm]; exact s56 _ _ (s4 _ _ e3)
    · rintro σ H3 ⟨⟨v4, v5, v6, rfl⟩, v3, s3, ha3, e3⟩
      rw [List.length_map, a2] at v3
      refine ⟨_, rfl, _, rfl, p, n, ss, rfl, hp.same s3, ok, fun b ds H4 s4 nb nds m4 => ?_⟩
      intro x dx nx ndx nex
      have s5 := Same.made (C := cT K) nx ndx (H1 := upd (upd H4 dx (.own x)) x (.ins (cT K) dx [])) (fun c o e w => e)
      refine ⟨x, dx, q, b, ds, n, tab0 ss, rfl, upd_same, ok.n8, (v3.same exR s4).same exR s5, m4.same s5, fun H6 F t6 f6 g6 k6 => ⟨rfl, ?_⟩⟩
      have s6 : Same H4 H6 := Same.made nx ndx k6
      have s36 := s3.trans (s4.trans s6)
      refine k x H6 F s36 ((s3.trans s4).free nx) t6 (fun c w => ?_) g6
      exact ((s3.trans s4).trans s5).free (f6 c w)

/-! ### Others -/
theorem ok_Others {P : Program} {w : World} {K : PySem.W.Frag} {mg : Str → Option Value} {base : Heap} (T : TX K mg) (D : Dx K mg "others" sOthers)
     : C8.Cal P w K mg base 1 "others" (spOthers K) [] := by
  refine D.cal scOthers (fun _ _ _ _ _ _ us hl => match us, hl with | [_, _], _ => rfl) (fun vs H Q E h => ?_) (fun f cdv A outer s H vs Q E hr h => ?_)
  · obtain ⟨p, l, n, w1, ss, rfl, hp, hn, hl, k⟩ := h
    rfl
  · obtain ⟨p, l, n, w1, ss, rfl, hp, hn, hl, k⟩ := h
    refine ⟨_, (pss_one (ps_ret (pe_lc (own := [("ware", 2)]) (by rfl) scOthers.nd (pi_range1 rfl T.f_range (pa_cons (pe_fld (pv 0) rfl) pa_nil)) (blkOk_by (N := ["web", "left", "ware"]) (sc := defScope sOthers) (by decide +kernel)) (fun _ _ _ _ _ => pg_name (i := 2) scOthers.nd rfl (Or.inl rfl)) (fun _ _ _ _ _ => pts_one (pt_cmpR (opNotInK (K := K) rfl) (pv 2) (pv 1) (by rfl))) (fun _ _ _ _ _ => (pv 2))))), ?_⟩
    obtain ⟨dx, t, hw, _⟩ := id hp
    refine ⟨_, rfl, p, _, dx, _, _, rfl, hw, T.clW, T.nWares, wbF_w n t, (n : Int), rfl, by omega, by omega, fun D hD => lc_range (lo := 0) (n := ((n : Int)).toNat) (fun i H' => H' D = some (.lst (NatL ((List.range i).filter fun j => decide (j ≠ w1)))) ∧ Same H H') ⟨upd_same, same_upd1 hD⟩ ?_ ?_⟩
    · rintro i H1 hi ⟨g1, g4⟩
      refine ⟨rfl, ?_⟩
      have e0 : (0 : Int) + i = i := by omega
      rw [e0]
      refine ⟨_, rfl, _, rfl, l, _, rfl, .inl (SqL.of (g4 _ _ hl)), rfl, rfl, ?_⟩
      have ev : inV (V.int (i : Int)) [V.int (w1 : Int)] = decide (i = w1) := by
        show (eqV (V.int (w1 : Int)) (V.int (i : Int)) || false) = _
        rw [Bool.or_false]
        show decide ((w1 : Int) = (i : Int)) = _
        by_cases c : i = w1
        · subst c; simp
        · rw [decide_eq_false c, decide_eq_false (by omega)]
      rw [ev]
      by_cases c : i = w1
      · subst c
        refine ⟨false, by simp, ?_⟩
        rw [List.range_succ, List.filter_append]
        refine ⟨?_, g4⟩
        rw [g1]
        simp
      · refine ⟨true, by simp [c], ?_⟩
        refine ⟨_, rfl, _, g1, small1000 ?_, ?_, same_new g4 hD⟩
        · rw [List.length_map]
          have := List.length_filter_le (fun j => decide (j ≠ w1)) (List.range i)
          rw [List.length_range] at this
          omega
        · have e1 : List.filter (fun j => decide (j ≠ w1)) [i] = [i] := by simp [c]
          rw [upd_same, List.range_succ, List.filter_append, e1]
          unfold NatL
          rw [List.map_append]
          rfl
    · rintro H1 ⟨g1, g4⟩
      exact k D H1 g4 hD g1

/-! ### BrimOf -/
theorem ok_BrimOf {P : Program} {w : World} {K : PySem.W.Frag} {mg : Str → Option Value} {base : Heap} (T : TX K mg) (D : Dx K mg "brim_of" sBrimOf)
    (c_Empty : C8.Cal P w K mg base 4 "empty" (spEmpty K) [])
    (c_TableOf : C8.Cal P w K mg base 6 "table_of" (spTableOf K) [])
    (c_TableStrikeAll : C8.Met P w K mg base 7 (cT K) "strike_all" (spStrikeAll K) [])
    (c_Others : C8.Cal P w K mg base 1 "others" (spOthers K) []) : C8.Cal P w K mg base 8 "brim_of" (spBrimOf K) [] := by
  refine D.cal scBrimOf (fun _ _ _ _ _ _ us hl => match us, hl with | [_, _, _], _ => rfl) (fun vs H Q E h => ?_) (fun f cdv A outer s H vs Q E hr h => ?_)
  · obtain ⟨p, o, n, w1, ss, rfl, hp, ok, ho, hw, hr1, k⟩ := h
    rfl
  · obtain ⟨p, o, n, w1, ss, rfl, hp, ok, ho, hw, hr1, k⟩ := h
    refine ⟨_, (pss_cons (ps_set (i := 3) scBrimOf.nd rfl (by first | exact Or.inl rfl | exact Or.inr rfl) (C8.pe_c c_TableOf hr (by decide) (by rfl) (pa_cons (pv 0) (pa_cons (pv 1) (pa_cons (C8.pe_c c_Empty hr (by decide) (by rfl) (pa_cons (pv 0) pa_nil)) pa_nil)))))
        (pss_cons (ps_expr (C8.pe_mt c_TableStrikeAll hr (by decide) (pv 3) (pa_cons (C8.pe_c c_Others hr (by decide) (by rfl) (pa_cons (pv 0) (pa_cons (pe_lst (pa_cons (pv 2) pa_nil)) pa_nil))) pa_nil)))
        (pss_one (ps_ret (pe_ix ix_list (pe_fld (pv 3) rfl) (pv 2) (fun _ _ => rfl)))))), ?_⟩
    refine ⟨_, rfl, _, rfl, _, rfl, p, n, ss, rfl, hp, ok.n8, fun q H1 s1 nq v1 => ?_⟩
    refine ⟨p, o, q, n, ss, rfl, hp.same s1, ok, ho.same exR s1, v1, fun t H2 F s2 nt t2 f2 g2 => ?_⟩
    have s12 := s1.trans s2
    obtain ⟨dx, e2⟩ := t2.ob
    refine ⟨_, rfl, t, dx, _, rfl, e2, tbF_no (by decide +kernel) (by decide +kernel) (by decide +kernel), _, rfl, _, rfl, (by show 1 ≤ sizeLine; decide), fun l nl => ?_⟩
    have s3 := same_upd1 (o := .lst [.int w1]) nl
    refine ⟨p, l, n, w1, ss, rfl, (hp.same s12).same s3, ok.n8, upd_same, fun z H4 s4 nz e4 => ?_⟩
    have s24 := s3.trans s4
    have t4 := t2.same s24
    refine ⟨t, z, othersN n w1, n, _, F, rfl, e4, fun w => ?_, t4, ok.n8, ?_, g2, hr1, fun H5 F5 t5 k5 => ?_⟩
    · obtain ⟨u, e, _⟩ := t2.own w
      rw [s3.free nz] at e
      cases e
    · have := List.length_filter_le (fun j => decide (j ≠ w1)) (List.range n)
      rw [List.length_range] at this
      have := ok.n8
      show (List.filter _ _).length ≤ 100
      omega
    · obtain ⟨dx5, e5⟩ := t5.ob
      obtain ⟨as, q0, b1, b2, b3, b4, b5⟩ := t5.sl.get hw
      refine ⟨_, rfl, t, _, dx5, _, _, rfl, e5, T.clT, T.nSl, tbF_s _ _ _, _, rfl, F5.a1, _, _, _, rfl, rfl, SqL.of b1, atI_nat b4, ?_⟩
      refine k q0 H5 (fun c u e => k5 c u (s24 _ _ (s12 _ _ e)) fun w => ?_) b5
      have := s1.free (f2 c w)
      rw [e] at this; cases this

/-! ### Brim -/
theorem ok_Brim {P : Program} {w : World} {K : PySem.W.Frag} {mg : Str → Option Value} {base : Heap} (T : TX K mg) (D : Dx K mg "brim" sBrim)
    (c_CheckPurse : C8.Cal P w K mg base 5 "check_purse" (spCheckPurse K) [])
    (c_CheckWare : C8.Cal P w K mg base 3 "check_ware" (spCheckWare K) [])
    (c_BrimOf : C8.Cal P w K mg base 8 "brim_of" (spBrimOf K) [])
    (c_ExactPair : C8.Met P w K mg base 1 (cE K) "pair" (spPair K) []) : C8.Cal P w K mg base 9 "brim" (spBrim K) [] := by
  refine D.cal scBrim (fun _ _ _ _ _ _ us hl => match us, hl with | [_, _, _], _ => rfl) (fun vs H Q E h => ?_) (fun f cdv A outer s H vs Q E hr h => ?_)
  · obtain ⟨p, a, n, w1, ss, rfl, hp, ok, ha, hw, hr1, k⟩ := h
    rfl
  · obtain ⟨p, a, n, w1, ss, rfl, hp, ok, ha, hw, hr1, k⟩ := h
    refine ⟨_, (pss_cons (ps_set (i := 3) scBrim.nd rfl (by first | exact Or.inl rfl | exact Or.inr rfl) (C8.pe_c c_CheckPurse hr (by decide) (by rfl) (pa_cons (pv 0) (pa_cons (pv 1) pa_nil))))
        (pss_one (ps_ret (C8.pe_mt0 c_ExactPair hr (by decide) (C8.pe_c c_BrimOf hr (by decide) (by rfl) (pa_cons (pv 0) (pa_cons (pv 3) (pa_cons (C8.pe_c c_CheckWare hr (by decide) (by rfl) (pa_cons (pv 0) (pa_cons (pv 2) pa_nil))) pa_nil)))))))), ?_⟩
    refine ⟨_, rfl, _, rfl, p, a, n, ss, rfl, hp, ok.n8, ha, fun q H1 s1 nq v1 => ?_⟩
    refine ⟨_, rfl, _, rfl, _, rfl, _, rfl, p, n, ss, w1, rfl, hp.same s1, by omega, by omega, ?_⟩
    refine ⟨p, q, n, w1, ss, rfl, hp.same s1, ok, v1, hw, hr1, fun z H2 s2 x2 => ?_⟩
    refine meth_of x2 (by decide +kernel) (by decide +kernel) ⟨z, _, rfl, x2, fun r H3 s3 nr f3 => ?_⟩
    exact k r H3 ((s1.trans s2).trans s3) f3

/-! ### ForNothing -/
theorem ok_ForNothing {P : Program} {w : World} {K : PySem.W.Frag} {mg : Str → Option Value} {base : Heap} (T : TX K mg) (D : Dx K mg "for_nothing" sForNothing)
    (c_CheckWare : C8.Cal P w K mg base 3 "check_ware" (spCheckWare K) [])
    (c_Empty : C8.Cal P w K mg base 4 "empty" (spEmpty K) [])
    (c_BrimOf : C8.Cal P w K mg base 8 "brim_of" (spBrimOf K) [])
    (c_ExactPair : C8.Met P w K mg base 1 (cE K) "pair" (spPair K) []) : C8.Cal P w K mg base 9 "for_nothing" (spForNothing K) [] := by
  refine D.cal scForNothing (fun _ _ _ _ _ _ us hl => match us, hl with | [_, _], _ => rfl) (fun vs H Q E h => ?_) (fun f cdv A outer s H vs Q E hr h => ?_)
  · obtain ⟨p, n, w1, ss, rfl, hp, ok, hw, hr1, k⟩ := h
    rfl
  · obtain ⟨p, n, w1, ss, rfl, hp, ok, hw, hr1, k⟩ := h
    refine ⟨_, (pss_one (ps_ret (C8.pe_mt0 c_ExactPair hr (by decide) (C8.pe_c c_BrimOf hr (by decide) (by rfl) (pa_cons (pv 0) (pa_cons (C8.pe_c c_Empty hr (by decide) (by rfl) (pa_cons (pv 0) pa_nil)) (pa_cons (C8.pe_c c_CheckWare hr (by decide) (by rfl) (pa_cons (pv 0) (pa_cons (pv 1) pa_nil))) pa_nil))))))), ?_⟩
    refine ⟨_, rfl, _, rfl, p, n, ss, rfl, hp, ok.n8, fun q H1 s1 nq v1 => ?_⟩
    refine ⟨_, rfl, _, rfl, p, n, ss, w1, rfl, hp.same s1, by omega, by omega, ?_⟩
    refine ⟨p, q, n, w1, ss, rfl, hp.same s1, ok, v1, hw, hr1, fun z H2 s2 x2 => ?_⟩
    refine meth_of x2 (by decide +kernel) (by decide +kernel) ⟨z, _, rfl, x2, fun r H3 s3 nr f3 => ?_⟩
    exact k r H3 ((s1.trans s2).trans s3) f3

end Fair

set_option Elab.async false
set_option linter.all false
set_option maxRecDepth 100000
set_option maxHeartbeats 1000000
namespace Fair
open PySem PySem.Spec PyProof.Rows L2
/-! ### parts of tuples, tuples one behind the other -/
theorem cut_all {xs : List V} {lo hi : Option Int} (h : HT.sIx xs.length 0 lo = 0 ∧ HT.sIx xs.length xs.length hi = xs.length) : cutV xs lo hi = xs := by
  unfold cutV
  rw [h.1, h.2, List.drop_zero, Nat.sub_zero, List.take_length]
theorem cut_take {xs : List V} {i : Nat} (h : i ≤ xs.length) : cutV xs none (some (i : Int)) = xs.take i := by
  unfold cutV
  rw [HT.sIx_nat, HT.sIx_none, Nat.min_eq_left h]
  rfl
theorem cut_from {xs : List V} {i : Nat} (h : i ≤ xs.length) : cutV xs (some (i : Int)) none = xs.drop i := by
  unfold cutV
  rw [HT.sIx_nat, HT.sIx_none, Nat.min_eq_left h, List.take_of_length_le]
  rw [List.length_drop]
  exact Nat.le_refl _
theorem slA_any {K : PySem.W.Frag} {H : Hp} {a : Addr} {xs : List V} {lo hi : Option Int} {Q : VK} (h : SqT K H a xs) (k : ∀ q H', Same H H' → SqT K H' q (cutV xs lo hi) → Q (.ref q) H') : rSlA K (.ref a) lo hi H Q :=
  ⟨a, xs, rfl, h, fun w => k a H (Same.refl H) (by rw [cut_all w]; exact h), fun _ q nq => k q _ (same_upd1 nq) (SqT.of upd_same)⟩
theorem catA_any {K : PySem.W.Frag} {H : Hp} {a b : Addr} {xs ys : List V} {Q : VK} (ha : SqT K H a xs) (hb : SqT K H b ys) (hl : xs.length + ys.length ≤ sizeLine) (k : ∀ q H', Same H H' → SqT K H' q (xs ++ ys) → Q (.ref q) H') : rCatA K (.ref a) (.ref b) H Q := by
  refine ⟨a, b, xs, ys, rfl, rfl, ha, hb, hl, fun w => ?_, fun _ w => ?_, fun _ _ q nq => k q _ (same_upd1 nq) (SqT.of upd_same)⟩
  · subst w; exact k b H (Same.refl H) hb
  · subst w; exact k a H (Same.refl H) (by rw [List.append_nil]; exact ha)
theorem Each.set {α : Type} {R : Addr → α → Prop} {as : List Addr} {xs : List α} {i : Nat} {b : Addr} {y : α} (h : Each R as xs) (r : R b y) : Each R (as.set i b) (xs.set i y) := by
  refine ⟨by rw [List.length_set, List.length_set]; exact h.1, fun j a x h1 h2 => ?_⟩
  rw [List.getElem?_set] at h1 h2
  by_cases c : i = j
  · rw [if_pos c] at h1 h2
    split at h1
    · split at h2
      · cases h1; cases h2; exact r
      · cases h2
    · cases h1
  · rw [if_neg c] at h1 h2
    exact h.2 j a x h1 h2
/-! ### the promises of deals.py -/
def spIsIndex (K : PySem.W.Frag) : Sp := fun vs H Q _ => ∃ (p : Addr) (n i : Nat) (ss : List Stl), vs = [.ref p, .int i] ∧ WebAt K H p n ss ∧ i < ss.length ∧ Q (.bl true) H
/-- the stall led to another amount of its first ware -/
def Stl.led (x : Stl) (m : Rat) : Stl := ⟨x.u, x.v, m, x.r * x.r / m, x.r⟩
def spWithHeld (K : PySem.W.Frag) : Sp := fun vs H Q _ => ∃ (a q : Addr) (x : Stl) (m : Rat), vs = [.ref a, .int x.u, .ref q] ∧ StlAt K H a x ∧ ExAt K H q m ∧ 0 < m ∧ Ok m ∧ Ok x.r ∧ Ok (x.r * x.r) ∧
  ∀ (b : Addr) (H' : Hp), Same H H' → StlAt K H' b (x.led m) → Q (.ref b) H'
def spWithStall (K : PySem.W.Frag) : Sp := fun vs H Q _ => ∃ (p b : Addr) (n i : Nat) (ss : List Stl) (y : Stl), vs = [.ref p, .int i, .ref b] ∧ WebAt K H p n ss ∧ i < ss.length ∧ ss.length ≤ 16 ∧ StlAt K H b y ∧ WebOk n (ss.set i y) ∧
  ∀ (q : Addr) (H' : Hp), Same H H' → WebAt K H' q n (ss.set i y) → Q (.ref q) H'
def spLed (K : PySem.W.Frag) : Sp := fun vs H Q _ => ∃ (p a : Addr) (n i : Nat) (ss : List Stl) (x : Stl) (m : Rat), vs = [.ref p, .int i, .ref a] ∧ WebAt K H p n ss ∧ ss[i]? = some x ∧ ss.length ≤ 16 ∧ FrAt K H a m ∧ 0 < m ∧ Ok m ∧ Ok x.r ∧ Ok (x.r * x.r) ∧ WebOk n (ss.set i (x.led m)) ∧
  ∀ (q : Addr) (H' : Hp), Same H H' → WebAt K H' q n (ss.set i (x.led m)) → Q (.ref q) H'
end Fair

set_option Elab.async false
set_option linter.all false
set_option maxRecDepth 100000
set_option maxHeartbeats 4000000
namespace Fair
open PySem PySem.Spec PyProof.Rows L2
/-! ### IsIndex -/
theorem ok_IsIndex {P : Program} {w : World} {K : PySem.W.Frag} {mg : Str → Option Value} {base : Heap} (T : TX K mg) (D : Dx K mg "is_index" sIsIndex)
    (c_IsInteger : C8.Cal P w K mg base 1 "is_integer" (spIsInteger) []) : C8.Cal P w K mg base 2 "is_index" (spIsIndex K) [] := by
  refine D.cal scIsIndex (fun _ _ _ _ _ _ us hl => match us, hl with | [_, _], _ => rfl) (fun vs H Q E h => ?_) (fun f cdv A outer s H vs Q E hr h => ?_)
  · obtain ⟨p, n, i, ss, rfl, hp, hi, k⟩ := h
    rfl
  · obtain ⟨p, n, i, ss, rfl, hp, hi, k⟩ := h
    refine ⟨_, (pss_one (ps_ret (pe_and (C8.pe_c c_IsInteger hr (by decide) (by rfl) (pa_cons (pv 1) pa_nil)) (pe_one (pe_chain op_le op_lt pe_int (pv 1) (pe_callB call_len_seq (by rfl) T.f_len (by decide +kernel) (pa_cons (pe_fld (pv 0) rfl) pa_nil))))))), ?_⟩
    obtain ⟨dx, t, hw, as, hq, he⟩ := id hp
    have la : as.length = ss.length := he.1
    refine ⟨_, rfl, _, rfl, _, rfl, iteT ?_⟩
    refine ⟨_, rfl, _, _, rfl, rfl, _, rfl, iteD (by omega) ?_⟩
    refine ⟨_, rfl, p, _, dx, _, _, rfl, hw, T.clW, T.nStalls, wbF_s n t, t, _, rfl, .inr hq, _, _, rfl, rfl, ?_⟩
    have e : decide ((i : Int) < ((as.map V.ref).length : Nat)) = true := decide_eq_true (by rw [List.length_map]; omega)
    show Q (.bl (decide ((i : Int) < ((as.map V.ref).length : Nat)))) H
    rw [e]
    exact k

/-! ### WithHeld -/
theorem ok_WithHeld {P : Program} {w : World} {K : PySem.W.Frag} {mg : Str → Option Value} {base : Heap} (T : TX K mg) (D : Dx K mg "with_held" sWithHeld)
    (c_RootExact : C8.Cal P w K mg base 5 "root_exact" (spRootExact K) [])
    (c_ExactSquare : C8.Met P w K mg base 4 (cE K) "square" (spSquare K) [])
    (c_ExactOver : C8.Met P w K mg base 4 (cE K) "over" (spOver K) [])
    (c_ExactPair : C8.Met P w K mg base 1 (cE K) "pair" (spPair K) []) : C8.Cal P w K mg base 6 "with_held" (spWithHeld K) [] := by
  refine D.cal scWithHeld (fun _ _ _ _ _ _ us hl => match us, hl with | [_, _, _], _ => rfl) (fun vs H Q E h => ?_) (fun f cdv A outer s H vs Q E hr h => ?_)
  · obtain ⟨a, q, x, m, rfl, ha, hq, m0, om, o1, o2, k⟩ := h
    rfl
  · obtain ⟨a, q, x, m, rfl, ha, hq, m0, om, o1, o2, k⟩ := h
    refine ⟨_, (pss_cons (ps_set (i := 3) scWithHeld.nd rfl (by first | exact Or.inl rfl | exact Or.inr rfl) (C8.pe_mt c_ExactOver hr (by decide) (C8.pe_mt0 c_ExactSquare hr (by decide) (C8.pe_c c_RootExact hr (by decide) (by rfl) (pa_cons (pv 0) pa_nil))) (pa_cons (pv 2) pa_nil)))
        (pss_cons (ps_if (pt_cmpR op_eq (pe_ix ix_tup (pv 0) pe_int (fun _ _ => rfl)) (pv 1) (nomark _)) (pss_one (ps_ret (pe_tup (pa_cons (pe_ix ix_tup (pv 0) pe_int (fun _ _ => rfl)) (pa_cons (pe_ix ix_tup (pv 0) pe_int (fun _ _ => rfl)) (pa_cons (C8.pe_mt0 c_ExactPair hr (by decide) (pv 2)) (pa_cons (C8.pe_mt0 c_ExactPair hr (by decide) (pv 3)) (pa_cons (pe_ix ix_tup (pv 0) pe_int (fun _ _ => rfl)) pa_nil))))))))
        pss_nil)
        (pss_one (ps_ret (pe_tup (pa_cons (pe_ix ix_tup (pv 0) pe_int (fun _ _ => rfl)) (pa_cons (pe_ix ix_tup (pv 0) pe_int (fun _ _ => rfl)) (pa_cons (C8.pe_mt0 c_ExactPair hr (by decide) (pv 3)) (pa_cons (C8.pe_mt0 c_ExactPair hr (by decide) (pv 2)) (pa_cons (pe_ix ix_tup (pv 0) pe_int (fun _ _ => rfl)) pa_nil)))))))))), ?_⟩
    obtain ⟨th, tg, tr, h0, h1, h2, h3⟩ := id ha
    refine ⟨_, rfl, a, x, rfl, ha, o1, fun p1 H1 s1 n1 x1 => ?_⟩
    refine meth_of x1 (by decide +kernel) (by decide +kernel) ⟨p1, _, rfl, x1, o1, fun p2 H2 s2 n2 x2 => ?_⟩
    have s12 := s1.trans s2
    refine meth_of x2 (by decide +kernel) (by decide +kernel) ⟨_, rfl, p2, q, _, _, rfl, x2, hq.same s12, o2, om, m0, fun p3 H3 s3 n3 x3 => ?_⟩
    have s13 := s12.trans s3
    have q0 := same_tup s13 h0
    refine ⟨_, rfl, a, _, _, _, rfl, rfl, q0, atI_nat (j := 0) rfl, _, rfl, rfl, _, rfl, iteD rfl ?_⟩
    refine ⟨_, rfl, a, _, _, _, rfl, rfl, q0, atI_nat (j := 0) rfl, _, rfl, a, _, _, _, rfl, rfl, q0, atI_nat (j := 1) rfl, ?_⟩
    have hq3 := hq.same s13
    refine ⟨_, rfl, meth_of hq3 (by decide +kernel) (by decide +kernel) ⟨q, _, rfl, hq3, fun p4 H4 s4 n4 f4 => ?_⟩⟩
    have x4 := x3.same s4
    refine ⟨_, rfl, meth_of x4 (by decide +kernel) (by decide +kernel) ⟨p3, _, rfl, x4, fun p5 H5 s5 n5 f5 => ?_⟩⟩
    have s45 := s4.trans s5
    have q5 := same_tup s45 q0
    refine ⟨_, rfl, a, _, _, _, rfl, rfl, q5, atI_nat (j := 4) rfl, (by show 5 ≤ sizeLine; decide), fun t nt => ?_⟩
    have s6 := same_upd1 (o := .tup [.int x.u, .int x.v, .ref p4, .ref p5, .ref tr]) nt
    exact k t _ ((s13.trans s45).trans s6) ⟨p4, p5, tr, SqT.of upd_same, (f4.same s5).same s6, f5.same s6, h3.same ((s13.trans s45).trans s6)⟩

/-! ### WithStall -/
theorem ok_WithStall {P : Program} {w : World} {K : PySem.W.Frag} {mg : Str → Option Value} {base : Heap} (T : TX K mg) (D : Dx K mg "with_stall" sWithStall)
    (c_WebInit : C8.Mak P w K mg base 6 "Web" (cW K) (spWebInit K) []) : C8.Cal P w K mg base 8 "with_stall" (spWithStall K) [] := by
  refine D.cal scWithStall (fun _ _ _ _ _ _ us hl => match us, hl with | [_, _, _], _ => rfl) (fun vs H Q E h => ?_) (fun f cdv A outer s H vs Q E hr h => ?_)
  · obtain ⟨p, b, n, i, ss, y, rfl, hp, hi, hl, hb, ok, k⟩ := h
    rfl
  · obtain ⟨p, b, n, i, ss, y, rfl, hp, hi, hl, hb, ok, k⟩ := h
    refine ⟨_, (pss_one (ps_ret (C8.pe_mk c_WebInit hr (by decide) (by rfl) (pa_cons (pe_fld (pv 0) rfl) (pa_cons (pe_op op_catA (pe_op op_catA (pe_slice sl_tupA (pe_fld (pv 0) rfl) po_none (po_some (pv 1))) (pe_tup (pa_cons (pv 2) pa_nil))) (pe_slice sl_tupA (pe_fld (pv 0) rfl) (po_some (pe_op op_add (pv 1) pe_int)) po_none)) pa_nil))))), ?_⟩
    obtain ⟨dx, t, hw, as, hq, he⟩ := id hp
    have la : as.length = ss.length := he.1
    refine ⟨_, rfl, p, _, dx, _, _, rfl, hw, T.clW, T.nWares, wbF_w n t, _, rfl, p, _, dx, _, _, rfl, hw, T.clW, T.nStalls, wbF_s n t, _, rfl, _, rfl, slA_any hq fun q1 H1 s1 t1 => ?_⟩
    rw [cut_take (by rw [List.length_map]; omega)] at t1
    refine ⟨_, rfl, (by show 1 ≤ sizeLine; decide), fun z nz => ?_⟩
    have s2 := same_upd1 (o := .tup [.ref b]) nz
    refine catA_any (same_tup s2 t1) (SqT.of upd_same) ?_ fun q3 H3 s3 t3 => ?_
    · rw [List.length_take, List.length_map]
      exact Nat.le_trans (show _ ≤ 17 by simp only [List.length_cons, List.length_nil]; omega) (by decide)
    have s13 := (s1.trans s2).trans s3
    refine ⟨_, rfl, p, _, dx, _, _, rfl, s13 _ _ hw, T.clW, T.nStalls, wbF_s n t, _, rfl, _, _, rfl, rfl, _, rfl, ?_⟩
    dsimp only [tNoPart]
    refine slA_any (lo := some ((i : Int) + 1)) (hi := none) (same_tup s13 hq) fun q4 H4 s4 t4 => ?_
    have ec : cutV (as.map V.ref) (some ((i : Int) + 1)) none = (as.map V.ref).drop (i + 1) := cut_from (i := i + 1) (by rw [List.length_map]; omega)
    rw [ec] at t4
    refine catA_any (same_tup s4 t3) t4 ?_ fun q5 H5 s5 t5 => ?_
    · simp only [List.length_append, List.length_take, List.length_drop, List.length_map, List.length_cons, List.length_nil]
      exact Nat.le_trans (show _ ≤ 33 by omega) (by decide)
    have ea : (as.map V.ref).take i ++ [.ref b] ++ (as.map V.ref).drop (i + 1) = (as.set i b).map V.ref := by
      rw [List.map_set, List.set_eq_take_append_cons_drop, if_pos (by rw [List.length_map]; omega), List.append_assoc]
      rfl
    rw [ea] at t5
    have s15 := (s13.trans s4).trans s5
    intro x dx2 nx ndx nex
    have s6 := Same.made (C := cW K) nx ndx (H1 := upd (upd H5 dx2 (.own x)) x (.ins (cW K) dx2 [])) (fun c o e w => e)
    refine ⟨x, dx2, q5, n, ss.set i y, rfl, upd_same, .inr ⟨as.set i b, same_tup s6 t5, (he.mono fun a x h => h.same (s15.trans s6)).set (hb.same (s15.trans s6))⟩, ok, fun H7 w7 k7 => ⟨rfl, ?_⟩⟩
    exact k x H7 (s15.trans (Same.made nx ndx k7)) w7

/-! ### Led -/
theorem ok_Led {P : Program} {w : World} {K : PySem.W.Frag} {mg : Str → Option Value} {base : Heap} (T : TX K mg) (D : Dx K mg "led" sLed)
    (c_IsIndex : C8.Cal P w K mg base 2 "is_index" (spIsIndex K) [])
    (c_IsSome : C8.Cal P w K mg base 3 "is_some" (spIsSome K) [])
    (c_Exact : C8.Cal P w K mg base 4 "exact" (spExact K) [])
    (c_WithHeld : C8.Cal P w K mg base 6 "with_held" (spWithHeld K) [])
    (c_WithStall : C8.Cal P w K mg base 8 "with_stall" (spWithStall K) []) : C8.Cal P w K mg base 9 "led" (spLed K) [] := by
  refine D.cal scLed (fun _ _ _ _ _ _ us hl => match us, hl with | [_, _, _], _ => rfl) (fun vs H Q E h => ?_) (fun f cdv A outer s H vs Q E hr h => ?_)
  · obtain ⟨p, a, n, i, ss, x, m, rfl, hp, hx, hl, ha, m0, om, o1, o2, ok, k⟩ := h
    rfl
  · obtain ⟨p, a, n, i, ss, x, m, rfl, hp, hx, hl, ha, m0, om, o1, o2, ok, k⟩ := h
    refine ⟨_, (pss_cons (ps_if (pt_not (pt_val (C8.pe_c c_IsIndex hr (by decide) (by rfl) (pa_cons (pv 0) (pa_cons (pv 1) pa_nil))))) (pss_one ps_never)
        pss_nil)
        (pss_cons (ps_if (pt_not (pt_val (C8.pe_c c_IsSome hr (by decide) (by rfl) (pa_cons (pv 2) pa_nil)))) (pss_one ps_never)
        pss_nil)
        (pss_cons (ps_set (i := 3) scLed.nd rfl (by first | exact Or.inl rfl | exact Or.inr rfl) (pe_ix ix_tup (pe_fld (pv 0) rfl) (pv 1) (fun _ _ => rfl)))
        (pss_one (ps_ret (C8.pe_c c_WithStall hr (by decide) (by rfl) (pa_cons (pv 0) (pa_cons (pv 1) (pa_cons (C8.pe_c c_WithHeld hr (by decide) (by rfl) (pa_cons (pv 3) (pa_cons (pe_ix ix_tup (pv 3) pe_int (fun _ _ => rfl)) (pa_cons (C8.pe_c c_Exact hr (by decide) (by rfl) (pa_cons (pv 2) pa_nil)) pa_nil)))) pa_nil))))))))), ?_⟩
    obtain ⟨dx, t, hw, as, hq, he⟩ := id hp
    have hi : i < ss.length := (List.getElem?_eq_some_iff.mp hx).1
    obtain ⟨b, hb, hs⟩ := he.of hx
    refine ⟨_, rfl, _, rfl, p, n, i, ss, rfl, hp, hi, _, rfl, iteF ?_⟩
    refine ⟨_, rfl, a, m, rfl, ha, m0, _, rfl, iteF ?_⟩
    refine ⟨_, rfl, p, _, dx, _, _, rfl, hw, T.clW, T.nStalls, wbF_s n t, _, rfl, t, _, _, _, rfl, rfl, hq, atI_nat (refs_at hb), ?_⟩
    obtain ⟨th, tg, tr, h0, h1, h2, h3⟩ := id hs
    refine ⟨_, rfl, _, rfl, _, rfl, _, rfl, b, _, _, _, rfl, rfl, h0, atI_nat (j := 0) rfl, _, rfl, a, m, rfl, ha, om, fun q H1 s1 n1 x1 => ?_⟩
    refine ⟨b, q, x, m, rfl, hs.same s1, x1, m0, om, o1, o2, fun c H2 s2 y2 => ?_⟩
    have s12 := s1.trans s2
    exact ⟨p, c, n, i, ss, _, rfl, hp.same s12, hi, hl, y2, ok, fun z H3 s3 w3 => k z H3 (s12.trans s3) w3⟩

end Fair

set_option Elab.async false
set_option linter.all false
set_option maxRecDepth 100000
set_option maxHeartbeats 1000000
namespace Fair
open PySem PySem.Spec PyProof.Rows L2
/-! ### sizes of products -/
theorem sm_divInt {z d : Int} {a : Nat} (hd : 0 < d) (hz : z.natAbs < 2 ^ a) (hb : d.natAbs < 2 ^ a) : Sm a (Rat.divInt z d) := by
  have hn := div_num (a := z) hd
  have hden := div_den (a := z) hd
  have hg : 0 < Int.gcd z d := Int.gcd_pos_iff.mpr (.inr (by omega))
  constructor
  · rw [← hn]
    exact Nat.lt_of_le_of_lt (Int.natAbs_ediv_le_natAbs _ _) hz
  · have : ((Rat.divInt z d).den : Int) ≤ d := by
      rw [← hden]
      exact Int.ediv_le_self _ (by omega)
    omega
theorem natabs_mul_lt {x y : Int} {a b : Nat} (h1 : x.natAbs < 2 ^ a) (h2 : y.natAbs < 2 ^ b) : (x * y).natAbs < 2 ^ (a + b) := by
  rw [Int.natAbs_mul, Nat.pow_add]
  exact Nat.mul_lt_mul'' h1 h2
theorem Sm.mul {a b : Nat} {x y : Rat} (h1 : Sm a x) (h2 : Sm b y) : Sm (a + b) (x * y) := by
  rw [← mul_div]
  refine sm_divInt (Int.mul_pos (den_pos' x) (den_pos' y)) (natabs_mul_lt h1.1 h2.1) (natabs_mul_lt ?_ ?_)
  · exact h1.2
  · exact h2.2
theorem Sm.div {a b : Nat} {x y : Rat} (h1 : Sm a x) (h2 : Sm b y) (hy : 0 < y) : Sm (a + b) (x / y) := by
  rw [← over_div]
  refine sm_divInt (Int.mul_pos (den_pos' x) (num_pos' hy)) (natabs_mul_lt h1.1 ?_) (natabs_mul_lt ?_ h2.1)
  · exact h2.2
  · exact h1.2
/-! ### what hangs together -/
def Adj (ss : List Stl) (i j : Nat) : Prop := ∃ s ∈ ss, (s.u = i ∧ s.v = j) ∨ (s.v = i ∧ s.u = j)
theorem Adj.symm {ss : List Stl} {i j : Nat} (h : Adj ss i j) : Adj ss j i := let ⟨s, hs, q⟩ := h; ⟨s, hs, q.elim (fun ⟨a, b⟩ => .inr ⟨b, a⟩) fun ⟨a, b⟩ => .inl ⟨b, a⟩⟩
theorem Adj.lt {n : Nat} {ss : List Stl} {i j : Nat} (h : Adj ss i j) (ok : ∀ s ∈ ss, StlOk n s) : i < n ∧ j < n := by
  obtain ⟨s, hs, ⟨rfl, rfl⟩ | ⟨rfl, rfl⟩⟩ := h
  · exact ⟨(ok s hs).un, (ok s hs).vn⟩
  · exact ⟨(ok s hs).vn, (ok s hs).un⟩
theorem tab0_adj {ss : List Stl} (i j : Nat) : (∀ s ∈ ss, 0 < s.r) → 0 ≤ (tab0 ss).r i j ∧ ((tab0 ss).r i j ≠ 0 ↔ Adj ss i j) := by
  refine list_snoc (fun ss => (∀ s ∈ ss, 0 < s.r) → 0 ≤ (tab0 ss).r i j ∧ ((tab0 ss).r i j ≠ 0 ↔ Adj ss i j)) ?_ ?_ ss
  · intro _
    exact ⟨Rat.le_refl, fun h => absurd rfl h, fun ⟨s, hs, _⟩ => by cases hs⟩
  · intro l x ih hp
    obtain ⟨h1, h2⟩ := ih fun s hs => hp s (List.mem_append_left _ hs)
    have hx := hp x (by simp)
    rw [tab0_snoc]
    show 0 ≤ (tab0 l).r i j + (if (i = x.u ∧ j = x.v) ∨ (i = x.v ∧ j = x.u) then x.r else 0) ∧ ((tab0 l).r i j + (if (i = x.u ∧ j = x.v) ∨ (i = x.v ∧ j = x.u) then x.r else 0) ≠ 0 ↔ _)
    by_cases c : (i = x.u ∧ j = x.v) ∨ (i = x.v ∧ j = x.u)
    · rw [if_pos c]
      have pos : 0 < (tab0 l).r i j + x.r := by grind
      refine ⟨Rat.le_of_lt pos, fun _ => ⟨x, by simp, c.elim (fun ⟨a, b⟩ => .inl ⟨a.symm, b.symm⟩) fun ⟨a, b⟩ => .inr ⟨a.symm, b.symm⟩⟩, fun _ z => ?_⟩
      rw [z] at pos; exact absurd pos (by decide)
    · rw [if_neg c, Rat.add_zero]
      refine ⟨h1, fun z => ?_, fun ⟨s, hs, q⟩ => ?_⟩
      · obtain ⟨s, hs, q⟩ := h2.mp z
        exact ⟨s, List.mem_append_left _ hs, q⟩
      · rcases List.mem_append.mp hs with hs | hs
        · exact h2.mpr ⟨s, hs, q⟩
        · simp at hs; subst hs
          exact absurd (q.elim (fun ⟨a, b⟩ => .inl ⟨a.symm, b.symm⟩) fun ⟨a, b⟩ => .inr ⟨a.symm, b.symm⟩) c
inductive Conn (ss : List Stl) (a : Nat) : Nat → Prop
  | refl : Conn ss a a
  | step {b c : Nat} : Conn ss a b → Adj ss b c → Conn ss a c
section
variable {ss : List Stl} {a b c : Nat}
theorem Conn.one (h : Adj ss a b) : Conn ss a b := .step .refl h
theorem Conn.trans (h : Conn ss a b) (k : Conn ss b c) : Conn ss a c := by
  induction k with
  | refl => exact h
  | step _ q ih => exact .step ih q
theorem Conn.symm (h : Conn ss a b) : Conn ss b a := by
  induction h with
  | refl => exact .refl
  | step _ q ih => exact (Conn.one q.symm).trans ih
theorem Conn.lt {n : Nat} (h : Conn ss a b) (ha : a < n) (ok : ∀ s ∈ ss, StlOk n s) : b < n := by
  cases h with
  | refl => exact ha
  | step _ q => exact (q.lt ok).2
theorem Conn.stl {s : Stl} (hs : s ∈ ss) : Conn ss s.u s.v := .one ⟨s, hs, .inl ⟨rfl, rfl⟩⟩
end
open Classical in
/-- all that hangs together with w -/
noncomputable def comp (n : Nat) (ss : List Stl) (w : Nat) : List Nat := (List.range n).filter fun j => decide (Conn ss w j)
def First (ss : List Stl) (w : Nat) : Prop := ∀ j, j < w → ¬ Conn ss j w
open Classical in
noncomputable def firsts (n : Nat) (ss : List Stl) : List Nat := (List.range n).filter fun w => decide (First ss w)
noncomputable def pcs (n : Nat) (ss : List Stl) : List (List Nat) := (firsts n ss).map (comp n ss)
def Fits (ss : List Stl) (x : Nat → Rat) : Prop := ∀ s ∈ ss, s.h * x s.u = s.r * x s.v
def Evn (ss : List Stl) (w : Nat) : Prop := ∃ x : Nat → Rat, x w = 1 ∧ Fits ss x
open Classical in
noncomputable def unev (n : Nat) (ss : List Stl) : List (List Nat) := ((firsts n ss).filter fun w => decide (¬ Evn ss w)).map (comp n ss)
open Classical in
theorem mem_comp {n : Nat} {ss : List Stl} {w j : Nat} : j ∈ comp n ss w ↔ j < n ∧ Conn ss w j := by
  unfold comp
  rw [List.mem_filter, List.mem_range]
  exact ⟨fun h => ⟨h.1, of_decide_eq_true h.2⟩, fun h => ⟨h.1, decide_eq_true h.2⟩⟩
open Classical in
theorem mem_firsts {n : Nat} {ss : List Stl} {w : Nat} : w ∈ firsts n ss ↔ w < n ∧ First ss w := by
  unfold firsts
  rw [List.mem_filter, List.mem_range]
  exact ⟨fun h => ⟨h.1, of_decide_eq_true h.2⟩, fun h => ⟨h.1, decide_eq_true h.2⟩⟩
theorem First.eq {ss : List Stl} {a b : Nat} (ha : First ss a) (hb : First ss b) (h : Conn ss a b) : a = b := by
  rcases Nat.lt_trichotomy a b with q | q | q
  · exact absurd h (hb a q)
  · exact q
  · exact absurd h.symm (ha b q)
theorem first_of (ss : List Stl) (j : Nat) : ∃ w, w ≤ j ∧ First ss w ∧ Conn ss w j := by
  induction j using Nat.strongRecOn with
  | ind j ih =>
    by_cases c : First ss j
    · exact ⟨j, Nat.le_refl _, c, .refl⟩
    · have : ∃ i, i < j ∧ Conn ss i j := Classical.byContradiction fun z => c fun i hi q => z ⟨i, hi, q⟩
      obtain ⟨i, hi, q⟩ := this
      obtain ⟨w, h1, h2, h3⟩ := ih i hi
      exact ⟨w, by omega, h2, h3.trans q⟩
/-- two lists that rise and hold the same are one -/
theorem rise_eq : ∀ {xs ys : List Nat}, xs.Pairwise (· < ·) → ys.Pairwise (· < ·) → (∀ j, j ∈ xs ↔ j ∈ ys) → xs = ys
  | [], [], _, _, _ => rfl
  | [], y :: ys, _, _, h => by have := (h y).mpr List.mem_cons_self; cases this
  | x :: xs, [], _, _, h => by have := (h x).mp List.mem_cons_self; cases this
  | x :: xs, y :: ys, h1, h2, h => by
    rw [List.pairwise_cons] at h1 h2
    have e : x = y := by
      rcases List.mem_cons.mp ((h x).mp List.mem_cons_self) with q | q
      · exact q
      · rcases List.mem_cons.mp ((h y).mpr List.mem_cons_self) with q2 | q2
        · exact q2.symm
        · have := h2.1 x q
          have := h1.1 y q2
          omega
    subst e
    rw [rise_eq h1.2 h2.2 fun j => ?_]
    constructor
    · intro q
      rcases List.mem_cons.mp ((h j).mp (List.mem_cons_of_mem _ q)) with z | z
      · have := h1.1 j q; omega
      · exact z
    · intro q
      rcases List.mem_cons.mp ((h j).mpr (List.mem_cons_of_mem _ q)) with z | z
      · have := h2.1 j q; omega
      · exact z
theorem rise_range (n : Nat) : (List.range n).Pairwise (· < ·) := List.pairwise_lt_range
theorem rise_of {ys : List Int} {fs : List Nat} (nd : fs.Nodup) (p : ys.Perm (fs.map Int.ofNat)) (pw : ys.Pairwise (· ≤ ·)) {zs : List Nat} (hz : zs.Pairwise (· < ·)) (h : ∀ j, j ∈ fs ↔ j ∈ zs) : ys.map V.int = NatL zs := by
  have p2 := p.map Int.toNat
  rw [List.map_map, show (Int.toNat ∘ Int.ofNat) = id from rfl, List.map_id] at p2
  have e : ys = (ys.map Int.toNat).map (fun (j : Nat) => (j : Int)) := by
    rw [List.map_map]
    have : ∀ y ∈ ys, y = ((fun (j : Nat) => (j : Int)) ∘ Int.toNat) y := fun y hy => by
      obtain ⟨m, _, e⟩ := List.mem_map.mp (p.mem_iff.mp hy)
      rw [← e]
      rfl
    rw [← List.map_congr_left this]
    simp
  have nd2 : (ys.map Int.toNat).Nodup := p2.nodup_iff.mpr nd
  have r : (ys.map Int.toNat).Pairwise (· < ·) := by
    have pw2 : (ys.map Int.toNat).Pairwise (· ≤ ·) := by
      rw [List.pairwise_map]
      exact pw.imp fun {a b} q => by omega
    rw [List.nodup_iff_pairwise_ne] at nd2
    exact (pw2.and nd2).imp fun ⟨q1, q2⟩ => by omega
  have e2 : ys.map Int.toNat = zs := rise_eq r hz fun j => by rw [p2.mem_iff]; exact h j
  rw [e, e2]
  unfold NatL
  rw [List.map_map]
  rfl
theorem comp_rise (n : Nat) (ss : List Stl) (w : Nat) : (comp n ss w).Pairwise (· < ·) := (rise_range n).filter _
theorem comp_len (n : Nat) (ss : List Stl) (w : Nat) : (comp n ss w).length ≤ n := by
  have := List.length_filter_le (fun j => @decide (Conn ss w j) (Classical.propDecidable _)) (List.range n)
  rw [List.length_range] at this
  exact this
theorem comp_head {n : Nat} {ss : List Stl} {w : Nat} (hw : w < n) (hf : First ss w) : ∃ r, comp n ss w = w :: r := by
  cases e : comp n ss w with
  | nil => 
    have : w ∈ comp n ss w := mem_comp.mpr ⟨hw, .refl⟩
    rw [e] at this; cases this
  | cons a r =>
    have hm : w ∈ comp n ss w := mem_comp.mpr ⟨hw, .refl⟩
    have ha : a ∈ comp n ss w := by rw [e]; exact List.mem_cons_self
    have pw := comp_rise n ss w
    rw [e, List.pairwise_cons] at pw
    rw [e] at hm
    rcases List.mem_cons.mp hm with q | q
    · exact ⟨r, by rw [q]⟩
    · exact absurd (mem_comp.mp ha).2.symm (hf a (pw.1 w q))
/-! ### the search for a piece -/
structure PI (n : Nat) (ss : List Stl) (w : Nat) (fs ws : List Nat) (here : Option Nat) : Prop where
  nd : fs.Nodup
  w0 : w ∈ fs
  cn : ∀ j ∈ fs, j < n ∧ Conn ss w j
  sub : ∀ j ∈ ws, j ∈ fs
  cl : ∀ j ∈ fs, j ∉ ws → some j ≠ here → ∀ c, Adj ss j c → c ∈ fs
theorem PI.start {n : Nat} {ss : List Stl} {w : Nat} (hw : w < n) : PI n ss w [w] [w] none :=
  ⟨by simp, by simp, fun j hj => by simp at hj; subst hj; exact ⟨hw, .refl⟩, fun j hj => hj, fun j hj h => absurd hj h⟩
theorem PI.pop {n : Nat} {ss : List Stl} {w c : Nat} {fs ws : List Nat} (h : PI n ss w fs (ws ++ [c]) none) : PI n ss w fs ws (some c) ∧ c ∈ fs :=
  ⟨⟨h.nd, h.w0, h.cn, fun j hj => h.sub j (List.mem_append_left _ hj), fun j hj h1 h2 => h.cl j hj (fun z => by
    rcases List.mem_append.mp z with z | z
    · exact h1 z
    · simp at z; exact h2 (by rw [z])) (by simp)⟩, h.sub c (by simp)⟩
theorem PI.add {n : Nat} {ss : List Stl} {w c d : Nat} {fs ws : List Nat} (h : PI n ss w fs ws (some c)) (hc : c ∈ fs) (hd : d ∉ fs) (a : Adj ss c d) (hn : d < n) : PI n ss w (fs ++ [d]) (ws ++ [d]) (some c) := by
  refine ⟨List.nodup_append.mpr ⟨h.nd, by simp, fun x hx y hy => by simp at hy; subst hy; intro z; subst z; exact hd hx⟩, List.mem_append_left _ h.w0, fun j hj => ?_, fun j hj => ?_, fun j hj h1 h2 => ?_⟩
  · rcases List.mem_append.mp hj with hj | hj
    · exact h.cn j hj
    · simp at hj; subst hj
      exact ⟨hn, (h.cn c hc).2.step a⟩
  · rcases List.mem_append.mp hj with hj | hj
    · exact List.mem_append_left _ (h.sub j hj)
    · simp at hj; subst hj; simp
  · rcases List.mem_append.mp hj with hj | hj
    · intro e he
      exact List.mem_append_left _ (h.cl j hj (fun z => h1 (List.mem_append_left _ z)) h2 e he)
    · exact absurd (List.mem_append_right _ hj) h1
theorem PI.done {n : Nat} {ss : List Stl} {w c : Nat} {fs ws : List Nat} (h : PI n ss w fs ws (some c)) (hc : ∀ d, Adj ss c d → d ∈ fs) : PI n ss w fs ws none :=
  ⟨h.nd, h.w0, h.cn, h.sub, fun j hj h1 _ => by
    by_cases e : j = c
    · subst e; exact hc
    · exact h.cl j hj h1 (fun z => e (Option.some.inj z))⟩
theorem PI.all {n : Nat} {ss : List Stl} {w j : Nat} {fs : List Nat} (h : PI n ss w fs [] none) (q : Conn ss w j) : j ∈ fs := by
  induction q with
  | refl => exact h.w0
  | step _ a ih => exact h.cl _ ih (by simp) (by simp) _ a
theorem PI.fin {n : Nat} {ss : List Stl} {w : Nat} {fs : List Nat} (h : PI n ss w fs [] none) (j : Nat) : j ∈ fs ↔ j ∈ comp n ss w := by
  rw [mem_comp]
  refine ⟨h.cn j, fun ⟨_, q⟩ => h.all q⟩
theorem PI.len {n : Nat} {ss : List Stl} {w : Nat} {fs ws : List Nat} {o : Option Nat} (h : PI n ss w fs ws o) : fs.length ≤ n := nodup_len h.nd fun j hj => (h.cn j hj).1
/-! ### scales -/
structure FI (n : Nat) (ss : List Stl) (f : Nat → Rat) (fs ws : List Nat) (here : Option Nat) : Prop where
  nd : fs.Nodup
  lt : ∀ j ∈ fs, j < n
  sub : ∀ j ∈ ws, j ∈ fs
  cl : ∀ j ∈ fs, j ∉ ws → some j ≠ here → ∀ c, Adj ss j c → c ∈ fs
  pos : ∀ j ∈ fs, 0 < f j
  sm : ∀ j ∈ fs, Sm (66 * fs.length) (f j)
  rt : ∀ j ∈ fs, ∃ w0, First ss w0 ∧ Conn ss w0 j ∧ ∀ x, Fits ss x → x j = f j * x w0
def putN (f : Nat → Rat) (d : Nat) (z : Rat) : Nat → Rat := fun j => if j = d then z else f j
theorem FI.root {n : Nat} {ss : List Stl} {f : Nat → Rat} {fs : List Nat} {w : Nat} (h : FI n ss f fs [] none) (hw : w < n) (hf : First ss w) (hn : w ∉ fs) : FI n ss (putN f w 1) (fs ++ [w]) [w] none := by
  have ne : ∀ j ∈ fs, j ≠ w := fun j hj z => by subst z; exact hn hj
  have e : ∀ j ∈ fs, putN f w 1 j = f j := fun j hj => if_neg (ne j hj)
  have e1 : putN f w 1 w = 1 := if_pos rfl
  refine ⟨List.nodup_append.mpr ⟨h.nd, by simp, fun x hx y hy => by simp at hy; subst hy; exact ne x hx⟩, fun j hj => ?_, fun j hj => List.mem_append_right _ hj, fun j hj h1 h2 c hc => ?_, fun j hj => ?_, fun j hj => ?_, fun j hj => ?_⟩
  · rcases List.mem_append.mp hj with hj | hj
    · exact h.lt j hj
    · simp at hj; subst hj; exact hw
  · rcases List.mem_append.mp hj with hj | hj
    · exact List.mem_append_left _ (h.cl j hj (by simp) h2 c hc)
    · exact absurd hj h1
  · rcases List.mem_append.mp hj with hj | hj
    · rw [e j hj]; exact h.pos j hj
    · simp at hj; subst hj; rw [e1]; decide
  · rw [List.length_append]
    rcases List.mem_append.mp hj with hj | hj
    · rw [e j hj]; exact (h.sm j hj).mono (by simp; omega)
    · simp at hj; subst hj; rw [e1]
      exact Sm.mono (n := 1) ⟨by decide, by decide⟩ (by simp; omega)
  · rcases List.mem_append.mp hj with hj | hj
    · rw [e j hj]; exact h.rt j hj
    · simp at hj; subst hj; rw [e1]
      exact ⟨j, hf, .refl, fun x _ => by rw [Rat.one_mul]⟩
theorem FI.pop {n : Nat} {ss : List Stl} {f : Nat → Rat} {c : Nat} {fs ws : List Nat} (h : FI n ss f fs (ws ++ [c]) none) : FI n ss f fs ws (some c) ∧ c ∈ fs :=
  ⟨⟨h.nd, h.lt, fun j hj => h.sub j (List.mem_append_left _ hj), fun j hj h1 h2 => h.cl j hj (fun z => by
    rcases List.mem_append.mp z with z | z
    · exact h1 z
    · simp at z; exact h2 (by rw [z])) (by simp), h.pos, h.sm, h.rt⟩, h.sub c (by simp)⟩
/-- the other ware of a stall -/
def Stl.oth (s : Stl) (w : Nat) : Nat := if s.u = w then s.v else s.u
theorem scale_rt {n : Nat} {s : Stl} (ok : StlOk n s) {c : Nat} (hc : s.u = c ∨ s.v = c) {x : Nat → Rat} (hx : s.h * x s.u = s.r * x s.v) : x (s.oth c) = s.of c / s.r * x c := by
  have r0 : s.r ≠ 0 := fun z => by have := ok.r0; rw [z] at this; exact absurd this (by decide)
  have h0 : s.h ≠ 0 := fun z => by have := ok.h0; rw [z] at this; exact absurd this (by decide)
  have rt := ok.rt
  unfold Stl.oth Stl.of
  by_cases e : s.u = c
  · rw [if_pos e, if_pos e, ← e]
    grind
  · rw [if_neg e, if_neg e]
    have e2 : s.v = c := hc.resolve_left e
    rw [← e2]
    have : s.h * (s.r * x s.u) = s.h * (s.g * x s.v) := by grind
    have : s.r * x s.u = s.g * x s.v := by grind
    grind
theorem FI.add {n : Nat} {ss : List Stl} {f : Nat → Rat} {c : Nat} {fs ws : List Nat} {s : Stl} (h : FI n ss f fs ws (some c)) (hc : c ∈ fs) (hs : s ∈ ss) (ok : StlOk n s) (he : s.u = c ∨ s.v = c) (hd : s.oth c ∉ fs) :
    FI n ss (putN f (s.oth c) (f c * s.of c / s.r)) (fs ++ [s.oth c]) (ws ++ [s.oth c]) (some c) := by
  have ne : ∀ j ∈ fs, j ≠ s.oth c := fun j hj z => by subst z; exact hd hj
  have e : ∀ j ∈ fs, putN f (s.oth c) (f c * s.of c / s.r) j = f j := fun j hj => if_neg (ne j hj)
  have e1 : putN f (s.oth c) (f c * s.of c / s.r) (s.oth c) = f c * s.of c / s.r := if_pos rfl
  have adj : Adj ss c (s.oth c) := by
    refine ⟨s, hs, ?_⟩
    unfold Stl.oth
    by_cases z : s.u = c
    · rw [if_pos z]; exact .inl ⟨z, rfl⟩
    · rw [if_neg z]; exact .inr ⟨he.resolve_left z, rfl⟩
  have op : 0 < s.of c := by
    unfold Stl.of
    split
    · exact ok.h0
    · exact ok.g0
  have os : Sm 33 (s.of c) := by
    unfold Stl.of
    split
    · exact ok.hq.sm (by decide)
    · exact ok.gq.sm (by decide)
  refine ⟨List.nodup_append.mpr ⟨h.nd, by simp, fun x hx y hy => by simp at hy; subst hy; exact ne x hx⟩, fun j hj => ?_, fun j hj => ?_, fun j hj h1 h2 d hd => ?_, fun j hj => ?_, fun j hj => ?_, fun j hj => ?_⟩
  · rcases List.mem_append.mp hj with hj | hj
    · exact h.lt j hj
    · simp at hj; subst hj
      unfold Stl.oth
      split
      · exact ok.vn
      · exact ok.un
  · rcases List.mem_append.mp hj with hj | hj
    · exact List.mem_append_left _ (h.sub j hj)
    · exact List.mem_append_right _ hj
  · rcases List.mem_append.mp hj with hj | hj
    · exact List.mem_append_left _ (h.cl j hj (fun z => h1 (List.mem_append_left _ z)) h2 d hd)
    · exact absurd (List.mem_append_right _ hj) h1
  · rcases List.mem_append.mp hj with hj | hj
    · rw [e j hj]; exact h.pos j hj
    · simp at hj; subst hj; rw [e1, Rat.div_def]
      exact Rat.mul_pos (Rat.mul_pos (h.pos c hc) op) (Rat.inv_pos.mpr ok.r0)
  · rw [List.length_append]
    rcases List.mem_append.mp hj with hj | hj
    · rw [e j hj]; exact (h.sm j hj).mono (by simp; omega)
    · simp at hj; subst hj; rw [e1]
      exact Sm.mono (((h.sm c hc).mul os).div (ok.rq.sm (by decide)) ok.r0) (by simp; omega)
  · rcases List.mem_append.mp hj with hj | hj
    · rw [e j hj]; exact h.rt j hj
    · simp at hj; subst hj; rw [e1]
      obtain ⟨w0, f1, f2, f3⟩ := h.rt c hc
      refine ⟨w0, f1, f2.step adj, fun x hx => ?_⟩
      rw [scale_rt ok he (hx s hs), f3 x hx]
      grind
theorem FI.done {n : Nat} {ss : List Stl} {f : Nat → Rat} {c : Nat} {fs ws : List Nat} (h : FI n ss f fs ws (some c)) (hc : ∀ d, Adj ss c d → d ∈ fs) : FI n ss f fs ws none :=
  ⟨h.nd, h.lt, h.sub, fun j hj h1 _ => by
    by_cases e : j = c
    · subst e; exact hc
    · exact h.cl j hj h1 (fun z => e (Option.some.inj z)), h.pos, h.sm, h.rt⟩
theorem FI.len {n : Nat} {ss : List Stl} {f : Nat → Rat} {fs ws : List Nat} {o : Option Nat} (h : FI n ss f fs ws o) : fs.length ≤ n := nodup_len h.nd h.lt
theorem FI.conn {n : Nat} {ss : List Stl} {f : Nat → Rat} {fs : List Nat} (h : FI n ss f fs [] none) {a b : Nat} (ha : a ∈ fs) (q : Conn ss a b) : b ∈ fs := by
  induction q with
  | refl => exact ha
  | step _ z ih => exact h.cl _ ih (by simp) (by simp) _ z
/-- what is known of the scales -/
structure Scl (n : Nat) (ss : List Stl) (f : Nat → Rat) : Prop where
  pos : ∀ j, j < n → 0 < f j
  sm : ∀ j, j < n → Sm 528 (f j)
  rt : ∀ j, j < n → ∃ w0, First ss w0 ∧ Conn ss w0 j ∧ ∀ x, Fits ss x → x j = f j * x w0
theorem FI.scl {n : Nat} {ss : List Stl} {f : Nat → Rat} {fs : List Nat} (h : FI n ss f fs [] none) (hn : n ≤ 8) (hr : ∀ w, w < n → First ss w → w ∈ fs) : Scl n ss f ∧ ∀ j, j ∈ fs ↔ j < n := by
  have all : ∀ j, j < n → j ∈ fs := fun j hj => by
    obtain ⟨w, h1, h2, h3⟩ := first_of ss j
    exact h.conn (hr w (by omega) h2) h3
  have := h.len
  exact ⟨⟨fun j hj => h.pos j (all j hj), fun j hj => (h.sm j (all j hj)).mono (by omega), fun j hj => h.rt j (all j hj)⟩, fun j => ⟨h.lt j, all j⟩⟩
def FitsAt (f : Nat → Rat) (s : Stl) : Prop := f s.u * s.h / s.r = f s.v
theorem Scl.evn {n : Nat} {ss : List Stl} {f : Nat → Rat} (h : Scl n ss f) (ok : ∀ s ∈ ss, StlOk n s) {w : Nat} (hw : w < n) : Evn ss w ↔ ∀ s ∈ ss, Conn ss w s.u → FitsAt f s := by
  constructor
  · rintro ⟨x, x1, fx⟩ s hs cw
    obtain ⟨a, a1, a2, a3⟩ := h.rt w hw
    obtain ⟨b, b1, b2, b3⟩ := h.rt s.u (ok s hs).un
    obtain ⟨c, c1, c2, c3⟩ := h.rt s.v (ok s hs).vn
    have e1 : a = b := a1.eq b1 ((a2.trans cw).trans b2.symm)
    have e2 : a = c := a1.eq c1 (((a2.trans cw).trans (Conn.stl hs)).trans c2.symm)
    subst e1 e2
    have q := fx s hs
    have q1 := a3 x fx
    have q2 := b3 x fx
    have q3 := c3 x fx
    have r0 : s.r ≠ 0 := fun z => by have := (ok s hs).r0; rw [z] at this; exact absurd this (by decide)
    have xa : x a ≠ 0 := fun z => by rw [z, Rat.mul_zero, x1] at q1; exact absurd q1 (by decide)
    unfold FitsAt
    rw [q2, q3] at q
    have q4 : x a * (s.h * f s.u) = x a * (s.r * f s.v) := by grind
    have q5 : s.h * f s.u = s.r * f s.v := by grind
    grind
  · intro hf
    refine ⟨fun j => @ite _ (Conn ss w j) (Classical.propDecidable _) (f j / f w) 0, ?_, fun s hs => ?_⟩
    · dsimp only
      rw [if_pos .refl]
      have := h.pos w hw
      exact self_over (fun z => by rw [z] at this; exact absurd this (by decide))
    · dsimp only
      by_cases c : Conn ss w s.u
      · rw [if_pos c, if_pos (c.trans (Conn.stl hs))]
        have q := hf s hs c
        unfold FitsAt at q
        have r0 : s.r ≠ 0 := fun z => by have := (ok s hs).r0; rw [z] at this; exact absurd this (by decide)
        rw [← q]
        grind
      · rw [if_neg c, if_neg (fun z => c (z.trans (Conn.stl hs).symm)), Rat.mul_zero, Rat.mul_zero]
where self_over {a : Rat} (h : a ≠ 0) : a / a = 1 := by rw [Rat.div_def]; exact Rat.mul_inv_cancel _ h
end Fair

set_option Elab.async false
set_option linter.all false
set_option maxRecDepth 100000
set_option maxHeartbeats 1000000
namespace Fair
open PySem PySem.Spec PyProof.Rows L2
/-! ### the promises of nothing.py -/
def spNextScale (K : PySem.W.Frag) : Sp := fun vs H Q _ => ∃ (a q : Addr) (x : Stl) (w : Nat) (z : Rat), vs = [.ref a, .int w, .ref q] ∧ StlAt K H a x ∧ ExAt K H q z ∧ Ok z ∧ Ok x.h ∧ Ok x.g ∧ Ok x.r ∧ 0 < x.r ∧ Ok (z * x.of w) ∧
  ∀ (p : Addr) (H' : Hp), Same H H' → H p = none → ExAt K H' p (z * x.of w / x.r) → Q (.ref p) H'
/-- a tuple of wares -/
def TupN (K : PySem.W.Frag) (H : Hp) (a : Addr) (c : List Nat) : Prop := SqT K H a (NatL c)
def LstN (K : PySem.W.Frag) (H : Hp) (q : Addr) (cs : List (List Nat)) : Prop := ∃ as : List Addr, H q = some (.lst (as.map V.ref)) ∧ Each (TupN K H) as cs
def spPieceOf (K : PySem.W.Frag) : Sp := fun vs H Q _ => ∃ (p : Addr) (n w : Nat) (ss : List Stl), vs = [.ref p, .int w] ∧ WebAt K H p n ss ∧ WebOk n ss ∧ w < n ∧
  ∀ (q : Addr) (H' : Hp), Same H H' → TupN K H' q (comp n ss w) → Q (.ref q) H'
def spPieces (K : PySem.W.Frag) : Sp := fun vs H Q _ => ∃ (p : Addr) (n : Nat) (ss : List Stl), vs = [.ref p] ∧ WebAt K H p n ss ∧ WebOk n ss ∧
  ∀ (q : Addr) (H' : Hp), Same H H' → H q = none → LstN K H' q (pcs n ss) → Q (.ref q) H'
def spScales (K : PySem.W.Frag) : Sp := fun vs H Q _ => ∃ (p : Addr) (n : Nat) (ss : List Stl), vs = [.ref p] ∧ WebAt K H p n ss ∧ WebOk n ss ∧
  ∀ (t d1 d2 : Addr) (f : Nat → Rat) (H' : Hp), Same H H' → SqT K H' t [.ref d1, .ref d2] → RowAt K H' d1 n f → Scl n ss f → Q (.ref t) H'
def spUneven (K : PySem.W.Frag) : Sp := fun vs H Q _ => ∃ (p d : Addr) (n : Nat) (ss : List Stl) (f : Nat → Rat), vs = [.ref p, .ref d] ∧ WebAt K H p n ss ∧ WebOk n ss ∧ RowAt K H d n f ∧ Scl n ss f ∧
  (∀ H' : Hp, Same H H' → (∀ s ∈ ss, FitsAt f s) → Q .non H') ∧ (∀ (H' : Hp) (i : Int), Same H H' → (¬ ∀ s ∈ ss, FitsAt f s) → Q (.int i) H')
def AllE (n : Nat) (ss : List Stl) : Prop := ∀ w, w < n → Evn ss w
def spFitExact (K : PySem.W.Frag) : Sp := fun vs H Q _ => ∃ (p : Addr) (n : Nat) (ss : List Stl), vs = [.ref p] ∧ WebAt K H p n ss ∧ WebOk n ss ∧
  (∀ H' : Hp, Same H H' → ¬ AllE n ss → Q .non H') ∧ (∀ (q : Addr) (H' : Hp) (f : Nat → Rat), Same H H' → AllE n ss → VecE K H' q n f → Q (.ref q) H')
def spFit (K : PySem.W.Frag) : Sp := fun vs H Q _ => ∃ (p : Addr) (n : Nat) (ss : List Stl), vs = [.ref p] ∧ WebAt K H p n ss ∧ WebOk n ss ∧
  (∀ H' : Hp, Same H H' → ¬ AllE n ss → Q .non H') ∧ (∀ (q : Addr) (H' : Hp), Same H H' → AllE n ss → Q (.ref q) H')
def spUnevenPieces (K : PySem.W.Frag) : Sp := fun vs H Q _ => ∃ (p : Addr) (n : Nat) (ss : List Stl), vs = [.ref p] ∧ WebAt K H p n ss ∧ WebOk n ss ∧
  ∀ (q : Addr) (H' : Hp), Same H H' → H q = none → LstN K H' q (unev n ss) → Q (.ref q) H'
theorem Scl.all {n : Nat} {ss : List Stl} {f : Nat → Rat} (h : Scl n ss f) (ok : ∀ s ∈ ss, StlOk n s) : (∀ s ∈ ss, FitsAt f s) ↔ AllE n ss := by
  constructor
  · intro q w hw
    exact (h.evn ok hw).mpr fun s hs _ => q s hs
  · intro q s hs
    exact (h.evn ok (ok s hs).un).mp (q _ (ok s hs).un) s hs .refl
theorem Scl.ok {n : Nat} {ss : List Stl} {f : Nat → Rat} (h : Scl n ss f) {j : Nat} (hj : j < n) : Ok (f j) := (h.sm j hj).mono (by decide)
theorem StlOk.oo {n : Nat} {x : Stl} (h : StlOk n x) {a w : Nat} {z : Rat} (hz : Sm a z) (ha : a ≤ 4000) : Ok (z * x.of w) := by
  unfold Stl.of
  split
  · exact (hz.mul (h.hq.sm (by decide))).mono (by omega)
  · exact (hz.mul (h.gq.sm (by decide))).mono (by omega)
/-! ### a list of wares: empty or not -/
theorem eqv_nil {ds : List PyData} : PyData.eqv (.list ds) (.list []) = decide (ds = []) := by
  cases ds with
  | nil => rfl
  | cons a r => rfl
theorem dpAll_nat {K : PySem.W.Frag} {H : Hp} : ∀ ws : List Nat, DpAll K H (NatL ws) (ws.map fun (j : Nat) => PyData.int j)
  | [] => .nil
  | _ :: r => .cons (.int _) (dpAll_nat r)
theorem lay_nat : ∀ ws : List Nat, PyData.canLayAll0 (ws.map fun (j : Nat) => PyData.int j) = true ∧ PyData.depthAll (ws.map fun (j : Nat) => PyData.int j) ≤ 1
  | [] => ⟨rfl, by show (0 : Nat) ≤ 1; decide⟩
  | w :: r => by
    have := lay_nat r
    refine ⟨?_, ?_⟩
    · show (true && PyData.canLayAll0 (r.map fun (j : Nat) => PyData.int j)) = true
      rw [this.1]; rfl
    · show max (PyData.depth (PyData.int w)) (PyData.depthAll (r.map fun (j : Nat) => PyData.int j)) ≤ 1
      have e : PyData.depth (PyData.int (w : Int)) ≤ 1 := by simp [PyData.depth]
      omega
theorem shaped_nat (ws : List Nat) : SeqAt.shaped (.list (ws.map fun (j : Nat) => PyData.int j)) = true := by
  have := lay_nat ws
  unfold SeqAt.shaped
  refine Bool.and_eq_true_iff.mpr ⟨this.1, decide_eq_true ?_⟩
  show PyData.depthAll (ws.map fun (j : Nat) => PyData.int j) + 1 ≤ 64
  omega
theorem ne_nil {K : PySem.W.Frag} {H : Hp} {l e : Addr} {ws : List Nat} {Q : VK} (h1 : H l = some (.lst (NatL ws))) (h2 : H e = some (.lst [])) (k : Q (.bl (!decide (ws = []))) H) : rNeD K (.ref l) (.ref e) H Q := by
  refine ⟨.list (ws.map fun (j : Nat) => PyData.int j), .list [], .lst (SqL.of h1) (dpAll_nat ws), .lst (SqL.of h2) .nil, shaped_nat ws, by decide, ?_⟩
  rw [eqv_nil]
  have : decide ((ws.map fun (j : Nat) => PyData.int j) = []) = decide (ws = []) := by
    cases ws <;> rfl
  rw [this]
  exact k
/-! ### lists of pieces -/
open Classical in
theorem firsts_succ (i : Nat) (ss : List Stl) : (First ss i → firsts (i + 1) ss = firsts i ss ++ [i]) ∧ (¬ First ss i → firsts (i + 1) ss = firsts i ss) := by
  unfold firsts
  rw [List.range_succ, List.filter_append]
  constructor
  · intro h
    congr 1
    simp [h]
  · intro h
    simp [h]
theorem firsts_len (i : Nat) (ss : List Stl) : (firsts i ss).length ≤ i := by
  have := List.length_filter_le (fun j => @decide (First ss j) (Classical.propDecidable _)) (List.range i)
  rw [List.length_range] at this
  exact this
theorem inV_nat (j : Nat) : ∀ kn : List Nat, inV (V.int (j : Int)) (NatL kn) = decide (j ∈ kn)
  | [] => rfl
  | a :: r => by
    have ih := inV_nat j r
    show (eqV (V.int (a : Int)) (V.int (j : Int)) || inV (V.int (j : Int)) (NatL r)) = _
    rw [ih]
    show (decide ((a : Int) = (j : Int)) || decide (j ∈ r)) = _
    by_cases c : a = j
    · subst c; simp
    · have c2 : ¬ (a : Int) = j := by omega
      have c3 : ¬ j = a := fun z => c z.symm
      rw [decide_eq_false c2]
      simp [c3]
theorem flat_nat (kn : List Nat) : (NatL kn).all flatV = true := by
  rw [List.all_eq_true]
  intro x hx
  obtain ⟨j, _, rfl⟩ := List.mem_map.mp hx
  rfl
section
variable {K : PySem.W.Frag} {H H1 : Hp} {q a : Addr} {cs : List (List Nat)} {c : List Nat}
theorem TupN.imm (h : TupN K H a c) (s : Imm H H1) : TupN K H1 a c := imm_tup s h
theorem LstN.same (h : LstN K H q cs) (s : Same H H1) : LstN K H1 q cs := let ⟨as, h1, h2⟩ := h; ⟨as, s _ _ h1, h2.mono fun _ _ z => z.imm (Imm.of s)⟩
theorem LstN.imm (h : LstN K H q cs) (s : Imm H H1) (e : H1 q = H q) : LstN K H1 q cs := let ⟨as, h1, h2⟩ := h; ⟨as, by rw [e]; exact h1, h2.mono fun _ _ z => z.imm s⟩
theorem LstN.push (h : LstN K H q cs) (s : Same H H1) (ha : TupN K H1 a c) : ∃ acc, H1 q = some (.lst acc) ∧ acc.length = cs.length ∧ LstN K (upd H1 q (.lst (acc ++ [.ref a]))) q (cs ++ [c]) := by
  obtain ⟨as, h1, h2⟩ := h
  have e := s _ _ h1
  refine ⟨_, e, by rw [List.length_map]; exact h2.1, as ++ [a], by rw [upd_same, List.map_append]; rfl, ?_⟩
  exact (h2.mono fun _ _ z => (z.imm (Imm.of s)).imm (Imm.lst e)).snoc (ha.imm (Imm.lst e))
end
/-! ### dicts keyed by wares -/
theorem dget_dkv {H : Hp} {d : Addr} {fs : List Nat} {g : Nat → V} (h : H d = some (.dK (dkv fs g))) (j : Nat) : DGet H d (.int j) (if j ∈ fs then some (g j) else none) := by
  rw [← valV_dkv]
  exact DGet.k (k := Sum.inl (j : Int)) h
theorem dput_dkv {H : Hp} {d : Addr} {fs : List Nat} {g : Nat → V} {v : V} (h : H d = some (.dK (dkv fs g))) {j : Nat} (hj : j ∉ fs) (hl : fs.length ≤ 1000) : DPut H d (.int j) v (upd H d (.dK (dkv (fs ++ [j]) fun i => if i = j then v else g i))) := by
  have q := DPut.k (k := Sum.inl (j : Int)) (v := v) h (small1000 (by unfold dkv; rw [List.length_map]; exact hl))
  rw [putK_dkv, if_neg hj] at q
  exact q
theorem dkv_congr {fs : List Nat} {g g' : Nat → V} (h : ∀ j ∈ fs, g j = g' j) : dkv fs g = dkv fs g' := List.map_congr_left fun j hj => by rw [h j hj]
end Fair

set_option Elab.async false
set_option linter.all false
set_option maxRecDepth 100000
set_option maxHeartbeats 4000000
namespace Fair
open PySem PySem.Spec PyProof.Rows L2
/-! ### NextScale -/
theorem ok_NextScale {P : Program} {w : World} {K : PySem.W.Frag} {mg : Str → Option Value} {base : Heap} (T : TX K mg) (D : Dx K mg "next_scale" sNextScale)
    (c_HeldOf : C8.Cal P w K mg base 5 "held_of" (spHeldOf K) [])
    (c_ExactMul : C8.Met P w K mg base 4 (cE K) "__mul__" (spMul K) [])
    (c_ExactOver : C8.Met P w K mg base 4 (cE K) "over" (spOver K) [])
    (c_RootExact : C8.Cal P w K mg base 5 "root_exact" (spRootExact K) []) : C8.Cal P w K mg base 6 "next_scale" (spNextScale K) [] := by
  refine D.cal scNextScale (fun _ _ _ _ _ _ us hl => match us, hl with | [_, _, _], _ => rfl) (fun vs H Q E h => ?_) (fun f cdv A outer s H vs Q E hr h => ?_)
  · obtain ⟨a, q, x, w1, z, rfl, ha, hq, oz, o1, o2, o3, r0, oc, k⟩ := h
    rfl
  · obtain ⟨a, q, x, w1, z, rfl, ha, hq, oz, o1, o2, o3, r0, oc, k⟩ := h
    refine ⟨_, (pss_one (ps_ret (C8.pe_mt c_ExactOver hr (by decide) (pe_op (op_own c_ExactMul T.sfE hr (by decide)) (pv 2) (C8.pe_c c_HeldOf hr (by decide) (by rfl) (pa_cons (pv 0) (pa_cons (pv 1) pa_nil)))) (pa_cons (C8.pe_c c_RootExact hr (by decide) (by rfl) (pa_cons (pv 0) pa_nil)) pa_nil)))), ?_⟩
    refine ⟨_, rfl, _, rfl, _, rfl, a, x, w1, rfl, ha, o1, o2, fun p1 H1 s1 n1 x1 => ?_⟩
    have oz' : Ok (x.of w1) := by
      unfold Stl.of
      split
      · exact o1
      · exact o2
    refine own_of (hq.same s1) x1 ⟨q, p1, _, _, rfl, hq.same s1, x1, oz, oz', trivial, fun p2 H2 s2 n2 x2 => ?_⟩
    have s12 := s1.trans s2
    refine meth_of x2 (by decide +kernel) (by decide +kernel) ⟨_, rfl, a, x, rfl, ha.same s12, o3, fun p3 H3 s3 n3 x3 => ?_⟩
    refine ⟨p2, p3, _, _, rfl, x2.same s3, x3, oc, o3, r0, fun p4 H4 s4 n4 x4 => ?_⟩
    have s14 := (s12.trans s3).trans s4
    exact k p4 H4 s14 ((s12.trans s3).free n4) x4

/-! ### PieceOf -/
theorem ok_PieceOf {P : Program} {w : World} {K : PySem.W.Frag} {mg : Str → Option Value} {base : Heap} (T : TX K mg) (D : Dx K mg "piece_of" sPieceOf)
    (c_RootsExact : C8.Cal P w K mg base 5 "roots_exact" (spRootsExact K) []) : C8.Cal P w K mg base 6 "piece_of" (spPieceOf K) [] := by
  refine D.cal scPieceOf (fun _ _ _ _ _ _ us hl => match us, hl with | [_, _], _ => rfl) (fun vs H Q E h => ?_) (fun f cdv A outer s H vs Q E hr h => ?_)
  · obtain ⟨p, n, w1, ss, rfl, hp, ok, hw, k⟩ := h
    rfl
  · obtain ⟨p, n, w1, ss, rfl, hp, ok, hw, k⟩ := h
    have hu := hu_of hr
    refine ⟨_, (pss_cons (ps_set (i := 2) scPieceOf.nd rfl (by first | exact Or.inl rfl | exact Or.inr rfl) (C8.pe_c c_RootsExact hr (by decide) (by rfl) (pa_cons (pv 0) pa_nil)))
        (pss_cons (ps_set (i := 3) scPieceOf.nd rfl (by first | exact Or.inl rfl | exact Or.inr rfl) (pe_disp (pps_cons (pv 1) pe_bl pps_nil) (by rfl) (by rfl) (fun z => by cases z) (by decide)))
        (pss_cons (ps_set (i := 4) scPieceOf.nd rfl (by first | exact Or.inl rfl | exact Or.inr rfl) (pe_lst (pa_cons (pv 1) pa_nil)))
        (pss_cons (ps_while PassesOwn.never (pt_cmpR (op_neD hr.units) (pv 4) (pe_lst pa_nil) (nomark _)) (pss_one (ps_lock (ps_for PassesOwn.never rfl (pi_keys (pe_ix ix_list (pv 2) (pe_bm0 PySem.F.plainAttrs_list PySem.F.slot_list_pop PySem.F.type_list_pop mt_pop (pv 4)) (fun _ _ => rfl))) (pg_name (i := 5) scPieceOf.nd rfl (by first | exact Or.inl rfl | exact Or.inr rfl))
        (pss_one (ps_if (pt_cmp (pc_dnotin hu (pv 5) (pv 3))) (pss_cons (ps_dput hu (pv 3) (pv 5) pe_bl rfl)
        (pss_one (ps_expr (pe_bm PySem.F.plainAttrs_list PySem.F.slot_list_append PySem.F.type_list_append mt_append (pv 4) (pa_cons (pv 5) pa_nil)))))
        pss_nil))))))
        (pss_one (ps_ret (pe_callTy call_tuple_of (by rfl) T.f_tuple (by decide +kernel) (pa_cons (pe_callB (call_sortedDI rfl) (by rfl) T.f_sorted (by decide +kernel) (pa_cons (pv 3) pa_nil)) pa_nil)))))))), ?_⟩
    have oks := ok.ok
    have n8 := ok.n8
    refine ⟨_, rfl, p, n, ss, rfl, hp, ok, fun q ds H1 s1 nq nds m1 => ?_⟩
    intro d1 nd1
    have s2 : Same H1 (upd H1 d1 (.dK [])) := same_upd1 nd1
    refine ⟨_, rfl, upd_same, [(Sum.inl (w1 : Int), .bl true)], rfl, by show 1 ≤ 15; decide, ?_⟩
    have s3 : Same H1 (upd (upd H1 d1 (.dK [])) d1 (.dK (dkv [w1] fun _ => .bl true))) := same_new s2 nd1
    have e3 : upd (upd H1 d1 (.dK [])) d1 (.dK (dkv [w1] fun _ => .bl true)) d1 = some (.dK (dkv [w1] fun _ => .bl true)) := upd_same
    have em : mergeK [] [(Sum.inl (w1 : Int), V.bl true)] = dkv [w1] (fun _ => .bl true) := rfl
    rw [em]
    generalize upd (upd H1 d1 (.dK [])) d1 (.dK (dkv [w1] fun _ => .bl true)) = H3 at s3 e3
    refine ⟨_, rfl, (by show 1 ≤ sizeLine; decide), fun l nl => ?_⟩
    have ndl : d1 ≠ l := ne_of_none e3 nl
    have nl1 : H1 l = none := s3.free nl
    refine ⟨fun m σ H' => ∃ (fs ws : List Nat) (v5 : Option V), σ = [some (.ref p), some (.int w1), some (.ref q), some (.ref d1), some (.ref l), v5] ∧ H' d1 = some (.dK (dkv fs fun _ => .bl true)) ∧ H' l = some (.lst (NatL ws)) ∧ Same H1 H' ∧ PI n ss w1 fs ws none ∧ m = 2 * (n - fs.length) + ws.length ∧ m ≤ 20,
      ⟨_, [w1], [w1], _, rfl, by rw [upd_ne ndl]; exact e3, upd_same, s3.trans (same_upd1 nl), PI.start hw, rfl, by show 2 * (n - 1) + 1 ≤ 20; omega⟩, ?_⟩
    rintro m σ H4 ⟨fs, ws, v5, rfl, hd1, hl, s4, pi, rfl, m20⟩
    refine ⟨_, rfl, (by show 0 ≤ sizeLine; decide), fun e ne => ?_⟩
    have s5 : Same H4 (upd H4 e (.lst [])) := same_upd1 ne
    refine ne_nil (s5 _ _ hl) upd_same ⟨_, rfl, ?_⟩
    have hd5 := s5 _ _ hd1
    have hl5 := s5 _ _ hl
    have s15 := s4.trans s5
    generalize upd H4 e (.lst []) = H5 at hd5 hl5 s15
    rcases List.eq_nil_or_concat ws with rfl | ⟨ws', c, rfl⟩
    · dsimp only
      rw [if_neg (by simp)]
      refine ⟨_, rfl, d1, _, fs.map Int.ofNat, rfl, .inl hd5, dkv_keys _ _, by rw [List.length_map]; have := pi.len; omega, fun ys z perm pw nz => ?_⟩
      refine ⟨z, _, rfl, .inl ⟨SqL.of upd_same, fun t nt => ?_⟩⟩
      have e7 := rise_of pi.nd perm pw (comp_rise n ss w1) pi.fin
      rw [e7]
      rw [e7] at nt
      exact k t _ (((s1.trans s15).trans (same_upd1 nz)).trans (same_upd1 nt)) (SqT.of upd_same)
    · dsimp only
      rw [if_pos (by simp)]
      rw [List.concat_eq_append] at pi hl5 m20 ⊢
      obtain ⟨pi1, cf⟩ := pi.pop
      have cn := (pi.cn c cf).1
      obtain ⟨dc, hdc, kc, gc, g1, g2, g3, g4⟩ := m1.row cn
      have hm : 2 * (n - fs.length) + ws'.length < 2 * (n - fs.length) + (ws' ++ [c]).length := by rw [List.length_append]; show _ < _ + (_ + 1); omega
      generalize 2 * (n - fs.length) + (ws' ++ [c]).length = m at hm m20
      refine ⟨fun σ' H' => ∃ (fs ws : List Nat) (v5 : Option V), σ' = [some (.ref p), some (.int w1), some (.ref q), some (.ref d1), some (.ref l), v5] ∧ H' d1 = some (.dK (dkv fs fun _ => .bl true)) ∧ H' l = some (.lst (NatL ws)) ∧ Same H1 H' ∧ PI n ss w1 fs ws none ∧ 2 * (n - fs.length) + ws.length < m,
        fun σ' H' ⟨fs, ws, v5, a1, a2, a3, a4, a5, a6⟩ => ⟨_, a6, fs, ws, v5, a1, a2, a3, a4, a5, rfl, by omega⟩, ?_⟩
      have ndc1 : dc ≠ d1 := ne_of_none g1 nd1
      have ndcl : dc ≠ l := ne_of_none g1 nl1
      have nqc : q ≠ dc := ne_of m1.1 g1 (by intro z; cases z)
      have nql : q ≠ l := ne_of_none m1.1 nl1
      have nqd : q ≠ d1 := ne_of_none m1.1 nd1
      refine ⟨dc, _, s15 _ _ g1, trivial, fun od => ?_⟩
      have hl6 : upd H5 dc (.frz od (.dK (dkv kc fun j => .ref (gc j)))) l = some (.lst (NatL (ws' ++ [c]))) := by rw [upd_ne ndcl.symm]; exact hl5
      have eN : NatL (ws' ++ [c]) = NatL ws' ++ [.int c] := by unfold NatL; rw [List.map_append]; rfl
      refine ⟨_, rfl, _, rfl, .inl ⟨rfl, _, SqL.of hl6⟩, l, _, .int c, rfl, rfl, hl6, ?_, ?_⟩
      · rw [eN]; simp
      rw [eN, List.dropLast_concat]
      have A1 : upd (upd H5 dc (.frz od (.dK (dkv kc fun j => .ref (gc j))))) l (.lst (NatL ws')) dc = some (.frz od (.dK (dkv kc fun j => .ref (gc j)))) := by rw [upd_ne ndcl, upd_same]
      have A2 : upd (upd H5 dc (.frz od (.dK (dkv kc fun j => .ref (gc j))))) l (.lst (NatL ws')) d1 = some (.dK (dkv fs fun _ => .bl true)) := by rw [upd_ne ndl, upd_ne ndc1.symm]; exact hd5
      have A3 : upd (upd H5 dc (.frz od (.dK (dkv kc fun j => .ref (gc j))))) l (.lst (NatL ws')) l = some (.lst (NatL ws')) := upd_same
      have A4 : ∀ b o, H1 b = some o → b ≠ dc → upd (upd H5 dc (.frz od (.dK (dkv kc fun j => .ref (gc j))))) l (.lst (NatL ws')) b = some o := fun b o eb nb => by
        rw [upd_ne (ne_of_none eb nl1), upd_ne nb]; exact s15 _ _ eb
      generalize upd (upd H5 dc (.frz od (.dK (dkv kc fun j => .ref (gc j))))) l (.lst (NatL ws')) = H6 at A1 A2 A3 A4
      refine ⟨q, _, c, _, rfl, rfl, SqL.of (A4 _ _ m1.1 nqc), atI_nat (refs_at hdc), dc, od, rfl, .inl ⟨_, A1, ?_⟩⟩
      refine for_it walk_keys (fun i σ H' => ∃ (fs ws : List Nat) (v5 : Option V), σ = [some (.ref p), some (.int w1), some (.ref q), some (.ref d1), some (.ref l), v5] ∧ H' dc = some (.frz od (.dK (dkv kc fun j => .ref (gc j)))) ∧ H' d1 = some (.dK (dkv fs fun _ => .bl true)) ∧ H' l = some (.lst (NatL ws)) ∧
          (∀ b o, H1 b = some o → b ≠ dc → H' b = some o) ∧ PI n ss w1 fs ws (some c) ∧ c ∈ fs ∧ (∀ j ∈ kc.take i, j ∈ fs) ∧ 2 * (n - fs.length) + ws.length < m)
        ⟨fs, ws', _, rfl, A1, A2, A3, A4, pi1, cf, fun j hj => (by cases hj), hm⟩ (fun i σ H' _ ⟨_, _, _, _, z, _⟩ => z) ?_ ?_
      · rintro i x σ H7 H8 hi ⟨fs, ws, v5, rfl, B1, B2, B3, B4, pi2, cf2, pr, hm2⟩ ⟨rfl, kk, vv, hk, rfl⟩
        unfold dkv at hk
        rw [List.getElem?_map] at hk
        obtain ⟨j, hj, rfl⟩ : ∃ j : Nat, kc[i]? = some j ∧ kk = Sum.inl (j : Int) := by
          cases e : kc[i]? with
          | none => rw [e] at hk; cases hk
          | some j => rw [e] at hk; exact ⟨j, rfl, (congrArg Prod.fst (Option.some.inj hk)).symm⟩
        have jm : j ∈ kc := List.mem_of_getElem? hj
        obtain ⟨jn, jr⟩ := (g3 j).mp jm
        have adj : Adj ss c j := (tab0_adj c j fun s hs => (oks s hs).r0).2.mp jr
        refine ⟨_, rfl, _, rfl, d1, _, rfl, dget_dkv B2 j, _, rfl, ?_⟩
        by_cases c1 : j ∈ fs
        · dsimp only
          rw [if_pos c1, if_neg (by simp)]
          refine ⟨fs, ws, _, rfl, B1, B2, B3, B4, pi2, cf2, fun x hx => ?_, hm2⟩
          rw [take_snoc hj] at hx
          rcases List.mem_append.mp hx with hx | hx
          · exact pr x hx
          · simp at hx; subst hx; exact c1
        · dsimp only
          rw [if_neg c1, if_pos (by simp)]
          have pi3 := pi2.add cf2 c1 adj jn
          have l3 := pi3.len
          rw [List.length_append] at l3
          have l3' : fs.length + 1 ≤ n := l3
          refine ⟨_, rfl, _, rfl, d1, _, rfl, dput_dkv B2 c1 (by omega), ?_⟩
          have eD : (fun i => if i = j then V.bl true else V.bl true) = fun _ : Nat => V.bl true := funext fun i => by split <;> rfl
          rw [eD]
          have C3 : upd H8 d1 (.dK (dkv (fs ++ [j]) fun _ => .bl true)) l = some (.lst (NatL ws)) := by rw [upd_ne ndl.symm]; exact B3
          refine ⟨_, rfl, .inl ⟨rfl, _, SqL.of C3⟩, _, rfl, l, _, _, rfl, rfl, C3, small1000 ?_, ?_⟩
          · rw [List.length_map]; omega
          have eW : NatL ws ++ [V.int (j : Int)] = NatL (ws ++ [j]) := by unfold NatL; rw [List.map_append]; rfl
          refine ⟨fs ++ [j], ws ++ [j], _, rfl, by rw [upd_ne ndcl, upd_ne ndc1]; exact B1, by rw [upd_ne ndl, upd_same], by rw [upd_same]; exact congrArg (fun z => some (HO.lst z)) eW, fun b o eb nb => ?_, pi3, List.mem_append_left _ cf2, fun x hx => ?_, ?_⟩
          · rw [upd_ne (ne_of_none eb nl1), upd_ne (ne_of_none eb nd1)]; exact B4 b o eb nb
          · rw [take_snoc hj] at hx
            rcases List.mem_append.mp hx with hx | hx
            · exact List.mem_append_left _ (pr x hx)
            · exact List.mem_append_right _ hx
          · rw [List.length_append, List.length_append]
            show 2 * (n - (fs.length + 1)) + (ws.length + 1) < m
            omega
      · rintro σ H7 ⟨fs, ws, v5, rfl, B1, B2, B3, B4, pi2, cf2, pr, hm2⟩
        refine ⟨B1, fs, ws, v5, rfl, by rw [upd_ne ndc1.symm]; exact B2, by rw [upd_ne ndcl.symm]; exact B3, fun b o eb => ?_, pi2.done fun d a => ?_, hm2⟩
        · by_cases z : b = dc
          · subst z
            rw [g1] at eb; cases eb
            exact upd_same
          · rw [upd_ne z]; exact B4 b o eb z
        · have dl := (a.lt oks).2
          have : d ∈ kc := (g3 d).mpr ⟨dl, (tab0_adj c d fun s hs => (oks s hs).r0).2.mpr a⟩
          refine pr d ?_
          have e : kc.take (dkv kc fun j => V.ref (gc j)).length = kc := List.take_of_length_le (by unfold dkv; rw [List.length_map]; exact Nat.le_refl _)
          rw [e]
          exact this

end Fair

set_option Elab.async false
set_option linter.all false
set_option maxRecDepth 100000
set_option maxHeartbeats 4000000
namespace Fair
open PySem PySem.Spec PyProof.Rows L2
/-! ### Pieces -/
theorem ok_Pieces {P : Program} {w : World} {K : PySem.W.Frag} {mg : Str → Option Value} {base : Heap} (T : TX K mg) (D : Dx K mg "pieces" sPieces)
    (c_PieceOf : C8.Cal P w K mg base 6 "piece_of" (spPieceOf K) []) : C8.Cal P w K mg base 7 "pieces" (spPieces K) [] := by
  refine D.cal scPieces (fun _ _ _ _ _ _ us hl => match us, hl with | [_], _ => rfl) (fun vs H Q E h => ?_) (fun f cdv A outer s H vs Q E hr h => ?_)
  · obtain ⟨p, n, ss, rfl, hp, ok, k⟩ := h
    rfl
  · obtain ⟨p, n, ss, rfl, hp, ok, k⟩ := h
    refine ⟨_, (pss_cons (ps_set (i := 1) scPieces.nd rfl (by first | exact Or.inl rfl | exact Or.inr rfl) (pe_lst pa_nil))
        (pss_cons (ps_set (i := 2) scPieces.nd rfl (by first | exact Or.inl rfl | exact Or.inr rfl) (pe_tup pa_nil))
        (pss_cons (ps_for PassesOwn.never rfl (pi_range1 rfl T.f_range (pa_cons (pe_fld (pv 0) rfl) pa_nil)) (pg_name (i := 3) scPieces.nd rfl (by first | exact Or.inl rfl | exact Or.inr rfl))
        (pss_one (ps_if (pt_cmpR op_notIn_seq (pv 3) (pv 2) (by rfl)) (pss_cons (ps_expr (pe_bm PySem.F.plainAttrs_list PySem.F.slot_list_append PySem.F.type_list_append mt_append (pv 1) (pa_cons (C8.pe_c c_PieceOf hr (by decide) (by rfl) (pa_cons (pv 0) (pa_cons (pv 3) pa_nil))) pa_nil)))
        (pss_one (ps_set (i := 2) scPieces.nd rfl (by first | exact Or.inl rfl | exact Or.inr rfl) (pe_op op_catA (pv 2) (pe_ix ix_list (pv 1) (pe_un un_neg pe_int) (fun _ _ => rfl))))))
        pss_nil)))
        (pss_one (ps_ret (pv 1)))))), ?_⟩
    have n8 := ok.n8
    have n1 := ok.n1
    obtain ⟨dx, t, hw, _⟩ := id hp
    refine ⟨(by show 0 ≤ sizeLine; decide), fun fl nfl => ?_⟩
    have s1 : Same H (upd H fl (.lst [])) := same_upd1 nfl
    refine ⟨(by show 0 ≤ sizeLine; decide), fun kt nkt => ?_⟩
    have s2 := same_of_upd (o := .tup []) s1 nkt
    have efl : upd (upd H fl (.lst [])) kt (.tup []) fl = some (.lst []) := same_upd1 nkt _ _ upd_same
    have ekt : SqT K (upd (upd H fl (.lst [])) kt (.tup [])) kt (NatL []) := SqT.of upd_same
    generalize upd (upd H fl (.lst [])) kt (.tup []) = H2 at s2 efl ekt
    refine ⟨_, rfl, p, _, dx, _, _, rfl, s2 _ _ hw, T.clW, T.nWares, wbF_w n t, (n : Int), rfl, by omega, by omega, ?_⟩
    refine for_range (lo := 0) (n := ((n : Int)).toNat) (fun i σ H' => ∃ (kt : Addr) (kn : List Nat) (v3 : Option V), σ = [some (.ref p), some (.ref fl), some (.ref kt), v3] ∧ SqT K H' kt (NatL kn) ∧ kn.length ≤ 8 * i ∧ (∀ j, j ∈ kn ↔ j < n ∧ ∃ w, w < i ∧ Conn ss w j) ∧
        LstN K H' fl ((firsts i ss).map (comp n ss)) ∧ Same H H')
      ⟨kt, [], _, rfl, ekt, by simp, (fun j => ⟨fun h => (by cases h), fun ⟨_, ⟨w, hw, _⟩⟩ => absurd hw (by omega)⟩), ⟨[], efl, Each.nil⟩, s2⟩ ?_ ?_
    · rintro i σ H3 hi ⟨kt, kn, v3, rfl, h1, h2, h3, h4, h5⟩
      have hi2 : i < n := by omega
      have e0 : (0 : Int) + i = i := by omega
      rw [e0]
      refine ⟨_, rfl, _, rfl, kt, _, rfl, .inr h1, rfl, flat_nat kn, ?_⟩
      rw [inV_nat]
      by_cases c : i ∈ kn
      · refine ⟨false, by simp [c], ?_⟩
        dsimp only
        rw [if_neg (by simp)]
        obtain ⟨_, w, w2, w3⟩ := (h3 i).mp c
        refine ⟨kt, kn, _, rfl, h1, by omega, fun j => ?_, ?_, h5⟩
        · rw [h3 j]
          constructor
          · rintro ⟨j1, v, v1, v2⟩
            exact ⟨j1, v, by omega, v2⟩
          · rintro ⟨j1, v, v1, v2⟩
            by_cases z : v = i
            · subst z; exact ⟨j1, w, w2, w3.trans v2⟩
            · exact ⟨j1, v, by omega, v2⟩
        · rw [(firsts_succ i ss).2 fun z => z w w2 w3]
          exact h4
      · refine ⟨true, by simp [c], ?_⟩
        dsimp only
        rw [if_pos rfl]
        have first : First ss i := fun j hj z => c ((h3 i).mpr ⟨hi2, j, hj, z⟩)
        obtain ⟨as, a1, a2⟩ := id h4
        refine ⟨_, rfl, .inl ⟨rfl, _, SqL.of a1⟩, _, rfl, _, rfl, p, n, i, ss, rfl, hp.same h5, ok, hi2, fun q H4 s4 t4 => ?_⟩
        obtain ⟨acc, b1, b2, b3⟩ := h4.push s4 t4
        rw [List.length_map] at b2
        have fl2 := firsts_len i ss
        refine ⟨fl, acc, _, rfl, rfl, b1, small1000 (by omega), ?_⟩
        have im : Imm H4 (upd H4 fl (.lst (acc ++ [.ref q]))) := Imm.lst b1
        have s5 : Same H (upd H4 fl (.lst (acc ++ [.ref q]))) := same_new (h5.trans s4) nfl
        have t5 := t4.imm im
        have k5 := imm_tup im (same_tup s4 h1)
        have e5 : upd H4 fl (.lst (acc ++ [.ref q])) fl = some (.lst (acc ++ [.ref q])) := upd_same
        generalize upd H4 fl (.lst (acc ++ [.ref q])) = H5 at s5 t5 k5 e5 b3
        refine ⟨_, rfl, _, rfl, _, rfl, fl, _, _, _, rfl, rfl, SqL.of e5, atI_last _ _, ?_⟩
        refine catA_any k5 t5 ?_ fun z H6 s6 t6 => ?_
        · have := comp_len n ss i
          unfold NatL
          rw [List.length_map, List.length_map]
          exact Nat.le_trans (show _ ≤ 100 by omega) (by decide)
        refine ⟨z, kn ++ comp n ss i, _, rfl, ?_, ?_, fun j => ?_, ?_, s5.trans s6⟩
        · unfold NatL at t6 ⊢
          rw [List.map_append]
          exact t6
        · have := comp_len n ss i
          rw [List.length_append]
          omega
        · rw [List.mem_append, h3 j, mem_comp]
          constructor
          · rintro (⟨j1, v, v1, v2⟩ | ⟨j1, v⟩)
            · exact ⟨j1, v, by omega, v2⟩
            · exact ⟨j1, i, by omega, v⟩
          · rintro ⟨j1, v, v1, v2⟩
            by_cases z : v = i
            · subst z; exact .inr ⟨j1, v2⟩
            · exact .inl ⟨j1, v, by omega, v2⟩
        · rw [(firsts_succ i ss).1 first, List.map_append]
          exact b3.same s6
    · rintro σ H3 ⟨kt, kn, v3, rfl, h1, h2, h3, h4, h5⟩
      exact ⟨_, rfl, k fl H3 h5 nfl h4⟩

end Fair

set_option Elab.async false
set_option linter.all false
set_option maxRecDepth 100000
set_option maxHeartbeats 1000000
namespace Fair
open PySem PySem.Spec PyProof.Rows L2
/-! ### the two dicts of the scales -/
def ScF (K : PySem.W.Frag) (H : Hp) (d : Addr) (fs : List Nat) (f : Nat → Rat) : Prop := ∃ g : Nat → Addr, H d = some (.dK (dkv fs fun j => .ref (g j))) ∧ ∀ j ∈ fs, ExAt K H (g j) (f j)
def ScW (K : PySem.W.Frag) (H : Hp) (d : Addr) (fs : List Nat) : Prop := ∃ g : Nat → Addr, H d = some (.dK (dkv fs fun j => .ref (g j))) ∧ ∀ j ∈ fs, ∃ ys, SqT K H (g j) ys ∧ ys.length ≤ fs.length
section
variable {K : PySem.W.Frag} {H H' H0 : Hp} {d z : Addr} {fs : List Nat} {f : Nat → Rat} {j : Nat} {v : Rat}
theorem ScF.mono (h : ScF K H d fs f) (s : Imm H H') (e : H' d = H d) : ScF K H' d fs f := let ⟨g, h1, h2⟩ := h; ⟨g, by rw [e]; exact h1, fun j hj => (h2 j hj).imm s⟩
theorem ScW.mono (h : ScW K H d fs) (s : Imm H H') (e : H' d = H d) : ScW K H' d fs := let ⟨g, h1, h2⟩ := h; ⟨g, by rw [e]; exact h1, fun j hj => let ⟨ys, q, l⟩ := h2 j hj; ⟨ys, imm_tup s q, l⟩⟩
theorem ScF.isD (h : ScF K H d fs f) : ∃ kvs, H d = some (.dK kvs) := let ⟨_, h1, _⟩ := h; ⟨_, h1⟩
theorem ScW.isD (h : ScW K H d fs) : ∃ kvs, H d = some (.dK kvs) := let ⟨_, h1, _⟩ := h; ⟨_, h1⟩
theorem ScF.same (h : ScF K H d fs f) (s : Same H H') : ScF K H' d fs f := h.mono (Imm.of s) (by obtain ⟨kvs, e⟩ := h.isD; rw [e]; exact s _ _ e)
theorem ScW.same (h : ScW K H d fs) (s : Same H H') : ScW K H' d fs := h.mono (Imm.of s) (by obtain ⟨kvs, e⟩ := h.isD; rw [e]; exact s _ _ e)
theorem ScF.get (h : ScF K H d fs f) (hj : j ∈ fs) : ∃ p0, DGet H d (.int j) (some (.ref p0)) ∧ ExAt K H p0 (f j) := by
  obtain ⟨g, h1, h2⟩ := h
  have q := dget_dkv h1 j
  rw [if_pos hj] at q
  exact ⟨_, q, h2 j hj⟩
theorem ScF.has (h : ScF K H d fs f) (j : Nat) : ∃ o, DGet H d (.int j) o ∧ o.isSome = decide (j ∈ fs) := by
  obtain ⟨g, h1, h2⟩ := h
  refine ⟨_, dget_dkv h1 j, ?_⟩
  by_cases c : j ∈ fs
  · rw [if_pos c, decide_eq_true c]; rfl
  · rw [if_neg c, decide_eq_false c]; rfl
theorem ScW.get (h : ScW K H d fs) (hj : j ∈ fs) : ∃ p0 ys, DGet H d (.int j) (some (.ref p0)) ∧ SqT K H p0 ys ∧ ys.length ≤ fs.length := by
  obtain ⟨g, h1, h2⟩ := h
  have q := dget_dkv h1 j
  rw [if_pos hj] at q
  obtain ⟨ys, h3, h4⟩ := h2 j hj
  exact ⟨_, ys, q, h3, h4⟩
theorem ScF.put (h : ScF K H d fs f) (hz : ExAt K H z v) (hj : j ∉ fs) (hl : fs.length ≤ 1000) : ∃ kvs, DPut H d (.int j) (.ref z) (upd H d (.dK kvs)) ∧ ScF K (upd H d (.dK kvs)) d (fs ++ [j]) (putN f j v) := by
  obtain ⟨g, h1, h2⟩ := h
  have im : Imm H (upd H d (.dK (dkv (fs ++ [j]) fun i => if i = j then V.ref z else V.ref (g i)))) := Imm.dK h1
  refine ⟨_, dput_dkv h1 hj hl, fun i => if i = j then z else g i, ?_, fun i hi => ?_⟩
  · rw [upd_same]
    have eg : (fun i => if i = j then V.ref z else V.ref (g i)) = fun i => V.ref (if i = j then z else g i) := funext fun i => by split <;> rfl
    rw [eg]
  · unfold putN
    dsimp only
    by_cases c : i = j
    · rw [if_pos c, if_pos c]; exact hz.imm im
    · rw [if_neg c, if_neg c]
      refine (h2 i ?_).imm im
      rcases List.mem_append.mp hi with hi | hi
      · exact hi
      · simp at hi; exact absurd hi c
theorem ScW.put {ys : List V} (h : ScW K H d fs) (hz : SqT K H z ys) (hy : ys.length ≤ fs.length + 1) (hj : j ∉ fs) (hl : fs.length ≤ 1000) : ∃ kvs, DPut H d (.int j) (.ref z) (upd H d (.dK kvs)) ∧ ScW K (upd H d (.dK kvs)) d (fs ++ [j]) := by
  obtain ⟨g, h1, h2⟩ := h
  have im : Imm H (upd H d (.dK (dkv (fs ++ [j]) fun i => if i = j then V.ref z else V.ref (g i)))) := Imm.dK h1
  refine ⟨_, dput_dkv h1 hj hl, fun i => if i = j then z else g i, ?_, fun i hi => ?_⟩
  · rw [upd_same]
    have eg : (fun i => if i = j then V.ref z else V.ref (g i)) = fun i => V.ref (if i = j then z else g i) := funext fun i => by split <;> rfl
    rw [eg]
  · rw [List.length_append]
    dsimp only
    by_cases c : i = j
    · rw [if_pos c]; exact ⟨ys, imm_tup im hz, hy⟩
    · rw [if_neg c]
      rcases List.mem_append.mp hi with hi | hi
      · obtain ⟨ys2, q, l⟩ := h2 i hi
        exact ⟨ys2, imm_tup im q, Nat.le_succ_of_le l⟩
      · simp at hi; exact absurd hi c
end
structure SA (K : PySem.W.Frag) (H0 H : Hp) (d1 d2 q : Addr) (as : List Addr) (n : Nat) (ss : List Stl) (i : Nat) (fs gs : List Nat) (f : Nat → Rat) : Prop where
  fo : ScF K H d1 fs f
  wa : ScW K H d2 gs
  sm : Same H0 H
  ql : H q = some (.lst (as.map V.ref))
  qe : Each (TupN K H) as (pcs n ss)
  ro : ∀ j ∈ fs, ∃ r ∈ (firsts n ss).take i, Conn ss r j
  al : ∀ r ∈ (firsts n ss).take i, r ∈ fs
  n1 : H0 d1 = none
  n2 : H0 d2 = none
  ne : d1 ≠ d2
section
variable {K : PySem.W.Frag} {H H' H0 : Hp} {d1 d2 q z l : Addr} {as : List Addr} {n i j : Nat} {ss : List Stl} {fs gs : List Nat} {f : Nat → Rat} {v : Rat}
theorem SA.same (h : SA K H0 H d1 d2 q as n ss i fs gs f) (s : Same H H') : SA K H0 H' d1 d2 q as n ss i fs gs f :=
  ⟨h.fo.same s, h.wa.same s, h.sm.trans s, s _ _ h.ql, h.qe.mono fun _ _ t => t.imm (Imm.of s), h.ro, h.al, h.n1, h.n2, h.ne⟩
theorem SA.lst (h : SA K H0 H d1 d2 q as n ss i fs gs f) {xs : List V} {o : HO} (hl : H l = some (.lst xs)) (n0 : H0 l = none) (nq : q ≠ l) : SA K H0 (upd H l o) d1 d2 q as n ss i fs gs f := by
  obtain ⟨k1, e1⟩ := h.fo.isD
  obtain ⟨k2, e2⟩ := h.wa.isD
  exact ⟨h.fo.mono (Imm.lst hl) (upd_ne (ne_of e1 hl (by intro z; cases z))), h.wa.mono (Imm.lst hl) (upd_ne (ne_of e2 hl (by intro z; cases z))), same_new h.sm n0, by rw [upd_ne nq]; exact h.ql, h.qe.mono fun _ _ t => t.imm (Imm.lst hl), h.ro, h.al, h.n1, h.n2, h.ne⟩
theorem SA.put1 (h : SA K H0 H d1 d2 q as n ss i fs gs f) (hz : ExAt K H z v) (hj : j ∉ fs) (hl : fs.length ≤ 1000) {i' : Nat} (hi : i ≤ i') (hr : ∃ r ∈ (firsts n ss).take i', Conn ss r j) (ha : ∀ r ∈ (firsts n ss).take i', r ∈ fs ++ [j]) :
    ∃ kvs, DPut H d1 (.int j) (.ref z) (upd H d1 (.dK kvs)) ∧ SA K H0 (upd H d1 (.dK kvs)) d1 d2 q as n ss i' (fs ++ [j]) gs (putN f j v) := by
  obtain ⟨kvs, a, b⟩ := h.fo.put hz hj hl
  obtain ⟨k1, e1⟩ := h.fo.isD
  have im : Imm H (upd H d1 (.dK kvs)) := Imm.dK e1
  refine ⟨kvs, a, b, h.wa.mono im (upd_ne h.ne.symm), same_new h.sm h.n1, by rw [upd_ne (ne_of h.ql e1 (by intro z; cases z))]; exact h.ql, h.qe.mono fun _ _ t => t.imm im, fun x hx => ?_, ha, h.n1, h.n2, h.ne⟩
  rcases List.mem_append.mp hx with hx | hx
  · obtain ⟨r, r1, r2⟩ := h.ro x hx
    exact ⟨r, (List.take_subset_take_left _ hi) r1, r2⟩
  · simp at hx; subst hx; exact hr
theorem SA.put2 (h : SA K H0 H d1 d2 q as n ss i (fs ++ [j]) fs f) {ys : List V} (hz : SqT K H z ys) (hy : ys.length ≤ fs.length + 1) (hj : j ∉ fs) (hl : fs.length ≤ 1000) :
    ∃ kvs, DPut H d2 (.int j) (.ref z) (upd H d2 (.dK kvs)) ∧ SA K H0 (upd H d2 (.dK kvs)) d1 d2 q as n ss i (fs ++ [j]) (fs ++ [j]) f := by
  obtain ⟨kvs, a, b⟩ := h.wa.put hz hy hj hl
  obtain ⟨k1, e1⟩ := h.wa.isD
  have im : Imm H (upd H d2 (.dK kvs)) := Imm.dK e1
  exact ⟨kvs, a, h.fo.mono im (upd_ne h.ne), b, same_new h.sm h.n2, by rw [upd_ne (ne_of h.ql e1 (by intro z; cases z))]; exact h.ql, h.qe.mono fun _ _ t => t.imm im, h.ro, h.al, h.n1, h.n2, h.ne⟩
end
theorem ScF.row {K : PySem.W.Frag} {H : Hp} {d : Addr} {n : Nat} {fs : List Nat} {f : Nat → Rat} (h : ScF K H d fs f) (nd : fs.Nodup) (hm : ∀ j, j ∈ fs ↔ j < n) (hp : ∀ j, j < n → 0 < f j) : RowAt K H d n f := by
  obtain ⟨g, h1, h2⟩ := h
  refine ⟨fs, g, h1, nd, fun j => ?_, h2⟩
  rw [hm j]
  exact ⟨fun q => ⟨q, fun z => by have := hp j q; rw [z] at this; exact absurd this (by decide)⟩, fun q => q.1⟩
open Classical in
/-- the uneven pieces among the first i -/
noncomputable def unevTo (n : Nat) (ss : List Stl) (i : Nat) : List (List Nat) := (((firsts n ss).take i).filter fun w => decide (¬ Evn ss w)).map (comp n ss)
open Classical in
theorem unevTo_succ {n : Nat} {ss : List Stl} {i w : Nat} (h : (firsts n ss)[i]? = some w) : (Evn ss w → unevTo n ss (i + 1) = unevTo n ss i) ∧ (¬ Evn ss w → unevTo n ss (i + 1) = unevTo n ss i ++ [comp n ss w]) := by
  unfold unevTo
  rw [take_snoc h, List.filter_append, List.map_append]
  constructor
  · intro q; simp [q]
  · intro q; simp [q]
open Classical in
theorem unevTo_all {n : Nat} {ss : List Stl} : unevTo n ss (firsts n ss).length = unev n ss := by
  unfold unevTo unev
  rw [List.take_length]
theorem unevTo_len {n : Nat} {ss : List Stl} {i : Nat} : (unevTo n ss i).length ≤ i := by
  unfold unevTo
  rw [List.length_map]
  exact Nat.le_trans (List.length_filter_le _ _) (List.length_take_le _ _)
theorem inV2 (u v c : Nat) : inV (V.int (c : Int)) [V.int (u : Int), V.int (v : Int)] = decide (u = c ∨ v = c) := by
  have := inV_nat c [u, v]
  show inV (V.int (c : Int)) (NatL [u, v]) = _
  rw [this]
  by_cases h1 : c = u
  · subst h1; simp
  · by_cases h2 : c = v
    · subst h2; simp
    · have h3 : ¬ u = c := fun z => h1 z.symm
      have h4 : ¬ v = c := fun z => h2 z.symm
      simp [h1, h2, h3, h4]
end Fair

set_option Elab.async false
set_option linter.all false
set_option maxRecDepth 100000
set_option maxHeartbeats 4000000
namespace Fair
open PySem PySem.Spec PyProof.Rows L2
/-! ### ScalesAndWays -/
theorem ok_ScalesAndWays {P : Program} {w : World} {K : PySem.W.Frag} {mg : Str → Option Value} {base : Heap} (T : TX K mg) (D : Dx K mg "scales_and_ways" sScalesAndWays)
    (c_Pieces : C8.Cal P w K mg base 7 "pieces" (spPieces K) [])
    (c_ExactInit : C8.Mak P w K mg base 2 "Exact" (cE K) (spExactInit K) [])
    (c_OtherWare : C8.Cal P w K mg base 1 "other_ware" (spOtherWare K) [])
    (c_NextScale : C8.Cal P w K mg base 6 "next_scale" (spNextScale K) []) : C8.Cal P w K mg base 8 "scales_and_ways" (spScales K) [] := by
  refine D.cal scScalesAndWays (fun _ _ _ _ _ _ us hl => match us, hl with | [_], _ => rfl) (fun vs H Q E h => ?_) (fun f cdv A outer s H vs Q E hr h => ?_)
  · obtain ⟨p, n, ss, rfl, hp, ok, k⟩ := h
    rfl
  · obtain ⟨p, n, ss, rfl, hp, ok, k⟩ := h
    have hu := hu_of hr
    refine ⟨_, (pss_cons (ps_set (i := 1) scScalesAndWays.nd rfl (by first | exact Or.inl rfl | exact Or.inr rfl) pe_dnewK)
        (pss_cons (ps_set (i := 2) scScalesAndWays.nd rfl (by first | exact Or.inl rfl | exact Or.inr rfl) pe_dnewK)
        (pss_cons (ps_for PassesOwn.never rfl (pi_list (C8.pe_c c_Pieces hr (by decide) (by rfl) (pa_cons (pv 0) pa_nil))) (pg_name (i := 3) scScalesAndWays.nd rfl (by first | exact Or.inl rfl | exact Or.inr rfl))
        (pss_cons (ps_dput hu (pv 1) (pe_ix ix_tup (pv 3) pe_int (fun _ _ => rfl)) (C8.pe_mk c_ExactInit hr (by decide) (by rfl) (pa_cons pe_int (pa_cons pe_int pa_nil))) rfl)
        (pss_cons (ps_dput hu (pv 2) (pe_ix ix_tup (pv 3) pe_int (fun _ _ => rfl)) (pe_tup pa_nil) rfl)
        (pss_cons (ps_set (i := 4) scScalesAndWays.nd rfl (by first | exact Or.inl rfl | exact Or.inr rfl) (pe_lst (pa_cons (pe_ix ix_tup (pv 3) pe_int (fun _ _ => rfl)) pa_nil)))
        (pss_one (ps_while PassesOwn.never (pt_cmpR (op_neD hr.units) (pv 4) (pe_lst pa_nil) (nomark _)) (pss_cons (ps_set (i := 5) scScalesAndWays.nd rfl (by first | exact Or.inl rfl | exact Or.inr rfl) (pe_bm0 PySem.F.plainAttrs_list PySem.F.slot_list_pop PySem.F.type_list_pop mt_pop (pv 4)))
        (pss_one (ps_for PassesOwn.never rfl (pi_enumT (by rfl) T.f_enumerate (pa_cons (pe_fld (pv 0) rfl) pa_nil)) (pg_tup rfl (pgs_cons (pg_name (i := 6) scScalesAndWays.nd rfl (by first | exact Or.inl rfl | exact Or.inr rfl)) (pgs_cons (pg_name (i := 7) scScalesAndWays.nd rfl (by first | exact Or.inl rfl | exact Or.inr rfl)) pgs_nil)))
        (pss_one (ps_if (PW.pt (pw_and (pt_cmpR op_in_seq (pv 5) (pe_slice sl_tupA (pv 7) po_none (po_some pe_int)) (by rfl)) (pw_and1 (pt_cmp (pc_dnotin hu (C8.pe_c c_OtherWare hr (by decide) (by rfl) (pa_cons (pv 7) (pa_cons (pv 5) pa_nil))) (pv 1)))))) (pss_cons (ps_set (i := 8) scScalesAndWays.nd rfl (by first | exact Or.inl rfl | exact Or.inr rfl) (C8.pe_c c_OtherWare hr (by decide) (by rfl) (pa_cons (pv 7) (pa_cons (pv 5) pa_nil))))
        (pss_cons (ps_dput hu (pv 1) (pv 8) (C8.pe_c c_NextScale hr (by decide) (by rfl) (pa_cons (pv 7) (pa_cons (pv 5) (pa_cons (pe_dget hu (pv 1) (pv 5) (fun _ _ => rfl)) pa_nil)))) rfl)
        (pss_cons (ps_dput hu (pv 2) (pv 8) (pe_op op_catA (pe_dget hu (pv 2) (pv 5) (fun _ _ => rfl)) (pe_tup (pa_cons (pe_tup (pa_cons (pv 6) (pa_cons (pv 5) pa_nil))) pa_nil))) rfl)
        (pss_one (ps_expr (pe_bm PySem.F.plainAttrs_list PySem.F.slot_list_append PySem.F.type_list_append mt_append (pv 4) (pa_cons (pv 8) pa_nil)))))))
        pss_nil)))))))))))
        (pss_one (ps_ret (pe_tup (pa_cons (pv 1) (pa_cons (pv 2) pa_nil)))))))), ?_⟩
    have n8 := ok.n8
    have oks := ok.ok
    obtain ⟨dx, t, hw, bs, hq, he⟩ := id hp
    intro d1 nd1 d2 nd2
    have s2 : Same H (upd (upd H d1 (.dK [])) d2 (.dK [])) := same_of_upd (same_upd1 nd1) nd2
    have hne : d1 ≠ d2 := fun z => by rw [← z, upd_same] at nd2; cases nd2
    have nd2' : H d2 = none := (same_upd1 nd1).free nd2
    have e1 : upd (upd H d1 (.dK [])) d2 (.dK []) d1 = some (.dK []) := by rw [upd_ne hne, upd_same]
    have e2 : upd (upd H d1 (.dK [])) d2 (.dK []) d2 = some (.dK []) := upd_same
    generalize upd (upd H d1 (.dK [])) d2 (.dK []) = H2 at s2 e1 e2
    refine ⟨_, rfl, p, n, ss, rfl, hp.same s2, ok, fun q H3 s3 nq ⟨as, q1, q2⟩ => ?_⟩
    refine ⟨q, rfl, ⟨_, SqL.of q1⟩, for_list (K := K) (a := q) (xs := as.map V.ref) (fun i σ H' => ∃ (fs : List Nat) (f : Nat → Rat) (v3 v4 v5 v6 v7 v8 : Option V), σ = [some (.ref p), some (.ref d1), some (.ref d2), v3, v4, v5, v6, v7, v8] ∧ SA K H H' d1 d2 q as n ss i fs fs f ∧ FI n ss f fs [] none)
      ⟨[], fun _ => 0, _, _, _, _, _, _, rfl, ⟨⟨fun _ => 0, s3 _ _ e1, fun j hj => by cases hj⟩, ⟨fun _ => 0, s3 _ _ e2, fun j hj => by cases hj⟩, s2.trans s3, q1, q2, fun j hj => (by cases hj), fun r hr => (by cases hr), nd1, nd2', hne⟩,
        ⟨List.nodup_nil, fun j hj => (by cases hj), fun j hj => (by cases hj), fun j hj => (by cases hj), fun j hj => (by cases hj), fun j hj => (by cases hj), fun j hj => (by cases hj)⟩⟩ (fun i σ H' _ ⟨_, _, _, _, _, _, _, _, _, sa, _⟩ => SqL.of sa.ql) ?_ ?_⟩
    · rintro i y σ H4 hi ⟨fs, f1, v3, v4, v5, v6, v7, v8, rfl, sa, fi⟩
      obtain ⟨a, c, rfl, ha, hc, ta⟩ := sa.qe.get hi
      unfold pcs at hc
      rw [List.getElem?_map] at hc
      obtain ⟨w0, hw0, rfl⟩ : ∃ w0, (firsts n ss)[i]? = some w0 ∧ c = comp n ss w0 := by
        cases e : (firsts n ss)[i]? with
        | none => rw [e] at hc; cases hc
        | some j => rw [e] at hc; exact ⟨j, rfl, (Option.some.inj hc).symm⟩
      obtain ⟨wn, wf⟩ := mem_firsts.mp (List.mem_of_getElem? hw0)
      obtain ⟨rest, ecomp⟩ := comp_head wn wf
      have hta : SqT K H4 a (NatL (comp n ss w0)) := ta
      rw [ecomp] at hta
      have rnd : (firsts n ss).Nodup := List.nodup_range.filter _
      have et := take_snoc hw0
      have nin : w0 ∉ fs := fun z => by
        obtain ⟨r, r1, r2⟩ := sa.ro w0 z
        have er : r = w0 := (mem_firsts.mp (List.mem_of_mem_take r1)).2.eq wf r2
        subst er
        obtain ⟨x, hx, e⟩ := List.mem_iff_getElem.mp r1
        rw [List.length_take] at hx
        rw [List.getElem_take] at e
        have := nd_ix rnd (show (firsts n ss)[x]? = some r by rw [List.getElem?_eq_getElem (by omega), e]) hw0
        omega
      have fl := fi.len
      have fi2 := fi.root wn wf nin
      intro z dz nz ndz nez
      refine ⟨z, dz, 1, 1, rfl, upd_same, by decide, by decide, fun H5 x5 f5 => ⟨rfl, ?_⟩⟩
      have s5 : Same H4 H5 := Same.made nz ndz f5
      rw [show Rat.divInt 1 1 = (1 : Rat) from rfl] at x5
      have sa5 := sa.same s5
      have t5 := same_tup s5 hta
      obtain ⟨kvs, dp, sa6⟩ := sa5.put1 x5 nin (by omega) (Nat.le_succ i) ⟨w0, by rw [et]; simp, .refl⟩ (fun r hr => by
        rw [et] at hr
        rcases List.mem_append.mp hr with hr | hr
        · exact List.mem_append_left _ (sa.al r hr)
        · exact List.mem_append_right _ hr)
      refine ⟨_, rfl, _, rfl, a, _, _, _, rfl, rfl, t5, atI_nat (j := 0) rfl, d1, _, rfl, dp, ?_⟩
      obtain ⟨kv0, ek0⟩ := sa5.fo.isD
      have t6 := imm_tup (Imm.dK (o := .dK kvs) ek0) t5
      generalize upd H5 d1 (.dK kvs) = H6 at sa6 t6
      refine ⟨(by show 0 ≤ sizeLine; decide), fun u nu => ?_⟩
      have s7 : Same H6 (upd H6 u (.tup [])) := same_upd1 nu
      have sa7 := sa6.same s7
      have t7 := same_tup s7 t6
      have u7 : SqT K (upd H6 u (.tup [])) u [] := SqT.of upd_same
      generalize upd H6 u (.tup []) = H7 at sa7 t7 u7
      obtain ⟨kvs2, dp2, sa8⟩ := sa7.put2 u7 (Nat.zero_le _) nin (by omega)
      refine ⟨_, rfl, _, rfl, a, _, _, _, rfl, rfl, t7, atI_nat (j := 0) rfl, d2, _, rfl, dp2, ?_⟩
      obtain ⟨kv1, ek1⟩ := sa7.wa.isD
      have t8 := imm_tup (Imm.dK (o := .dK kvs2) ek1) t7
      generalize upd H7 d2 (.dK kvs2) = H8 at sa8 t8
      refine ⟨_, rfl, a, _, _, _, rfl, rfl, t8, atI_nat (j := 0) rfl, (by show 1 ≤ sizeLine; decide), fun l nl => ?_⟩
      have s9 : Same H8 (upd H8 l (.lst (NatL [w0]))) := same_upd1 nl
      have nl0 : H l = none := sa8.sm.free nl
      have nql : q ≠ l := ne_of_none sa8.ql nl
      have sa9 := sa8.same s9
      have l9 : upd H8 l (.lst (NatL [w0])) l = some (.lst (NatL [w0])) := upd_same
      refine ⟨fun m σ H' => ∃ (fs ws : List Nat) (f : Nat → Rat) (v5 v6 v7 v8 : Option V), σ = [some (.ref p), some (.ref d1), some (.ref d2), some (.ref a), some (.ref l), v5, v6, v7, v8] ∧ SA K H H' d1 d2 q as n ss (i + 1) fs fs f ∧ FI n ss f fs ws none ∧ H' l = some (.lst (NatL ws)) ∧ m = 2 * (n - fs.length) + ws.length ∧ m ≤ 20,
        ⟨_, _, [w0], _, _, _, _, _, rfl, sa9, fi2, l9, rfl, by show 2 * (n - _) + 1 ≤ 20; omega⟩, ?_⟩
      clear sa9 l9 s9 nl sa8 t8 sa7 t7 u7 sa6 t6 sa5 t5 fi2 fi sa
      rintro m σ H10 ⟨fs, ws, f1, v5, v6, v7, v8, rfl, sa, fi, hl, rfl, m20⟩
      refine ⟨_, rfl, (by show 0 ≤ sizeLine; decide), fun e ne => ?_⟩
      have s11 : Same H10 (upd H10 e (.lst [])) := same_upd1 ne
      refine ne_nil (s11 _ _ hl) upd_same ⟨_, rfl, ?_⟩
      have hl11 := s11 _ _ hl
      have sa11 := sa.same s11
      generalize upd H10 e (.lst []) = H11 at hl11 sa11
      rcases List.eq_nil_or_concat ws with rfl | ⟨ws', c, rfl⟩
      · dsimp only
        rw [if_neg (by simp)]
        exact ⟨fs, f1, _, _, _, _, _, _, rfl, sa11, fi⟩
      · dsimp only
        rw [if_pos (by simp)]
        rw [List.concat_eq_append] at fi hl11 m20 ⊢
        obtain ⟨fi1, cf⟩ := fi.pop
        have hm : 2 * (n - fs.length) + ws'.length < 2 * (n - fs.length) + (ws' ++ [c]).length := by rw [List.length_append]; show _ < _ + (_ + 1); omega
        generalize 2 * (n - fs.length) + (ws' ++ [c]).length = m at hm m20
        refine ⟨fun σ' H' => ∃ (fs ws : List Nat) (f : Nat → Rat) (v5 v6 v7 v8 : Option V), σ' = [some (.ref p), some (.ref d1), some (.ref d2), some (.ref a), some (.ref l), v5, v6, v7, v8] ∧ SA K H H' d1 d2 q as n ss (i + 1) fs fs f ∧ FI n ss f fs ws none ∧ H' l = some (.lst (NatL ws)) ∧ 2 * (n - fs.length) + ws.length < m,
          fun σ' H' ⟨fs, ws, f, v5, v6, v7, v8, a1, a2, a3, a4, a5⟩ => ⟨_, a5, fs, ws, f, v5, v6, v7, v8, a1, a2, a3, a4, rfl, by omega⟩, ?_⟩
        have eN : NatL (ws' ++ [c]) = NatL ws' ++ [.int c] := by unfold NatL; rw [List.map_append]; rfl
        refine ⟨_, rfl, .inl ⟨rfl, _, SqL.of hl11⟩, l, _, .int c, rfl, rfl, hl11, ?_, ?_⟩
        · rw [eN]; simp
        rw [eN, List.dropLast_concat]
        have sa12 := sa11.lst (o := .lst (NatL ws')) hl11 nl0 nql
        have l12 : upd H11 l (.lst (NatL ws')) l = some (.lst (NatL ws')) := upd_same
        generalize upd H11 l (.lst (NatL ws')) = H12 at sa12 l12
        refine ⟨_, rfl, p, _, dx, _, _, rfl, sa12.sm _ _ hw, T.clW, T.nStalls, wbF_s n t, t, _, rfl, same_tup sa12.sm hq, ?_⟩
        refine for_enumT (K := K) (a := t) (xs := bs.map V.ref) (fun k σ H' => ∃ (fs ws : List Nat) (f : Nat → Rat) (v6 v7 v8 : Option V), σ = [some (.ref p), some (.ref d1), some (.ref d2), some (.ref a), some (.ref l), some (.int c), v6, v7, v8] ∧ SA K H H' d1 d2 q as n ss (i + 1) fs fs f ∧ FI n ss f fs ws (some c) ∧ H' l = some (.lst (NatL ws)) ∧ c ∈ fs ∧
            (∀ s ∈ ss.take k, s.u = c ∨ s.v = c → s.oth c ∈ fs) ∧ 2 * (n - fs.length) + ws.length < m)
          ⟨fs, ws', f1, _, _, _, rfl, sa12, fi1, l12, cf, fun s hs => (by cases hs), hm⟩ (fun k σ H' _ ⟨_, _, _, _, _, _, _, z, _⟩ => same_tup z.sm hq) ?_ ?_
        · clear fi1 cf hm sa12 l12 hl11 sa11 fi sa eN
          rintro k x σ H13 t1 hk ⟨fs, ws, f1, v6, v7, v8, rfl, sa, fi, hl, cf, pr, hm⟩ nt1
          obtain ⟨b, s, rfl, hb, hs, hst⟩ := he.get hk
          have sm := List.mem_of_getElem? hs
          have sok := oks s sm
          have s14 : Same H13 (upd H13 t1 (.tup [.int k, .ref b])) := same_upd1 nt1
          refine ⟨t1, _, rfl, SqT.of upd_same, rfl, _, _, rfl, _, _, rfl, rfl, ?_⟩
          have sa14 := sa.same s14
          have l14 := s14 _ _ hl
          generalize upd H13 t1 (.tup [.int k, .ref b]) = H14 at sa14 l14
          have hb14 := hst.same sa14.sm
          obtain ⟨th, tg, tr, h0, _⟩ := id hb14
          have key : ∀ (fs : List Nat), (∀ s ∈ ss.take k, s.u = c ∨ s.v = c → s.oth c ∈ fs) → (s.u = c ∨ s.v = c → s.oth c ∈ fs) → ∀ s ∈ ss.take (k + 1), s.u = c ∨ s.v = c → s.oth c ∈ fs := fun fs h1 h2 x hx => by
            rw [take_snoc hs] at hx
            rcases List.mem_append.mp hx with hx | hx
            · exact h1 x hx
            · simp at hx; subst hx; exact h2
          refine ⟨_, rfl, _, rfl, _, rfl, ?_⟩
          dsimp only [tNoPart]
          refine slA_any h0 fun t2 H15 s15 tt15 => ?_
          have sa15 := sa14.same s15
          have l15 := s15 _ _ l14
          have h15 : StlAt K H15 b s := hst.same sa15.sm
          have tt : SqT K H15 t2 [.int s.u, .int s.v] := tt15
          have ei : inV (V.int (c : Int)) [V.int (s.u : Int), V.int (s.v : Int)] = decide (s.u = c ∨ s.v = c) := inV2 s.u s.v c
          refine ⟨t2, _, rfl, .inr tt, rfl, rfl, decide (s.u = c ∨ s.v = c), congrArg V.bl ei, ?_⟩
          by_cases hc : s.u = c ∨ s.v = c
          · rw [decide_eq_true hc]
            refine iteT ?_
            obtain ⟨o, go, io⟩ := sa15.fo.has (s.oth c)
            refine ⟨_, rfl, _, rfl, b, s, c, rfl, h15, _, rfl, d1, o, rfl, go, _, rfl, ?_⟩
            rw [io]
            by_cases hd : s.oth c ∈ fs
            · rw [decide_eq_true hd]
              refine iteF ?_
              exact ⟨fs, ws, f1, _, _, _, rfl, sa15, fi, l15, cf, key fs pr fun _ => hd, hm⟩
            · rw [decide_eq_false hd]
              refine iteT ?_
              have fl := fi.len
              obtain ⟨p0, g0, x0⟩ := sa15.fo.get cf
              have smc := fi.sm c cf
              have sl : 66 * fs.length ≤ 600 := by omega
              refine ⟨_, rfl, _, rfl, b, s, c, rfl, h15, ?_⟩
              refine ⟨_, rfl, _, rfl, _, rfl, _, rfl, d1, _, rfl, g0, b, p0, s, c, f1 c, rfl, h15, x0, smc.mono (by omega), sok.oh, sok.og, sok.or, sok.r0, sok.oo smc (by omega), fun p1 H16 s16 n16 x16 => ?_⟩
              have sa16 := sa15.same s16
              have fi3 := fi.add cf sm sok hc hd
              have adj : Conn ss c (s.oth c) := by
                refine .one ⟨s, sm, ?_⟩
                unfold Stl.oth
                by_cases z : s.u = c
                · rw [if_pos z]; exact .inl ⟨z, rfl⟩
                · rw [if_neg z]; exact .inr ⟨hc.resolve_left z, rfl⟩
              obtain ⟨kvs3, dp3, sa17⟩ := sa16.put1 x16 hd (by omega) (Nat.le_refl _) (by
                obtain ⟨r, r1, r2⟩ := sa16.ro c cf
                exact ⟨r, r1, r2.trans adj⟩) (fun r hr => List.mem_append_left _ (sa16.al r hr))
              refine ⟨_, rfl, _, rfl, d1, _, rfl, dp3, ?_⟩
              obtain ⟨kv3, ek3⟩ := sa16.fo.isD
              have l17 : upd H16 d1 (.dK kvs3) l = some (.lst (NatL ws)) := by
                have := s16 _ _ l15
                rw [upd_ne (ne_of this ek3 (by intro z; cases z))]; exact this
              generalize upd H16 d1 (.dK kvs3) = H17 at sa17 l17
              obtain ⟨p2, ys, g2, y2, y3⟩ := sa17.wa.get cf
              refine ⟨_, rfl, _, rfl, d2, _, rfl, g2, ?_⟩
              refine ⟨_, rfl, _, rfl, (by show 2 ≤ sizeLine; decide), fun t3 nt3 => ?_⟩
              have s18 : Same H17 (upd H17 t3 (.tup [.int k, .int c])) := same_upd1 nt3
              refine ⟨(by show 1 ≤ sizeLine; decide), fun t4 nt4 => ?_⟩
              have s19 := same_of_upd (o := .tup [.ref t3]) s18 nt4
              have u19 : SqT K (upd (upd H17 t3 (.tup [.int k, .int c])) t4 (.tup [.ref t3])) t4 [.ref t3] := SqT.of upd_same
              have sa19 := sa17.same s19
              have l19 := s19 _ _ l17
              have y19 := same_tup s19 y2
              generalize upd (upd H17 t3 (.tup [.int k, .int c])) t4 (.tup [.ref t3]) = H19 at sa19 l19 y19 u19
              refine catA_any y19 u19 (Nat.le_trans (show _ ≤ 100 by show ys.length + 1 ≤ 100; omega) (by decide)) fun t5 H20 s20 u20 => ?_
              have sa20 := sa19.same s20
              obtain ⟨kvs4, dp4, sa21⟩ := sa20.put2 u20 (by rw [List.length_append]; show ys.length + 1 ≤ _; omega) hd (by omega)
              refine ⟨_, rfl, _, rfl, d2, _, rfl, dp4, ?_⟩
              obtain ⟨kv4, ek4⟩ := sa20.wa.isD
              have l21 : upd H20 d2 (.dK kvs4) l = some (.lst (NatL ws)) := by
                have := s20 _ _ l19
                rw [upd_ne (ne_of this ek4 (by intro z; cases z))]; exact this
              generalize upd H20 d2 (.dK kvs4) = H21 at sa21 l21
              refine ⟨_, rfl, .inl ⟨rfl, _, SqL.of l21⟩, _, rfl, l, _, _, rfl, rfl, l21, small1000 ?_, ?_⟩
              · rw [List.length_map]; omega
              have eW : NatL ws ++ [V.int ((s.oth c : Nat) : Int)] = NatL (ws ++ [s.oth c]) := by unfold NatL; rw [List.map_append]; rfl
              refine ⟨fs ++ [s.oth c], ws ++ [s.oth c], _, _, _, _, rfl, sa21.lst l21 nl0 nql, fi3, by rw [upd_same]; exact congrArg (fun z => some (HO.lst z)) eW, List.mem_append_left _ cf, key _ (fun s hs h => List.mem_append_left _ (pr s hs h)) (fun _ => List.mem_append_right _ (by simp)), ?_⟩
              have l3 := fi3.len
              rw [List.length_append] at l3
              have l3' : fs.length + 1 ≤ n := l3
              rw [List.length_append, List.length_append]
              show 2 * (n - (fs.length + 1)) + (ws.length + 1) < m
              omega
          · rw [decide_eq_false hc]
            refine iteF (iteF ?_)
            exact ⟨fs, ws, f1, _, _, _, rfl, sa15, fi, l15, cf, key fs pr fun h => absurd h hc, hm⟩
        · rintro σ H13 ⟨fs, ws, f1, v6, v7, v8, rfl, sa, fi, hl, cf, pr, hm⟩
          have eT : ss.take (bs.map V.ref).length = ss := List.take_of_length_le (by rw [List.length_map, he.1]; exact Nat.le_refl _)
          rw [eT] at pr
          refine ⟨fs, ws, f1, _, _, _, _, rfl, sa, fi.done fun d ⟨s, sm, hd⟩ => ?_, hl, hm⟩
          have sok := oks s sm
          rcases hd with ⟨h1, h2⟩ | ⟨h1, h2⟩
          · have := pr s sm (.inl h1)
            unfold Stl.oth at this
            rw [if_pos h1, h2] at this
            exact this
          · have := pr s sm (.inr h1)
            unfold Stl.oth at this
            rw [if_neg (fun z => sok.ne (z.trans h1.symm)), h2] at this
            exact this
    · rintro σ H4 ⟨fs, f1, v3, v4, v5, v6, v7, v8, rfl, sa, fi⟩
      have eT : (firsts n ss).take (as.map V.ref).length = firsts n ss := List.take_of_length_le (by
        have := q2.1
        unfold pcs at this
        rw [List.length_map] at this
        rw [List.length_map, this]; exact Nat.le_refl _)
      have al := sa.al
      rw [eT] at al
      obtain ⟨scl, mem⟩ := fi.scl n8 fun w hw hf => al w (mem_firsts.mpr ⟨hw, hf⟩)
      refine ⟨_, rfl, _, rfl, (by show 2 ≤ sizeLine; decide), fun u nu => ?_⟩
      have s5 : Same H4 (upd H4 u (.tup [.ref d1, .ref d2])) := same_upd1 nu
      exact k u d1 d2 f1 _ (sa.sm.trans s5) (SqT.of upd_same) ((sa.fo.same s5).row fi.nd mem scl.pos) scl

end Fair

set_option Elab.async false
set_option linter.all false
set_option maxRecDepth 100000
set_option maxHeartbeats 4000000
namespace Fair
open PySem PySem.Spec PyProof.Rows L2
/-! ### UnevenStall -/
theorem ok_UnevenStall {P : Program} {w : World} {K : PySem.W.Frag} {mg : Str → Option Value} {base : Heap} (T : TX K mg) (D : Dx K mg "uneven_stall" sUnevenStall)
    (c_NextScale : C8.Cal P w K mg base 6 "next_scale" (spNextScale K) [])
    (c_ExactEq : C8.Met P w K mg base 1 (cE K) "__eq__" (spEq K) []) : C8.Cal P w K mg base 7 "uneven_stall" (spUneven K) [] := by
  refine D.cal scUnevenStall (fun _ _ _ _ _ _ us hl => match us, hl with | [_, _], _ => rfl) (fun vs H Q E h => ?_) (fun f cdv A outer s H vs Q E hr h => ?_)
  · obtain ⟨p, d, n, ss, f1, rfl, hp, ok, hd, hs, k1, k2⟩ := h
    rfl
  · obtain ⟨p, d, n, ss, f1, rfl, hp, ok, hd, hs, k1, k2⟩ := h
    have hu := hu_of hr
    refine ⟨_, (pss_cons (ps_for PassesOwn.never rfl (pi_enumT (by rfl) T.f_enumerate (pa_cons (pe_fld (pv 0) rfl) pa_nil)) (pg_tup rfl (pgs_cons (pg_name (i := 2) scUnevenStall.nd rfl (by first | exact Or.inl rfl | exact Or.inr rfl)) (pgs_cons (pg_name (i := 3) scUnevenStall.nd rfl (by first | exact Or.inl rfl | exact Or.inr rfl)) pgs_nil)))
        (pss_one (ps_if (pt_cmpR (op_ownNe c_ExactEq T.neE T.obE hr (by decide)) (C8.pe_c c_NextScale hr (by decide) (by rfl) (pa_cons (pv 3) (pa_cons (pe_ix ix_tup (pv 3) pe_int (fun _ _ => rfl)) (pa_cons (pe_dget hu (pv 1) (pe_ix ix_tup (pv 3) pe_int (fun _ _ => rfl)) (fun _ _ => rfl)) pa_nil)))) (pe_dget hu (pv 1) (pe_ix ix_tup (pv 3) pe_int (fun _ _ => rfl)) (fun _ _ => rfl)) (nomark _)) (pss_one (ps_ret (pv 2)))
        pss_nil)))
        (pss_one (ps_ret pe_non))), ?_⟩
    have oks := ok.ok
    obtain ⟨dx, t, hw, bs, hq, he⟩ := id hp
    refine ⟨_, rfl, p, _, dx, _, _, rfl, hw, T.clW, T.nStalls, wbF_s n t, t, _, rfl, hq, ?_⟩
    refine for_enumT (K := K) (a := t) (xs := bs.map V.ref) (fun i σ H' => ∃ (v2 v3 : Option V), σ = [some (.ref p), some (.ref d), v2, v3] ∧ Same H H' ∧ ∀ s ∈ ss.take i, FitsAt f1 s)
      ⟨_, _, rfl, Same.refl H, fun s hs => (by cases hs)⟩ (fun i σ H' _ ⟨_, _, _, z, _⟩ => same_tup z hq) ?_ ?_
    · rintro i y σ H1 t1 hi ⟨v2, v3, rfl, s1, pr⟩ n1
      obtain ⟨b, s, rfl, hb, hs1, hst⟩ := he.get hi
      have sm := List.mem_of_getElem? hs1
      have sok := oks s sm
      refine ⟨t1, _, rfl, SqT.of upd_same, rfl, _, _, rfl, _, _, rfl, rfl, ?_⟩
      have s2 := same_of_upd (o := .tup [.int i, .ref b]) s1 n1
      generalize upd H1 t1 (.tup [.int i, .ref b]) = H2 at s2
      have st2 := hst.same s2
      obtain ⟨th, tg, tr, h0, _⟩ := id st2
      have hd2 : RowAt K H2 d n f1 := by
        obtain ⟨kv, e⟩ := hd.isD
        exact hd.mono (Imm.of s2) (by rw [e]; exact s2 _ _ e)
      have pu := hs.pos s.u sok.un
      have pw := hs.pos s.v sok.vn
      have nz : ∀ {x : Rat}, 0 < x → x ≠ 0 := fun h z => by rw [z] at h; exact absurd h (by decide)
      obtain ⟨p0, g0, x0⟩ := hd2.item sok.un (nz pu)
      refine ⟨_, rfl, _, rfl, b, _, _, _, rfl, rfl, h0, atI_nat (j := 0) rfl, _, rfl, _, rfl, b, _, _, _, rfl, rfl, h0, atI_nat (j := 0) rfl, d, _, rfl, g0, ?_⟩
      have eo : s.of s.u = s.h := if_pos rfl
      refine ⟨b, p0, s, s.u, f1 s.u, rfl, st2, x0, hs.ok sok.un, sok.oh, sok.og, sok.or, sok.r0, sok.oo (hs.sm _ sok.un) (by decide), fun p1 H3 s3 n3 x3 => ?_⟩
      rw [eo] at x3
      have h3 := same_tup s3 h0
      have hd3 : RowAt K H3 d n f1 := by
        obtain ⟨kv, e⟩ := hd2.isD
        exact hd2.mono (Imm.of s3) (by rw [e]; exact s3 _ _ e)
      obtain ⟨p2, g2, x2⟩ := hd3.item sok.vn (nz pw)
      refine ⟨_, rfl, _, rfl, b, _, _, _, rfl, rfl, h3, atI_nat (j := 1) rfl, d, _, rfl, g2, ?_⟩
      refine ownNe_of x3 x2 ⟨p1, p2, _, _, rfl, x3, x2, _, rfl, _, rfl, ?_⟩
      have s23 := s2.trans s3
      by_cases c : FitsAt f1 s
      · have e : decide (f1 s.u * s.h / s.r = f1 s.v) = true := decide_eq_true c
        rw [e]
        refine iteF ⟨_, _, rfl, s23, fun x hx => ?_⟩
        rw [take_snoc hs1] at hx
        rcases List.mem_append.mp hx with hx | hx
        · exact pr x hx
        · simp at hx; subst hx; exact c
      · have e : decide (f1 s.u * s.h / s.r = f1 s.v) = false := decide_eq_false c
        rw [e]
        refine iteT ⟨_, rfl, k2 H3 i s23 fun z => c (z s sm)⟩
    · rintro σ H1 ⟨v2, v3, rfl, s1, pr⟩
      have eT : ss.take (bs.map V.ref).length = ss := List.take_of_length_le (by rw [List.length_map, he.1]; exact Nat.le_refl _)
      rw [eT] at pr
      exact k1 H1 s1 pr

/-! ### FitExact -/
theorem ok_FitExact {P : Program} {w : World} {K : PySem.W.Frag} {mg : Str → Option Value} {base : Heap} (T : TX K mg) (D : Dx K mg "fit_exact" sFitExact)
    (c_ScalesAndWays : C8.Cal P w K mg base 8 "scales_and_ways" (spScales K) [])
    (c_UnevenStall : C8.Cal P w K mg base 7 "uneven_stall" (spUneven K) []) : C8.Cal P w K mg base 9 "fit_exact" (spFitExact K) [] := by
  refine D.cal scFitExact (fun _ _ _ _ _ _ us hl => match us, hl with | [_], _ => rfl) (fun vs H Q E h => ?_) (fun f cdv A outer s H vs Q E hr h => ?_)
  · obtain ⟨p, n, ss, rfl, hp, ok, k1, k2⟩ := h
    rfl
  · obtain ⟨p, n, ss, rfl, hp, ok, k1, k2⟩ := h
    have hu := hu_of hr
    refine ⟨_, (pss_cons (ps_asg (C8.pe_c c_ScalesAndWays hr (by decide) (by rfl) (pa_cons (pv 0) pa_nil)) (pg_tup rfl (pgs_cons (pg_name (i := 1) scFitExact.nd rfl (by first | exact Or.inl rfl | exact Or.inr rfl)) (pgs_cons (pg_name (i := 2) scFitExact.nd rfl (by first | exact Or.inl rfl | exact Or.inr rfl)) pgs_nil))))
        (pss_cons (ps_if (pt_cmp (pc_notN (C8.pe_c c_UnevenStall hr (by decide) (by rfl) (pa_cons (pv 0) (pa_cons (pv 1) pa_nil))))) (pss_one (ps_ret pe_non))
        pss_nil)
        (pss_one (ps_ret (pe_lc (own := [("ware", 3)]) (by rfl) scFitExact.nd (pi_range1 rfl T.f_range (pa_cons (pe_fld (pv 0) rfl) pa_nil)) (blkOk_by (N := ["web", "found", "ways", "ware"]) (sc := defScope sFitExact) (by decide +kernel)) (fun _ _ _ _ _ => pg_name (i := 3) scFitExact.nd rfl (Or.inl rfl)) (fun _ _ _ _ _ => pts_nil) (fun _ _ _ _ _ => (pe_dget hu (pv 1) (pv 3) (fun _ _ => rfl)))))))), ?_⟩
    have oks := ok.ok
    obtain ⟨dx, t, hw, _⟩ := id hp
    have n8 := ok.n8
    refine ⟨_, rfl, p, n, ss, rfl, hp, ok, fun u d1 d2 f1 H1 s1 t1 r1 scl => ?_⟩
    refine ⟨u, _, rfl, t1, rfl, _, _, rfl, _, _, rfl, rfl, ?_⟩
    have r2 : ∀ H', Same H1 H' → RowAt K H' d1 n f1 := fun H' s => by
      obtain ⟨kv, e⟩ := r1.isD
      exact r1.mono (Imm.of s) (by rw [e]; exact s _ _ e)
    refine ⟨_, rfl, _, rfl, p, d1, n, ss, f1, rfl, hp.same s1, ok, r1, scl, fun H2 s2 fit => ?_, fun H2 i s2 fit => ?_⟩
    · refine ⟨_, rfl, iteF ?_⟩
      have s12 := s1.trans s2
      refine ⟨_, rfl, p, _, dx, _, _, rfl, s12 _ _ hw, T.clW, T.nWares, wbF_w n t, (n : Int), rfl, by omega, by omega, fun D hD => lc_range (lo := 0) (n := ((n : Int)).toNat) (fun i H' => VecE K H' D i f1 ∧ Same H2 H') ⟨VecR.nil, same_upd1 hD⟩ ?_ ?_⟩
      · rintro i H3 hi ⟨g1, g4⟩
        have hi2 : i < n := by omega
        have e0 : (0 : Int) + i = i := by omega
        rw [e0]
        have pu := scl.pos i hi2
        obtain ⟨p0, g0, x0⟩ := (r2 H3 (s2.trans g4)).item hi2 (fun z => by rw [z] at pu; exact absurd pu (by decide))
        refine ⟨rfl, _, rfl, _, rfl, d1, _, rfl, g0, ?_⟩
        obtain ⟨acc, ha, hl, hv⟩ := g1.push exR (Same.refl H3) x0
        exact ⟨acc, ha, small1000 (by omega), hv, same_new g4 hD⟩
      · rintro H3 ⟨g1, g4⟩
        exact k2 D H3 f1 (s12.trans g4) ((scl.all oks).mp fit) g1
    · refine ⟨_, rfl, iteT ?_⟩
      exact k1 H2 (s1.trans s2) fun z => fit ((scl.all oks).mpr z)

/-! ### Fit -/
theorem ok_Fit {P : Program} {w : World} {K : PySem.W.Frag} {mg : Str → Option Value} {base : Heap} (T : TX K mg) (D : Dx K mg "fit" sFit)
    (c_FitExact : C8.Cal P w K mg base 9 "fit_exact" (spFitExact K) [])
    (c_ExactPair : C8.Met P w K mg base 1 (cE K) "pair" (spPair K) []) : C8.Cal P w K mg base 10 "fit" (spFit K) [] := by
  refine D.cal scFit (fun _ _ _ _ _ _ us hl => match us, hl with | [_], _ => rfl) (fun vs H Q E h => ?_) (fun f cdv A outer s H vs Q E hr h => ?_)
  · obtain ⟨p, n, ss, rfl, hp, ok, k1, k2⟩ := h
    rfl
  · obtain ⟨p, n, ss, rfl, hp, ok, k1, k2⟩ := h
    refine ⟨_, (pss_cons (ps_set (i := 1) scFit.nd rfl (by first | exact Or.inl rfl | exact Or.inr rfl) (C8.pe_c c_FitExact hr (by decide) (by rfl) (pa_cons (pv 0) pa_nil)))
        (pss_one (ps_ret (pe_ifExp (pt_cmp (pc_isN (pv 1))) pe_non (pe_callTy call_tuple_of (by rfl) T.f_tuple (by decide +kernel) (pa_cons (pe_lc (own := [("scale", 2)]) (by rfl) scFit.nd (pi_list (pv 1)) (blkOk_by (N := ["web", "found", "scale"]) (sc := defScope sFit) (by decide +kernel)) (fun _ _ _ _ _ => pg_name (i := 2) scFit.nd rfl (Or.inl rfl)) (fun _ _ _ _ _ => pts_nil) (fun _ _ _ _ _ => (C8.pe_mt0 c_ExactPair hr (by decide) (pv 2)))) pa_nil)))))), ?_⟩
    refine ⟨_, rfl, p, n, ss, rfl, hp, ok, fun H1 s1 ne => ?_, fun q H1 f1 s1 e v1 => ?_⟩
    · refine ⟨_, rfl, _, rfl, iteT ?_⟩
      exact k1 H1 s1 ne
    · refine ⟨_, rfl, _, rfl, iteF ?_⟩
      obtain ⟨as, q1, q2, q3⟩ := v1
      refine ⟨_, rfl, q, rfl, ⟨_, SqL.of q1⟩, fun D hD => lc_list (K := K) (a := q) (xs := as.map V.ref) (fun i H' => VecF K H' D i f1 ∧ Same H1 H') ⟨VecR.nil, same_upd1 hD⟩ (fun i H' _ ⟨_, z⟩ => SqL.of (z _ _ q1)) ?_ ?_⟩
      · rintro i y H2 hi ⟨g1, g4⟩
        obtain ⟨a, rfl, ha⟩ := refs_get hi
        have hi2 : i < n := by rw [← q2]; exact (List.getElem?_eq_some_iff.mp ha).1
        have xa := (q3 i a ha).same g4
        refine ⟨rfl, _, rfl, meth_of xa (by decide +kernel) (by decide +kernel) ⟨a, _, rfl, xa, fun r H3 s3 nr f3 => ?_⟩⟩
        obtain ⟨acc, hacc, hl, hv⟩ := g1.push frR s3 f3
        have := ok.n8
        exact ⟨acc, hacc, small1000 (by omega), hv, same_new (g4.trans s3) hD⟩
      · rintro H2 ⟨⟨bs, b1, b2, b3⟩, g4⟩
        refine ⟨D, _, rfl, .inl ⟨SqL.of b1, fun l nl => ?_⟩⟩
        exact k2 l _ ((s1.trans g4).trans (same_upd1 nl)) e

end Fair

set_option Elab.async false
set_option linter.all false
set_option maxRecDepth 100000
set_option maxHeartbeats 4000000
namespace Fair
open PySem PySem.Spec PyProof.Rows L2
/-! ### UnevenPieces -/
theorem ok_UnevenPieces {P : Program} {w : World} {K : PySem.W.Frag} {mg : Str → Option Value} {base : Heap} (T : TX K mg) (D : Dx K mg "uneven_pieces" sUnevenPieces)
    (c_ScalesAndWays : C8.Cal P w K mg base 8 "scales_and_ways" (spScales K) [])
    (c_Pieces : C8.Cal P w K mg base 7 "pieces" (spPieces K) [])
    (c_NextScale : C8.Cal P w K mg base 6 "next_scale" (spNextScale K) [])
    (c_ExactEq : C8.Met P w K mg base 1 (cE K) "__eq__" (spEq K) []) : C8.Cal P w K mg base 9 "uneven_pieces" (spUnevenPieces K) [] := by
  refine D.cal scUnevenPieces (fun _ _ _ _ _ _ us hl => match us, hl with | [_], _ => rfl) (fun vs H Q E h => ?_) (fun f cdv A outer s H vs Q E hr h => ?_)
  · obtain ⟨p, n, ss, rfl, hp, ok, k⟩ := h
    rfl
  · obtain ⟨p, n, ss, rfl, hp, ok, k⟩ := h
    have hu := hu_of hr
    refine ⟨_, (pss_cons (ps_asg (C8.pe_c c_ScalesAndWays hr (by decide) (by rfl) (pa_cons (pv 0) pa_nil)) (pg_tup rfl (pgs_cons (pg_name (i := 1) scUnevenPieces.nd rfl (by first | exact Or.inl rfl | exact Or.inr rfl)) (pgs_cons (pg_name (i := 2) scUnevenPieces.nd rfl (by first | exact Or.inl rfl | exact Or.inr rfl)) pgs_nil))))
        (pss_cons (ps_set (i := 3) scUnevenPieces.nd rfl (by first | exact Or.inl rfl | exact Or.inr rfl) (pe_lst pa_nil))
        (pss_cons (ps_for PassesOwn.never rfl (pi_list (C8.pe_c c_Pieces hr (by decide) (by rfl) (pa_cons (pv 0) pa_nil))) (pg_name (i := 4) scUnevenPieces.nd rfl (by first | exact Or.inl rfl | exact Or.inr rfl))
        (pss_cons (ps_setLc (i := 5) (own := [("stall", 6)]) (by rfl) scUnevenPieces.nd rfl rfl (sw_true rfl rfl rfl (by decide +kernel)) (pi_tup (pe_fld (pv 0) rfl)) (blkOk_by (N := ["web", "found", "ways", "uneven", "piece", "inside", "stall"]) (sc := defScope sUnevenPieces) (by decide +kernel)) (fun _ _ _ _ _ => pg_name (i := 6) scUnevenPieces.nd rfl (Or.inl rfl)) (fun _ _ _ _ _ => pts_one (pt_cmpR (opInK (K := K) rfl) (pe_ix (ixTK (K := K) rfl) (pv 6) pe_int (fun _ _ => rfl)) (pv 4) (by rfl))) (fun _ _ _ _ _ => (pv 6)))
        (pss_one (ps_if (pt_val (pe_callB (cr_any rfl) (by rfl) T.f_any (by decide +kernel) (pa_cons (pe_lc (own := [("stall", 6)]) (by rfl) scUnevenPieces.nd (pi_list (pv 5)) (blkOk_by (N := ["web", "found", "ways", "uneven", "piece", "inside", "stall"]) (sc := defScope sUnevenPieces) (by decide +kernel)) (fun _ _ _ _ _ => pg_name (i := 6) scUnevenPieces.nd rfl (Or.inl rfl)) (fun _ _ _ _ _ => pts_nil) (fun _ _ _ _ _ => (pe_cmpR (op_ownNe c_ExactEq T.neE T.obE hr (by decide)) (C8.pe_c c_NextScale hr (by decide) (by rfl) (pa_cons (pv 6) (pa_cons (pe_ix (ixTK (K := K) rfl) (pv 6) pe_int (fun _ _ => rfl)) (pa_cons (pe_dget hu (pv 1) (pe_ix (ixTK (K := K) rfl) (pv 6) pe_int (fun _ _ => rfl)) (fun _ _ => rfl)) pa_nil)))) (pe_dget hu (pv 1) (pe_ix (ixTK (K := K) rfl) (pv 6) pe_int (fun _ _ => rfl)) (fun _ _ => rfl)) (nomark _)))) pa_nil))) (pss_one (ps_expr (pe_bm PySem.F.plainAttrs_list PySem.F.slot_list_append PySem.F.type_list_append mt_append (pv 3) (pa_cons (pv 4) pa_nil))))
        pss_nil))))
        (pss_one (ps_ret (pv 3)))))), ?_⟩
    have oks := ok.ok
    have n8 := ok.n8
    obtain ⟨dx, t, hw, bs, hq, he⟩ := id hp
    refine ⟨_, rfl, p, n, ss, rfl, hp, ok, fun u d1 d2 f1 H1 s1 t1 r1 scl => ?_⟩
    refine ⟨u, _, rfl, t1, rfl, _, _, rfl, _, _, rfl, rfl, ?_⟩
    have r2 : ∀ H', Same H1 H' → RowAt K H' d1 n f1 := fun H' s => by
      obtain ⟨kv, e⟩ := r1.isD
      exact r1.mono (Imm.of s) (by rw [e]; exact s _ _ e)
    refine ⟨(by show 0 ≤ sizeLine; decide), fun fl nfl => ?_⟩
    have s2 : Same H1 (upd H1 fl (.lst [])) := same_upd1 nfl
    have efl : upd H1 fl (.lst []) fl = some (.lst []) := upd_same
    have nflH : H fl = none := s1.free nfl
    generalize upd H1 fl (.lst []) = H2 at s2 efl
    refine ⟨_, rfl, p, n, ss, rfl, hp.same (s1.trans s2), ok, fun q H3 s3 nq ⟨as, q1, q2⟩ => ?_⟩
    have nfq : fl ≠ q := ne_of_none efl nq
    refine ⟨q, rfl, ⟨_, SqL.of q1⟩, for_list (K := K) (a := q) (xs := as.map V.ref) (fun i σ H' => ∃ (v4 v5 v6 : Option V), σ = [some (.ref p), some (.ref d1), some (.ref d2), some (.ref fl), v4, v5, v6] ∧ Same H1 H' ∧ LstN K H' fl (unevTo n ss i) ∧ H' q = some (.lst (as.map V.ref)) ∧ Each (TupN K H') as (pcs n ss))
      ⟨_, _, _, rfl, s2.trans s3, ⟨[], s3 _ _ efl, Each.nil⟩, q1, q2⟩ (fun i σ H' _ ⟨_, _, _, _, _, _, z, _⟩ => SqL.of z) ?_ ?_⟩
    · rintro i y σ H4 hi ⟨v4, v5, v6, rfl, s4, l4, q4, e4⟩
      obtain ⟨a, c, rfl, ha, hc, ta⟩ := e4.get hi
      unfold pcs at hc
      rw [List.getElem?_map] at hc
      obtain ⟨w0, hw0, rfl⟩ : ∃ w0, (firsts n ss)[i]? = some w0 ∧ c = comp n ss w0 := by
        cases e : (firsts n ss)[i]? with
        | none => rw [e] at hc; cases hc
        | some j => rw [e] at hc; exact ⟨j, rfl, (Option.some.inj hc).symm⟩
      obtain ⟨wn, wf⟩ := mem_firsts.mp (List.mem_of_getElem? hw0)
      have sH := s1.trans s4
      refine ⟨_, rfl, p, _, dx, _, _, rfl, sH _ _ hw, T.clW, T.nStalls, wbF_s n t, t, rfl, ⟨_, same_tup sH hq⟩, fun D hD => lc_tup (K := K) (a := t) (xs := bs.map V.ref) (fun i H' => ∃ is : List Addr, H' D = some (.lst (is.map V.ref)) ∧ Each (StlAt K H') is ((ss.take i).filter fun s => decide (s.u ∈ comp n ss w0)) ∧ is.length ≤ i ∧ Same H4 H') ⟨[], upd_same, Each.nil, Nat.zero_le _, same_upd1 hD⟩ (fun i H' _ ⟨_, _, _, _, z⟩ => same_tup (sH.trans z) hq) ?_ ?_⟩
      · rintro j y H5 hj ⟨is, g1, g2, g3, g4⟩
        obtain ⟨b, s, rfl, hb, hs1, hst⟩ := he.get hj
        have hst5 := hst.same (sH.trans g4)
        obtain ⟨th, tg, tr, h0, _⟩ := id hst5
        refine ⟨rfl, _, rfl, b, _, _, _, rfl, rfl, h0, atI_nat (j := 0) rfl, _, rfl, a, _, rfl, .inr (same_tup g4 ta), rfl, flat_nat _, ?_⟩
        rw [inV_nat]
        by_cases c : s.u ∈ comp n ss w0
        · refine ⟨true, by simp [c], ?_⟩
          dsimp only
          rw [if_pos rfl]
          have jl : j < 16 := by
            have := (List.getElem?_eq_some_iff.mp hs1).1
            have := ok.len
            omega
          refine ⟨_, rfl, _, g1, small1000 (by rw [List.length_map]; omega), is ++ [b], by rw [upd_same, List.map_append]; rfl, ?_, by rw [List.length_append]; show _ + 1 ≤ _; omega, same_new g4 hD⟩
          rw [take_snoc hs1, List.filter_append]
          have e1 : List.filter (fun s => decide (s.u ∈ comp n ss w0)) [s] = [s] := by simp [c]
          rw [e1]
          exact (g2.mono fun _ _ z => z.imm (Imm.lst g1)).snoc (hst5.imm (Imm.lst g1))
        · refine ⟨false, by simp [c], ?_⟩
          dsimp only
          rw [if_neg Bool.false_ne_true]
          refine ⟨is, g1, ?_, by omega, g4⟩
          rw [take_snoc hs1, List.filter_append]
          have e1 : List.filter (fun s => decide (s.u ∈ comp n ss w0)) [s] = [] := by simp [c]
          rw [e1, List.append_nil]
          exact g2
      rintro H5 ⟨is, g1, g2, g3, g4⟩
      have eT : ss.take (bs.map V.ref).length = ss := List.take_of_length_le (by rw [List.length_map, he.1]; exact Nat.le_refl _)
      rw [eT] at g2
      have s15 := s4.trans g4
      generalize hIn : ss.filter (fun s => decide (s.u ∈ comp n ss w0)) = ins at g2
      have il : is.length ≤ 16 := by
        have := he.1
        have := ok.len
        rw [List.length_map] at g3
        omega
      have inm : ∀ s, s ∈ ins ↔ s ∈ ss ∧ s.u ∈ comp n ss w0 := fun s => by
        rw [← hIn, List.mem_filter, decide_eq_true_iff]
      refine ⟨_, rfl, D, rfl, ⟨_, SqL.of g1⟩, fun D2 hD2 => lc_list (K := K) (a := D) (xs := is.map V.ref) (fun i H' => H' D2 = some (.lst (((ins.take i).map fun s => !decide (f1 s.u * s.h / s.r = f1 s.v)).map V.bl)) ∧ Same H5 H') ⟨upd_same, same_upd1 hD2⟩ (fun i H' _ ⟨_, z⟩ => SqL.of (z _ _ g1)) ?_ ?_⟩
      · rintro j y H6 hj ⟨b1, b2⟩
        obtain ⟨b, s, rfl, hb, hs1, hst⟩ := g2.get hj
        have smi := List.mem_of_getElem? hs1
        have sm := ((inm s).mp smi).1
        have sok := oks s sm
        have hst6 := hst.same b2
        obtain ⟨th, tg, tr, h0, _⟩ := id hst6
        have pu := scl.pos s.u sok.un
        have pw := scl.pos s.v sok.vn
        have nz : ∀ {x : Rat}, 0 < x → x ≠ 0 := fun h z => by rw [z] at h; exact absurd h (by decide)
        have s16 := s15.trans b2
        obtain ⟨p0, g0, x0⟩ := (r2 H6 s16).item sok.un (nz pu)
        refine ⟨rfl, _, rfl, _, rfl, b, _, _, _, rfl, rfl, h0, atI_nat (j := 0) rfl, _, rfl, _, rfl, b, _, _, _, rfl, rfl, h0, atI_nat (j := 0) rfl, d1, _, rfl, g0, ?_⟩
        have eo : s.of s.u = s.h := if_pos rfl
        refine ⟨b, p0, s, s.u, f1 s.u, rfl, hst6, x0, scl.ok sok.un, sok.oh, sok.og, sok.or, sok.r0, sok.oo (scl.sm _ sok.un) (by decide), fun p1 H7 s7 n7 x7 => ?_⟩
        rw [eo] at x7
        have h7 := same_tup s7 h0
        obtain ⟨p2, g2', x2⟩ := (r2 H7 (s16.trans s7)).item sok.vn (nz pw)
        refine ⟨_, rfl, _, rfl, b, _, _, _, rfl, rfl, h7, atI_nat (j := 1) rfl, d1, _, rfl, g2', ?_⟩
        have l6 := s7 _ _ b1
        refine ownNe_of x7 x2 ⟨p1, p2, _, _, rfl, x7, x2, _, rfl, _, l6, small1000 ?_, ?_, same_new (b2.trans s7) hD2⟩
        · rw [List.length_map, List.length_map, List.length_take]
          have := g2.1
          omega
        · rw [upd_same, take_snoc hs1, List.map_append, List.map_append]
          rfl
      rintro H6 ⟨b1, b2⟩
      have eT2 : ins.take (is.map V.ref).length = ins := List.take_of_length_le (by rw [List.length_map, g2.1]; exact Nat.le_refl _)
      rw [eT2] at b1
      refine ⟨D2, _, rfl, SqL.of b1, _, rfl, ?_⟩
      have s46 := g4.trans b2
      have l6 := l4.same s46
      have fin : ∀ (l' : Hp → Prop), True := fun _ => trivial
      have ev : Evn ss w0 ↔ ∀ s ∈ ss, Conn ss w0 s.u → FitsAt f1 s := scl.evn oks wn
      have hany : ((ins.map fun s => !decide (f1 s.u * s.h / s.r = f1 s.v)).any id) = true ↔ ¬ Evn ss w0 := by
        rw [List.any_eq_true]
        constructor
        · rintro ⟨b, hb, eb⟩ z
          obtain ⟨s, hs, rfl⟩ := List.mem_map.mp hb
          obtain ⟨sm, sc⟩ := (inm s).mp hs
          have := ev.mp z s sm (mem_comp.mp sc).2
          unfold FitsAt at this
          simp [this] at eb
        · intro z
          have : ∃ s, s ∈ ss ∧ Conn ss w0 s.u ∧ ¬ FitsAt f1 s := Classical.byContradiction fun q => z (ev.mpr fun s hs cs => Classical.byContradiction fun nf => q ⟨s, hs, cs, nf⟩)
          obtain ⟨s, sm, cs, nf⟩ := this
          refine ⟨_, List.mem_map.mpr ⟨s, (inm s).mpr ⟨sm, mem_comp.mpr ⟨(oks s sm).un, cs⟩⟩, rfl⟩, ?_⟩
          unfold FitsAt at nf
          simp [nf]
      have s16 := s15.trans b2
      have q6 := s46 _ _ q4
      have e6 := e4.mono fun _ _ z => z.imm (Imm.of s46)
      cases hb : ((ins.map fun s => !decide (f1 s.u * s.h / s.r = f1 s.v)).any id) with
      | true =>
        have nev := hany.mp hb
        refine iteT ?_
        obtain ⟨acc, a1, a2, a3⟩ := l4.push s46 (ta.imm (Imm.of s46))
        have ul := unevTo_len (n := n) (ss := ss) (i := i)
        have fl2 := firsts_len n ss
        have hi3 := (List.getElem?_eq_some_iff.mp hw0).1
        obtain ⟨as2, a4, _⟩ := l6
        refine ⟨_, rfl, .inl ⟨rfl, _, SqL.of a1⟩, _, rfl, fl, acc, _, rfl, rfl, a1, small1000 (by omega), ?_⟩
        refine ⟨_, _, _, rfl, same_new s16 nfl, ?_, by rw [upd_ne nfq.symm]; exact q6, e6.mono fun _ _ z => z.imm (Imm.lst a1)⟩
        rw [(unevTo_succ hw0).2 nev]
        exact a3
      | false =>
        have nev : Evn ss w0 := Classical.byContradiction fun z => by rw [hany.mpr z] at hb; cases hb
        refine iteF ?_
        refine ⟨_, _, _, rfl, s16, ?_, q6, e6⟩
        rw [(unevTo_succ hw0).1 nev]
        exact l6
    · rintro σ H4 ⟨v4, v5, v6, rfl, s4, l4, q4, e4⟩
      have el : (as.map V.ref).length = (firsts n ss).length := by
        have := q2.1
        unfold pcs at this
        rw [List.length_map] at this ⊢
        exact this
      rw [el, unevTo_all] at l4
      exact ⟨_, rfl, k fl H4 (s1.trans s4) nflH l4⟩

end Fair

set_option Elab.async false
set_option linter.all false
set_option maxRecDepth 100000
set_option maxHeartbeats 1000000
namespace Fair
open PySem PySem.Spec PyProof.Rows L2
/-! ### the hand that draws -/
/-- all but the thing at q stands as it was -/
def Kp (q : Addr) (H H' : Hp) : Prop := ∀ b o, H b = some o → b ≠ q → H' b = some o
/-- the hand's list; it has drawn N numbers of its own at most -/
def HandAt (H : Hp) (q cl : Addr) (N : Nat) : Prop := ∃ (cells : List Int) (i : Nat) (b s c : Int), H q = some (.lst [.ref cl, .int i, .int b, .int s, .int c]) ∧ H cl = some (.lst (cells.map V.int)) ∧ q ≠ cl ∧ 0 ≤ b ∧ 0 ≤ s ∧ s < 2 ^ 31 ∧ 0 ≤ c ∧ c ≤ N ∧ ∀ x ∈ cells, 0 ≤ x
section
variable {H H' H1 : Hp} {q cl : Addr} {N M : Nat}
theorem Kp.refl : Kp q H H := fun _ _ e _ => e
theorem Kp.of (s : Same H H') : Kp q H H' := fun b o e _ => s b o e
theorem Kp.trans (a : Kp q H H1) (b : Kp q H1 H') : Kp q H H' := fun c o e n => b c o (a c o e n) n
theorem HandAt.same (h : HandAt H q cl N) (s : Same H H') : HandAt H' q cl N := by
  obtain ⟨cells, i, b, s', c, h1, h2, h3⟩ := h
  exact ⟨cells, i, b, s', c, s _ _ h1, s _ _ h2, h3⟩
theorem HandAt.mono (h : HandAt H q cl N) (m : N ≤ M) : HandAt H q cl M := by
  obtain ⟨cells, i, b, s', c, h1, h2, h3, h4, h5, h6, h7, h8, h9⟩ := h
  exact ⟨cells, i, b, s', c, h1, h2, h3, h4, h5, h6, h7, by omega, h9⟩
theorem HandAt.imm (h : HandAt H q cl N) (k : Kp q H H') : Imm H H' := by
  obtain ⟨cells, i, b, s', c, h1, _⟩ := h
  intro x o e st
  refine k x o e fun z => ?_
  subst z
  rw [h1] at e; cases e
  exact st
theorem Kp.upd {o : HO} (k : Kp q H H1) : Kp q H (upd H1 q o) := fun b u e n => by rw [upd_ne n]; exact k b u e n
end
/-! ### the promises of the law's reckoning -/
def spHand (K : PySem.W.Frag) : Sp := fun vs H Q _ => ∃ (a : Addr) (xs : List Int), vs = [.ref a] ∧ SqL K H a (xs.map V.int) ∧ ∀ (q cl : Addr) (H' : Hp), Same H H' → H q = none → H cl = none → HandAt H' q cl 0 → Q (.ref q) H'
def spDraw : Sp := fun vs H Q _ => ∃ (q cl : Addr) (m N : Nat), vs = [.ref q, .int m] ∧ HandAt H q cl N ∧ N ≤ 100000 ∧ 0 < m ∧ m ≤ 1000 ∧ ∀ (i : Nat) (H' : Hp), i < m → Kp q H H' → HandAt H' q cl (N + 1) → Q (.int i) H'
def spLGcd : Sp := fun vs H Q _ => ∃ a b : Int, vs = [.int a, .int b] ∧ 0 ≤ b ∧ Q (.int (Int.gcd a b)) H
def spFrac (K : PySem.W.Frag) : Sp := fun vs H Q _ => ∃ a b : Int, vs = [.int a, .int b] ∧ 0 < b ∧ b.natAbs < 2 ^ 9000 ∧ ∀ (p : Addr) (H' : Hp), Same H H' → H p = none → FrAt K H' p (Rat.divInt a b) → Q (.ref p) H'
def spFr2 (K : PySem.W.Frag) (c : Rat → Rat → Prop) (g : Rat → Rat → Rat) : Sp := fun vs H Q _ => ∃ (a b : Addr) (r s : Rat), vs = [.ref a, .ref b] ∧ FrAt K H a r ∧ FrAt K H b s ∧ Ok r ∧ Ok s ∧ c r s ∧
  ∀ (p : Addr) (H' : Hp), Same H H' → H p = none → FrAt K H' p (g r s) → Q (.ref p) H'
abbrev spPlus (K : PySem.W.Frag) : Sp := spFr2 K (fun _ _ => True) (· + ·)
abbrev spMinus (K : PySem.W.Frag) : Sp := spFr2 K (fun _ _ => True) (· - ·)
abbrev spTimes (K : PySem.W.Frag) : Sp := spFr2 K (fun _ _ => True) (· * ·)
abbrev spLOver (K : PySem.W.Frag) : Sp := spFr2 K (fun _ s => 0 < s) (· / ·)
/-- 1 to 6 over 1 to 4 -/
def Amt (x : Rat) : Prop := ∃ i j : Nat, 1 ≤ i ∧ i ≤ 6 ∧ 1 ≤ j ∧ j ≤ 4 ∧ x = (i : Rat) / (j : Rat)
def spSome (K : PySem.W.Frag) : Sp := fun vs H Q _ => ∃ (q cl : Addr) (N : Nat), vs = [.ref q] ∧ HandAt H q cl N ∧ N ≤ 90000 ∧ ∀ (p : Addr) (H' : Hp) (x : Rat), Kp q H H' → H p = none → HandAt H' q cl (N + 2) → FrAt K H' p x → Amt x → Q (.ref p) H'
end Fair

set_option Elab.async false
set_option linter.all false
set_option maxRecDepth 100000
set_option maxHeartbeats 4000000
namespace Fair
open PySem PySem.Spec PyProof.Rows L2
/-! ### LHand -/
theorem ok_LHand {P : Program} {w : World} {K : PySem.W.Frag} {mg : Str → Option Value} {base : Heap} (T : TX K mg) (D : Dx K mg "_law_hand" sLHand)
     : C8.Cal P w K mg base 1 "_law_hand" (spHand K) [] := by
  refine D.cal scLHand (fun _ _ _ _ _ _ us hl => match us, hl with | [_], _ => rfl) (fun vs H Q E h => ?_) (fun f cdv A outer s H vs Q E hr h => ?_)
  · obtain ⟨a, xs, rfl, ha, k⟩ := h
    rfl
  · obtain ⟨a, xs, rfl, ha, k⟩ := h
    refine ⟨_, (pss_cons (ps_setLc (i := 1) (own := [("_law_cell", 2)]) (by rfl) scLHand.nd rfl rfl (sw_true rfl rfl rfl (by decide +kernel)) (pi_list (pe_slice sl_list (pv 0) po_none (po_some pe_int))) (blkOk_by (N := ["_law_script", "_law_cells", "_law_cell"]) (sc := defScope sLHand) (by decide +kernel)) (fun _ _ _ _ _ => pg_name (i := 2) scLHand.nd rfl (Or.inl rfl)) (fun _ _ _ _ _ => pts_nil) (fun _ _ _ _ _ => (pe_callB call_abs (by rfl) T.f_abs (by decide +kernel) (pa_cons (pe_callTy call_int1 (by rfl) T.f_int (by decide +kernel) (pa_cons (pv 2) pa_nil)) pa_nil))))
        (pss_one (ps_ret (pe_lst (pa_cons (pv 1) (pa_cons pe_int (pa_cons pe_int (pa_cons (pe_op op_add pe_int (pe_callB call_len_seq (by rfl) T.f_len (by decide +kernel) (pa_cons (pv 1) pa_nil))) (pa_cons pe_int pa_nil))))))))), ?_⟩
    refine ⟨_, rfl, _, rfl, a, _, rfl, ha, fun t nt => ?_⟩
    have ecut : ∃ ys : List Int, cutV (xs.map V.int) none (some 63) = ys.map V.int ∧ ys.length ≤ 63 := by
      unfold cutV
      rw [← List.map_drop, ← List.map_take]
      refine ⟨_, rfl, Nat.le_trans (List.length_take_le _ _) ?_⟩
      have : HT.sIx (xs.map V.int).length (xs.map V.int).length (some 63) = min 63 (xs.map V.int).length := HT.sIx_nat _ _ 63
      rw [this]
      omega
    obtain ⟨ys, ey, ly⟩ := ecut
    rw [ey]
    have s1 : Same H (upd H t (.lst (ys.map V.int))) := same_upd1 nt
    have e1 : upd H t (.lst (ys.map V.int)) t = some (.lst (ys.map V.int)) := upd_same
    generalize upd H t (.lst (ys.map V.int)) = H1 at s1 e1
    refine ⟨t, rfl, ⟨_, SqL.of e1⟩, fun D hD => lc_list (K := K) (a := t) (xs := ys.map V.int) (fun i H' => ∃ cells : List Int, H' D = some (.lst (cells.map V.int)) ∧ cells.length = i ∧ (∀ x ∈ cells, 0 ≤ x) ∧ Same H1 H') ⟨[], upd_same, rfl, fun x h => (by cases h), same_upd1 hD⟩ (fun i H' _ ⟨_, _, _, _, z⟩ => SqL.of (z _ _ e1)) ?_ ?_⟩
    · rintro i y H2 hi ⟨cells, c1, c2, c3, c4⟩
      obtain ⟨x, rfl, hx⟩ := ints_get hi
      have il := (List.getElem?_eq_some_iff.mp hx).1
      refine ⟨rfl, _, rfl, .inl ⟨_, rfl, _, rfl, _, c1, small1000 (by rw [List.length_map]; omega), cells ++ [if x < 0 then -x else x], by rw [upd_same, List.map_append]; rfl, by simp [c2], fun z hz => ?_, same_new c4 hD⟩⟩
      rcases List.mem_append.mp hz with hz | hz
      · exact c3 z hz
      · simp at hz; subst hz; split <;> omega
    · rintro H2 ⟨cells, c1, c2, c3, c4⟩
      refine ⟨_, rfl, _, rfl, D, _, rfl, .inl (SqL.of c1), _, _, rfl, rfl, (by show 5 ≤ sizeLine; decide), fun q nq => ?_⟩
      have s3 := (s1.trans c4).trans (same_upd1 (o := .lst [.ref D, .int 0, .int 0, .int (1 + ((cells.map V.int).length : Nat)), .int 0]) nq)
      refine k q D _ s3 ((s1.trans c4).free nq) (s1.free hD) ⟨cells, 0, 0, _, 0, upd_same, ?_, ?_, by omega, ?_, ?_, by omega, by omega, c3⟩
      · exact same_upd1 nq _ _ c1
      · exact (ne_of_none c1 nq).symm
      · omega
      · rw [List.length_map] at c2 ⊢
        omega

/-! ### LDraw -/
theorem ok_LDraw {P : Program} {w : World} {K : PySem.W.Frag} {mg : Str → Option Value} {base : Heap} (T : TX K mg) (D : Dx K mg "_law_draw" sLDraw)
     : C8.Cal P w K mg base 1 "_law_draw" (spDraw) [] := by
  refine D.cal scLDraw (fun _ _ _ _ _ _ us hl => match us, hl with | [_, _], _ => rfl) (fun vs H Q E h => ?_) (fun f cdv A outer s H vs Q E hr h => ?_)
  · obtain ⟨q, cl, m, N, rfl, hh, hN, m0, m1, k⟩ := h
    rfl
  · obtain ⟨q, cl, m, N, rfl, hh, hN, m0, m1, k⟩ := h
    refine ⟨_, (pss_cons (ps_if (PW.pt (pw_and (pt_cmpR op_eq (pe_ix ix_list (pv 0) pe_int (fun _ _ => rfl)) pe_int (nomark _)) (pw_and1 (pt_cmpR op_lt (pe_ix ix_list (pv 0) pe_int (fun _ _ => rfl)) (pe_callB call_len_seq (by rfl) T.f_len (by decide +kernel) (pa_cons (pe_ix ix_list (pv 0) pe_int (fun _ _ => rfl)) pa_nil)) (nomark _))))) (pss_cons (ps_set (i := 2) scLDraw.nd rfl (by first | exact Or.inl rfl | exact Or.inr rfl) (pe_ix ix_list (pe_ix ix_list (pv 0) pe_int (fun _ _ => rfl)) (pe_ix ix_list (pv 0) pe_int (fun _ _ => rfl)) (fun _ _ => rfl)))
        (pss_cons (ps_asg (pe_op op_add (pe_ix ix_list (pv 0) pe_int (fun _ _ => rfl)) pe_int) (pg_sub (pv 0) pe_int set_list))
        (pss_cons (ps_asg (pe_op op_mod (pe_callTy call_int1 (by rfl) T.f_int (by decide +kernel) (pa_cons (pe_op op_add (pe_op op_add (pe_op op_mulW (pe_ix ix_list (pv 0) pe_int (fun _ _ => rfl)) pe_int) (pv 2)) pe_int) pa_nil)) pe_int) (pg_sub (pv 0) pe_int set_list))
        (pss_one (ps_if (pt_cmpR op_ge (pv 2) (pe_op op_pow pe_int pe_int) (nomark _)) (pss_one (ps_asg (pv 2) (pg_sub (pv 0) pe_int set_list)))
        pss_nil)))))
        pss_nil)
        (pss_cons (ps_if (pt_cmpR op_gt (pe_ix ix_list (pv 0) pe_int (fun _ _ => rfl)) pe_int (nomark _)) (pss_cons (ps_set (i := 3) scLDraw.nd rfl (by first | exact Or.inl rfl | exact Or.inr rfl) (pe_op op_mod (pe_callTy call_int1 (by rfl) T.f_int (by decide +kernel) (pa_cons (pe_ix ix_list (pv 0) pe_int (fun _ _ => rfl)) pa_nil)) (pv 1)))
        (pss_cons (ps_asg (pe_op op_fdivW (pe_ix ix_list (pv 0) pe_int (fun _ _ => rfl)) (pv 1)) (pg_sub (pv 0) pe_int set_list))
        (pss_one (ps_ret (pv 3)))))
        pss_nil)
        (pss_cons (ps_asg (pe_op op_add (pe_ix ix_list (pv 0) pe_int (fun _ _ => rfl)) pe_int) (pg_sub (pv 0) pe_int set_list))
        (pss_cons (ps_set (i := 4) scLDraw.nd rfl (by first | exact Or.inl rfl | exact Or.inr rfl) (pe_op op_mod (pe_callTy call_int1 (by rfl) T.f_int (by decide +kernel) (pa_cons (pe_op op_mulW (pe_callTy call_int1 (by rfl) T.f_int (by decide +kernel) (pa_cons (pe_op op_add (pe_ix ix_list (pv 0) pe_int (fun _ _ => rfl)) (pe_op op_mulW pe_int (pe_ix ix_list (pv 0) pe_int (fun _ _ => rfl)))) pa_nil)) pe_int) pa_nil)) pe_int))
        (pss_cons (ps_set (i := 4) scLDraw.nd rfl (by first | exact Or.inl rfl | exact Or.inr rfl) (pe_op op_mod (pe_callTy call_int1 (by rfl) T.f_int (by decide +kernel) (pa_cons (pe_op op_mulW (pv 4) (pe_op op_add (pe_op op_fdivW (pv 4) pe_int) pe_int)) pa_nil)) pe_int))
        (pss_cons (ps_set (i := 4) scLDraw.nd rfl (by first | exact Or.inl rfl | exact Or.inr rfl) (pe_op op_mod (pe_callTy call_int1 (by rfl) T.f_int (by decide +kernel) (pa_cons (pe_op op_mulW (pv 4) (pe_op op_add (pe_op op_fdivW (pv 4) pe_int) pe_int)) pa_nil)) pe_int))
        (pss_one (ps_ret (pe_op op_mod (pe_callTy call_int1 (by rfl) T.f_int (by decide +kernel) (pa_cons (pe_op op_fdivW (pv 4) pe_int) pa_nil)) (pv 1)))))))))), ?_⟩
    obtain ⟨cells, i, b, s3, c, e0, ec, nqc, b0, s0, s1, c0, cN, cp⟩ := hh
    have hm : CDivW 0 (m : Int) := wide_div (b := 20) (by omega) (by omega) (by decide) (by decide)
    have B (x y : Int) (h1 : x.natAbs < 2 ^ 60) (h2 : y.natAbs < 2 ^ 60) : CMulW x y := wide_mul h1 h2 (by decide) (by decide) (by decide)
    have fin : ∀ (y : Int) (H' : Hp), 0 ≤ y → y < m → Kp q H H' → HandAt H' q cl (N + 1) → Q (.int y) H' := fun y H' h1 h2 h3 h4 => by
      have := k y.toNat H' (by omega) h3 h4
      rwa [Int.toNat_of_nonneg h1] at this
    refine ⟨_, rfl, q, _, _, _, rfl, rfl, SqL.of e0, atI_nat (j := 2) rfl, rfl, _, rfl, ite2 (fun w1 => ?_) (fun w1 => ?_)⟩
    · refine ⟨_, rfl, q, _, _, _, rfl, rfl, SqL.of e0, atI_nat (j := 1) rfl, _, rfl, q, _, _, _, rfl, rfl, SqL.of e0, atI_nat (j := 0) rfl, cl, _, rfl, .inl (SqL.of ec), _, _, rfl, rfl, _, rfl, ite2 (fun w2 => ?_) (fun w2 => ?_)⟩
      · have hi : i < cells.length := by
          have := of_decide_eq_true w2
          rw [List.length_map] at this
          omega
        have ea : (cells.map V.int)[i]? = some (.int cells[i]) := by rw [List.getElem?_map, List.getElem?_eq_getElem hi]; rfl
        have cp' := cp _ (List.getElem_mem hi)
        refine ⟨_, rfl, q, _, _, _, rfl, rfl, SqL.of e0, atI_nat (j := 0) rfl, _, rfl, q, _, _, _, rfl, rfl, SqL.of e0, atI_nat (j := 1) rfl, cl, _, _, _, rfl, rfl, SqL.of ec, atI_nat ea, ?_⟩
        generalize cells[i] = ce at cp' ea
        refine ⟨_, rfl, q, _, _, _, rfl, rfl, SqL.of e0, atI_nat (j := 1) rfl, _, _, rfl, rfl, ?_⟩
        refine ⟨_, rfl, q, _, _, 1, rfl, rfl, e0, ixN_nat (n := 5) (j := 1) (by decide), ?_⟩
        have e1 : upd H q (.lst ([V.ref cl, .int (i : Nat), .int b, .int s3, .int c].set 1 (.int ((i : Nat) + 1)))) q = some (.lst [V.ref cl, .int ((i + 1 : Nat) : Int), .int b, .int s3, .int c]) := upd_same
        have k1 : Kp q H (upd H q (.lst ([V.ref cl, .int (i : Nat), .int b, .int s3, .int c].set 1 (.int ((i : Nat) + 1))))) := Kp.refl.upd
        have c1 : upd H q (.lst ([V.ref cl, .int (i : Nat), .int b, .int s3, .int c].set 1 (.int ((i : Nat) + 1)))) cl = some (.lst (cells.map V.int)) := by rw [upd_ne nqc.symm]; exact ec
        generalize upd H q (.lst ([V.ref cl, .int (i : Nat), .int b, .int s3, .int c].set 1 (.int ((i : Nat) + 1)))) = H1 at e1 k1 c1
        refine ⟨_, rfl, q, _, _, _, rfl, rfl, SqL.of e1, atI_nat (j := 3) rfl, _, _, rfl, rfl, B _ _ (by omega) (by decide), _, rfl, _, _, rfl, rfl, _, _, rfl, rfl, .inl ⟨_, rfl, _, _, rfl, rfl, (show (0 : Int) < _ by decide), ?_⟩⟩
        have s4 : 0 ≤ (s3 * 69621 + ce + 11) % 2147483629 ∧ (s3 * 69621 + ce + 11) % 2147483629 < 2 ^ 31 := ⟨Int.emod_nonneg _ (by decide), Int.lt_trans (Int.emod_lt_of_pos _ (by decide)) (by decide)⟩
        dsimp only
        generalize (s3 * 69621 + ce + 11) % 2147483629 = t4 at s4 ⊢
        obtain ⟨s40, s41⟩ := s4
        refine ⟨_, rfl, q, _, _, 3, rfl, rfl, e1, ixN_nat (n := 5) (j := 3) (by decide), ?_⟩
        have e2 : upd H1 q (.lst ([V.ref cl, .int ((i + 1 : Nat) : Int), .int b, .int s3, .int c].set 3 (.int t4))) q = some (.lst [V.ref cl, .int ((i + 1 : Nat) : Int), .int b, .int t4, .int c]) := upd_same
        have k2 : Kp q H (upd H1 q (.lst ([V.ref cl, .int ((i + 1 : Nat) : Int), .int b, .int s3, .int c].set 3 (.int t4)))) := k1.upd
        have c2 : upd H1 q (.lst ([V.ref cl, .int ((i + 1 : Nat) : Int), .int b, .int s3, .int c].set 3 (.int t4))) cl = some (.lst (cells.map V.int)) := by rw [upd_ne nqc.symm]; exact c1
        generalize upd H1 q (.lst ([V.ref cl, .int ((i + 1 : Nat) : Int), .int b, .int s3, .int c].set 3 (.int t4))) = H2 at e2 k2 c2
        refine ⟨_, rfl, _, _, rfl, rfl, (by refine ⟨?_, ?_, ?_⟩ <;> decide), _, _, rfl, rfl, _, rfl, ite2 (fun w3 => ?_) (fun w3 => ?_)⟩
        · refine ⟨_, rfl, _, rfl, q, _, _, 2, rfl, rfl, e2, ixN_nat (n := 5) (j := 2) (by decide), ?_⟩
          have e5 : upd H2 q (.lst ([V.ref cl, .int ((i + 1 : Nat) : Int), .int b, .int t4, .int c].set 2 (.int ce))) q = some (.lst [V.ref cl, .int ((i + 1 : Nat) : Int), .int ce, .int t4, .int c]) := upd_same
          have k5 : Kp q H (upd H2 q (.lst ([V.ref cl, .int ((i + 1 : Nat) : Int), .int b, .int t4, .int c].set 2 (.int ce)))) := k2.upd
          have c5 : upd H2 q (.lst ([V.ref cl, .int ((i + 1 : Nat) : Int), .int b, .int t4, .int c].set 2 (.int ce))) cl = some (.lst (cells.map V.int)) := by rw [upd_ne nqc.symm]; exact c2
          generalize upd H2 q (.lst ([V.ref cl, .int ((i + 1 : Nat) : Int), .int b, .int t4, .int c].set 2 (.int ce))) = H5 at e5 k5 c5
          have iN : ((i : Nat) : Int) + 1 = ((i + 1 : Nat) : Int) := rfl
          refine ⟨_, rfl, q, _, _, _, rfl, rfl, SqL.of e5, atI_nat (j := 2) rfl, _, _, rfl, rfl, _, rfl, ite2 (fun w3 => ?_) (fun w3 => ?_)⟩
          · refine ⟨_, rfl, q, _, _, _, rfl, rfl, SqL.of e5, atI_nat (j := 2) rfl, .inl ⟨_, rfl, _, rfl, _, _, rfl, rfl, by omega, ?_⟩⟩
            refine ⟨_, rfl, q, _, _, _, rfl, rfl, SqL.of e5, atI_nat (j := 2) rfl, _, rfl, _, _, rfl, rfl, hm, ?_⟩
            refine ⟨_, rfl, q, _, _, 2, rfl, rfl, e5, ixN_nat (n := 5) (j := 2) (by decide), ?_⟩
            refine ⟨_, rfl, ?_⟩
            exact fin _ _ (Int.emod_nonneg _ (by omega)) (Int.emod_lt_of_pos _ (by omega)) k5.upd ⟨cells, _, _, _, _, upd_same, by rw [upd_ne nqc.symm]; exact c5, nqc, Int.ediv_nonneg cp' (by omega), s40, s41, c0, by omega, cp⟩
          · refine ⟨_, rfl, q, _, _, _, rfl, rfl, SqL.of e5, atI_nat (j := 4) rfl, _, _, rfl, rfl, ?_⟩
            refine ⟨_, rfl, q, _, _, 4, rfl, rfl, e5, ixN_nat (n := 5) (j := 4) (by decide), ?_⟩
            have eY : upd H5 q (.lst ([V.ref cl, .int ((i + 1 : Nat) : Int), .int ce, .int t4, .int c].set 4 (.int (c + 1)))) q = some (.lst [V.ref cl, .int ((i + 1 : Nat) : Int), .int ce, .int t4, .int (c + 1)]) := upd_same
            have kY : Kp q H (upd H5 q (.lst ([V.ref cl, .int ((i + 1 : Nat) : Int), .int ce, .int t4, .int c].set 4 (.int (c + 1))))) := k5.upd
            have cY : upd H5 q (.lst ([V.ref cl, .int ((i + 1 : Nat) : Int), .int ce, .int t4, .int c].set 4 (.int (c + 1)))) cl = some (.lst (cells.map V.int)) := by rw [upd_ne nqc.symm]; exact c5
            generalize upd H5 q (.lst ([V.ref cl, .int ((i + 1 : Nat) : Int), .int ce, .int t4, .int c].set 4 (.int (c + 1)))) = HY at eY kY cY
            have fy : ∀ y : Int, 0 ≤ y → y < m → Q (.int y) HY := fun y y0 y1 => fin y HY y0 y1 kY ⟨cells, _, _, _, _, eY, cY, nqc, cp', s40, s41, by omega, by omega, cp⟩
            refine ⟨_, rfl, q, _, _, _, rfl, rfl, SqL.of eY, atI_nat (j := 3) rfl, _, rfl, q, _, _, _, rfl, rfl, SqL.of eY, atI_nat (j := 4) rfl, _, _, rfl, rfl, B _ _ (by decide) (by omega), _, _, rfl, rfl, .inl ⟨_, rfl, _, _, rfl, rfl, B _ _ (by omega) (by decide), .inl ⟨_, rfl, _, _, rfl, rfl, (show (0 : Int) < _ by decide), ?_⟩⟩⟩
            have h1 : ∀ z : Int, 0 ≤ z % 2147483647 ∧ z % 2147483647 < 2 ^ 31 := fun z => ⟨Int.emod_nonneg _ (by decide), Int.lt_trans (Int.emod_lt_of_pos _ (by decide)) (by decide)⟩
            have h2 : ∀ z : Int, 0 ≤ z % 2147483399 ∧ z % 2147483399 < 2 ^ 31 := fun z => ⟨Int.emod_nonneg _ (by decide), Int.lt_trans (Int.emod_lt_of_pos _ (by decide)) (by decide)⟩
            have g1 := h1 ((t4 + 7919 * (c + 1)) * 48271)
            dsimp only
            generalize (t4 + 7919 * (c + 1)) * 48271 % 2147483647 = n1 at g1 ⊢
            refine ⟨_, rfl, _, rfl, _, _, rfl, rfl, wide_div (b := 20) (by decide) (by decide) (by decide) (by decide), _, _, rfl, rfl, _, _, rfl, rfl, B _ _ (by omega) (by omega), .inl ⟨_, rfl, _, _, rfl, rfl, (show (0 : Int) < _ by decide), ?_⟩⟩
            dsimp only
            have g2 := h1 (n1 * (n1 / 1009 + 69621))
            generalize n1 * (n1 / 1009 + 69621) % 2147483647 = n2 at g2 ⊢
            refine ⟨_, rfl, _, rfl, _, _, rfl, rfl, wide_div (b := 20) (by decide) (by decide) (by decide) (by decide), _, _, rfl, rfl, _, _, rfl, rfl, B _ _ (by omega) (by omega), .inl ⟨_, rfl, _, _, rfl, rfl, (show (0 : Int) < _ by decide), ?_⟩⟩
            dsimp only
            have g3 := h2 (n2 * (n2 / 2003 + 40692))
            generalize n2 * (n2 / 2003 + 40692) % 2147483399 = n3 at g3 ⊢
            refine ⟨_, rfl, _, _, rfl, rfl, wide_div (b := 20) (by decide) (by decide) (by decide) (by decide), .inl ⟨_, rfl, _, rfl, _, _, rfl, rfl, by omega, ?_⟩⟩
            exact fy _ (Int.emod_nonneg _ (by omega)) (Int.emod_lt_of_pos _ (by omega))
        · have iN : ((i : Nat) : Int) + 1 = ((i + 1 : Nat) : Int) := rfl
          refine ⟨_, rfl, q, _, _, _, rfl, rfl, SqL.of e2, atI_nat (j := 2) rfl, _, _, rfl, rfl, _, rfl, ite2 (fun w3 => ?_) (fun w3 => ?_)⟩
          · refine ⟨_, rfl, q, _, _, _, rfl, rfl, SqL.of e2, atI_nat (j := 2) rfl, .inl ⟨_, rfl, _, rfl, _, _, rfl, rfl, by omega, ?_⟩⟩
            refine ⟨_, rfl, q, _, _, _, rfl, rfl, SqL.of e2, atI_nat (j := 2) rfl, _, rfl, _, _, rfl, rfl, hm, ?_⟩
            refine ⟨_, rfl, q, _, _, 2, rfl, rfl, e2, ixN_nat (n := 5) (j := 2) (by decide), ?_⟩
            refine ⟨_, rfl, ?_⟩
            exact fin _ _ (Int.emod_nonneg _ (by omega)) (Int.emod_lt_of_pos _ (by omega)) k2.upd ⟨cells, _, _, _, _, upd_same, by rw [upd_ne nqc.symm]; exact c2, nqc, Int.ediv_nonneg b0 (by omega), s40, s41, c0, by omega, cp⟩
          · refine ⟨_, rfl, q, _, _, _, rfl, rfl, SqL.of e2, atI_nat (j := 4) rfl, _, _, rfl, rfl, ?_⟩
            refine ⟨_, rfl, q, _, _, 4, rfl, rfl, e2, ixN_nat (n := 5) (j := 4) (by decide), ?_⟩
            have eY : upd H2 q (.lst ([V.ref cl, .int ((i + 1 : Nat) : Int), .int b, .int t4, .int c].set 4 (.int (c + 1)))) q = some (.lst [V.ref cl, .int ((i + 1 : Nat) : Int), .int b, .int t4, .int (c + 1)]) := upd_same
            have kY : Kp q H (upd H2 q (.lst ([V.ref cl, .int ((i + 1 : Nat) : Int), .int b, .int t4, .int c].set 4 (.int (c + 1))))) := k2.upd
            have cY : upd H2 q (.lst ([V.ref cl, .int ((i + 1 : Nat) : Int), .int b, .int t4, .int c].set 4 (.int (c + 1)))) cl = some (.lst (cells.map V.int)) := by rw [upd_ne nqc.symm]; exact c2
            generalize upd H2 q (.lst ([V.ref cl, .int ((i + 1 : Nat) : Int), .int b, .int t4, .int c].set 4 (.int (c + 1)))) = HY at eY kY cY
            have fy : ∀ y : Int, 0 ≤ y → y < m → Q (.int y) HY := fun y y0 y1 => fin y HY y0 y1 kY ⟨cells, _, _, _, _, eY, cY, nqc, b0, s40, s41, by omega, by omega, cp⟩
            refine ⟨_, rfl, q, _, _, _, rfl, rfl, SqL.of eY, atI_nat (j := 3) rfl, _, rfl, q, _, _, _, rfl, rfl, SqL.of eY, atI_nat (j := 4) rfl, _, _, rfl, rfl, B _ _ (by decide) (by omega), _, _, rfl, rfl, .inl ⟨_, rfl, _, _, rfl, rfl, B _ _ (by omega) (by decide), .inl ⟨_, rfl, _, _, rfl, rfl, (show (0 : Int) < _ by decide), ?_⟩⟩⟩
            have h1 : ∀ z : Int, 0 ≤ z % 2147483647 ∧ z % 2147483647 < 2 ^ 31 := fun z => ⟨Int.emod_nonneg _ (by decide), Int.lt_trans (Int.emod_lt_of_pos _ (by decide)) (by decide)⟩
            have h2 : ∀ z : Int, 0 ≤ z % 2147483399 ∧ z % 2147483399 < 2 ^ 31 := fun z => ⟨Int.emod_nonneg _ (by decide), Int.lt_trans (Int.emod_lt_of_pos _ (by decide)) (by decide)⟩
            have g1 := h1 ((t4 + 7919 * (c + 1)) * 48271)
            dsimp only
            generalize (t4 + 7919 * (c + 1)) * 48271 % 2147483647 = n1 at g1 ⊢
            refine ⟨_, rfl, _, rfl, _, _, rfl, rfl, wide_div (b := 20) (by decide) (by decide) (by decide) (by decide), _, _, rfl, rfl, _, _, rfl, rfl, B _ _ (by omega) (by omega), .inl ⟨_, rfl, _, _, rfl, rfl, (show (0 : Int) < _ by decide), ?_⟩⟩
            dsimp only
            have g2 := h1 (n1 * (n1 / 1009 + 69621))
            generalize n1 * (n1 / 1009 + 69621) % 2147483647 = n2 at g2 ⊢
            refine ⟨_, rfl, _, rfl, _, _, rfl, rfl, wide_div (b := 20) (by decide) (by decide) (by decide) (by decide), _, _, rfl, rfl, _, _, rfl, rfl, B _ _ (by omega) (by omega), .inl ⟨_, rfl, _, _, rfl, rfl, (show (0 : Int) < _ by decide), ?_⟩⟩
            dsimp only
            have g3 := h2 (n2 * (n2 / 2003 + 40692))
            generalize n2 * (n2 / 2003 + 40692) % 2147483399 = n3 at g3 ⊢
            refine ⟨_, rfl, _, _, rfl, rfl, wide_div (b := 20) (by decide) (by decide) (by decide) (by decide), .inl ⟨_, rfl, _, rfl, _, _, rfl, rfl, by omega, ?_⟩⟩
            exact fy _ (Int.emod_nonneg _ (by omega)) (Int.emod_lt_of_pos _ (by omega))
      · have k0 : Kp q H H := Kp.refl
        refine ⟨_, rfl, q, _, _, _, rfl, rfl, SqL.of e0, atI_nat (j := 2) rfl, _, _, rfl, rfl, _, rfl, ite2 (fun w3 => ?_) (fun w3 => ?_)⟩
        · refine ⟨_, rfl, q, _, _, _, rfl, rfl, SqL.of e0, atI_nat (j := 2) rfl, .inl ⟨_, rfl, _, rfl, _, _, rfl, rfl, by omega, ?_⟩⟩
          refine ⟨_, rfl, q, _, _, _, rfl, rfl, SqL.of e0, atI_nat (j := 2) rfl, _, rfl, _, _, rfl, rfl, hm, ?_⟩
          refine ⟨_, rfl, q, _, _, 2, rfl, rfl, e0, ixN_nat (n := 5) (j := 2) (by decide), ?_⟩
          refine ⟨_, rfl, ?_⟩
          exact fin _ _ (Int.emod_nonneg _ (by omega)) (Int.emod_lt_of_pos _ (by omega)) k0.upd ⟨cells, _, _, _, _, upd_same, by rw [upd_ne nqc.symm]; exact ec, nqc, Int.ediv_nonneg b0 (by omega), s0, s1, c0, by omega, cp⟩
        · refine ⟨_, rfl, q, _, _, _, rfl, rfl, SqL.of e0, atI_nat (j := 4) rfl, _, _, rfl, rfl, ?_⟩
          refine ⟨_, rfl, q, _, _, 4, rfl, rfl, e0, ixN_nat (n := 5) (j := 4) (by decide), ?_⟩
          have eY : upd H q (.lst ([V.ref cl, .int ((i : Nat) : Int), .int b, .int s3, .int c].set 4 (.int (c + 1)))) q = some (.lst [V.ref cl, .int ((i : Nat) : Int), .int b, .int s3, .int (c + 1)]) := upd_same
          have kY : Kp q H (upd H q (.lst ([V.ref cl, .int ((i : Nat) : Int), .int b, .int s3, .int c].set 4 (.int (c + 1))))) := k0.upd
          have cY : upd H q (.lst ([V.ref cl, .int ((i : Nat) : Int), .int b, .int s3, .int c].set 4 (.int (c + 1)))) cl = some (.lst (cells.map V.int)) := by rw [upd_ne nqc.symm]; exact ec
          generalize upd H q (.lst ([V.ref cl, .int ((i : Nat) : Int), .int b, .int s3, .int c].set 4 (.int (c + 1)))) = HY at eY kY cY
          have fy : ∀ y : Int, 0 ≤ y → y < m → Q (.int y) HY := fun y y0 y1 => fin y HY y0 y1 kY ⟨cells, _, _, _, _, eY, cY, nqc, b0, s0, s1, by omega, by omega, cp⟩
          refine ⟨_, rfl, q, _, _, _, rfl, rfl, SqL.of eY, atI_nat (j := 3) rfl, _, rfl, q, _, _, _, rfl, rfl, SqL.of eY, atI_nat (j := 4) rfl, _, _, rfl, rfl, B _ _ (by decide) (by omega), _, _, rfl, rfl, .inl ⟨_, rfl, _, _, rfl, rfl, B _ _ (by omega) (by decide), .inl ⟨_, rfl, _, _, rfl, rfl, (show (0 : Int) < _ by decide), ?_⟩⟩⟩
          have h1 : ∀ z : Int, 0 ≤ z % 2147483647 ∧ z % 2147483647 < 2 ^ 31 := fun z => ⟨Int.emod_nonneg _ (by decide), Int.lt_trans (Int.emod_lt_of_pos _ (by decide)) (by decide)⟩
          have h2 : ∀ z : Int, 0 ≤ z % 2147483399 ∧ z % 2147483399 < 2 ^ 31 := fun z => ⟨Int.emod_nonneg _ (by decide), Int.lt_trans (Int.emod_lt_of_pos _ (by decide)) (by decide)⟩
          have g1 := h1 ((s3 + 7919 * (c + 1)) * 48271)
          dsimp only
          generalize (s3 + 7919 * (c + 1)) * 48271 % 2147483647 = n1 at g1 ⊢
          refine ⟨_, rfl, _, rfl, _, _, rfl, rfl, wide_div (b := 20) (by decide) (by decide) (by decide) (by decide), _, _, rfl, rfl, _, _, rfl, rfl, B _ _ (by omega) (by omega), .inl ⟨_, rfl, _, _, rfl, rfl, (show (0 : Int) < _ by decide), ?_⟩⟩
          dsimp only
          have g2 := h1 (n1 * (n1 / 1009 + 69621))
          generalize n1 * (n1 / 1009 + 69621) % 2147483647 = n2 at g2 ⊢
          refine ⟨_, rfl, _, rfl, _, _, rfl, rfl, wide_div (b := 20) (by decide) (by decide) (by decide) (by decide), _, _, rfl, rfl, _, _, rfl, rfl, B _ _ (by omega) (by omega), .inl ⟨_, rfl, _, _, rfl, rfl, (show (0 : Int) < _ by decide), ?_⟩⟩
          dsimp only
          have g3 := h2 (n2 * (n2 / 2003 + 40692))
          generalize n2 * (n2 / 2003 + 40692) % 2147483399 = n3 at g3 ⊢
          refine ⟨_, rfl, _, _, rfl, rfl, wide_div (b := 20) (by decide) (by decide) (by decide) (by decide), .inl ⟨_, rfl, _, rfl, _, _, rfl, rfl, by omega, ?_⟩⟩
          exact fy _ (Int.emod_nonneg _ (by omega)) (Int.emod_lt_of_pos _ (by omega))
    · have k0 : Kp q H H := Kp.refl
      refine ⟨_, rfl, q, _, _, _, rfl, rfl, SqL.of e0, atI_nat (j := 2) rfl, _, _, rfl, rfl, _, rfl, ite2 (fun w3 => ?_) (fun w3 => ?_)⟩
      · refine ⟨_, rfl, q, _, _, _, rfl, rfl, SqL.of e0, atI_nat (j := 2) rfl, .inl ⟨_, rfl, _, rfl, _, _, rfl, rfl, by omega, ?_⟩⟩
        refine ⟨_, rfl, q, _, _, _, rfl, rfl, SqL.of e0, atI_nat (j := 2) rfl, _, rfl, _, _, rfl, rfl, hm, ?_⟩
        refine ⟨_, rfl, q, _, _, 2, rfl, rfl, e0, ixN_nat (n := 5) (j := 2) (by decide), ?_⟩
        refine ⟨_, rfl, ?_⟩
        exact fin _ _ (Int.emod_nonneg _ (by omega)) (Int.emod_lt_of_pos _ (by omega)) k0.upd ⟨cells, _, _, _, _, upd_same, by rw [upd_ne nqc.symm]; exact ec, nqc, Int.ediv_nonneg b0 (by omega), s0, s1, c0, by omega, cp⟩
      · refine ⟨_, rfl, q, _, _, _, rfl, rfl, SqL.of e0, atI_nat (j := 4) rfl, _, _, rfl, rfl, ?_⟩
        refine ⟨_, rfl, q, _, _, 4, rfl, rfl, e0, ixN_nat (n := 5) (j := 4) (by decide), ?_⟩
        have eY : upd H q (.lst ([V.ref cl, .int ((i : Nat) : Int), .int b, .int s3, .int c].set 4 (.int (c + 1)))) q = some (.lst [V.ref cl, .int ((i : Nat) : Int), .int b, .int s3, .int (c + 1)]) := upd_same
        have kY : Kp q H (upd H q (.lst ([V.ref cl, .int ((i : Nat) : Int), .int b, .int s3, .int c].set 4 (.int (c + 1))))) := k0.upd
        have cY : upd H q (.lst ([V.ref cl, .int ((i : Nat) : Int), .int b, .int s3, .int c].set 4 (.int (c + 1)))) cl = some (.lst (cells.map V.int)) := by rw [upd_ne nqc.symm]; exact ec
        generalize upd H q (.lst ([V.ref cl, .int ((i : Nat) : Int), .int b, .int s3, .int c].set 4 (.int (c + 1)))) = HY at eY kY cY
        have fy : ∀ y : Int, 0 ≤ y → y < m → Q (.int y) HY := fun y y0 y1 => fin y HY y0 y1 kY ⟨cells, _, _, _, _, eY, cY, nqc, b0, s0, s1, by omega, by omega, cp⟩
        refine ⟨_, rfl, q, _, _, _, rfl, rfl, SqL.of eY, atI_nat (j := 3) rfl, _, rfl, q, _, _, _, rfl, rfl, SqL.of eY, atI_nat (j := 4) rfl, _, _, rfl, rfl, B _ _ (by decide) (by omega), _, _, rfl, rfl, .inl ⟨_, rfl, _, _, rfl, rfl, B _ _ (by omega) (by decide), .inl ⟨_, rfl, _, _, rfl, rfl, (show (0 : Int) < _ by decide), ?_⟩⟩⟩
        have h1 : ∀ z : Int, 0 ≤ z % 2147483647 ∧ z % 2147483647 < 2 ^ 31 := fun z => ⟨Int.emod_nonneg _ (by decide), Int.lt_trans (Int.emod_lt_of_pos _ (by decide)) (by decide)⟩
        have h2 : ∀ z : Int, 0 ≤ z % 2147483399 ∧ z % 2147483399 < 2 ^ 31 := fun z => ⟨Int.emod_nonneg _ (by decide), Int.lt_trans (Int.emod_lt_of_pos _ (by decide)) (by decide)⟩
        have g1 := h1 ((s3 + 7919 * (c + 1)) * 48271)
        dsimp only
        generalize (s3 + 7919 * (c + 1)) * 48271 % 2147483647 = n1 at g1 ⊢
        refine ⟨_, rfl, _, rfl, _, _, rfl, rfl, wide_div (b := 20) (by decide) (by decide) (by decide) (by decide), _, _, rfl, rfl, _, _, rfl, rfl, B _ _ (by omega) (by omega), .inl ⟨_, rfl, _, _, rfl, rfl, (show (0 : Int) < _ by decide), ?_⟩⟩
        dsimp only
        have g2 := h1 (n1 * (n1 / 1009 + 69621))
        generalize n1 * (n1 / 1009 + 69621) % 2147483647 = n2 at g2 ⊢
        refine ⟨_, rfl, _, rfl, _, _, rfl, rfl, wide_div (b := 20) (by decide) (by decide) (by decide) (by decide), _, _, rfl, rfl, _, _, rfl, rfl, B _ _ (by omega) (by omega), .inl ⟨_, rfl, _, _, rfl, rfl, (show (0 : Int) < _ by decide), ?_⟩⟩
        dsimp only
        have g3 := h2 (n2 * (n2 / 2003 + 40692))
        generalize n2 * (n2 / 2003 + 40692) % 2147483399 = n3 at g3 ⊢
        refine ⟨_, rfl, _, _, rfl, rfl, wide_div (b := 20) (by decide) (by decide) (by decide) (by decide), .inl ⟨_, rfl, _, rfl, _, _, rfl, rfl, by omega, ?_⟩⟩
        exact fy _ (Int.emod_nonneg _ (by omega)) (Int.emod_lt_of_pos _ (by omega))

/-! ### LGcd -/
theorem ok_LGcd {P : Program} {w : World} {K : PySem.W.Frag} {mg : Str → Option Value} {base : Heap} (T : TX K mg) (D : Dx K mg "_law_gcd" sLGcd)
     : C8.Cal P w K mg base 1 "_law_gcd" (spLGcd) [] := by
  refine D.cal scLGcd (fun _ _ _ _ _ _ us hl => match us, hl with | [_, _], _ => rfl) (fun vs H Q E h => ?_) (fun f cdv A outer s H vs Q E hr h => ?_)
  · obtain ⟨a, b, rfl, hb, k⟩ := h
    rfl
  · obtain ⟨a, b, rfl, hb, k⟩ := h
    refine ⟨_, (pss_cons (ps_while PassesOwn.never (pt_cmpR op_ne (pv 1) pe_int (nomark _)) (pss_one (ps_par (i := 0) (j := 1) (by rfl) scLGcd.nd rfl rfl (by decide) rfl rfl (pa_cons (pv 1) (pa_cons (pe_op op_mod (pe_callTy call_int1 (by rfl) T.f_int (by decide +kernel) (pa_cons (pv 0) pa_nil)) (pv 1)) pa_nil)) (by rfl))))
        (pss_one (ps_ret (pe_callB call_abs (by rfl) T.f_abs (by decide +kernel) (pa_cons (pv 0) pa_nil))))), ?_⟩
    refine ⟨fun m σ H' => ∃ x y : Int, σ = [some (.int x), some (.int y)] ∧ 0 ≤ y ∧ m = y.toNat ∧ Int.gcd x y = Int.gcd a b ∧ H' = H, ⟨_, _, _, rfl, hb, rfl, rfl, rfl⟩, ?_⟩
    rintro m σ H' ⟨x, y, rfl, hy, rfl, hg, rfl⟩
    refine ⟨_, rfl, rfl, _, rfl, ite2 (fun c => ?_) (fun c => ?_)⟩
    · have c' : y ≠ 0 := fun z => by subst z; cases c
      refine ⟨fun σ' H'' => ∃ x' y' : Int, σ' = [some (.int x'), some (.int y')] ∧ 0 ≤ y' ∧ y' < y ∧ Int.gcd x' y' = Int.gcd a b ∧ H'' = H', fun σ' H'' ⟨x', y', e1, e3, e4, e5, e6⟩ => ⟨_, by omega, x', y', e1, e3, rfl, e5, e6⟩, ?_⟩
      refine ⟨_, rfl, _, rfl, .inl ⟨_, rfl, _, rfl, _, _, rfl, rfl, by omega, _, _, rfl, ?_⟩⟩
      exact ⟨_, _, rfl, Int.emod_nonneg _ c', Int.emod_lt_of_pos _ (by omega), by rw [gcd_step x y (by omega), hg], rfl⟩
    · have c' : y = 0 := Classical.byContradiction fun z => c (by
        show (!decide (V.int y = V.int 0)) = true
        rw [decide_eq_false fun w => z (V.int.inj w)]; rfl)
      subst c'
      refine ⟨_, rfl, _, rfl, ?_⟩
      have e : (if x < 0 then -x else x) = (Int.gcd a b : Int) := by
        rw [← hg, Int.gcd_eq_natAbs_gcd_natAbs]
        simp
        split <;> omega
      show Q (.int (if x < 0 then -x else x)) H'
      rw [e]
      exact k

/-! ### LFrac -/
theorem ok_LFrac {P : Program} {w : World} {K : PySem.W.Frag} {mg : Str → Option Value} {base : Heap} (T : TX K mg) (D : Dx K mg "_law_frac" sLFrac)
    (c_LGcd : C8.Cal P w K mg base 1 "_law_gcd" (spLGcd) []) : C8.Cal P w K mg base 2 "_law_frac" (spFrac K) [] := by
  refine D.cal scLFrac (fun _ _ _ _ _ _ us hl => match us, hl with | [_, _], _ => rfl) (fun vs H Q E h => ?_) (fun f cdv A outer s H vs Q E hr h => ?_)
  · obtain ⟨a, b, rfl, hb, hs, k⟩ := h
    rfl
  · obtain ⟨a, b, rfl, hb, hs, k⟩ := h
    refine ⟨_, (pss_cons (ps_set (i := 2) scLFrac.nd rfl (by first | exact Or.inl rfl | exact Or.inr rfl) (C8.pe_c c_LGcd hr (by decide) (by rfl) (pa_cons (pv 0) (pa_cons (pv 1) pa_nil))))
        (pss_cons (ps_if (pt_cmpR op_lt (pv 1) pe_int (nomark _)) (pss_one (ps_set (i := 2) scLFrac.nd rfl (by first | exact Or.inl rfl | exact Or.inr rfl) (pe_un un_neg (pv 2))))
        pss_nil)
        (pss_one (ps_ret (pe_tup (pa_cons (pe_op op_fdivW (pv 0) (pv 2)) (pa_cons (pe_op op_fdivW (pv 1) (pv 2)) pa_nil))))))), ?_⟩
    have hg : (Int.gcd a b : Int) ≤ b := Int.le_of_dvd hb (Int.gcd_dvd_right ..)
    have hg0 : 0 < (Int.gcd a b : Int) := Int.ofNat_lt.mpr (Int.gcd_pos_iff.mpr (.inr (by omega)))
    have hd : CDivW 0 (Int.gcd a b) := wide_div (b := 9000) hg0 (by omega) (by decide) (by decide)
    refine ⟨_, rfl, _, rfl, a, b, rfl, by omega, ?_⟩
    refine ⟨_, rfl, _, _, rfl, rfl, _, rfl, ite2 (fun c => ?_) (fun c => ?_)⟩
    · have c' : b < 0 := of_decide_eq_true c
      omega
    refine ⟨_, rfl, _, rfl, _, _, rfl, rfl, hd, _, rfl, _, rfl, _, _, rfl, rfl, hd, (by show 2 ≤ sizeLine; decide), fun p np => ?_⟩
    dsimp only
    rw [div_num (a := a) hb, div_den (a := a) hb]
    exact k p _ (same_upd1 np) np (SqT.of upd_same)

/-! ### LPlus -/
theorem ok_LPlus {P : Program} {w : World} {K : PySem.W.Frag} {mg : Str → Option Value} {base : Heap} (T : TX K mg) (D : Dx K mg "_law_plus" sLPlus)
    (c_LFrac : C8.Cal P w K mg base 2 "_law_frac" (spFrac K) []) : C8.Cal P w K mg base 3 "_law_plus" (spPlus K) [] := by
  refine D.cal scLPlus (fun _ _ _ _ _ _ us hl => match us, hl with | [_, _], _ => rfl) (fun vs H Q E h => ?_) (fun f cdv A outer s H vs Q E hr h => ?_)
  · obtain ⟨a, b, r, s1, rfl, ha, hb, oa, ob, hc, k⟩ := h
    rfl
  · obtain ⟨a, b, r, s1, rfl, ha, hb, oa, ob, hc, k⟩ := h
    refine ⟨_, (pss_one (ps_ret (C8.pe_c c_LFrac hr (by decide) (by rfl) (pa_cons (pe_op op_add (pe_op op_mulW (pe_ix ix_tup (pv 0) pe_int (fun _ _ => rfl)) (pe_ix ix_tup (pv 1) pe_int (fun _ _ => rfl))) (pe_op op_mulW (pe_ix ix_tup (pv 1) pe_int (fun _ _ => rfl)) (pe_ix ix_tup (pv 0) pe_int (fun _ _ => rfl)))) (pa_cons (pe_op op_mulW (pe_ix ix_tup (pv 0) pe_int (fun _ _ => rfl)) (pe_ix ix_tup (pv 1) pe_int (fun _ _ => rfl))) pa_nil))))), ?_⟩
    refine ⟨_, rfl, a, _, _, _, rfl, rfl, ha, atI_nat (j := 0) rfl, _, rfl, b, _, _, _, rfl, rfl, hb, atI_nat (j := 1) rfl, _, _, rfl, rfl, mul_ok oa.1 (ok_den ob), ?_⟩
    refine ⟨_, rfl, b, _, _, _, rfl, rfl, hb, atI_nat (j := 0) rfl, _, rfl, a, _, _, _, rfl, rfl, ha, atI_nat (j := 1) rfl, _, _, rfl, rfl, mul_ok ob.1 (ok_den oa), ?_⟩
    refine ⟨_, _, rfl, rfl, ?_⟩
    refine ⟨_, rfl, a, _, _, _, rfl, rfl, ha, atI_nat (j := 1) rfl, _, rfl, b, _, _, _, rfl, rfl, hb, atI_nat (j := 1) rfl, _, _, rfl, rfl, mul_ok (ok_den oa) (ok_den ob), ?_⟩
    refine ⟨_, _, rfl, Int.mul_pos (den_pos' r) (den_pos' s1), mul_lt (ok_den oa) (ok_den ob), fun p H' h1 h2 h3 => ?_⟩
    rw [add_div] at h3
    exact k p H' h1 h2 h3

/-! ### LMinus -/
theorem ok_LMinus {P : Program} {w : World} {K : PySem.W.Frag} {mg : Str → Option Value} {base : Heap} (T : TX K mg) (D : Dx K mg "_law_minus" sLMinus)
    (c_LFrac : C8.Cal P w K mg base 2 "_law_frac" (spFrac K) []) : C8.Cal P w K mg base 3 "_law_minus" (spMinus K) [] := by
  refine D.cal scLMinus (fun _ _ _ _ _ _ us hl => match us, hl with | [_, _], _ => rfl) (fun vs H Q E h => ?_) (fun f cdv A outer s H vs Q E hr h => ?_)
  · obtain ⟨a, b, r, s1, rfl, ha, hb, oa, ob, hc, k⟩ := h
    rfl
  · obtain ⟨a, b, r, s1, rfl, ha, hb, oa, ob, hc, k⟩ := h
    refine ⟨_, (pss_one (ps_ret (C8.pe_c c_LFrac hr (by decide) (by rfl) (pa_cons (pe_op op_sub (pe_op op_mulW (pe_ix ix_tup (pv 0) pe_int (fun _ _ => rfl)) (pe_ix ix_tup (pv 1) pe_int (fun _ _ => rfl))) (pe_op op_mulW (pe_ix ix_tup (pv 1) pe_int (fun _ _ => rfl)) (pe_ix ix_tup (pv 0) pe_int (fun _ _ => rfl)))) (pa_cons (pe_op op_mulW (pe_ix ix_tup (pv 0) pe_int (fun _ _ => rfl)) (pe_ix ix_tup (pv 1) pe_int (fun _ _ => rfl))) pa_nil))))), ?_⟩
    refine ⟨_, rfl, a, _, _, _, rfl, rfl, ha, atI_nat (j := 0) rfl, _, rfl, b, _, _, _, rfl, rfl, hb, atI_nat (j := 1) rfl, _, _, rfl, rfl, mul_ok oa.1 (ok_den ob), ?_⟩
    refine ⟨_, rfl, b, _, _, _, rfl, rfl, hb, atI_nat (j := 0) rfl, _, rfl, a, _, _, _, rfl, rfl, ha, atI_nat (j := 1) rfl, _, _, rfl, rfl, mul_ok ob.1 (ok_den oa), ?_⟩
    refine ⟨_, _, rfl, rfl, ?_⟩
    refine ⟨_, rfl, a, _, _, _, rfl, rfl, ha, atI_nat (j := 1) rfl, _, rfl, b, _, _, _, rfl, rfl, hb, atI_nat (j := 1) rfl, _, _, rfl, rfl, mul_ok (ok_den oa) (ok_den ob), ?_⟩
    refine ⟨_, _, rfl, Int.mul_pos (den_pos' r) (den_pos' s1), mul_lt (ok_den oa) (ok_den ob), fun p H' h1 h2 h3 => ?_⟩
    rw [sub_div] at h3
    exact k p H' h1 h2 h3

/-! ### LTimes -/
theorem ok_LTimes {P : Program} {w : World} {K : PySem.W.Frag} {mg : Str → Option Value} {base : Heap} (T : TX K mg) (D : Dx K mg "_law_times" sLTimes)
    (c_LFrac : C8.Cal P w K mg base 2 "_law_frac" (spFrac K) []) : C8.Cal P w K mg base 3 "_law_times" (spTimes K) [] := by
  refine D.cal scLTimes (fun _ _ _ _ _ _ us hl => match us, hl with | [_, _], _ => rfl) (fun vs H Q E h => ?_) (fun f cdv A outer s H vs Q E hr h => ?_)
  · obtain ⟨a, b, r, s1, rfl, ha, hb, oa, ob, hc, k⟩ := h
    rfl
  · obtain ⟨a, b, r, s1, rfl, ha, hb, oa, ob, hc, k⟩ := h
    refine ⟨_, (pss_one (ps_ret (C8.pe_c c_LFrac hr (by decide) (by rfl) (pa_cons (pe_op op_mulW (pe_ix ix_tup (pv 0) pe_int (fun _ _ => rfl)) (pe_ix ix_tup (pv 1) pe_int (fun _ _ => rfl))) (pa_cons (pe_op op_mulW (pe_ix ix_tup (pv 0) pe_int (fun _ _ => rfl)) (pe_ix ix_tup (pv 1) pe_int (fun _ _ => rfl))) pa_nil))))), ?_⟩
    refine ⟨_, rfl, a, _, _, _, rfl, rfl, ha, atI_nat (j := 0) rfl, _, rfl, b, _, _, _, rfl, rfl, hb, atI_nat (j := 0) rfl, _, _, rfl, rfl, mul_ok oa.1 ob.1, ?_⟩
    refine ⟨_, rfl, a, _, _, _, rfl, rfl, ha, atI_nat (j := 1) rfl, _, rfl, b, _, _, _, rfl, rfl, hb, atI_nat (j := 1) rfl, _, _, rfl, rfl, mul_ok (ok_den oa) (ok_den ob), ?_⟩
    refine ⟨_, _, rfl, Int.mul_pos (den_pos' r) (den_pos' s1), mul_lt (ok_den oa) (ok_den ob), fun p H' h1 h2 h3 => ?_⟩
    rw [mul_div] at h3
    exact k p H' h1 h2 h3

/-! ### LOver -/
theorem ok_LOver {P : Program} {w : World} {K : PySem.W.Frag} {mg : Str → Option Value} {base : Heap} (T : TX K mg) (D : Dx K mg "_law_over" sLOver)
    (c_LFrac : C8.Cal P w K mg base 2 "_law_frac" (spFrac K) []) : C8.Cal P w K mg base 3 "_law_over" (spLOver K) [] := by
  refine D.cal scLOver (fun _ _ _ _ _ _ us hl => match us, hl with | [_, _], _ => rfl) (fun vs H Q E h => ?_) (fun f cdv A outer s H vs Q E hr h => ?_)
  · obtain ⟨a, b, r, s1, rfl, ha, hb, oa, ob, hc, k⟩ := h
    rfl
  · obtain ⟨a, b, r, s1, rfl, ha, hb, oa, ob, hc, k⟩ := h
    refine ⟨_, (pss_one (ps_ret (C8.pe_c c_LFrac hr (by decide) (by rfl) (pa_cons (pe_op op_mulW (pe_ix ix_tup (pv 0) pe_int (fun _ _ => rfl)) (pe_ix ix_tup (pv 1) pe_int (fun _ _ => rfl))) (pa_cons (pe_op op_mulW (pe_ix ix_tup (pv 0) pe_int (fun _ _ => rfl)) (pe_ix ix_tup (pv 1) pe_int (fun _ _ => rfl))) pa_nil))))), ?_⟩
    refine ⟨_, rfl, a, _, _, _, rfl, rfl, ha, atI_nat (j := 0) rfl, _, rfl, b, _, _, _, rfl, rfl, hb, atI_nat (j := 1) rfl, _, _, rfl, rfl, mul_ok oa.1 (ok_den ob), ?_⟩
    refine ⟨_, rfl, a, _, _, _, rfl, rfl, ha, atI_nat (j := 1) rfl, _, rfl, b, _, _, _, rfl, rfl, hb, atI_nat (j := 0) rfl, _, _, rfl, rfl, mul_ok (ok_den oa) ob.1, ?_⟩
    refine ⟨_, _, rfl, Int.mul_pos (den_pos' r) (num_pos' hc), mul_lt (ok_den oa) ob.1, fun p H' h1 h2 h3 => ?_⟩
    rw [over_div] at h3
    exact k p H' h1 h2 h3

/-! ### LSome -/
theorem ok_LSome {P : Program} {w : World} {K : PySem.W.Frag} {mg : Str → Option Value} {base : Heap} (T : TX K mg) (D : Dx K mg "_law_some" sLSome)
    (c_LDraw : C8.Cal P w K mg base 1 "_law_draw" (spDraw) [])
    (c_LFrac : C8.Cal P w K mg base 2 "_law_frac" (spFrac K) []) : C8.Cal P w K mg base 3 "_law_some" (spSome K) [] := by
  refine D.cal scLSome (fun _ _ _ _ _ _ us hl => match us, hl with | [_], _ => rfl) (fun vs H Q E h => ?_) (fun f cdv A outer s H vs Q E hr h => ?_)
  · obtain ⟨q, cl, N, rfl, hh, hN, k⟩ := h
    rfl
  · obtain ⟨q, cl, N, rfl, hh, hN, k⟩ := h
    refine ⟨_, (pss_one (ps_ret (C8.pe_c c_LFrac hr (by decide) (by rfl) (pa_cons (pe_op op_add pe_int (C8.pe_c c_LDraw hr (by decide) (by rfl) (pa_cons (pv 0) (pa_cons pe_int pa_nil)))) (pa_cons (pe_op op_add pe_int (C8.pe_c c_LDraw hr (by decide) (by rfl) (pa_cons (pv 0) (pa_cons pe_int pa_nil)))) pa_nil))))), ?_⟩
    refine ⟨_, rfl, q, cl, 6, N, rfl, hh, by omega, by decide, by decide, fun i H1 hi k1 h1 => ?_⟩
    refine ⟨_, _, rfl, rfl, _, rfl, q, cl, 4, _, rfl, h1, by omega, by decide, by decide, fun j H2 hj k2 h2 => ?_⟩
    refine ⟨_, _, rfl, rfl, _, _, rfl, by omega, by omega, fun p H3 s3 n3 f3 => ?_⟩
    have k13 : Kp q H H3 := (k1.trans k2).trans (Kp.of s3)
    have hn : H p = none := by
      cases e : H p with
      | none => rfl
      | some o =>
        have := (k1.trans k2) p o e
        rw [n3] at this
        by_cases z : p = q
        · subst z
          obtain ⟨cells, a, b, c, d, e2, _⟩ := h2
          rw [n3] at e2; cases e2
        · cases this z
    refine k p H3 _ k13 hn (h2.same s3) f3 ⟨1 + i, 1 + j, by omega, by omega, by omega, by omega, ?_⟩
    rw [Rat.divInt_eq_div]
    have e1 : ((1 + (i : Int) : Int) : Rat) = ((1 + i : Nat) : Rat) := by rw [← Rat.intCast_natCast]; congr 1
    have e2 : ((1 + (j : Int) : Int) : Rat) = ((1 + j : Nat) : Rat) := by rw [← Rat.intCast_natCast]; congr 1
    rw [e1, e2]

end Fair

set_option Elab.async false
set_option linter.all false
set_option maxRecDepth 100000
set_option maxHeartbeats 1000000
namespace Fair
open PySem PySem.Spec PyProof.Rows L2
/-- the ways of a statement come together in J -/
theorem join {a b : TS} {D : Ends} {σ : L2.St} {H : Hp} (J : L2.St → Hp → Prop) (h1 : ∀ R : L2.St → Hp → Prop, (∀ σ1 H1, J σ1 H1 → R σ1 H1) → a { D with nx := R } σ H) (h2 : ∀ σ1 H1, J σ1 H1 → b D σ1 H1) : tSeq a b D σ H := h1 _ h2
/-! ### lists of stalls: one is taken out -/
theorem erase_map {α β : Type} (f : α → β) : ∀ (l : List α) (k : Nat), (l.map f).eraseIdx k = (l.eraseIdx k).map f
  | [], _ => rfl
  | _ :: _, 0 => rfl
  | a :: l, k + 1 => by
    show f a :: (l.map f).eraseIdx k = f a :: (l.eraseIdx k).map f
    rw [erase_map f l k]
theorem erase_perm {α : Type} : ∀ {l : List α} {k : Nat} {x : α}, l[k]? = some x → (x :: l.eraseIdx k).Perm l
  | [], k, x, h => by simp at h
  | a :: l, 0, x, h => by simp at h; subst h; exact List.Perm.refl _
  | a :: l, k + 1, x, h => by
    have h2 : l[k]? = some x := by simpa using h
    exact (List.Perm.swap a x _).trans ((erase_perm h2).cons a)
theorem Each.erase {α : Type} {R : Addr → α → Prop} {as : List Addr} {xs : List α} (h : Each R as xs) (k : Nat) : Each R (as.eraseIdx k) (xs.eraseIdx k) := by
  refine ⟨by rw [List.length_eraseIdx, List.length_eraseIdx, h.1], fun i a x h1 h2 => ?_⟩
  rw [List.getElem?_eraseIdx] at h1 h2
  split at h1
  · rename_i c
    rw [if_pos c] at h2
    exact h.2 _ _ _ h1 h2
  · rename_i c
    rw [if_neg c] at h2
    exact h.2 _ _ _ h1 h2
section
variable {K : PySem.W.Frag} {H H1 : Hp} {l a : Addr} {ss : List Stl} {s : Stl}
theorem LstS.imm (h : LstS K H l ss) (i : Imm H H1) (e : H1 l = H l) : LstS K H1 l ss := let ⟨as, h1, h2⟩ := h; ⟨as, by rw [e]; exact h1, h2.mono fun _ _ z => z.imm i⟩
theorem LstS.isL (h : LstS K H l ss) : ∃ xs, H l = some (.lst xs) ∧ xs.length = ss.length := let ⟨as, h1, h2⟩ := h; ⟨_, h1, by rw [List.length_map]; exact h2.1⟩
theorem LstS.push (h : LstS K H l ss) (ha : StlAt K H a s) : ∃ acc, H l = some (.lst acc) ∧ acc.length = ss.length ∧ LstS K (upd H l (.lst (acc ++ [.ref a]))) l (ss ++ [s]) := by
  obtain ⟨as, h1, h2⟩ := h
  refine ⟨_, h1, by rw [List.length_map]; exact h2.1, as ++ [a], by rw [upd_same, List.map_append]; rfl, ?_⟩
  exact (h2.mono fun _ _ z => z.imm (Imm.lst h1)).snoc (ha.imm (Imm.lst h1))
theorem LstS.erase {k : Nat} (h : LstS K H l ss) (hs : ss[k]? = some s) : ∃ acc b, H l = some (.lst acc) ∧ acc.length = ss.length ∧ acc[k]? = some (.ref b) ∧ StlAt K H b s ∧ LstS K (upd H l (.lst (acc.eraseIdx k))) l (ss.eraseIdx k) := by
  obtain ⟨as, h1, h2⟩ := h
  obtain ⟨b, hb, sb⟩ := h2.of hs
  refine ⟨_, b, h1, by rw [List.length_map]; exact h2.1, refs_at hb, sb, as.eraseIdx k, by rw [upd_same, erase_map], ?_⟩
  exact (h2.erase k).mono fun _ _ z => z.imm (Imm.lst h1)
end
theorem HandAt.isL {H : Hp} {q cl : Addr} {N : Nat} (h : HandAt H q cl N) : ∃ xs, H q = some (.lst xs) := let ⟨_, _, _, _, _, e, _⟩ := h; ⟨_, e⟩
theorem HandAt.isC {H : Hp} {q cl : Addr} {N : Nat} (h : HandAt H q cl N) : ∃ xs, H cl = some (.lst xs) := let ⟨_, _, _, _, _, _, e, _⟩ := h; ⟨_, e⟩
/-- a list of another address is changed -/
theorem HandAt.lst {H : Hp} {q cl l : Addr} {N : Nat} {o : HO} (h : HandAt H q cl N) (hq : q ≠ l) (hc : cl ≠ l) : HandAt (upd H l o) q cl N := by
  obtain ⟨cells, i, b, s, c, h1, h2, h3⟩ := h
  exact ⟨cells, i, b, s, c, by rw [upd_ne hq]; exact h1, by rw [upd_ne hc]; exact h2, h3⟩
/-! ### the law's amounts -/
def Quo (x : Rat) : Prop := ∃ i1 j1 i2 j2 : Nat, 1 ≤ i1 ∧ i1 ≤ 6 ∧ 1 ≤ j1 ∧ j1 ≤ 4 ∧ 1 ≤ i2 ∧ i2 ≤ 6 ∧ 1 ≤ j2 ∧ j2 ≤ 4 ∧ x = ((i2 : Rat) / (j2 : Rat)) / ((i1 : Rat) / (j1 : Rat))
def Lq (x : Rat) : Prop := ∃ z : Nat, 0 < z ∧ x = (z : Rat) / 8640 ∧ z ≤ 1244160
structure StlLaw (n : Nat) (s : Stl) : Prop where
  un : s.u < n
  vn : s.v < n
  ne : s.u ≠ s.v
  hq : Lq s.h
  gq : Lq s.g
  rq : Lq s.r
  rt : s.h * s.g = s.r * s.r
theorem cast_pos {i : Nat} (h : 1 ≤ i) : (0 : Rat) < (i : Rat) := by
  have : ((0 : Nat) : Rat) < (i : Rat) := Rat.natCast_lt_natCast.mpr h
  simpa using this
theorem cast_ne {i : Nat} (h : 1 ≤ i) : (i : Rat) ≠ 0 := fun z => by
  have := cast_pos h
  rw [z] at this
  exact absurd this (by decide)
theorem Amt.pos {x : Rat} (h : Amt x) : 0 < x := by
  obtain ⟨i, j, i1, _, j1, _, rfl⟩ := h
  rw [Rat.div_def]
  exact Rat.mul_pos (cast_pos i1) (Rat.inv_pos.mpr (cast_pos j1))
theorem Amt.quo {x : Rat} (h : Amt x) : Quo x := by
  obtain ⟨i, j, i1, i6, j1, j4, rfl⟩ := h
  refine ⟨1, 1, i, j, by omega, by omega, by omega, by omega, i1, i6, j1, j4, ?_⟩
  have : ((1 : Nat) : Rat) = 1 := rfl
  rw [this]
  grind
theorem Amt.over {x y : Rat} (hx : Amt x) (hy : Amt y) : Quo (x / y) := by
  obtain ⟨i, j, i1, i6, j1, j4, rfl⟩ := hx
  obtain ⟨i', j', i1', i6', j1', j4', rfl⟩ := hy
  exact ⟨i', j', i, j, i1', i6', j1', j4', i1, i6, j1, j4, rfl⟩
theorem Quo.pos {x : Rat} (h : Quo x) : 0 < x := by
  obtain ⟨i1, j1, i2, j2, a1, _, a2, _, a3, _, a4, _, rfl⟩ := h
  rw [Rat.div_def, Rat.div_def, Rat.div_def]
  exact Rat.mul_pos (Rat.mul_pos (cast_pos a3) (Rat.inv_pos.mpr (cast_pos a4))) (Rat.inv_pos.mpr (Rat.mul_pos (cast_pos a1) (Rat.inv_pos.mpr (cast_pos a2))))
theorem lq_of {x : Rat} {a b : Nat} (hb : 1 ≤ b) (ha : 1 ≤ a) (e : x = (a : Rat) / (b : Rat)) {d : Nat} (hd : b * d = 8640) (hm : a * d ≤ 1244160) : Lq x := by
  have d1 : 1 ≤ d := Nat.pos_of_ne_zero fun z => by subst z; simp at hd
  refine ⟨a * d, Nat.mul_pos ha d1, ?_, hm⟩
  have : ((b * d : Nat) : Rat) = 8640 := by rw [hd]; rfl
  rw [← this, e, Rat.natCast_mul, Rat.natCast_mul]
  have := cast_ne hb
  have := cast_ne d1
  grind
/-- which parts of 8640 there are -/
theorem parts {i j1 j2 : Nat} (a1 : 1 ≤ i) (a2 : i ≤ 6) (b1 : 1 ≤ j1) (b2 : j1 ≤ 4) (c1 : 1 ≤ j2) (c2 : j2 ≤ 4) : ∃ d, j1 * j2 * i * d = 8640 := by
  obtain ⟨x, hx⟩ : ∃ x, i * x = 60 := by
    match i, a1, a2 with
    | 1, _, _ => exact ⟨60, rfl⟩
    | 2, _, _ => exact ⟨30, rfl⟩
    | 3, _, _ => exact ⟨20, rfl⟩
    | 4, _, _ => exact ⟨15, rfl⟩
    | 5, _, _ => exact ⟨12, rfl⟩
    | 6, _, _ => exact ⟨10, rfl⟩
  have tw : ∀ j : Nat, 1 ≤ j → j ≤ 4 → ∃ y, j * y = 12 := fun j h1 h2 => by
    match j, h1, h2 with
    | 1, _, _ => exact ⟨12, rfl⟩
    | 2, _, _ => exact ⟨6, rfl⟩
    | 3, _, _ => exact ⟨4, rfl⟩
    | 4, _, _ => exact ⟨3, rfl⟩
  obtain ⟨y, hy⟩ := tw j1 b1 b2
  obtain ⟨z, hz⟩ := tw j2 c1 c2
  refine ⟨x * y * z, ?_⟩
  have : j1 * j2 * i * (x * y * z) = (j1 * y) * (j2 * z) * (i * x) := by
    simp only [Nat.mul_assoc, Nat.mul_comm, Nat.mul_left_comm]
  rw [this, hx, hy, hz]
theorem lq_mk {x : Rat} {a i j1 j2 : Nat} (a0 : 1 ≤ a) (a9 : a ≤ 144) (a1 : 1 ≤ i) (a2 : i ≤ 6) (b1 : 1 ≤ j1) (b2 : j1 ≤ 4) (c1 : 1 ≤ j2) (c2 : j2 ≤ 4) (e : x = (a : Rat) / ((j1 * j2 * i : Nat) : Rat)) : Lq x := by
  obtain ⟨d, hd⟩ := parts a1 a2 b1 b2 c1 c2
  have hb : 1 ≤ j1 * j2 * i := Nat.mul_pos (Nat.mul_pos b1 c1) a1
  have hd2 : d ≤ 8640 := by
    rw [← hd]
    exact Nat.le_mul_of_pos_left _ hb
  exact lq_of hb a0 e hd (Nat.le_trans (Nat.mul_le_mul a9 hd2) (by decide))
theorem mul3 {a b c x y z : Nat} (h1 : a ≤ x) (h2 : b ≤ y) (h3 : c ≤ z) : a * b * c ≤ x * y * z := Nat.mul_le_mul (Nat.mul_le_mul h1 h2) h3
theorem stlLaw_of {n u v : Nat} {x y : Rat} (hu : u < n) (hv : v < n) (ne : u ≠ v) (hy : Amt y) (hx : Quo x) : StlLaw n ⟨u, v, y * x, y / x, y⟩ := by
  have px := hx.pos
  have py := hy.pos
  obtain ⟨i, j, p1, p2, p3, p4, rfl⟩ := hy
  obtain ⟨i1, j1, i2, j2, a1, a2, a3, a4, a5, a6, a7, a8, rfl⟩ := hx
  have n1 := cast_ne p1
  have n2 := cast_ne p3
  have n3 := cast_ne a1
  have n4 := cast_ne a3
  have n5 := cast_ne a5
  have n6 := cast_ne a7
  refine ⟨hu, hv, ne, ?_, ?_, ?_, ?_⟩
  · refine lq_mk (a := i * i2 * j1) (i := i1) (j1 := j) (j2 := j2) (Nat.mul_pos (Nat.mul_pos p1 a5) a3) (mul3 p2 a6 a4) a1 a2 p3 p4 a7 a8 ?_
    show (i : Rat) / (j : Rat) * ((i2 : Rat) / (j2 : Rat) / ((i1 : Rat) / (j1 : Rat))) = _
    rw [Rat.natCast_mul, Rat.natCast_mul, Rat.natCast_mul, Rat.natCast_mul]
    grind
  · refine lq_mk (a := i * j2 * i1) (i := i2) (j1 := j) (j2 := j1) (Nat.mul_pos (Nat.mul_pos p1 a7) a1) (Nat.le_trans (mul3 p2 a8 a2) (by decide)) a5 a6 p3 p4 a3 a4 ?_
    show (i : Rat) / (j : Rat) / ((i2 : Rat) / (j2 : Rat) / ((i1 : Rat) / (j1 : Rat))) = _
    rw [Rat.natCast_mul, Rat.natCast_mul, Rat.natCast_mul, Rat.natCast_mul]
    grind
  · refine lq_mk (a := i) (i := 1) (j1 := j) (j2 := 1) p1 (by omega) (by omega) (by omega) p3 p4 (by omega) (by omega) ?_
    show (i : Rat) / (j : Rat) = _
    rw [Nat.mul_one, Nat.mul_one]
  · show (i : Rat) / (j : Rat) * ((i2 : Rat) / (j2 : Rat) / ((i1 : Rat) / (j1 : Rat))) * ((i : Rat) / (j : Rat) / ((i2 : Rat) / (j2 : Rat) / ((i1 : Rat) / (j1 : Rat)))) = (i : Rat) / (j : Rat) * ((i : Rat) / (j : Rat))
    grind
theorem Lq.pos {x : Rat} (h : Lq x) : 0 < x := by
  obtain ⟨z, z0, rfl, _⟩ := h
  rw [Rat.div_def]
  exact Rat.mul_pos (cast_pos z0) (Rat.inv_pos.mpr (by decide))
theorem Lq.up {x : Rat} (h : Lq x) {k : Nat} (hk : k ≤ 6) : Nq 1 (x * (k : Rat)) := by
  obtain ⟨z, z0, rfl, hz⟩ := h
  refine ⟨((z * k * 60 : Nat) : Int), ?_, ?_⟩
  · rw [Rat.intCast_natCast, Rat.natCast_mul, Rat.natCast_mul]
    have : ((60 : Nat) : Rat) = 60 := rfl
    rw [this]
    grind
  · have : z * k ≤ 1244160 * 6 := Nat.mul_le_mul hz hk
    omega
theorem Lq.down {x : Rat} (h : Lq x) {k : Nat} (h1 : 1 ≤ k) (hk : k ≤ 6) : Nq 1 (x / (k : Rat)) := by
  obtain ⟨z, z0, rfl, hz⟩ := h
  obtain ⟨d, hd⟩ : ∃ d, k * d = 60 := by
    match k, h1, hk with
    | 1, _, _ => exact ⟨60, rfl⟩
    | 2, _, _ => exact ⟨30, rfl⟩
    | 3, _, _ => exact ⟨20, rfl⟩
    | 4, _, _ => exact ⟨15, rfl⟩
    | 5, _, _ => exact ⟨12, rfl⟩
    | 6, _, _ => exact ⟨10, rfl⟩
  have hd2 : d ≤ 60 := by
    rw [← hd]
    exact Nat.le_mul_of_pos_left _ h1
  refine ⟨((z * d : Nat) : Int), ?_, ?_⟩
  · rw [Rat.intCast_natCast, Rat.natCast_mul]
    have e : ((k * d : Nat) : Rat) = 60 := by rw [hd]; rfl
    rw [Rat.natCast_mul] at e
    have := cast_ne h1
    grind
  · have : z * d ≤ 1244160 * 60 := Nat.mul_le_mul hz hd2
    omega
theorem StlLaw.ok {n : Nat} {s : Stl} (h : StlLaw n s) : StlOk n s := by
  have one : ∀ x, Lq x → Nq 1 x := fun x hx => by
    have := hx.up (k := 1) (by decide)
    have e : ((1 : Nat) : Rat) = 1 := rfl
    rwa [e, Rat.mul_one] at this
  exact ⟨h.un, h.vn, h.ne, h.hq.pos, h.gq.pos, h.rq.pos, h.rt, one _ h.hq, one _ h.gq, one _ h.rq⟩
theorem StlLaw.led {n : Nat} {s : Stl} (h : StlLaw n s) {k : Nat} (h1 : 1 ≤ k) (hk : k ≤ 6) : StlOk n (s.led (s.h * (k : Rat))) := by
  have h0 := h.hq.pos
  have k0 := cast_pos h1
  have e : s.r * s.r / (s.h * (k : Rat)) = s.g / (k : Rat) := by
    rw [← h.rt]
    have : s.h ≠ 0 := fun z => by rw [z] at h0; exact absurd h0 (by decide)
    have := cast_ne h1
    grind
  refine ⟨h.un, h.vn, h.ne, Rat.mul_pos h0 k0, ?_, h.rq.pos, ?_, h.hq.up hk, ?_, h.ok.rq⟩
  · show 0 < s.r * s.r / (s.h * (k : Rat))
    rw [e, Rat.div_def]
    exact Rat.mul_pos h.gq.pos (Rat.inv_pos.mpr k0)
  · show s.h * (k : Rat) * (s.r * s.r / (s.h * (k : Rat))) = s.r * s.r
    have : s.h ≠ 0 := fun z => by rw [z] at h0; exact absurd h0 (by decide)
    have := cast_ne h1
    grind
  · show Nq 1 (s.r * s.r / (s.h * (k : Rat)))
    rw [e]
    exact h.gq.down h1 hk
/-! ### promises: stalls drawn -/
theorem VecR.congr {R : Hp → Addr → Rat → Prop} {H : Hp} {a : Addr} {n : Nat} {f g : Nat → Rat} (h : VecR R H a n f) (e : ∀ i, i < n → f i = g i) : VecR R H a n g := by
  obtain ⟨as, h1, h2, h3⟩ := h
  exact ⟨as, h1, h2, fun i q hq => by rw [← e i (by rw [← h2]; exact (List.getElem?_eq_some_iff.mp hq).1)]; exact h3 i q hq⟩
def spShuffled (K : PySem.W.Frag) : Sp := fun vs H Q _ => ∃ (q cl l : Addr) (N : Nat) (ss : List Stl), vs = [.ref q, .ref l] ∧ HandAt H q cl N ∧ N ≤ 90000 ∧ LstS K H l ss ∧ ss.length ≤ 16 ∧ q ≠ l ∧ cl ≠ l ∧
  ∀ (p : Addr) (H' : Hp) (ss' : List Stl), Kp q H H' → H p = none → HandAt H' q cl (N + 16) → LstS K H' p ss' → ss'.Perm ss → Q (.ref p) H'
def spLStall (K : PySem.W.Frag) : Sp := fun vs H Q _ => ∃ (q cl a : Addr) (u v N : Nat) (x : Rat), vs = [.ref q, .int u, .int v, .ref a] ∧ HandAt H q cl N ∧ N ≤ 90000 ∧ FrAt K H a x ∧ Quo x ∧
  ∀ (p : Addr) (H' : Hp) (y : Rat), Kp q H H' → H p = none → HandAt H' q cl (N + 2) → Amt y → StlAt K H' p ⟨u, v, y * x, y / x, y⟩ → Q (.ref p) H'
def spLStalls (K : PySem.W.Frag) : Sp := fun vs H Q _ => ∃ (q cl : Addr) (n m w N : Nat), vs = [.ref q, .int n, .int m, .int w] ∧ HandAt H q cl N ∧ N ≤ 1000 ∧ 1 ≤ n ∧ n ≤ 8 ∧ m ≤ 16 ∧
  ∀ (p : Addr) (H' : Hp) (ss : List Stl), Kp q H H' → H p = none → HandAt H' q cl (N + 500) → LstS K H' p ss → ss.length ≤ 16 → (∀ s ∈ ss, StlLaw n s) → (w = 1 → ∃ x : Nat → Rat, (∀ i, i < n → 0 < x i) ∧ Fits ss x) → Q (.ref p) H'
def spSizes (K : PySem.W.Frag) : Sp := fun vs H Q _ => ∃ (q cl : Addr) (N : Nat), vs = [.ref q] ∧ HandAt H q cl N ∧ N ≤ 1000 ∧ ∀ (p : Addr) (H' : Hp) (n m : Nat), Kp q H H' → H p = none → HandAt H' q cl (N + 3) → SqT K H' p [.int n, .int m] → 1 ≤ n → n ≤ 8 → m ≤ 16 → Q (.ref p) H'
def spWhole : Sp := fun vs H Q _ => ∃ i : Int, vs = [.int i] ∧ Q (.bl true) H
def spLIsAmount (K : PySem.W.Frag) : Sp := fun vs H Q _ => ∃ (a : Addr) (r : Rat), vs = [.ref a] ∧ FrAt K H a r ∧ 0 ≤ r ∧ Q (.bl true) H
def spNone (K : PySem.W.Frag) : Sp := fun vs H Q _ => ∃ n : Nat, vs = [.int n] ∧ 1 ≤ n ∧ n ≤ 8 ∧ ∀ (p : Addr) (H' : Hp), Same H H' → H p = none → TupF K H' p (List.replicate n 0) → Q (.ref p) H'
theorem kp_none {q p : Addr} {H H' : Hp} (k : Kp q H H') (n : H' p = none) {xs : List V} (h : H q = some (.lst xs)) (h' : ∃ ys, H' q = some (.lst ys)) : H p = none := by
  cases e : H p with
  | none => rfl
  | some o =>
    by_cases z : p = q
    · subst z
      obtain ⟨ys, e2⟩ := h'
      rw [n] at e2; cases e2
    · rw [k p o e z] at n; cases n
/-! ### while stalls are drawn -/
structure DS (K : PySem.W.Frag) (H0 H : Hp) (q cl D fl : Addr) (n : Nat) (f : Nat → Rat) (fs : List Stl) (M : Nat) : Prop where
  sc : VecF K H D n f
  fo : LstS K H fl fs
  ha : HandAt H q cl M
  kp : Kp q H0 H
  n1 : D ≠ q
  n2 : fl ≠ q
  n3 : cl ≠ D
  n4 : cl ≠ fl
  n5 : D ≠ fl
  n6 : H0 fl = none
section
variable {K : PySem.W.Frag} {H0 H H1 : Hp} {q cl D fl a : Addr} {n M M' : Nat} {f : Nat → Rat} {fs : List Stl} {s : Stl}
theorem DS.draw (h : DS K H0 H q cl D fl n f fs M) (k : Kp q H H1) (h1 : HandAt H1 q cl M') : DS K H0 H1 q cl D fl n f fs M' := by
  have im := h.ha.imm k
  obtain ⟨as, a1, _⟩ := id h.sc
  obtain ⟨bs, b1, _⟩ := id h.fo
  exact ⟨h.sc.mono frR im (by rw [a1]; exact k _ _ a1 h.n1), h.fo.imm im (by rw [b1]; exact k _ _ b1 h.n2), h1, h.kp.trans k, h.n1, h.n2, h.n3, h.n4, h.n5, h.n6⟩
theorem DS.same (h : DS K H0 H q cl D fl n f fs M) (k : Same H H1) : DS K H0 H1 q cl D fl n f fs M := h.draw (Kp.of k) (h.ha.same k)
theorem DS.mono (h : DS K H0 H q cl D fl n f fs M) (k : M ≤ M') : DS K H0 H q cl D fl n f fs M' := h.draw Kp.refl (h.ha.mono k)
theorem DS.push (h : DS K H0 H q cl D fl n f fs M) (ha : StlAt K H a s) : ∃ acc, H fl = some (.lst acc) ∧ acc.length = fs.length ∧ DS K H0 (upd H fl (.lst (acc ++ [.ref a]))) q cl D fl n f (fs ++ [s]) M := by
  obtain ⟨acc, e1, e2, e3⟩ := h.fo.push ha
  exact ⟨acc, e1, e2, h.sc.mono frR (Imm.lst e1) (upd_ne h.n5), e3, h.ha.lst h.n2.symm h.n4, fun b o e n => by rw [upd_ne (ne_of_none e h.n6)]; exact h.kp b o e n, h.n1, h.n2, h.n3, h.n4, h.n5, h.n6⟩
end
theorem Amt.ok {x : Rat} (h : Amt x) : Ok x := (stlLaw_of (n := 2) (u := 0) (v := 1) (by decide) (by decide) (by decide) h h.quo).ok.or
theorem mod_ne {a b n : Nat} (ha : a < n) (hb : b < n - 1) : (a + 1 + b) % n < n ∧ (a + 1 + b) % n ≠ a := by
  refine ⟨Nat.mod_lt _ (by omega), ?_⟩
  by_cases c : a + 1 + b < n
  · rw [Nat.mod_eq_of_lt c]; omega
  · rw [Nat.mod_eq_sub_mod (by omega), Nat.mod_eq_of_lt (by omega)]; omega
end Fair

set_option Elab.async false
set_option linter.all false
set_option maxRecDepth 100000
set_option maxHeartbeats 4000000
namespace Fair
open PySem PySem.Spec PyProof.Rows L2
/-! ### LStall -/
theorem ok_LStall {P : Program} {w : World} {K : PySem.W.Frag} {mg : Str → Option Value} {base : Heap} (T : TX K mg) (D : Dx K mg "_law_stall" sLStall)
    (c_LSome : C8.Cal P w K mg base 3 "_law_some" (spSome K) [])
    (c_LOver : C8.Cal P w K mg base 3 "_law_over" (spLOver K) [])
    (c_LTimes : C8.Cal P w K mg base 3 "_law_times" (spTimes K) []) : C8.Cal P w K mg base 4 "_law_stall" (spLStall K) [] := by
  refine D.cal scLStall (fun _ _ _ _ _ _ us hl => match us, hl with | [_, _, _, _], _ => rfl) (fun vs H Q E h => ?_) (fun f cdv A outer s H vs Q E hr h => ?_)
  · obtain ⟨q, cl, a, u, v, N, x, rfl, hh, hN, ha, hx, k⟩ := h
    rfl
  · obtain ⟨q, cl, a, u, v, N, x, rfl, hh, hN, ha, hx, k⟩ := h
    refine ⟨_, (pss_cons (ps_set (i := 4) scLStall.nd rfl (by first | exact Or.inl rfl | exact Or.inr rfl) (C8.pe_c c_LSome hr (by decide) (by rfl) (pa_cons (pv 0) pa_nil)))
        (pss_one (ps_ret (pe_tup (pa_cons (pv 1) (pa_cons (pv 2) (pa_cons (C8.pe_c c_LTimes hr (by decide) (by rfl) (pa_cons (pv 4) (pa_cons (pv 3) pa_nil))) (pa_cons (C8.pe_c c_LOver hr (by decide) (by rfl) (pa_cons (pv 4) (pa_cons (pv 3) pa_nil))) (pa_cons (pv 4) pa_nil))))))))), ?_⟩
    refine ⟨_, rfl, q, cl, N, rfl, hh, hN, fun p1 H1 y k1 n1 h1 f1 ay => ?_⟩
    obtain ⟨xs0, e0⟩ := hh.isL
    have im1 := hh.imm k1
    have oy : Ok y := by
      have := (stlLaw_of (n := 2) (u := 0) (v := 1) (by decide) (by decide) (by decide) ay ay.quo).ok
      exact this.or
    have ox : Ok x := by
      obtain ⟨i1, j1, i2, j2, a1, a2, a3, a4, a5, a6, a7, a8, rfl⟩ := hx
      have sm : ∀ i : Nat, i ≤ 6 → Sm 3 ((i : Nat) : Rat) := fun i hi => by
        refine ⟨?_, ?_⟩
        · rw [Rat.num_natCast]; omega
        · rw [Rat.den_natCast]; decide
      have q1 := (sm i2 (by omega)).div (sm j2 (by omega)) (cast_pos a7)
      have q2 := (sm i1 (by omega)).div (sm j1 (by omega)) (cast_pos a3)
      have p2 : (0 : Rat) < (i1 : Rat) / (j1 : Rat) := by
        rw [Rat.div_def]; exact Rat.mul_pos (cast_pos a1) (Rat.inv_pos.mpr (cast_pos a3))
      exact (q1.div q2 p2).mono (by decide)
    refine ⟨_, rfl, _, rfl, _, rfl, _, rfl, p1, a, y, x, rfl, f1, ha.imm im1, oy, ox, trivial, fun p2 H2 s2 n2 f2 => ?_⟩
    refine ⟨_, rfl, _, rfl, p1, a, y, x, rfl, f1.same s2, (ha.imm im1).same s2, oy, ox, hx.pos, fun p3 H3 s3 n3 f3 => ?_⟩
    have s23 := s2.trans s3
    refine ⟨_, rfl, (by show 5 ≤ sizeLine; decide), fun t nt => ?_⟩
    have s4 := same_upd1 (o := .tup [.int u, .int v, .ref p2, .ref p3, .ref p1]) nt
    have s14 := s23.trans s4
    refine k t _ y (k1.trans (Kp.of s14)) (kp_none k1 (s23.free nt) e0 h1.isL) (h1.same s14) ay ⟨p2, p3, p1, SqT.of upd_same, (f2.same s3).same s4, f3.same s4, f1.same s14⟩

/-! ### LSizes -/
theorem ok_LSizes {P : Program} {w : World} {K : PySem.W.Frag} {mg : Str → Option Value} {base : Heap} (T : TX K mg) (D : Dx K mg "_law_sizes" sLSizes)
    (c_LDraw : C8.Cal P w K mg base 1 "_law_draw" (spDraw) []) : C8.Cal P w K mg base 2 "_law_sizes" (spSizes K) [] := by
  refine D.cal scLSizes (fun _ _ _ _ _ _ us hl => match us, hl with | [_], _ => rfl) (fun vs H Q E h => ?_) (fun f cdv A outer s H vs Q E hr h => ?_)
  · obtain ⟨q, cl, N, rfl, hh, hN, k⟩ := h
    rfl
  · obtain ⟨q, cl, N, rfl, hh, hN, k⟩ := h
    refine ⟨_, (pss_cons (ps_if (pt_cmpR op_eq (C8.pe_c c_LDraw hr (by decide) (by rfl) (pa_cons (pv 0) (pa_cons pe_int pa_nil))) pe_int (nomark _)) (pss_one (ps_ret (pe_tup (pa_cons (pe_op op_add pe_int (C8.pe_c c_LDraw hr (by decide) (by rfl) (pa_cons (pv 0) (pa_cons pe_int pa_nil)))) (pa_cons (pe_op op_add pe_int (C8.pe_c c_LDraw hr (by decide) (by rfl) (pa_cons (pv 0) (pa_cons pe_int pa_nil)))) pa_nil)))))
        pss_nil)
        (pss_cons (ps_set (i := 1) scLSizes.nd rfl (by first | exact Or.inl rfl | exact Or.inr rfl) (pe_op op_add pe_int (C8.pe_c c_LDraw hr (by decide) (by rfl) (pa_cons (pv 0) (pa_cons pe_int pa_nil)))))
        (pss_one (ps_ret (pe_tup (pa_cons (pv 1) (pa_cons (C8.pe_c c_LDraw hr (by decide) (by rfl) (pa_cons (pv 0) (pa_cons (pe_op op_add pe_int (pv 1)) pa_nil))) pa_nil))))))), ?_⟩
    obtain ⟨xs0, e0⟩ := hh.isL
    refine ⟨_, rfl, q, cl, 14, N, rfl, hh, by omega, by decide, by decide, fun i H1 hi k1 h1 => ?_⟩
    refine ⟨rfl, _, rfl, ite2 (fun w1 => ?_) (fun w1 => ?_)⟩
    · refine ⟨_, rfl, q, cl, 3, _, rfl, h1, by omega, by decide, by decide, fun a H2 ha k2 h2 => ?_⟩
      refine ⟨_, _, rfl, rfl, _, rfl, q, cl, 11, _, rfl, h2, by omega, by decide, by decide, fun b H3 hb k3 h3 => ?_⟩
      refine ⟨_, _, rfl, rfl, (by show 2 ≤ sizeLine; decide), fun t nt => ?_⟩
      have k13 := (k1.trans k2).trans k3
      have s4 := same_upd1 (o := .tup [.int (6 + (a : Int)), .int (6 + (b : Int))]) nt
      exact k t _ (6 + a) (6 + b) (k13.trans (Kp.of s4)) (kp_none k13 nt e0 h3.isL) (h3.same s4) (SqT.of upd_same) (by omega) (by omega) (by omega)
    · refine ⟨_, rfl, q, cl, 5, _, rfl, h1, by omega, by decide, by decide, fun a H2 ha k2 h2 => ?_⟩
      refine ⟨_, _, rfl, rfl, _, rfl, _, rfl, _, rfl, _, _, rfl, rfl, q, cl, 4 + (1 + a), _, rfl, h2, by omega, by omega, by omega, fun b H3 hb k3 h3 => ?_⟩
      have k13 := (k1.trans k2).trans k3
      refine ⟨(by show 2 ≤ sizeLine; decide), fun t nt => ?_⟩
      have s4 := same_upd1 (o := .tup [.int (1 + (a : Int)), .int (b : Int)]) nt
      exact k t _ (1 + a) b (k13.trans (Kp.of s4)) (kp_none k13 nt e0 h3.isL) ((h3.mono (by omega)).same s4) (SqT.of upd_same) (by omega) (by omega) (by omega)

/-! ### LWhole -/
theorem ok_LWhole {P : Program} {w : World} {K : PySem.W.Frag} {mg : Str → Option Value} {base : Heap} (T : TX K mg) (D : Dx K mg "_law_whole" sLWhole)
     : C8.Cal P w K mg base 1 "_law_whole" (spWhole) [] := by
  refine D.cal scLWhole (fun _ _ _ _ _ _ us hl => match us, hl with | [_], _ => rfl) (fun vs H Q E h => ?_) (fun f cdv A outer s H vs Q E hr h => ?_)
  · obtain ⟨i, rfl, k⟩ := h
    rfl
  · obtain ⟨i, rfl, k⟩ := h
    refine ⟨_, (pss_one (ps_ret (pe_and (pe_callB call_isi (by rfl) T.f_isinstance (by decide +kernel) (pa_cons (pv 0) (pa_cons (pe_bltn (v := .ty "int") (by rfl) T.f_int (by decide +kernel) rfl) pa_nil))) (pe_one (pe_not (pe_callB call_isi (by rfl) T.f_isinstance (by decide +kernel) (pa_cons (pv 0) (pa_cons (pe_bltn (v := .ty "bool") (by rfl) T.f_bool (by decide +kernel) rfl) pa_nil)))))))), ?_⟩
    refine ⟨_, rfl, _, _, _, _, _, rfl, .ty "int", .base (.int i), kII, _, rfl, iteT ?_⟩
    exact ⟨_, rfl, _, _, _, _, _, rfl, .ty "bool", .base (.int i), kIB, _, rfl, k⟩

/-! ### LIsAmount -/
theorem ok_LIsAmount {P : Program} {w : World} {K : PySem.W.Frag} {mg : Str → Option Value} {base : Heap} (T : TX K mg) (D : Dx K mg "_law_is_amount" sLIsAmount)
    (c_LWhole : C8.Cal P w K mg base 1 "_law_whole" (spWhole) [])
    (c_LGcd : C8.Cal P w K mg base 1 "_law_gcd" (spLGcd) []) : C8.Cal P w K mg base 2 "_law_is_amount" (spLIsAmount K) [] := by
  refine D.cal scLIsAmount (fun _ _ _ _ _ _ us hl => match us, hl with | [_], _ => rfl) (fun vs H Q E h => ?_) (fun f cdv A outer s H vs Q E hr h => ?_)
  · obtain ⟨a, r, rfl, ha, h0, k⟩ := h
    rfl
  · obtain ⟨a, r, rfl, ha, h0, k⟩ := h
    refine ⟨_, (pss_cons (ps_if (PW.pt (pw_or (pt_not (pt_val (pe_callB call_isi (by rfl) T.f_isinstance (by decide +kernel) (pa_cons (pv 0) (pa_cons (pe_bltn (v := .ty "tuple") (by rfl) T.f_tuple (by decide +kernel) rfl) pa_nil))))) (pw_or (pt_cmpR op_ne (pe_callB call_len_seq (by rfl) T.f_len (by decide +kernel) (pa_cons (pv 0) pa_nil)) pe_int (nomark _)) (pw_or (pt_not (pt_val (C8.pe_c c_LWhole hr (by decide) (by rfl) (pa_cons (pe_ix ix_tup (pv 0) pe_int (fun _ _ => rfl)) pa_nil)))) (pw_or1 (pt_not (pt_val (C8.pe_c c_LWhole hr (by decide) (by rfl) (pa_cons (pe_ix ix_tup (pv 0) pe_int (fun _ _ => rfl)) pa_nil))))))))) (pss_one (ps_ret pe_bl))
        pss_nil)
        (pss_one (ps_ret (pe_and (pe_cmpR op_ge (pe_ix ix_tup (pv 0) pe_int (fun _ _ => rfl)) pe_int (nomark _)) (pe_and (pe_cmpR op_gt (pe_ix ix_tup (pv 0) pe_int (fun _ _ => rfl)) pe_int (nomark _)) (pe_one (pe_cmpR op_eq (C8.pe_c c_LGcd hr (by decide) (by rfl) (pa_cons (pe_ix ix_tup (pv 0) pe_int (fun _ _ => rfl)) (pa_cons (pe_ix ix_tup (pv 0) pe_int (fun _ _ => rfl)) pa_nil))) pe_int (nomark _)))))))), ?_⟩
    refine ⟨_, rfl, _, _, _, _, _, rfl, .ty "tuple", tyX_tup ha, kTT, _, rfl, iteF ?_⟩
    refine ⟨_, rfl, a, _, rfl, .inr ha, rfl, _, rfl, iteNS rfl ?_⟩
    refine ⟨_, rfl, a, _, _, _, rfl, rfl, ha, atI_nat (j := 0) rfl, _, rfl, _, rfl, iteF ?_⟩
    refine ⟨_, rfl, a, _, _, _, rfl, rfl, ha, atI_nat (j := 1) rfl, _, rfl, _, rfl, iteF ?_⟩
    refine ⟨_, rfl, a, _, _, _, rfl, rfl, ha, atI_nat (j := 0) rfl, _, _, rfl, rfl, _, rfl, iteD (Rat.num_nonneg.mpr h0) ?_⟩
    refine ⟨_, rfl, a, _, _, _, rfl, rfl, ha, atI_nat (j := 1) rfl, _, _, rfl, rfl, _, rfl, iteD (den_pos' r) ?_⟩
    refine ⟨_, rfl, a, _, _, _, rfl, rfl, ha, atI_nat (j := 0) rfl, _, rfl, a, _, _, _, rfl, rfl, ha, atI_nat (j := 1) rfl, _, _, rfl, by omega, rfl, ?_⟩
    have e : decide (V.int (Int.gcd r.num r.den : Int) = V.int 1) = true := by rw [gcd_num_den]; rfl
    show Q (.bl (decide (V.int (Int.gcd r.num r.den : Int) = V.int 1))) H
    rw [e]
    exact k

theorem rep_one {α : Type} (x : α) : ∀ n : Nat, (List.replicate n [x]).flatten = List.replicate n x
  | 0 => rfl
  | n + 1 => by rw [List.replicate_succ, List.flatten_cons, rep_one x n]; rfl
/-! ### LNone -/
theorem ok_LNone {P : Program} {w : World} {K : PySem.W.Frag} {mg : Str → Option Value} {base : Heap} (T : TX K mg) (D : Dx K mg "_law_none" sLNone)
     : C8.Cal P w K mg base 1 "_law_none" (spNone K) [] := by
  refine D.cal scLNone (fun _ _ _ _ _ _ us hl => match us, hl with | [_], _ => rfl) (fun vs H Q E h => ?_) (fun f cdv A outer s H vs Q E hr h => ?_)
  · obtain ⟨n, rfl, n1, n8, k⟩ := h
    rfl
  · obtain ⟨n, rfl, n1, n8, k⟩ := h
    refine ⟨_, (pss_one (ps_ret (pe_op op_repU (pe_tup (pa_cons (pe_tup (pa_cons pe_int (pa_cons pe_int pa_nil))) pa_nil)) (pv 0)))), ?_⟩
    refine ⟨(by show 2 ≤ sizeLine; decide), fun z nz => ?_⟩
    refine ⟨(by show 1 ≤ sizeLine; decide), fun t nt => ?_⟩
    have s1 : Same H (upd H z (.tup [.int 0, .int 1])) := same_upd1 nz
    have s2 := same_of_upd (o := .tup [.ref z]) s1 nt
    have fz : FrAt K (upd (upd H z (.tup [.int 0, .int 1])) t (.tup [.ref z])) z 0 := same_tup (same_upd1 nt) (SqT.of upd_same)
    have ft : SqT K (upd (upd H z (.tup [.int 0, .int 1])) t (.tup [.ref z])) t [.ref z] := SqT.of upd_same
    generalize upd (upd H z (.tup [.int 0, .int 1])) t (.tup [.ref z]) = H2 at s2 fz ft
    have nt' : H t = none := s1.free nt
    have each : ∀ (H' : Hp) (m : Nat), FrAt K H' z 0 → Each (FrAt K H') (List.replicate m z) (List.replicate m 0) := fun H' m h => ⟨by rw [List.length_replicate, List.length_replicate], fun i a x h1 h2 => by
      have e1 := List.eq_of_mem_replicate (List.mem_of_getElem? h1)
      have e2 := List.eq_of_mem_replicate (List.mem_of_getElem? h2)
      rw [e1, e2]; exact h⟩
    refine ⟨_, rfl, ?_⟩
    by_cases c : n = 1
    · subst c
      exact .inl ⟨t, _, rfl, rfl, ft, k t H2 s2 nt' ⟨[z], ft, each H2 1 fz⟩⟩
    · refine .inr ⟨t, _, _, rfl, rfl, ft, by simp, by omega, by omega, (show 1 ≤ 1000 by decide), fun p np => ?_⟩
      have s3 := same_upd1 (o := .tup (List.replicate ((n : Int)).toNat [V.ref z]).flatten) np
      refine k p _ (s2.trans s3) (s2.free np) ⟨List.replicate n z, ?_, each _ n (fz.same s3)⟩
      have e : (List.replicate ((n : Int)).toNat [V.ref z]).flatten = (List.replicate n z).map V.ref := by
        rw [Int.toNat_natCast, List.map_replicate]
        exact rep_one _ n
      rw [← e]
      exact SqT.of upd_same

/-! ### LShuffled -/
theorem ok_LShuffled {P : Program} {w : World} {K : PySem.W.Frag} {mg : Str → Option Value} {base : Heap} (T : TX K mg) (D : Dx K mg "_law_shuffled" sLShuffled)
    (c_LDraw : C8.Cal P w K mg base 1 "_law_draw" (spDraw) []) : C8.Cal P w K mg base 2 "_law_shuffled" (spShuffled K) [] := by
  refine D.cal scLShuffled (fun _ _ _ _ _ _ us hl => match us, hl with | [_, _], _ => rfl) (fun vs H Q E h => ?_) (fun f cdv A outer s H vs Q E hr h => ?_)
  · obtain ⟨q, cl, l, N, ss, rfl, hh, hN, hl, h16, hql, hcll, k⟩ := h
    rfl
  · obtain ⟨q, cl, l, N, ss, rfl, hh, hN, hl, h16, hql, hcll, k⟩ := h
    refine ⟨_, (pss_cons (ps_set (i := 2) scLShuffled.nd rfl (by first | exact Or.inl rfl | exact Or.inr rfl) (pe_callTy call_list_of (by rfl) T.f_list (by decide +kernel) (pa_cons (pv 1) pa_nil)))
        (pss_cons (ps_set (i := 3) scLShuffled.nd rfl (by first | exact Or.inl rfl | exact Or.inr rfl) (pe_lst pa_nil))
        (pss_cons (ps_while PassesOwn.never (pt_cmpR op_gt (pe_callB call_len_seq (by rfl) T.f_len (by decide +kernel) (pa_cons (pv 2) pa_nil)) pe_int (nomark _)) (pss_one (ps_expr (pe_bm PySem.F.plainAttrs_list PySem.F.slot_list_append PySem.F.type_list_append mt_append (pv 3) (pa_cons (pe_bm PySem.F.plainAttrs_list PySem.F.slot_list_pop PySem.F.type_list_pop mt_popAt (pv 2) (pa_cons (C8.pe_c c_LDraw hr (by decide) (by rfl) (pa_cons (pv 0) (pa_cons (pe_callB call_len_seq (by rfl) T.f_len (by decide +kernel) (pa_cons (pv 2) pa_nil)) pa_nil))) pa_nil)) pa_nil)))))
        (pss_one (ps_ret (pv 3)))))), ?_⟩
    obtain ⟨xs0, e0⟩ := hh.isL
    obtain ⟨ls, l1, l2⟩ := id hl
    refine ⟨_, rfl, l, _, rfl, .inl (SqL.of l1), fun pl npl => ?_⟩
    have s1 : Same H (upd H pl (.lst (ls.map V.ref))) := same_upd1 npl
    refine ⟨(by show 0 ≤ sizeLine; decide), fun fl nfl => ?_⟩
    have s2 := same_of_upd (o := .lst []) s1 nfl
    have nfH : H fl = none := s1.free nfl
    have npf : pl ≠ fl := ne_of_none upd_same nfl
    have ep : LstS K (upd (upd H pl (.lst (ls.map V.ref))) fl (.lst [])) pl ss := ⟨ls, by rw [upd_ne npf]; exact upd_same, l2.mono fun _ _ z => z.same s2⟩
    have ef : LstS K (upd (upd H pl (.lst (ls.map V.ref))) fl (.lst [])) fl [] := ⟨[], upd_same, Each.nil⟩
    generalize upd (upd H pl (.lst (ls.map V.ref))) fl (.lst []) = H2 at s2 ep ef
    have nqp : q ≠ pl := ne_of_none e0 npl
    have nqf : q ≠ fl := ne_of_none e0 nfH
    obtain ⟨xs1, e1c⟩ := hh.isC
    have ncp : cl ≠ pl := ne_of_none e1c npl
    have ncf : cl ≠ fl := ne_of_none e1c nfH
    refine ⟨fun m σ H' => ∃ ps fs : List Stl, σ = [some (.ref q), some (.ref l), some (.ref pl), some (.ref fl)] ∧ LstS K H' pl ps ∧ LstS K H' fl fs ∧ (fs ++ ps).Perm ss ∧ HandAt H' q cl (N + fs.length) ∧ Kp q H H' ∧ m = ps.length,
      ⟨_, ss, [], rfl, ep, ef, List.Perm.refl _, hh.same s2, Kp.of s2, rfl⟩, ?_⟩
    rintro m σ H3 ⟨ps, fs, rfl, a1, a2, a3, a4, a5, rfl⟩
    obtain ⟨acc, b1, b2⟩ := a1.isL
    refine ⟨_, rfl, pl, _, rfl, .inl (SqL.of b1), _, _, rfl, rfl, _, rfl, ite2 (fun w1 => ?_) (fun w1 => ?_)⟩
    · have pos : 0 < ps.length := by
        have := of_decide_eq_true w1
        omega
      have lsum : fs.length + ps.length ≤ 16 := by
        have := a3.length_eq
        rw [List.length_append] at this
        omega
      refine ⟨fun σ' H' => ∃ ps' fs' : List Stl, σ' = [some (.ref q), some (.ref l), some (.ref pl), some (.ref fl)] ∧ LstS K H' pl ps' ∧ LstS K H' fl fs' ∧ (fs' ++ ps').Perm ss ∧ HandAt H' q cl (N + fs'.length) ∧ Kp q H H' ∧ ps'.length < ps.length,
        fun σ' H' ⟨ps', fs', c1, c2, c3, c4, c5, c6, c7⟩ => ⟨_, c7, ps', fs', c1, c2, c3, c4, c5, c6, rfl⟩, ?_⟩
      obtain ⟨accf, f1, f2⟩ := a2.isL
      refine ⟨_, rfl, .inl ⟨rfl, _, SqL.of f1⟩, _, rfl, .inl ⟨rfl, _, SqL.of b1⟩, _, rfl, _, rfl, pl, _, rfl, .inl (SqL.of b1), q, cl, acc.length, _, rfl, a4, by omega, by omega, by omega, fun i H4 hi k4 h4 => ?_⟩
      have im := a4.imm k4
      have a1' := a1.imm im (by rw [b1]; exact k4 _ _ b1 nqp.symm)
      have a2' := a2.imm im (by rw [f1]; exact k4 _ _ f1 nqf.symm)
      have hi2 : i < ps.length := by omega
      obtain ⟨acc', sb, d1, d2, d3, d4, d5⟩ := a1'.erase (List.getElem?_eq_getElem hi2)
      refine ⟨pl, acc', (i : Int), i, _, rfl, rfl, d1, by omega, by omega, (ixN_seq (ixN_nat (by omega))).1, d3, ?_⟩
      have k5 : Kp q H (upd H4 pl (.lst (acc'.eraseIdx i))) := fun b o e n => by rw [upd_ne (ne_of_none e npl)]; exact (a5.trans k4) b o e n
      have h5 := h4.lst (o := .lst (acc'.eraseIdx i)) nqp ncp
      have a2'' := a2'.imm (Imm.lst d1 (o := .lst (acc'.eraseIdx i))) (upd_ne npf.symm)
      have sb5 := d4.imm (Imm.lst d1 (o := .lst (acc'.eraseIdx i)))
      generalize upd H4 pl (.lst (acc'.eraseIdx i)) = H5 at k5 h5 a2'' sb5 d5
      obtain ⟨accg, g1, g2, g3⟩ := a2''.push sb5
      refine ⟨fl, accg, _, rfl, rfl, g1, small1000 (by omega), ps.eraseIdx i, fs ++ [ps[i]], rfl, d5.imm (Imm.lst g1) (upd_ne npf), g3, ?_, ?_, ?_, ?_⟩
      · rw [List.append_assoc]
        exact ((erase_perm (List.getElem?_eq_getElem hi2)).append_left fs).trans a3
      · have := h5.lst (o := .lst (accg ++ [.ref sb])) nqf ncf
        rw [List.length_append]
        exact this
      · exact fun b o e n => by rw [upd_ne (ne_of_none e nfH)]; exact k5 b o e n
      · rw [List.length_eraseIdx, if_pos hi2]; omega
    · have z : ps = [] := by
        cases ps with
        | nil => rfl
        | cons x r => exact absurd (decide_eq_true (show (0 : Int) < acc.length by rw [b2]; simp)) w1
      subst z
      rw [List.append_nil] at a3
      exact ⟨_, rfl, k fl H3 fs a5 nfH (a4.mono (by have := a3.length_eq; omega)) a2 a3⟩

end Fair

set_option Elab.async false
set_option linter.all false
set_option maxRecDepth 100000
set_option maxHeartbeats 4000000
namespace Fair
open PySem PySem.Spec PyProof.Rows L2
/-! ### LStalls -/
theorem ok_LStalls {P : Program} {w : World} {K : PySem.W.Frag} {mg : Str → Option Value} {base : Heap} (T : TX K mg) (D : Dx K mg "_law_stalls" sLStalls)
    (c_LSome : C8.Cal P w K mg base 3 "_law_some" (spSome K) [])
    (c_LDraw : C8.Cal P w K mg base 1 "_law_draw" (spDraw) [])
    (c_LOver : C8.Cal P w K mg base 3 "_law_over" (spLOver K) [])
    (c_LStall : C8.Cal P w K mg base 4 "_law_stall" (spLStall K) [])
    (c_LShuffled : C8.Cal P w K mg base 2 "_law_shuffled" (spShuffled K) []) : C8.Cal P w K mg base 5 "_law_stalls" (spLStalls K) [] := by
  refine D.cal scLStalls (fun _ _ _ _ _ _ us hl => match us, hl with | [_, _, _, _], _ => rfl) (fun vs H Q E h => ?_) (fun f cdv A outer s H vs Q E hr h => ?_)
  · obtain ⟨q, cl, n, m, w1, N, rfl, hh, hN, n1, n8, m16, k⟩ := h
    rfl
  · obtain ⟨q, cl, n, m, w1, N, rfl, hh, hN, n1, n8, m16, k⟩ := h
    refine ⟨_, (pss_cons (ps_setLc (i := 4) (own := [("_law_ware", 5)]) (by rfl) scLStalls.nd rfl rfl (sw_true rfl rfl rfl (by decide +kernel)) (pi_range1 rfl T.f_range (pa_cons (pv 1) pa_nil)) (blkOk_by (N := ["_law_hand_here", "_law_wares", "_law_many", "_law_way", "_law_scales", "_law_ware", "_law_hung", "_law_odd", "_law_found", "_law_k", "_law_one", "_law_other", "_law_quotient"]) (sc := defScope sLStalls) (by decide +kernel)) (fun _ _ _ _ _ => pg_name (i := 5) scLStalls.nd rfl (Or.inl rfl)) (fun _ _ _ _ _ => pts_nil) (fun _ _ _ _ _ => (C8.pe_c c_LSome hr (by decide) (by rfl) (pa_cons (pv 0) pa_nil))))
        (pss_cons (ps_set (i := 6) scLStalls.nd rfl (by first | exact Or.inl rfl | exact Or.inr rfl) (pe_cmpR op_gt (C8.pe_c c_LDraw hr (by decide) (by rfl) (pa_cons (pv 0) (pa_cons pe_int pa_nil))) pe_int (nomark _)))
        (pss_cons (ps_set (i := 7) scLStalls.nd rfl (by first | exact Or.inl rfl | exact Or.inr rfl) (C8.pe_c c_LDraw hr (by decide) (by rfl) (pa_cons (pv 0) (pa_cons (pe_op op_add (pv 2) pe_int) pa_nil))))
        (pss_cons (ps_set (i := 8) scLStalls.nd rfl (by first | exact Or.inl rfl | exact Or.inr rfl) (pe_lst pa_nil))
        (pss_cons (ps_for PassesOwn.never rfl (pi_range1 rfl T.f_range (pa_cons (pe_op op_mulW (pv 2) (pe_callTy call_int1 (by rfl) T.f_int (by decide +kernel) (pa_cons (pe_cmpR op_gt (pv 1) pe_int (nomark _)) pa_nil))) pa_nil)) (pg_name (i := 9) scLStalls.nd rfl (by first | exact Or.inl rfl | exact Or.inr rfl))
        (pss_cons (ps_set (i := 10) scLStalls.nd rfl (by first | exact Or.inl rfl | exact Or.inr rfl) (C8.pe_c c_LDraw hr (by decide) (by rfl) (pa_cons (pv 0) (pa_cons (pv 1) pa_nil))))
        (pss_cons (ps_set (i := 11) scLStalls.nd rfl (by first | exact Or.inl rfl | exact Or.inr rfl) (pe_op op_mod (pe_callTy call_int1 (by rfl) T.f_int (by decide +kernel) (pa_cons (pe_op op_add (pe_op op_add (pv 10) pe_int) (C8.pe_c c_LDraw hr (by decide) (by rfl) (pa_cons (pv 0) (pa_cons (pe_op op_sub (pv 1) pe_int) pa_nil)))) pa_nil)) (pv 1)))
        (pss_cons (ps_if (PW.pt (pw_and (pt_val (pv 6)) (pw_and1 (pt_cmpR op_lt (pe_op op_add (pv 9) pe_int) (pv 1) (nomark _))))) (pss_cons (ps_asg (pe_ix ix_list (pe_lst (pa_cons (pe_tup (pa_cons (pe_op op_add (pv 9) pe_int) (pa_cons (C8.pe_c c_LDraw hr (by decide) (by rfl) (pa_cons (pv 0) (pa_cons (pe_op op_add (pv 9) pe_int) pa_nil))) pa_nil))) (pa_cons (pe_tup (pa_cons (pe_op op_add (pv 9) pe_int) (pa_cons (pv 9) pa_nil))) pa_nil))) (C8.pe_c c_LDraw hr (by decide) (by rfl) (pa_cons (pv 0) (pa_cons pe_int pa_nil))) (fun _ _ => rfl)) (pg_tup rfl (pgs_cons (pg_name (i := 10) scLStalls.nd rfl (by first | exact Or.inl rfl | exact Or.inr rfl)) (pgs_cons (pg_name (i := 11) scLStalls.nd rfl (by first | exact Or.inl rfl | exact Or.inr rfl)) pgs_nil))))
        (pss_one (ps_if (pt_cmpR op_eq (C8.pe_c c_LDraw hr (by decide) (by rfl) (pa_cons (pv 0) (pa_cons pe_int pa_nil))) pe_int (nomark _)) (pss_one (ps_par (i := 10) (j := 11) (by rfl) scLStalls.nd rfl rfl (by decide) rfl rfl (pa_cons (pv 11) (pa_cons (pv 10) pa_nil)) (by rfl)))
        pss_nil)))
        pss_nil)
        (pss_cons (ps_set (i := 12) scLStalls.nd rfl (by first | exact Or.inl rfl | exact Or.inr rfl) (C8.pe_c c_LOver hr (by decide) (by rfl) (pa_cons (pe_ix ix_list (pv 4) (pv 11) (fun _ _ => rfl)) (pa_cons (pe_ix ix_list (pv 4) (pv 10) (fun _ _ => rfl)) pa_nil))))
        (pss_cons (ps_if (PW.pt (pw_or (pt_cmpR op_eq (pv 3) pe_int (nomark _)) (pw_or1 (PW.pt (pw_and (pt_cmpR op_eq (pv 3) pe_int (nomark _)) (pw_and1 (pt_cmpR op_eq (pv 9) (pv 7) (nomark _)))))))) (pss_one (ps_set (i := 12) scLStalls.nd rfl (by first | exact Or.inl rfl | exact Or.inr rfl) (C8.pe_c c_LSome hr (by decide) (by rfl) (pa_cons (pv 0) pa_nil))))
        pss_nil)
        (pss_one (ps_expr (pe_bm PySem.F.plainAttrs_list PySem.F.slot_list_append PySem.F.type_list_append mt_append (pv 8) (pa_cons (C8.pe_c c_LStall hr (by decide) (by rfl) (pa_cons (pv 0) (pa_cons (pv 10) (pa_cons (pv 11) (pa_cons (pv 12) pa_nil))))) pa_nil))))))))))
        (pss_one (ps_ret (C8.pe_c c_LShuffled hr (by decide) (by rfl) (pa_cons (pv 0) (pa_cons (pv 8) pa_nil)))))))))), ?_⟩
    obtain ⟨xs0, e0⟩ := hh.isL
    obtain ⟨xs1, e1c⟩ := hh.isC
    refine ⟨_, rfl, (n : Int), rfl, by omega, by omega, fun D hD => lc_range (lo := 0) (n := ((n : Int)).toNat) (fun i H' => ∃ f1 : Nat → Rat, VecF K H' D i f1 ∧ (∀ j, j < i → Amt (f1 j)) ∧ HandAt H' q cl (N + 2 * i) ∧ Kp q H H') ⟨fun _ => 0, VecR.nil, fun j hj => absurd hj (by omega), hh.same (same_upd1 hD), Kp.of (same_upd1 hD)⟩ ?_ ?_⟩
    · rintro i H1 hi ⟨f1, v1, a1, h1, k1⟩
      have nqD : q ≠ D := ne_of_none e0 hD
      have ncD : cl ≠ D := ne_of_none e1c hD
      refine ⟨rfl, _, rfl, q, cl, _, rfl, h1, by omega, fun p1 H2 x k2 n2 h2 f2 ax => ?_⟩
      have v2 : VecF K H2 D i f1 := by
        obtain ⟨as, b1, _⟩ := id v1
        exact v1.mono frR (h1.imm k2) (by rw [b1]; exact k2 _ _ b1 nqD.symm)
      have v3 : VecF K H2 D i (putN f1 i x) := v2.congr fun j hj => by unfold putN; rw [if_neg (by omega)]
      obtain ⟨acc, b1, b2, b3⟩ := v3.push frR (Same.refl H2) (q := p1) (by unfold putN; rw [if_pos rfl]; exact f2)
      refine ⟨acc, b1, small1000 (by omega), _, b3, fun j hj => ?_, h2.lst nqD ncD, fun b o e nb => ?_⟩
      · unfold putN
        by_cases c : j = i
        · rw [if_pos c]; exact ax
        · rw [if_neg c]; exact a1 j (by omega)
      · rw [upd_ne (ne_of_none e hD)]; exact (k1.trans k2) b o e nb
    rintro H1 ⟨f1, v1, a1, h1, k1⟩
    have v1 : VecF K H1 D n f1 := v1
    have a1 : ∀ j, j < n → Amt (f1 j) := fun j hj => a1 j (by omega)
    have nqD : q ≠ D := ne_of_none e0 hD
    have ncD : cl ≠ D := ne_of_none e1c hD
    have h1 : HandAt H1 q cl (N + 16) := h1.mono (by omega)
    refine ⟨_, rfl, q, cl, 3, _, rfl, h1, by omega, by decide, by decide, fun i3 H2 hi3 k2 h2 => ⟨_, _, rfl, rfl, ?_⟩⟩
    refine ⟨_, rfl, _, rfl, _, _, rfl, rfl, q, cl, m + 1, _, rfl, h2, by omega, by omega, by omega, fun od H3 hod k3 h3 => ?_⟩
    have k13 := k2.trans k3
    have v3 : VecF K H3 D n f1 := by
      obtain ⟨as, b1, _⟩ := id v1
      exact v1.mono frR (h1.imm k13) (by rw [b1]; exact k13 _ _ b1 nqD.symm)
    refine ⟨(by show 0 ≤ sizeLine; decide), fun fl nfl => ?_⟩
    have s4 : Same H3 (upd H3 fl (.lst [])) := same_upd1 nfl
    obtain ⟨xs3, e3⟩ := h3.isL
    obtain ⟨xs4, e4⟩ := h3.isC
    obtain ⟨as3, e5, _⟩ := id v3
    have nflH : H fl = none := kp_none (k1.trans k13) nfl e0 h3.isL
    have ds : DS K H (upd H3 fl (.lst [])) q cl D fl n f1 [] (N + 20) := ⟨v3.same frR s4, ⟨[], upd_same, Each.nil⟩, (h3.mono (by omega)).same s4, (k1.trans k13).trans (Kp.of s4), nqD.symm, (ne_of_none e3 nfl).symm, ncD, ne_of_none e4 nfl, ne_of_none e5 nfl, nflH⟩
    generalize upd H3 fl (.lst []) = H4 at ds
    clear s4 e3 e4 e5 v3 v1 h1 h2 h3 k2 k3 k13 k1
    have hN2 : (m : Int) * (if decide ((1 : Int) < (n : Int)) = true then 1 else 0) = ((if 1 < n then m else 0 : Nat) : Int) := by
      by_cases c : 1 < n
      · rw [if_pos c, if_pos (decide_eq_true (by omega))]; simp
      · rw [if_neg c, if_neg (by simp; omega)]; simp
    refine ⟨_, rfl, _, rfl, _, _, rfl, rfl, .inr ⟨_, rfl, _, _, rfl, rfl, wide_mul (a := 20) (b := 2) (by omega) (by split <;> decide) (by decide) (by decide) (by decide), _, rfl, ?_, ?_, ?_⟩⟩
    · rw [hN2]; omega
    · rw [hN2]; split <;> omega
    rw [hN2]
    refine for_range (lo := 0) (n := (((if 1 < n then m else 0 : Nat) : Int)).toNat) (fun i σ H' => ∃ (fs : List Stl) (v5 v9 v10 v11 v12 : Option V), σ = [some (.ref q), some (.int n), some (.int m), some (.int w1), some (.ref D), v5, some (.bl (decide ((0 : Int) < i3))), some (.int od), some (.ref fl), v9, v10, v11, v12] ∧ DS K H H' q cl D fl n f1 fs (N + 20 + 20 * i) ∧ fs.length = i ∧
        (∀ s ∈ fs, StlLaw n s) ∧ (w1 = 1 → Fits fs f1)) ⟨[], _, _, _, _, _, rfl, ds, rfl, fun s hs => (by cases hs), fun _ s hs => (by cases hs)⟩ ?_ ?_
    · rintro i σ H5 hi ⟨fs, v5, v9, v10, v11, v12, rfl, ds, hl, law, fit⟩
      have hn : 1 < n := Classical.byContradiction fun c => by rw [if_neg c] at hi; simp at hi
      rw [if_pos hn] at hi
      have hi : i < m := by omega
      have e00 : (0 : Int) + i = i := by omega
      rw [e00]
      refine ⟨_, rfl, _, rfl, q, cl, n, _, rfl, ds.ha, by omega, by omega, by omega, fun a H6 ha k6 h6 => ?_⟩
      have ds6 := ds.draw k6 h6
      refine ⟨_, rfl, _, _, rfl, rfl, _, rfl, _, rfl, _, _, rfl, rfl, q, cl, n - 1, _, congrArg (fun z => [V.ref q, V.int z]) (show ((n : Int) - 1) = ((n - 1 : Nat) : Int) by omega), h6, by omega, by omega, by omega, fun b H7 hb k7 h7 => ?_⟩
      have ds7 := ds6.draw k7 h7
      refine ⟨_, _, rfl, rfl, .inl ⟨_, rfl, _, rfl, _, _, rfl, rfl, (show (0 : Int) < (n : Int) by omega), ?_⟩⟩
      obtain ⟨o1, o2⟩ := mod_ne ha hb
      have eo : ((a : Int) + 1 + b) % (n : Int) = (((a + 1 + b) % n : Nat) : Int) := by
        rw [Int.natCast_emod]; rfl
      dsimp only
      rw [eo]
      generalize (a + 1 + b) % n = ot at o1 o2
      refine join (a := tIfS _ _ _) (fun σ1 H1 => ∃ u v : Nat, σ1 = [some (.ref q), some (.int n), some (.int m), some (.int w1), some (.ref D), v5, some (.bl (decide ((0 : Int) < i3))), some (.int od), some (.ref fl), some (.int i), some (.int u), some (.int v), v12] ∧ u < n ∧ v < n ∧ u ≠ v ∧ DS K H H1 q cl D fl n f1 fs (N + 20 + 20 * i + 8)) (fun R hR => ?_) ?_
      · refine ⟨_, rfl, _, rfl, ite2 (fun w3 => ?_) (fun w3 => ?_)⟩
        · refine ⟨_, rfl, _, _, rfl, rfl, _, rfl, _, _, rfl, rfl, _, rfl, ite2 (fun w4 => ?_) (fun w4 => ?_)⟩
          · have ikn : i + 1 < n := by
              have := of_decide_eq_true w4
              omega
            refine ⟨_, rfl, _, _, rfl, rfl, _, rfl, _, rfl, _, _, rfl, rfl, q, cl, i + 1, _, rfl, h7, by omega, by omega, by omega, fun b2 H8 hb2 k8 h8 => ?_⟩
            have ds8 := ds7.draw k8 h8
            refine ⟨(by show 2 ≤ sizeLine; decide), fun t1 nt1 => ?_⟩
            refine ⟨_, rfl, _, _, rfl, rfl, _, rfl, (by show 2 ≤ sizeLine; decide), fun t2 nt2 => ?_⟩
            refine ⟨(by show 2 ≤ sizeLine; decide), fun l3 nl3 => ?_⟩
            have s1 := same_upd1 (o := .tup [.int ((i : Int) + 1), .int b2]) nt1
            have s2 := same_upd1 (o := .tup [.int ((i : Int) + 1), .int i]) nt2
            have s3 := same_upd1 (o := .lst [.ref t1, .ref t2]) nl3
            have T1 : SqT K (upd (upd (upd H8 t1 (.tup [.int ((i : Int) + 1), .int b2])) t2 (.tup [.int ((i : Int) + 1), .int i])) l3 (.lst [.ref t1, .ref t2])) t1 [.int ((i + 1 : Nat) : Int), .int b2] := same_tup (s2.trans s3) (SqT.of upd_same)
            have T2 : SqT K (upd (upd (upd H8 t1 (.tup [.int ((i : Int) + 1), .int b2])) t2 (.tup [.int ((i : Int) + 1), .int i])) l3 (.lst [.ref t1, .ref t2])) t2 [.int ((i + 1 : Nat) : Int), .int i] := same_tup s3 (SqT.of upd_same)
            have T3 : upd (upd (upd H8 t1 (.tup [.int ((i : Int) + 1), .int b2])) t2 (.tup [.int ((i : Int) + 1), .int i])) l3 (.lst [.ref t1, .ref t2]) l3 = some (.lst [.ref t1, .ref t2]) := upd_same
            have ds9 := ds8.same ((s1.trans s2).trans s3)
            have nl3q : l3 ≠ q := by
              obtain ⟨ys, e⟩ := ds8.ha.isL
              exact (ne_of_none ((s1.trans s2) _ _ e) nl3).symm
            generalize upd (upd (upd H8 t1 (.tup [.int ((i : Int) + 1), .int b2])) t2 (.tup [.int ((i : Int) + 1), .int i])) l3 (.lst [.ref t1, .ref t2]) = H9 at T1 T2 T3 ds9
            refine ⟨_, rfl, q, cl, 2, _, rfl, ds9.ha, by omega, by decide, by decide, fun e H10 he k10 h10 => ?_⟩
            have ds10 := ds9.draw k10 h10
            have im10 := ds9.ha.imm k10
            have T3' := k10 _ _ T3 nl3q
            obtain ⟨tt, c, hc, et, hcn⟩ : ∃ (tt : Addr) (c : Nat), ([V.ref t1, V.ref t2] : List V)[e]? = some (.ref tt) ∧ SqT K H10 tt [.int ((i + 1 : Nat) : Int), .int c] ∧ c < i + 1 := by
              match e, he with
              | 0, _ => exact ⟨t1, b2, rfl, imm_tup im10 T1, hb2⟩
              | 1, _ => exact ⟨t2, i, rfl, imm_tup im10 T2, by omega⟩
            refine ⟨l3, _, _, _, rfl, rfl, SqL.of T3', atI_nat hc, tt, _, rfl, et, rfl, _, _, rfl, _, _, rfl, rfl, ?_⟩
            refine ⟨_, rfl, q, cl, 2, _, rfl, ds10.ha, by omega, by decide, by decide, fun g H11 hg k11 h11 => ⟨rfl, _, rfl, ite2 (fun w5 => ?_) (fun w5 => ?_)⟩⟩
            · have ds11 := ds10.draw k11 h11
              refine ⟨_, rfl, _, rfl, _, _, rfl, ?_⟩
              exact hR _ _ ⟨c, i + 1, rfl, by omega, ikn, by omega, ds11.mono (by omega)⟩
            · have ds11 := ds10.draw k11 h11
              exact hR _ _ ⟨i + 1, c, rfl, ikn, by omega, by omega, ds11.mono (by omega)⟩
          · exact hR _ _ ⟨a, ot, rfl, ha, o1, fun z => o2 z.symm, ds7.mono (by omega)⟩
        · exact hR _ _ ⟨a, ot, rfl, ha, o1, fun z => o2 z.symm, ds7.mono (by omega)⟩
      · rintro σ1 H8 ⟨u, v, rfl, un, vn, ne, ds8⟩
        obtain ⟨as, pv, c1, c2, c3, c4, c5⟩ := ds8.sc.get vn
        obtain ⟨as', pu, c1', c2', c3', c4', c5'⟩ := ds8.sc.get un
        refine ⟨_, rfl, _, rfl, D, _, _, _, rfl, rfl, SqL.of c1, atI_nat c4, _, rfl, _, rfl, D, _, _, _, rfl, rfl, SqL.of c1', atI_nat c4', pv, pu, _, _, rfl, c5, c5', (a1 v vn).ok, (a1 u un).ok, (a1 u un).pos, fun p9 H9 s9 n9 f9 => ?_⟩
        have ds9 := ds8.same s9
        dsimp only [gName]
        refine join (a := tIfS _ _ _) (fun σ1 H1 => ∃ (p : Addr) (x : Rat), σ1 = [some (.ref q), some (.int n), some (.int m), some (.int w1), some (.ref D), v5, some (.bl (decide ((0 : Int) < i3))), some (.int od), some (.ref fl), some (.int i), some (.int u), some (.int v), some (.ref p)] ∧ FrAt K H1 p x ∧ Quo x ∧ (w1 = 1 → x = f1 v / f1 u) ∧ DS K H H1 q cl D fl n f1 fs (N + 20 + 20 * i + 10)) (fun R hR => ?_) ?_
        · have keep : R [some (.ref q), some (.int n), some (.int m), some (.int w1), some (.ref D), v5, some (.bl (decide ((0 : Int) < i3))), some (.int od), some (.ref fl), some (.int i), some (.int u), some (.int v), some (.ref p9)] H9 := hR _ _ ⟨p9, _, rfl, f9, (a1 v vn).over (a1 u un), fun _ => rfl, ds9.mono (by omega)⟩
          have neq : ∀ {x y : Int}, decide (V.int x = V.int y) = true → x = y := fun h => V.int.inj (of_decide_eq_true h)
          refine ⟨_, rfl, rfl, _, rfl, ite2 (fun w3 => ?_) (fun w3 => ?_)⟩
          · have z : ¬ w1 = 1 := fun z => by have := neq w3; omega
            refine ⟨_, rfl, q, cl, _, rfl, ds9.ha, by omega, fun p H10 x k10 n10 h10 f10 ax => ?_⟩
            exact hR _ _ ⟨p, x, rfl, f10, ax.quo, fun z' => absurd z' z, (ds9.draw k10 h10).mono (by omega)⟩
          · refine ⟨_, rfl, rfl, _, rfl, ite2 (fun w4 => ?_) (fun w4 => ?_)⟩
            · have z : ¬ w1 = 1 := fun z => by have := neq w4; omega
              refine ⟨_, rfl, _, rfl, rfl, _, rfl, ite2 (fun w5 => ?_) (fun w5 => ?_)⟩
              · refine ⟨_, rfl, q, cl, _, rfl, ds9.ha, by omega, fun p H10 x k10 n10 h10 f10 ax => ?_⟩
                exact hR _ _ ⟨p, x, rfl, f10, ax.quo, fun z' => absurd z' z, (ds9.draw k10 h10).mono (by omega)⟩
              · exact keep
            · exact iteF keep
        · rintro σ1 H10 ⟨p, x, rfl, f10, qx, wx, ds10⟩
          obtain ⟨xsf, ef, lf⟩ := ds10.fo.isL
          refine ⟨_, rfl, .inl ⟨rfl, _, SqL.of ef⟩, _, rfl, _, rfl, _, rfl, _, rfl, q, cl, p, u, v, _, x, rfl, ds10.ha, by omega, f10, qx, fun p2 H11 y k11 n11 h11 ay st => ?_⟩
          have ds11 := ds10.draw k11 h11
          obtain ⟨acc, g1, g2, ds12⟩ := ds11.push st
          refine ⟨fl, acc, _, rfl, rfl, g1, small1000 (by omega), fs ++ [⟨u, v, y * x, y / x, y⟩], _, _, _, _, _, rfl, ds12.mono (by omega), by rw [List.length_append, hl]; rfl, fun s hs => ?_, fun hw s hs => ?_⟩
          · rcases List.mem_append.mp hs with hs | hs
            · exact law s hs
            · simp at hs; subst hs
              exact stlLaw_of un vn ne ay qx
          · rcases List.mem_append.mp hs with hs | hs
            · exact fit hw s hs
            · simp at hs; subst hs
              show y * x * f1 u = y * f1 v
              rw [wx hw]
              have := (a1 u un).pos
              have : f1 u ≠ 0 := fun z => by rw [z] at this; exact absurd this (by decide)
              grind
    · rintro σ H5 ⟨fs, v5, v9, v10, v11, v12, rfl, ds, hl, law, fit⟩
      have hm : fs.length ≤ 16 := by
        rw [hl]; split <;> omega
      refine ⟨_, rfl, _, rfl, q, cl, fl, _, fs, rfl, ds.ha, by omega, ds.fo, hm, ds.n2.symm, ds.n4, fun p H6 ss' k6 n6 h6 l6 perm => ?_⟩
      refine k p H6 ss' (ds.kp.trans k6) (kp_none (ds.kp) n6 e0 ds.ha.isL) (h6.mono (by omega)) l6 (by rw [perm.length_eq]; exact hm) (fun s hs => law s (perm.mem_iff.mp hs)) fun hw => ⟨f1, fun j hj => (a1 j hj).pos, fun s hs => fit hw s (perm.mem_iff.mp hs)⟩

end Fair

set_option Elab.async false
set_option linter.all false
set_option maxRecDepth 100000
set_option maxHeartbeats 1000000
namespace Fair
open PySem PySem.Spec PyProof.Rows L2
def scLPiecesIn : Scope := { kind := .function, names := [(".0", .local), ("_law_one", .cell), ("tuple", .globalImplicit), ("range", .globalImplicit), ("_law_kind", .cell), ("_law_wares", .cell)], isGenerator := false, isCoroutine := false }
theorem tupOfK {X : Cx} {K : PySem.W.Frag} (h : X.K = K) : CallR X (.type "tuple") (fun xs H Q => ∃ p ys, xs = [.ref p] ∧ ((SqL K H p ys ∧ ∀ l, H l = none → Q (.ref l) (upd H l (.tup ys))) ∨ (SqT K H p ys ∧ Q (.ref p) H))) := by subst h; exact call_tuple_of
def spLPieces (K : PySem.W.Frag) : Sp := fun vs H Q _ => ∃ (l : Addr) (n : Nat) (ss : List Stl), vs = [.ref l, .int n] ∧ LstS K H l ss ∧ n ≤ 8 ∧ (∀ s ∈ ss, s.u < n ∧ s.v < n) ∧
  ∀ (q : Addr) (H' : Hp), Same H H' → H q = none → LstN K H' q (pcs n ss) → Q (.ref q) H'
/-! ### labels pass along the stalls -/
def relaxS (kd : Nat → Nat) (s : Stl) : Nat → Nat := fun w => if w = s.u ∨ w = s.v then min (kd s.u) (kd s.v) else kd w
structure Lab (n : Nat) (ss : List Stl) (kd : Nat → Nat) : Prop where
  cn : ∀ w, w < n → Conn ss (kd w) w
  le : ∀ w, w < n → kd w ≤ w
theorem Lab.start {n : Nat} {ss : List Stl} : Lab n ss (fun w => w) := ⟨fun _ _ => .refl, fun _ _ => Nat.le_refl _⟩
theorem Lab.step {n : Nat} {ss : List Stl} {kd : Nat → Nat} (h : Lab n ss kd) {s : Stl} (hs : s ∈ ss) (hu : s.u < n) (hv : s.v < n) : Lab n ss (relaxS kd s) := by
  have c : Conn ss s.u s.v := Conn.stl hs
  have cu := h.cn _ hu
  have cv := h.cn _ hv
  have lu := h.le _ hu
  have lv := h.le _ hv
  have cm : Conn ss (min (kd s.u) (kd s.v)) s.u := by
    rcases Nat.le_total (kd s.u) (kd s.v) with q | q
    · rw [Nat.min_eq_left q]; exact cu
    · rw [Nat.min_eq_right q]; exact cv.trans c.symm
  constructor
  · intro w hw
    unfold relaxS
    by_cases e : w = s.u ∨ w = s.v
    · rw [if_pos e]
      rcases e with rfl | rfl
      · exact cm
      · exact cm.trans c
    · rw [if_neg e]; exact h.cn w hw
  · intro w hw
    unfold relaxS
    by_cases e : w = s.u ∨ w = s.v
    · rw [if_pos e]
      rcases e with rfl | rfl <;> omega
    · rw [if_neg e]; exact h.le w hw
theorem Lab.good {n : Nat} {ss : List Stl} {kd : Nat → Nat} (h : Lab n ss kd) {s : Stl} (hs : s ∈ ss) (hu : s.u < n) (hv : s.v < n) {w : Nat} (hw : w < n) (g : First ss (kd w)) : relaxS kd s w = kd w := by
  have c : Conn ss s.u s.v := Conn.stl hs
  have cu := h.cn _ hu
  have cv := h.cn _ hv
  unfold relaxS
  by_cases e : w = s.u ∨ w = s.v
  · rw [if_pos e]
    rcases e with rfl | rfl
    · refine Nat.min_eq_left (Nat.not_lt.mp fun q => ?_)
      exact g _ q ((cv.trans c.symm).trans cu.symm)
    · refine Nat.min_eq_right (Nat.not_lt.mp fun q => ?_)
      exact g _ q ((cu.trans c).trans cv.symm)
  · rw [if_neg e]
/-- one of the two ends good: both good -/
theorem Lab.both {n : Nat} {ss : List Stl} {kd : Nat → Nat} (h : Lab n ss kd) {s : Stl} (hs : s ∈ ss) (hu : s.u < n) (hv : s.v < n) (g : First ss (kd s.u) ∨ First ss (kd s.v)) : First ss (relaxS kd s s.u) ∧ First ss (relaxS kd s s.v) := by
  have e : relaxS kd s s.u = relaxS kd s s.v := by
    unfold relaxS
    rw [if_pos (.inl rfl), if_pos (.inr rfl)]
  rcases g with g | g
  · have := h.good hs hu hv hu g
    exact ⟨by rw [this]; exact g, by rw [← e, this]; exact g⟩
  · have := h.good hs hu hv hv g
    exact ⟨by rw [e, this]; exact g, by rw [this]; exact g⟩
theorem Lab.fold {n : Nat} {ss : List Stl} : ∀ (l : List Stl) {kd : Nat → Nat}, Lab n ss kd → (∀ s ∈ l, s ∈ ss ∧ s.u < n ∧ s.v < n) →
    Lab n ss (l.foldl relaxS kd) ∧ (∀ w, w < n → First ss (kd w) → First ss (l.foldl relaxS kd w)) ∧ ∀ s ∈ l, First ss (kd s.u) ∨ First ss (kd s.v) → First ss (l.foldl relaxS kd s.u) ∧ First ss (l.foldl relaxS kd s.v)
  | [], kd, h, _ => ⟨h, fun _ _ g => g, fun s hs => (by cases hs)⟩
  | s :: l, kd, h, hl => by
    obtain ⟨h1, h2, h3⟩ := hl s List.mem_cons_self
    have st := h.step h1 h2 h3
    obtain ⟨a, b, c⟩ := Lab.fold l st fun x hx => hl x (List.mem_cons_of_mem _ hx)
    refine ⟨a, fun w hw g => b w hw ?_, fun x hx g => ?_⟩
    · rw [h.good h1 h2 h3 hw g]; exact g
    · rcases List.mem_cons.mp hx with rfl | hx
      · obtain ⟨g1, g2⟩ := h.both h1 h2 h3 g
        exact ⟨b _ h2 g1, b _ h3 g2⟩
      · obtain ⟨_, x2, x3⟩ := hl x (List.mem_cons_of_mem _ hx)
        refine c x hx (g.imp (fun g => ?_) fun g => ?_)
        · rw [h.good h1 h2 h3 x2 g]; exact g
        · rw [h.good h1 h2 h3 x3 g]; exact g
theorem filter_lt {α : Type} {p q : α → Bool} : ∀ {l : List α}, (∀ x ∈ l, p x = true → q x = true) → (∃ x ∈ l, q x = true ∧ p x = false) → (l.filter p).length < (l.filter q).length
  | [], _, ⟨x, hx, _⟩ => by cases hx
  | a :: l, h, ⟨x, hx, h1, h2⟩ => by
    have le : ∀ l : List α, (∀ x ∈ l, p x = true → q x = true) → (l.filter p).length ≤ (l.filter q).length := fun l => by
      induction l with
      | nil => intro _; exact Nat.le_refl _
      | cons a l ih =>
        intro h
        have := ih fun x hx => h x (List.mem_cons_of_mem _ hx)
        cases hp : p a with
        | true =>
          rw [List.filter_cons_of_pos hp, List.filter_cons_of_pos (h a List.mem_cons_self hp)]
          simp; omega
        | false =>
          rw [List.filter_cons_of_neg (by simp [hp])]
          cases hq : q a with
          | true => rw [List.filter_cons_of_pos hq]; simp; omega
          | false => rw [List.filter_cons_of_neg (by simp [hq])]; exact this
    have hl := le l fun x hx => h x (List.mem_cons_of_mem _ hx)
    rcases List.mem_cons.mp hx with rfl | hx
    · rw [List.filter_cons_of_neg (by simp [h2]), List.filter_cons_of_pos h1]
      simp; omega
    · have ih := filter_lt (fun x hx => h x (List.mem_cons_of_mem _ hx)) ⟨x, hx, h1, h2⟩
      cases hp : p a with
      | true =>
        rw [List.filter_cons_of_pos hp, List.filter_cons_of_pos (h a List.mem_cons_self hp)]
        simp; omega
      | false =>
        rw [List.filter_cons_of_neg (by simp [hp])]
        cases hq : q a with
        | true => rw [List.filter_cons_of_pos hq]; simp; omega
        | false => rw [List.filter_cons_of_neg (by simp [hq])]; exact ih
open Classical in
noncomputable def bad (n : Nat) (ss : List Stl) (kd : Nat → Nat) : Nat := ((List.range n).filter fun w => decide (¬ First ss (kd w))).length
open Classical in
theorem Lab.round {n : Nat} {ss : List Stl} {kd : Nat → Nat} (h : Lab n ss kd) (ok : ∀ s ∈ ss, s.u < n ∧ s.v < n) : Lab n ss (ss.foldl relaxS kd) ∧ (bad n ss (ss.foldl relaxS kd) = 0 ∨ bad n ss (ss.foldl relaxS kd) < bad n ss kd) := by
  obtain ⟨a, b, c⟩ := h.fold ss fun s hs => ⟨hs, ok s hs⟩
  refine ⟨a, ?_⟩
  by_cases z : bad n ss (ss.foldl relaxS kd) = 0
  · exact .inl z
  · refine .inr (filter_lt (fun x hx hp => ?_) ?_)
    · have hp := of_decide_eq_true hp
      exact decide_eq_true fun g => hp (b x (List.mem_range.mp hx) g)
    · -- some ware was not good before the round either
      have hpos : 0 < bad n ss (ss.foldl relaxS kd) := by omega
      obtain ⟨w, hw⟩ := List.exists_mem_of_length_pos hpos
      obtain ⟨wn, wb⟩ := List.mem_filter.mp hw
      have wn := List.mem_range.mp wn
      have wb := of_decide_eq_true wb
      have wb0 : ¬ First ss (kd w) := fun g => wb (b w wn g)
      obtain ⟨r, rw', rf, rc⟩ := first_of ss w
      have rgood : First ss (kd r) := by
        have e : kd r = r := by
          have l1 := h.le r (by omega)
          have l2 : ¬ kd r < r := fun q => rf _ q (h.cn r (by omega))
          omega
        rw [e]; exact rf
      have rn : r < n := by omega
      -- along the way from r to w
      have key : ∀ w, Conn ss r w → ¬ First ss (kd w) → ∃ x, x < n ∧ ¬ First ss (kd x) ∧ First ss (ss.foldl relaxS kd x) := fun w cw => by
        induction cw with
        | refl => intro g; exact absurd rgood g
        | step q adj ih =>
          rename_i b' c'
          intro g
          by_cases gb : First ss (kd b')
          · obtain ⟨s, hs, e⟩ := adj
            obtain ⟨su, sv⟩ := ok s hs
            rcases e with ⟨e1, e2⟩ | ⟨e1, e2⟩
            · subst e1 e2
              exact ⟨s.v, sv, g, (c s hs (.inl gb)).2⟩
            · subst e1 e2
              exact ⟨s.u, su, g, (c s hs (.inr gb)).1⟩
          · exact ih gb
      obtain ⟨x, xn, x1, x2⟩ := key w rc wb0
      exact ⟨x, List.mem_range.mpr xn, decide_eq_true x1, decide_eq_false fun z => z x2⟩
def rounds (ss : List Stl) : Nat → Nat → Nat
  | 0 => fun w => w
  | t + 1 => ss.foldl relaxS (rounds ss t)
open Classical in
theorem bad_le (n : Nat) (ss : List Stl) (kd : Nat → Nat) : bad n ss kd ≤ n := by
  have := List.length_filter_le (fun w => decide (¬ First ss (kd w))) (List.range n)
  rw [List.length_range] at this
  exact this
theorem rounds_ok {n : Nat} {ss : List Stl} (ok : ∀ s ∈ ss, s.u < n ∧ s.v < n) : ∀ t, Lab n ss (rounds ss t) ∧ (bad n ss (rounds ss t) = 0 ∨ bad n ss (rounds ss t) + t ≤ n)
  | 0 => ⟨Lab.start, .inr (bad_le _ _ _)⟩
  | t + 1 => by
    obtain ⟨a, b⟩ := rounds_ok ok t
    obtain ⟨c, d⟩ := a.round ok
    refine ⟨c, ?_⟩
    show bad n ss (ss.foldl relaxS (rounds ss t)) = 0 ∨ bad n ss (ss.foldl relaxS (rounds ss t)) + (t + 1) ≤ n
    omega
open Classical in
theorem rounds_fin {n : Nat} {ss : List Stl} (ok : ∀ s ∈ ss, s.u < n ∧ s.v < n) {w : Nat} (hw : w < n) : First ss (rounds ss n w) ∧ Conn ss (rounds ss n w) w := by
  obtain ⟨a, b⟩ := rounds_ok ok n
  refine ⟨Classical.byContradiction fun z => ?_, a.cn w hw⟩
  have hb : bad n ss (rounds ss n) = 0 := by omega
  have : w ∈ (List.range n).filter fun w => decide (¬ First ss (rounds ss n w)) := List.mem_filter.mpr ⟨List.mem_range.mpr hw, decide_eq_true z⟩
  unfold bad at hb
  rw [List.length_eq_zero_iff] at hb
  rw [hb] at this
  cases this
/-- the labels as a list -/
def kdL (n : Nat) (kd : Nat → Nat) : List V := (List.range n).map fun w => V.int (kd w : Int)
theorem kdL_get {n : Nat} {kd : Nat → Nat} {w : Nat} (h : w < n) : (kdL n kd)[w]? = some (V.int (kd w : Int)) := by
  unfold kdL
  rw [List.getElem?_map, List.getElem?_range h]; rfl
theorem kdL_len (n : Nat) (kd : Nat → Nat) : (kdL n kd).length = n := by unfold kdL; rw [List.length_map, List.length_range]
theorem kdL_set {n : Nat} {kd : Nat → Nat} {j x : Nat} : (kdL n kd).set j (V.int (x : Int)) = kdL n fun w => if w = j then x else kd w := by
  refine List.ext_getElem? fun i => ?_
  by_cases hi : i < n
  · rw [kdL_get hi, List.getElem?_set, kdL_len]
    by_cases c : j = i
    · subst c
      rw [if_pos rfl, if_pos hi, if_pos rfl]
    · rw [if_neg c, kdL_get hi, if_neg (fun z => c z.symm)]
  · rw [List.getElem?_eq_none (by rw [List.length_set, kdL_len]; omega), List.getElem?_eq_none (by rw [kdL_len]; omega)]
theorem relax_eq {kd : Nat → Nat} {s : Stl} : (fun w => if w = s.v then min (kd s.u) (kd s.v) else if w = s.u then min (kd s.u) (kd s.v) else kd w) = relaxS kd s := by
  funext w
  unfold relaxS
  by_cases c : w = s.u
  · by_cases d : w = s.v
    · rw [if_pos d, if_pos (.inl c)]
    · rw [if_neg d, if_pos c, if_pos (.inl c)]
  · by_cases d : w = s.v
    · rw [if_pos d, if_pos (.inr d)]
    · rw [if_neg d, if_neg c, if_neg (fun z => z.elim c d)]
end Fair

set_option Elab.async false
set_option linter.all false
set_option maxRecDepth 100000
set_option maxHeartbeats 4000000
namespace Fair
open PySem PySem.Spec PyProof.Rows L2
/-! ### LPieces -/
theorem ok_LPieces {P : Program} {w : World} {K : PySem.W.Frag} {mg : Str → Option Value} {base : Heap} (T : TX K mg) (D : Dx K mg "_law_pieces" sLPieces)
     : C8.Cal P w K mg base 1 "_law_pieces" (spLPieces K) [] := by
  refine D.cal scLPieces (fun _ _ _ _ _ _ us hl => match us, hl with | [_, _], _ => rfl) (fun vs H Q E h => ?_) (fun f cdv A outer s H vs Q E hr h => ?_)
  · obtain ⟨l, n, ss, rfl, hl, n8, lt, k⟩ := h
    rfl
  · obtain ⟨l, n, ss, rfl, hl, n8, lt, k⟩ := h
    refine ⟨_, (pss_cons (ps_set (i := 2) scLPieces.nd rfl (by first | exact Or.inl rfl | exact Or.inr rfl) (pe_listRg rfl (by rfl) T.f_list (prg_1 (by rfl) T.f_range (pv 1))))
        (pss_cons (ps_for PassesOwn.never rfl (pi_range1 rfl T.f_range (pa_cons (pv 1) pa_nil)) (pg_name (i := 3) scLPieces.nd rfl (by first | exact Or.inl rfl | exact Or.inr rfl))
        (pss_one (ps_for PassesOwn.never rfl (pi_list (pv 0)) (pg_name (i := 4) scLPieces.nd rfl (by first | exact Or.inl rfl | exact Or.inr rfl))
        (pss_cons (ps_set (i := 5) scLPieces.nd rfl (by first | exact Or.inl rfl | exact Or.inr rfl) (pe_callB (call_min2 rfl) (by rfl) T.f_min (by decide +kernel) (pa_cons (pe_ix ix_list (pv 2) (pe_ix ix_tup (pv 4) pe_int (fun _ _ => rfl)) (fun _ _ => rfl)) (pa_cons (pe_ix ix_list (pv 2) (pe_ix ix_tup (pv 4) pe_int (fun _ _ => rfl)) (fun _ _ => rfl)) pa_nil))))
        (pss_cons (ps_asg (pv 5) (pg_sub (pv 2) (pe_ix ix_tup (pv 4) pe_int (fun _ _ => rfl)) set_list))
        (pss_one (ps_asg (pv 5) (pg_sub (pv 2) (pe_ix ix_tup (pv 4) pe_int (fun _ _ => rfl)) set_list))))))))
        (pss_one (ps_ret (pe_lc (own := [("_law_one", 7)]) (by rfl) scLPieces.nd (pi_range1 rfl T.f_range (pa_cons (pv 1) pa_nil)) (blkOk_by (N := ["_law_stalls_here", "_law_wares", "_law_kind", "_law_turn", "_law_stall_here", "_law_low", "_law_ware", "_law_one"]) (sc := defScope sLPieces) (by decide +kernel)) (fun _ _ _ _ _ => pg_name (i := 7) scLPieces.nd rfl (Or.inr rfl)) (fun _ _ _ _ _ => pts_one (pt_cmpR op_eq (pe_ix (ixLK (K := K) rfl) (pv 2) (pv 7) (fun _ _ => rfl)) (pv 7) (nomark _))) (fun _ _ _ _ _ => (pe_callTy (tupOfK (K := K) rfl) (by rfl) T.f_tuple (by decide +kernel) (pa_cons (pe_lc (own := [("_law_ware", 6)]) (by rfl) scLPieces.nd (pi_range1 rfl T.f_range (pa_cons (pv 1) pa_nil)) (blkOk_by (N := ["_law_stalls_here", "_law_wares", "_law_kind", "_law_turn", "_law_stall_here", "_law_low", "_law_ware", "_law_one"]) (sc := scLPiecesIn) (by decide +kernel)) (fun _ _ _ _ _ => pg_name (i := 6) scLPieces.nd rfl (Or.inl rfl)) (fun _ _ _ _ _ => pts_one (pt_cmpR op_eq (pe_ix (ixLK (K := K) rfl) (pv 2) (pv 6) (fun _ _ => rfl)) (pv 7) (nomark _))) (fun _ _ _ _ _ => (pv 6))) pa_nil)))))))), ?_⟩
    obtain ⟨as, l1, l2⟩ := id hl
    refine ⟨_, rfl, _, rfl, RgOk.of_le (by omega) (by omega) (by omega) (by omega), fun kl nkl => ?_⟩
    have ek : rgV 0 (n : Int) = kdL n (rounds ss 0) := by
      unfold rgV kdL rounds
      rw [show ((n : Int) - 0).toNat = n by omega]
      exact List.map_congr_left fun i _ => by rw [Int.zero_add]
    rw [ek]
    have s1 : Same H (upd H kl (.lst (kdL n (rounds ss 0)))) := same_upd1 nkl
    have e1 : upd H kl (.lst (kdL n (rounds ss 0))) kl = some (.lst (kdL n (rounds ss 0))) := upd_same
    generalize upd H kl (.lst (kdL n (rounds ss 0))) = H1 at s1 e1
    refine ⟨_, rfl, (n : Int), rfl, by omega, by omega, ?_⟩
    refine for_range (lo := 0) (n := ((n : Int)).toNat) (fun i σ H' => ∃ (v3 v4 v5 : Option V), σ = [some (.ref l), some (.int n), some (.ref kl), v3, v4, v5, none, none] ∧ H' kl = some (.lst (kdL n (rounds ss i))) ∧ Same H H') ⟨_, _, _, rfl, e1, s1⟩ ?_ ?_
    · rintro i σ H2 hi ⟨v3, v4, v5, rfl, e2, s2⟩
      refine ⟨_, rfl, l, rfl, ⟨_, SqL.of (s2 _ _ l1)⟩, for_list (K := K) (a := l) (xs := as.map V.ref) (fun j σ H' => ∃ (v4 v5 : Option V), σ = [some (.ref l), some (.int n), some (.ref kl), some (.int (0 + (i : Int))), v4, v5, none, none] ∧ H' kl = some (.lst (kdL n ((ss.take j).foldl relaxS (rounds ss i)))) ∧ Same H H') ⟨_, _, rfl, e2, s2⟩ (fun j σ H' _ ⟨_, _, _, _, z⟩ => SqL.of (z _ _ l1)) ?_ ?_⟩
      · rintro j y σ H3 hj ⟨v4, v5, rfl, e3, s3⟩
        obtain ⟨a, s, rfl, ha, hs, hst⟩ := l2.get hj
        obtain ⟨su, sv⟩ := lt s (List.mem_of_getElem? hs)
        obtain ⟨th, tg, tr, h0, _⟩ := hst.same s3
        generalize hkd : (ss.take j).foldl relaxS (rounds ss i) = kd at e3
        refine ⟨_, rfl, _, rfl, a, _, _, _, rfl, rfl, h0, atI_nat (j := 0) rfl, kl, _, _, _, rfl, rfl, SqL.of e3, atI_nat (kdL_get su), ?_⟩
        refine ⟨_, rfl, _, rfl, a, _, _, _, rfl, rfl, h0, atI_nat (j := 1) rfl, kl, _, _, _, rfl, rfl, SqL.of e3, atI_nat (kdL_get sv), _, _, rfl, ?_⟩
        have em : (if (kd s.v : Int) < (kd s.u : Int) then (kd s.v : Int) else (kd s.u : Int)) = ((min (kd s.u) (kd s.v) : Nat) : Int) := by split <;> omega
        rw [em]
        refine ⟨_, rfl, _, rfl, _, rfl, a, _, _, _, rfl, rfl, h0, atI_nat (j := 0) rfl, kl, _, _, s.u, rfl, rfl, e3, ixN_nat (by rw [kdL_len]; exact su), ?_⟩
        rw [kdL_set]
        have s4 : Same H (upd H3 kl (.lst (kdL n fun w => if w = s.u then min (kd s.u) (kd s.v) else kd w))) := same_new s3 nkl
        have e4 : upd H3 kl (.lst (kdL n fun w => if w = s.u then min (kd s.u) (kd s.v) else kd w)) kl = some (.lst (kdL n fun w => if w = s.u then min (kd s.u) (kd s.v) else kd w)) := upd_same
        generalize upd H3 kl (.lst (kdL n fun w => if w = s.u then min (kd s.u) (kd s.v) else kd w)) = H4 at s4 e4
        obtain ⟨th4, tg4, tr4, h04, _⟩ := hst.same s4
        refine ⟨_, rfl, _, rfl, _, rfl, a, _, _, _, rfl, rfl, h04, atI_nat (j := 1) rfl, kl, _, _, s.v, rfl, rfl, e4, ixN_nat (by rw [kdL_len]; exact sv), ?_⟩
        refine ⟨_, _, rfl, ?_, same_new s4 nkl⟩
        rw [upd_same, kdL_set, take_snoc hs, List.foldl_append, hkd]
        exact congrArg (fun z => some (HO.lst (kdL n z))) relax_eq
      · rintro σ H3 ⟨v4, v5, rfl, e3, s3⟩
        have eT : ss.take (as.map V.ref).length = ss := List.take_of_length_le (by rw [List.length_map, l2.1]; exact Nat.le_refl _)
        rw [eT] at e3
        exact ⟨_, _, _, rfl, e3, s3⟩
    rintro σ H2 ⟨v3, v4, v5, rfl, e2, s2⟩
    have e2 : H2 kl = some (.lst (kdL n (rounds ss n))) := e2
    have fin : ∀ w, w < n → First ss (rounds ss n w) ∧ Conn ss (rounds ss n w) w := fun w hw => rounds_fin lt hw
    generalize rounds ss n = kd at e2 fin
    have deq : ∀ i j : Nat, decide (V.int (i : Int) = V.int (j : Int)) = decide (i = j) := fun i j => by
      by_cases c : i = j
      · subst c; simp
      · rw [decide_eq_false c]
        exact decide_eq_false fun z => by have := V.int.inj z; omega
    refine ⟨_, rfl, (n : Int), rfl, by omega, by omega, fun D hD => lc_range (lo := 0) (n := ((n : Int)).toNat) (fun i H' => LstN K H' D ((firsts i ss).map (comp n ss)) ∧ Same H2 H') ⟨⟨[], upd_same, Each.nil⟩, same_upd1 hD⟩ ?_ ?_⟩
    · rintro i H3 hi ⟨g1, g2⟩
      have hi2 : i < n := by omega
      have e0 : (0 : Int) + i = i := by omega
      rw [e0]
      have e3 := g2 _ _ e2
      refine ⟨rfl, _, rfl, _, rfl, kl, _, _, _, rfl, rfl, SqL.of e3, atI_nat (kdL_get hi2), _, rfl, rfl, _, rfl, ?_⟩
      rw [deq]
      by_cases c : kd i = i
      · rw [decide_eq_true c]
        refine iteT ?_
        have fi : First ss i := by
          have := (fin i hi2).1
          rwa [c] at this
        refine ⟨_, rfl, (n : Int), rfl, by omega, by omega, fun D2 hD2 => lc_range (lo := 0) (n := ((n : Int)).toNat) (fun j H' => H' D2 = some (.lst (NatL ((List.range j).filter fun w => decide (kd w = i)))) ∧ Same H3 H') ⟨upd_same, same_upd1 hD2⟩ ?_ ?_⟩
        · rintro j H4 hj ⟨b1, b2⟩
          have hj2 : j < n := by omega
          have e0 : (0 : Int) + j = j := by omega
          rw [e0]
          refine ⟨rfl, _, rfl, _, rfl, kl, _, _, _, rfl, rfl, SqL.of (b2 _ _ e3), atI_nat (kdL_get hj2), _, rfl, rfl, _, rfl, ?_⟩
          rw [deq]
          by_cases d : kd j = i
          · rw [decide_eq_true d]
            refine iteT ⟨_, rfl, _, b1, small1000 ?_, ?_, same_new b2 hD2⟩
            · rw [List.length_map]
              have := List.length_filter_le (fun w => decide (kd w = i)) (List.range j)
              rw [List.length_range] at this
              omega
            · have e5 : List.filter (fun w => decide (kd w = i)) [j] = [j] := by simp [d]
              rw [upd_same, List.range_succ, List.filter_append, e5]
              unfold NatL
              rw [List.map_append]
              rfl
          · rw [decide_eq_false d]
            refine iteF ⟨?_, b2⟩
            have e5 : List.filter (fun w => decide (kd w = i)) [j] = [] := by simp [d]
            rw [List.range_succ, List.filter_append, e5, List.append_nil]
            exact b1
        · rintro H4 ⟨b1, b2⟩
          have b1 : H4 D2 = some (.lst (NatL ((List.range n).filter fun w => decide (kd w = i)))) := b1
          have ec : (List.range n).filter (fun w => decide (kd w = i)) = comp n ss i := by
            refine rise_eq ((rise_range n).filter _) (comp_rise n ss i) fun j => ?_
            rw [List.mem_filter, List.mem_range, mem_comp, decide_eq_true_iff]
            refine and_congr_right fun hj => ⟨fun e => ?_, fun q => ?_⟩
            · have := (fin j hj).2
              rwa [e] at this
            · obtain ⟨f1, f2⟩ := fin j hj
              exact f1.eq fi (f2.trans q.symm)
          rw [ec] at b1
          refine ⟨D2, _, rfl, .inl ⟨SqL.of b1, fun t nt => ?_⟩⟩
          have s5 := b2.trans (same_upd1 (o := .tup (NatL (comp n ss i))) nt)
          obtain ⟨acc, h1, h2, h3⟩ := g1.push s5 (a := t) (c := comp n ss i) (SqT.of upd_same)
          have fl := firsts_len i ss
          rw [List.length_map] at h2
          refine ⟨acc, h1, small1000 (by omega), ?_, same_new (g2.trans s5) hD⟩
          rw [(firsts_succ i ss).1 fi, List.map_append]
          exact h3
      · rw [decide_eq_false c]
        refine iteF ⟨?_, g2⟩
        have nf : ¬ First ss i := fun z => c ((fin i hi2).1.eq z (fin i hi2).2)
        rw [(firsts_succ i ss).2 nf]
        exact g1
    · rintro H3 ⟨g1, g2⟩
      exact k D H3 (s2.trans g2) (s2.free hD) g1

end Fair

set_option Elab.async false
set_option linter.all false
set_option maxRecDepth 100000
set_option maxHeartbeats 1000000
namespace Fair
open PySem PySem.Spec PyProof.Rows L2
/-! ### the law's table: two lists -/
structure TF (K : PySem.W.Frag) (H : Hp) (a b : Addr) (ds : List Addr) (n : Nat) (s : Nat → Rat) (r : Nat → Nat → Rat) : Prop where
  sl : VecF K H a n s
  hb : H b = some (.lst (ds.map V.ref))
  ln : ds.length = n
  nd : ds.Nodup
  ro : ∀ i d, ds[i]? = some d → VecF K H d n (r i)
  na : a ∉ ds
  nb : b ∉ ds
  ab : a ≠ b
/-- all but the slants and the rows stands as it was -/
def Kt (a : Addr) (ds : List Addr) (H H' : Hp) : Prop := ∀ c o, H c = some o → c ≠ a → c ∉ ds → H' c = some o
section
variable {K : PySem.W.Frag} {H H' H1 : Hp} {a b q l : Addr} {ds : List Addr} {n i j : Nat} {s : Nat → Rat} {r : Nat → Nat → Rat} {x : Rat}
theorem VecR.isL {R : Hp → Addr → Rat → Prop} (h : VecR R H a n s) : ∃ xs, H a = some (.lst xs) := let ⟨_, e, _⟩ := h; ⟨_, e⟩
theorem Kt.refl : Kt a ds H H := fun _ _ e _ _ => e
theorem Kt.of (h : Same H H') : Kt a ds H H' := fun c o e _ _ => h c o e
theorem Kt.trans (h : Kt a ds H H1) (k : Kt a ds H1 H') : Kt a ds H H' := fun c o e n m => k c o (h c o e n m) n m
theorem TF.rowL (h : TF K H a b ds n s r) {d : Addr} (hd : d ∈ ds) : ∃ xs, H d = some (.lst xs) := by
  obtain ⟨i, hi, e⟩ := List.mem_iff_getElem.mp hd
  exact (h.ro i d (by rw [List.getElem?_eq_getElem hi, e])).isL
theorem TF.imm (h : TF K H a b ds n s r) (k : Kt a ds H H') : Imm H H' := fun c o e st => k c o e (fun z => by
  obtain ⟨xs, e2⟩ := h.sl.isL
  subst z; rw [e] at e2; cases e2; exact st) (fun z => by
  obtain ⟨xs, e2⟩ := h.rowL z
  rw [e] at e2; cases e2; exact st)
theorem TF.same (h : TF K H a b ds n s r) (k : Same H H') : TF K H' a b ds n s r :=
  ⟨h.sl.same frR k, k _ _ h.hb, h.ln, h.nd, fun i d hd => (h.ro i d hd).same frR k, h.na, h.nb, h.ab⟩
/-- another list is changed -/
theorem TF.lst (h : TF K H a b ds n s r) {xs : List V} {o : HO} (hl : H l = some (.lst xs)) (n1 : a ≠ l) (n2 : b ≠ l) (n3 : l ∉ ds) : TF K (upd H l o) a b ds n s r := by
  have im : Imm H (upd H l o) := Imm.lst hl
  exact ⟨h.sl.mono frR im (upd_ne n1), by rw [upd_ne n2]; exact h.hb, h.ln, h.nd, fun i d hd => (h.ro i d hd).mono frR im (upd_ne fun z => n3 (z ▸ List.mem_of_getElem? hd)), h.na, h.nb, h.ab⟩
theorem TF.putS (h : TF K H a b ds n s r) {as : List Addr} (h1 : H a = some (.lst (as.map V.ref))) (hx : FrAt K H q x) :
    TF K (upd H a (.lst ((as.map V.ref).set j (.ref q)))) a b ds n (fun i => if i = j then x else s i) r ∧ Kt a ds H (upd H a (.lst ((as.map V.ref).set j (.ref q)))) := by
  have im : Imm H (upd H a (.lst ((as.map V.ref).set j (.ref q)))) := Imm.lst h1
  exact ⟨⟨h.sl.upd frR (Imm.refl H) h1 h1 hx, by rw [upd_ne h.ab.symm]; exact h.hb, h.ln, h.nd, fun i d hd => (h.ro i d hd).mono frR im (upd_ne fun z => h.na (z ▸ List.mem_of_getElem? hd)), h.na, h.nb, h.ab⟩, fun c o e n _ => by rw [upd_ne n]; exact e⟩
theorem TF.row (h : TF K H a b ds n s r) (hi : i < n) : ∃ d, ds[i]? = some d ∧ VecF K H d n (r i) := by
  have hl : i < ds.length := by rw [h.ln]; exact hi
  exact ⟨ds[i], List.getElem?_eq_getElem hl, h.ro i _ (List.getElem?_eq_getElem hl)⟩
theorem TF.putR (h : TF K H a b ds n s r) {d : Addr} {bs : List Addr} (hd : ds[i]? = some d) (h1 : H d = some (.lst (bs.map V.ref))) (hx : FrAt K H q x) :
    TF K (upd H d (.lst ((bs.map V.ref).set j (.ref q)))) a b ds n s (fun k => if k = i then (fun m => if m = j then x else r i m) else r k) ∧ Kt a ds H (upd H d (.lst ((bs.map V.ref).set j (.ref q)))) := by
  have im : Imm H (upd H d (.lst ((bs.map V.ref).set j (.ref q)))) := Imm.lst h1
  have md := List.mem_of_getElem? hd
  refine ⟨⟨h.sl.mono frR im (upd_ne fun z => h.na (z ▸ md)), by rw [upd_ne (show b ≠ d from fun z => h.nb (z ▸ md))]; exact h.hb, h.ln, h.nd, fun k e he => ?_, h.na, h.nb, h.ab⟩, fun c o e _ m => by rw [upd_ne (show c ≠ d from fun z => m (z ▸ md))]; exact e⟩
  by_cases c : k = i
  · subst c
    rw [if_pos rfl]
    rw [hd] at he
    cases he
    exact (h.ro k d hd).upd frR (Imm.refl H) h1 h1 hx
  · rw [if_neg c]
    exact (h.ro k e he).mono frR im (upd_ne fun z => c (nd_ix h.nd (z ▸ he) hd))
end
def spLTable (K : PySem.W.Frag) : Sp := fun vs H Q _ => ∃ (l pu wi : Addr) (n : Nat) (ss : List Stl), vs = [.ref l, .int n, .ref pu, .ref wi] ∧ LstS K H l ss ∧ WebOk n ss ∧ TupF K H pu (List.replicate n 0) ∧ TupF K H wi (List.replicate n 0) ∧
  ∀ (t a b : Addr) (ds : List Addr) (H' : Hp), Same H H' → SqT K H' t [.ref a, .ref b] → TF K H' a b ds n (tab0 ss).s (tab0 ss).r → H a = none → H b = none → (∀ d ∈ ds, H d = none) → Q (.ref t) H'
def spLStruck (K : PySem.W.Frag) : Sp := fun vs H Q _ => ∃ (a b o : Addr) (ds : List Addr) (n w : Nat) (T : Tb), vs = [.ref a, .ref b, .ref o] ∧ TF K H a b ds n T.s T.r ∧ H o = some (.lst (NatL (othersN n w))) ∧ o ≠ a ∧ o ∉ ds ∧ n ≤ 8 ∧ w < n ∧ RunOk n T (othersN n w) ∧
  ∀ (H' : Hp) (s : Nat → Rat) (r : Nat → Nat → Rat), Kt a ds H H' → TF K H' a b ds n s r → s w = (strikeAll T (othersN n w)).s w → Q (.bl true) H'
def spLBrim (K : PySem.W.Frag) : Sp := fun vs H Q _ => ∃ (l pu : Addr) (n w : Nat) (ss : List Stl), vs = [.ref l, .int n, .ref pu, .int w] ∧ LstS K H l ss ∧ WebOk n ss ∧ TupF K H pu (List.replicate n 0) ∧ w < n ∧ RunOk n (tab0 ss) (othersN n w) ∧
  ∀ (p : Addr) (H' : Hp), Same H H' → FrAt K H' p (due n ss w) → Q (.ref p) H'
theorem rep_get {as : List Addr} {K : PySem.W.Frag} {H : Hp} {n i : Nat} (h : Each (FrAt K H) as (List.replicate n 0)) (hi : i < n) : ∃ p, (as.map V.ref)[i]? = some (.ref p) ∧ FrAt K H p 0 := by
  obtain ⟨p, hp, fp⟩ := h.of (x := 0) (i := i) (by rw [List.getElem?_replicate, if_pos hi])
  exact ⟨p, refs_at hp, fp⟩
end Fair

set_option Elab.async false
set_option linter.all false
set_option maxRecDepth 100000
set_option maxHeartbeats 4000000
namespace Fair
open PySem PySem.Spec PyProof.Rows L2
/-! ### LTable -/
theorem ok_LTable {P : Program} {w : World} {K : PySem.W.Frag} {mg : Str → Option Value} {base : Heap} (T : TX K mg) (D : Dx K mg "_law_table" sLTable)
    (c_LMinus : C8.Cal P w K mg base 3 "_law_minus" (spMinus K) [])
    (c_LPlus : C8.Cal P w K mg base 3 "_law_plus" (spPlus K) []) : C8.Cal P w K mg base 4 "_law_table" (spLTable K) [] := by
  refine D.cal scLTable (fun _ _ _ _ _ _ us hl => match us, hl with | [_, _, _, _], _ => rfl) (fun vs H Q E h => ?_) (fun f cdv A outer s H vs Q E hr h => ?_)
  · obtain ⟨l, pu, wi, n, ss, rfl, hl, ok, hpu, hwi, k⟩ := h
    rfl
  · obtain ⟨l, pu, wi, n, ss, rfl, hl, ok, hpu, hwi, k⟩ := h
    refine ⟨_, (pss_cons (ps_setLc (i := 4) (own := [("_law_ware", 5)]) (by rfl) scLTable.nd rfl rfl (sw_true rfl rfl rfl (by decide +kernel)) (pi_range1 rfl T.f_range (pa_cons (pv 1) pa_nil)) (blkOk_by (N := ["_law_stalls_here", "_law_wares", "_law_purse", "_law_wish", "_law_slants", "_law_ware", "_law_roots", "_law_one", "_law_other", "_law_held", "_law_beside", "_law_root", "_law_low", "_law_high"]) (sc := defScope sLTable) (by decide +kernel)) (fun _ _ _ _ _ => pg_name (i := 5) scLTable.nd rfl (Or.inl rfl)) (fun _ _ _ _ _ => pts_nil) (fun _ _ _ _ _ => (C8.pe_c c_LMinus hr (by decide) (by rfl) (pa_cons (pe_ix (ixTK (K := K) rfl) (pv 2) (pv 5) (fun _ _ => rfl)) (pa_cons (pe_ix (ixTK (K := K) rfl) (pv 3) (pv 5) (fun _ _ => rfl)) pa_nil)))))
        (pss_cons (ps_setLc (i := 6) (own := [("_law_ware", 5)]) (by rfl) scLTable.nd rfl rfl (sw_true rfl rfl rfl (by decide +kernel)) (pi_range1 rfl T.f_range (pa_cons (pv 1) pa_nil)) (blkOk_by (N := ["_law_stalls_here", "_law_wares", "_law_purse", "_law_wish", "_law_slants", "_law_ware", "_law_roots", "_law_one", "_law_other", "_law_held", "_law_beside", "_law_root", "_law_low", "_law_high"]) (sc := defScope sLTable) (by decide +kernel)) (fun _ _ _ _ _ => pg_name (i := 5) scLTable.nd rfl (Or.inl rfl)) (fun _ _ _ _ _ => pts_nil) (fun _ _ _ _ _ => (pe_op op_rep (pe_lst (pa_cons (pe_tup (pa_cons pe_int (pa_cons pe_int pa_nil))) pa_nil)) (pv 1))))
        (pss_cons (ps_for PassesOwn.never rfl (pi_list (pv 0)) (pg_tup rfl (pgs_cons (pg_name (i := 7) scLTable.nd rfl (by first | exact Or.inl rfl | exact Or.inr rfl)) (pgs_cons (pg_name (i := 8) scLTable.nd rfl (by first | exact Or.inl rfl | exact Or.inr rfl)) (pgs_cons (pg_name (i := 9) scLTable.nd rfl (by first | exact Or.inl rfl | exact Or.inr rfl)) (pgs_cons (pg_name (i := 10) scLTable.nd rfl (by first | exact Or.inl rfl | exact Or.inr rfl)) (pgs_cons (pg_name (i := 11) scLTable.nd rfl (by first | exact Or.inl rfl | exact Or.inr rfl)) pgs_nil))))))
        (pss_cons (ps_asg (C8.pe_c c_LPlus hr (by decide) (by rfl) (pa_cons (pe_ix ix_list (pv 4) (pv 7) (fun _ _ => rfl)) (pa_cons (pv 9) pa_nil))) (pg_sub (pv 4) (pv 7) set_list))
        (pss_cons (ps_asg (C8.pe_c c_LPlus hr (by decide) (by rfl) (pa_cons (pe_ix ix_list (pv 4) (pv 8) (fun _ _ => rfl)) (pa_cons (pv 10) pa_nil))) (pg_sub (pv 4) (pv 8) set_list))
        (pss_cons (ps_set (i := 12) scLTable.nd rfl (by first | exact Or.inl rfl | exact Or.inr rfl) (pe_ix ix_list (pv 6) (pv 7) (fun _ _ => rfl)))
        (pss_cons (ps_asg (C8.pe_c c_LPlus hr (by decide) (by rfl) (pa_cons (pe_ix ix_list (pv 12) (pv 8) (fun _ _ => rfl)) (pa_cons (pv 11) pa_nil))) (pg_sub (pv 12) (pv 8) set_list))
        (pss_cons (ps_set (i := 13) scLTable.nd rfl (by first | exact Or.inl rfl | exact Or.inr rfl) (pe_ix ix_list (pv 6) (pv 8) (fun _ _ => rfl)))
        (pss_one (ps_asg (pe_ix ix_list (pv 12) (pv 8) (fun _ _ => rfl)) (pg_sub (pv 13) (pv 7) set_list)))))))))
        (pss_one (ps_ret (pe_tup (pa_cons (pv 4) (pa_cons (pv 6) pa_nil)))))))), ?_⟩
    have n8 := ok.n8
    obtain ⟨as, l1, l2⟩ := id hl
    obtain ⟨ps, u1, u2⟩ := id hpu
    obtain ⟨wsl, w1, w2⟩ := id hwi
    have okT := fun i => tab0_ok n (ss.take i) fun s hs => ok.ok s (List.mem_of_mem_take hs)
    have ok0 : Ok 0 := Nq.zero.ok (m := 1) (by decide)
    refine ⟨_, rfl, (n : Int), rfl, by omega, by omega, fun D hD => lc_range (lo := 0) (n := ((n : Int)).toNat) (fun i H' => VecF K H' D i (fun _ => 0) ∧ Same H H') ⟨VecR.nil, same_upd1 hD⟩ ?_ ?_⟩
    · rintro i H1 hi ⟨g1, g2⟩
      have hi2 : i < n := by omega
      have e0 : (0 : Int) + i = i := by omega
      rw [e0]
      obtain ⟨p1, b1, c1⟩ := rep_get u2 hi2
      obtain ⟨p2, b2, c2⟩ := rep_get w2 hi2
      refine ⟨rfl, _, rfl, _, rfl, pu, _, _, _, rfl, rfl, same_tup g2 u1, atI_nat b1, _, rfl, _, rfl, wi, _, _, _, rfl, rfl, same_tup g2 w1, atI_nat b2, p1, p2, _, _, rfl, c1.same g2, c2.same g2, ok0, ok0, trivial, fun p H2 s2 nn f2 => ?_⟩
      rw [show ((fun x1 x2 => x1 - x2) (0 : Rat) 0) = 0 by grind] at f2
      obtain ⟨acc, ha, hlen, hv⟩ := g1.push frR s2 (q := p) f2
      exact ⟨acc, ha, small1000 (by omega), hv, same_new (g2.trans s2) hD⟩
    rintro H1 ⟨g1, g2⟩
    have g1 : VecF K H1 D n (fun _ => 0) := g1
    obtain ⟨xsD, eD⟩ := g1.isL
    refine ⟨_, rfl, (n : Int), rfl, by omega, by omega, fun B hB => lc_range (lo := 0) (n := ((n : Int)).toNat) (fun i H' => ∃ ds : List Addr, H' B = some (.lst (ds.map V.ref)) ∧ ds.length = i ∧ ds.Nodup ∧ (∀ d ∈ ds, VecF K H' d n (fun _ => 0) ∧ H1 d = none) ∧ Same H1 H' ∧ B ∉ ds) ⟨[], upd_same, rfl, List.nodup_nil, fun d hd => (by cases hd), same_upd1 hB, by simp⟩ ?_ ?_⟩
    · rintro i H2 hi ⟨ds, d1, d2, d3, d4, d5, d6⟩
      have hi2 : i < n := by omega
      refine ⟨rfl, (by show 2 ≤ sizeLine; decide), fun z nz => ?_⟩
      have s3 := same_upd1 (o := .tup [.int 0, .int 1]) nz
      refine ⟨(by show 1 ≤ sizeLine; decide), fun y ny => ?_⟩
      have s4 := same_of_upd (o := .lst [.ref z]) s3 ny
      have fz : FrAt K (upd (upd H2 z (.tup [.int 0, .int 1])) y (.lst [.ref z])) z 0 := same_tup (same_upd1 ny) (SqT.of upd_same)
      have ey : upd (upd H2 z (.tup [.int 0, .int 1])) y (.lst [.ref z]) y = some (.lst [.ref z]) := upd_same
      generalize upd (upd H2 z (.tup [.int 0, .int 1])) y (.lst [.ref z]) = H4 at s4 fz ey
      refine ⟨_, rfl, y, (n : Int), _, rfl, rfl, ey, by omega, by omega, Nat.le_trans (show _ ≤ 100 by rw [Int.toNat_natCast]; simp; omega) (by decide), fun d nd => ?_⟩
      have er : (List.replicate ((n : Int)).toNat [V.ref z]).flatten = (List.replicate n z).map V.ref := by
        rw [Int.toNat_natCast, List.map_replicate]
        exact rep_one _ n
      rw [er]
      have s5 := same_upd1 (o := .lst ((List.replicate n z).map V.ref)) nd
      have vd : VecF K (upd H4 d (.lst ((List.replicate n z).map V.ref))) d n (fun _ => 0) := ⟨List.replicate n z, upd_same, List.length_replicate, fun j p hp => by
        rw [List.eq_of_mem_replicate (List.mem_of_getElem? hp)]; exact fz.same s5⟩
      have s25 := s4.trans s5
      generalize upd H4 d (.lst ((List.replicate n z).map V.ref)) = H5 at s5 vd s25
      have dB := s25 _ _ d1
      have im : Imm H5 (upd H5 B (.lst (ds.map V.ref ++ [.ref d]))) := Imm.lst dB
      have dne : d ≠ B := by
        have nd4 : H4 B ≠ none := by rw [s4 _ _ d1]; simp
        intro q; rw [q] at nd; exact nd4 nd
      refine ⟨_, dB, small1000 (by rw [List.length_map]; omega), ds ++ [d], by rw [upd_same, List.map_append]; rfl, by simp [d2], ?_, ?_, same_new (d5.trans s25) hB, ?_⟩
      · refine List.nodup_append.mpr ⟨d3, by simp, fun x hx w hw => ?_⟩
        simp at hw; subst hw
        obtain ⟨xs, ex⟩ := (d4 x hx).1.isL
        exact ne_of_none (s4 _ _ ex) nd
      · intro c hc
        rcases List.mem_append.mp hc with hc | hc
        · obtain ⟨v, nv⟩ := d4 c hc
          exact ⟨(v.same frR s25).mono frR im (upd_ne fun q => d6 (q ▸ hc)), nv⟩
        · simp at hc; subst hc
          exact ⟨vd.mono frR im (upd_ne dne), (d5.trans s4).free nd⟩
      · intro hc
        rcases List.mem_append.mp hc with hc | hc
        · exact d6 hc
        · simp at hc; exact dne hc.symm
    rintro H2 ⟨ds, d1, d2, d3, d4, d5, d6⟩
    have d2 : ds.length = n := d2
    have nD1 : ∀ d ∈ ds, H1 d = none := fun d hd => (d4 d hd).2
    have t0 : TF K H2 D B ds n (tab0 (ss.take 0)).s (tab0 (ss.take 0)).r := ⟨g1.same frR d5, d1, d2, d3, fun i d hd => (d4 d (List.mem_of_getElem? hd)).1, (fun hd => by
      have := nD1 D hd
      rw [eD] at this; cases this), d6, ne_of_none eD hB⟩
    have s02 := g2.trans d5
    have nB : H B = none := g2.free hB
    have nd : ∀ d ∈ ds, H d = none := fun d hd => g2.free (nD1 d hd)
    refine ⟨_, rfl, l, rfl, ⟨_, SqL.of (s02 _ _ l1)⟩, for_list (K := K) (a := l) (xs := as.map V.ref) (fun i σ H' => ∃ v7 v8 v9 v10 v11 v12 v13 : Option V, σ = [some (.ref l), some (.int n), some (.ref pu), some (.ref wi), some (.ref D), none, some (.ref B), v7, v8, v9, v10, v11, v12, v13] ∧ TF K H' D B ds n (tab0 (ss.take i)).s (tab0 (ss.take i)).r ∧ Same H H') ⟨_, _, _, _, _, _, _, rfl, t0, s02⟩ (fun i σ H' _ ⟨_, _, _, _, _, _, _, _, _, z⟩ => SqL.of (z _ _ l1)) ?_ ?_⟩
    · rintro i y σ H3 hi ⟨v7, v8, v9, v10, v11, v12, v13, rfl, t3, s3⟩
      obtain ⟨x1, x, rfl, e1, e2, hx⟩ := l2.get hi
      have kx := ok.ok x (List.mem_of_getElem? e2)
      have hlen : (ss.take i).length ≤ 16 := by have := ok.len; rw [List.length_take]; omega
      obtain ⟨okS, okR⟩ := okT i
      obtain ⟨th, tg, tr, h0, h1, h2, h3⟩ := hx.same s3
      refine ⟨x1, _, rfl, h0, rfl, _, _, rfl, _, _, rfl, _, _, rfl, _, _, rfl, _, _, rfl, rfl, ?_⟩
      obtain ⟨bs, p0, b1, b2, b3, b4, b5⟩ := t3.sl.get kx.un
      refine ⟨_, rfl, _, rfl, D, _, _, _, rfl, rfl, SqL.of b1, atI_nat b4, _, rfl, p0, th, _, _, rfl, b5, h1, (okS _).ok hlen, kx.oh, trivial, fun p1 H4 s4 n4 f4 => ?_⟩
      refine ⟨_, rfl, _, rfl, D, _, _, x.u, rfl, rfl, s4 _ _ b1, ixN_nat (by rw [List.length_map, b2]; exact kx.un), ?_⟩
      obtain ⟨t5, _⟩ := (t3.same s4).putS (j := x.u) (s4 _ _ b1) f4
      have s5 : Same H (upd H4 D (.lst ((bs.map V.ref).set x.u (.ref p1)))) := same_new (s3.trans s4) hD
      have im5 : Imm H3 (upd H4 D (.lst ((bs.map V.ref).set x.u (.ref p1)))) := (Imm.of s4).trans (Imm.lst (s4 _ _ b1))
      generalize upd H4 D (.lst ((bs.map V.ref).set x.u (.ref p1))) = H5 at t5 s5 im5
      obtain ⟨cs, p3, d1', d2', d3', d4', d5'⟩ := t5.sl.get kx.vn
      have o3 : Ok (if x.v = x.u then (tab0 (ss.take i)).s x.u + x.h else (tab0 (ss.take i)).s x.v) := by
        rw [if_neg (fun z => kx.ne z.symm)]
        exact (okS _).ok hlen
      refine ⟨_, rfl, _, rfl, D, _, _, _, rfl, rfl, SqL.of d1', atI_nat d4', _, rfl, p3, tg, _, _, rfl, d5', h2.imm im5, o3, kx.og, trivial, fun p4 H6 s6 n6 f6 => ?_⟩
      refine ⟨_, rfl, _, rfl, D, _, _, x.v, rfl, rfl, s6 _ _ d1', ixN_nat (by rw [List.length_map, d2']; exact kx.vn), ?_⟩
      obtain ⟨t7, _⟩ := (t5.same s6).putS (j := x.v) (s6 _ _ d1') f6
      have s7 : Same H (upd H6 D (.lst ((cs.map V.ref).set x.v (.ref p4)))) := same_new (s5.trans s6) hD
      have im7 : Imm H3 (upd H6 D (.lst ((cs.map V.ref).set x.v (.ref p4)))) := (im5.trans (Imm.of s6)).trans (Imm.lst (s6 _ _ d1'))
      generalize upd H6 D (.lst ((cs.map V.ref).set x.v (.ref p4))) = H7 at t7 s7 im7
      have t7 : TF K H7 D B ds n (addS (tab0 (ss.take i)) x).s (tab0 (ss.take i)).r := by
        rw [← addS_s kx.ne]; exact t7
      obtain ⟨dl, hdl, vl⟩ := t7.row kx.un
      obtain ⟨ls, q0, f1', f2', f3', f4', f5'⟩ := vl.get kx.vn
      refine ⟨_, rfl, _, rfl, B, _, _, _, rfl, rfl, SqL.of t7.hb, atI_nat (refs_at hdl), ?_⟩
      refine ⟨_, rfl, _, rfl, dl, _, _, _, rfl, rfl, SqL.of f1', atI_nat f4', _, rfl, q0, tr, _, _, rfl, f5', h3.imm im7, (okR _ _).1.ok hlen, kx.or, trivial, fun p8 H8 s8 n8' f8 => ?_⟩
      refine ⟨_, rfl, _, rfl, dl, _, _, x.v, rfl, rfl, s8 _ _ f1', ixN_nat (by rw [List.length_map, f2']; exact kx.vn), ?_⟩
      obtain ⟨t9, _⟩ := (t7.same s8).putR (j := x.v) hdl (s8 _ _ f1') f8
      have s9 : Same H (upd H8 dl (.lst ((ls.map V.ref).set x.v (.ref p8)))) := same_new (s7.trans s8) (nd dl (List.mem_of_getElem? hdl))
      generalize upd H8 dl (.lst ((ls.map V.ref).set x.v (.ref p8))) = H9 at t9 s9
      obtain ⟨dh, hdh, vh⟩ := t9.row kx.vn
      obtain ⟨hs, q1, k1', k2', k3', k4', k5'⟩ := vh.get kx.un
      have vl9 : VecF K H9 dl n (fun m => if m = x.v then (tab0 (ss.take i)).r x.u x.v + x.r else (tab0 (ss.take i)).r x.u m) := by
        have := t9.ro x.u dl hdl
        rwa [if_pos rfl] at this
      obtain ⟨ms, q2, m1', m2', m3', m4', m5'⟩ := vl9.get kx.vn
      rw [if_pos rfl] at m5'
      refine ⟨_, rfl, _, rfl, B, _, _, _, rfl, rfl, SqL.of t9.hb, atI_nat (refs_at hdh), ?_⟩
      refine ⟨_, rfl, _, rfl, dl, _, _, _, rfl, rfl, SqL.of m1', atI_nat m4', ?_⟩
      refine ⟨_, rfl, _, rfl, dh, _, _, x.u, rfl, rfl, k1', ixN_nat (by rw [List.length_map, k2']; exact kx.un), ?_⟩
      obtain ⟨t10, _⟩ := t9.putR (j := x.u) hdh k1' m5'
      refine ⟨_, _, _, _, _, _, _, rfl, ?_, same_new s9 (nd dh (List.mem_of_getElem? hdh))⟩
      rw [take_snoc e2, tab0_snoc, ← RR2 kx.ne]
      have sy := (okR x.u x.v).2.2.1
      have er : RR (tab0 (ss.take i)) x 2 = (fun k => if k = x.v then (fun m => if m = x.u then (tab0 (ss.take i)).r x.u x.v + x.r else (if x.v = x.u then (fun m => if m = x.v then (tab0 (ss.take i)).r x.u x.v + x.r else (tab0 (ss.take i)).r x.u m) else (tab0 (ss.take i)).r x.v) m) else if k = x.u then (fun m => if m = x.v then (tab0 (ss.take i)).r x.u x.v + x.r else (tab0 (ss.take i)).r x.u m) else (tab0 (ss.take i)).r k) := by
        show putR (putR (tab0 (ss.take i)).r x.u x.v ((tab0 (ss.take i)).r x.u x.v + x.r)) x.v x.u ((tab0 (ss.take i)).r x.v x.u + x.r) = _
        rw [← sy]
        rfl
      rw [er]
      exact t10
    rintro σ H3 ⟨v7, v8, v9, v10, v11, v12, v13, rfl, t3, s3⟩
    have eT : ss.take (as.map V.ref).length = ss := List.take_of_length_le (by rw [List.length_map, l2.1]; exact Nat.le_refl _)
    rw [eT] at t3
    refine ⟨_, rfl, _, rfl, (by show 2 ≤ sizeLine; decide), fun t nt => ?_⟩
    have s4 := same_upd1 (o := .tup [.ref D, .ref B]) nt
    exact k t D B ds _ (s3.trans s4) (SqT.of upd_same) (t3.same s4) hD nB nd

end Fair

set_option Elab.async false
set_option linter.all false
set_option maxRecDepth 100000
set_option maxHeartbeats 1000000
namespace Fair
open PySem PySem.Spec PyProof.Rows L2
/-! ### the law's striking: the numbers -/
structure Rel (s : Nat → Rat) (r : Nat → Nat → Rat) (T : Tb) (lf : List Nat) : Prop where
  s : ∀ j ∈ lf, s j = T.s j
  r : ∀ i ∈ lf, ∀ j ∈ lf, r i j = T.r i j
theorem erase_mem {l : List Nat} {j k x : Nat} (nd : l.Nodup) (h : l[j]? = some k) : x ∈ l.eraseIdx j ↔ x ∈ l ∧ x ≠ k := by
  have p := erase_perm h
  have nd2 := p.nodup_iff.mpr nd
  rw [List.nodup_cons] at nd2
  rw [← p.mem_iff, List.mem_cons]
  constructor
  · intro hx
    exact ⟨.inr hx, fun z => nd2.1 (z ▸ hx)⟩
  · rintro ⟨h1, h2⟩
    exact h1.resolve_left h2
def sP (k : Nat) (s : Nat → Rat) (r : Nat → Nat → Rat) (P : List Nat) : Nat → Rat := fun j => if j ∈ P then s j - r k j * (r k j / s k) else s j
def rP (k : Nat) (s : Nat → Rat) (r : Nat → Nat → Rat) (td P : List Nat) : Nat → Nat → Rat := fun a b => if a ∈ P ∧ b ∈ td ∧ b ≠ a then r a b + r k b * (r k a / s k) else r a b
/-- within the turn of a0 -/
def rI (k : Nat) (s : Nat → Rat) (r : Nat → Nat → Rat) (td P : List Nat) (a0 : Nat) (Z : List Nat) : Nat → Nat → Rat := fun a b => if a = a0 ∧ b ∈ Z ∧ b ≠ a0 then r a0 b + r k b * (r k a0 / s k) else rP k s r td P a b
section
variable {k : Nat} {s : Nat → Rat} {r : Nat → Nat → Rat} {td P : List Nat}
theorem sP_nil : sP k s r [] = s := funext fun j => if_neg (by simp)
theorem rP_nil : rP k s r td [] = r := funext fun a => funext fun b => if_neg (by simp)
theorem sP_snoc {m : Nat} (hm : m ∉ P) : (fun i => if i = m then sP k s r P m - r k m * (r k m / s k) else sP k s r P i) = sP k s r (P ++ [m]) := by
  funext i
  unfold sP
  by_cases c : i = m
  · subst c
    rw [if_pos rfl, if_neg hm, if_pos (by simp)]
  · rw [if_neg c]
    by_cases d : i ∈ P
    · rw [if_pos d, if_pos (by simp [d])]
    · rw [if_neg d, if_neg (by simp [d, c])]
theorem rI_nil {a0 : Nat} : rI k s r td P a0 [] = rP k s r td P := funext fun a => funext fun b => if_neg (by simp)
theorem rI_same {a0 b0 : Nat} {Z : List Nat} (h : b0 = a0) : rI k s r td P a0 (Z ++ [b0]) = rI k s r td P a0 Z := by
  funext a b
  unfold rI
  by_cases c : a = a0 ∧ b ∈ Z ∧ b ≠ a0
  · rw [if_pos c, if_pos ⟨c.1, by simp [c.2.1], c.2.2⟩]
  · rw [if_neg c, if_neg fun z => c ⟨z.1, by
      have := z.2.1
      simp [h, z.2.2] at this
      exact this, z.2.2⟩]
theorem rI_snoc {a0 b0 : Nat} {Z : List Nat} (h : b0 ≠ a0) (hb : b0 ∉ Z) (ha : a0 ∉ P) :
    (fun a => if a = a0 then (fun b => if b = b0 then rI k s r td P a0 Z a0 b0 + r k b0 * (r k a0 / s k) else rI k s r td P a0 Z a0 b) else rI k s r td P a0 Z a) = rI k s r td P a0 (Z ++ [b0]) := by
  funext a b
  by_cases c : a = a0
  · subst c
    rw [if_pos rfl]
    by_cases d : b = b0
    · subst d
      unfold rI rP
      rw [if_pos rfl, if_neg (fun z => hb z.2.1), if_neg (fun z => ha z.1), if_pos ⟨rfl, by simp, h⟩]
    · unfold rI
      rw [if_neg d]
      by_cases e : a = a ∧ b ∈ Z ∧ b ≠ a
      · rw [if_pos e, if_pos ⟨rfl, by simp [e.2.1], e.2.2⟩]
      · rw [if_neg e, if_neg fun z => e ⟨rfl, by
          have := z.2.1
          simp [d] at this
          exact this, z.2.2⟩]
  · unfold rI
    rw [if_neg c, if_neg (fun z => c z.1), if_neg (fun z => c z.1)]
theorem rI_end {a0 : Nat} (ha : a0 ∉ P) : rI k s r td P a0 td = rP k s r td (P ++ [a0]) := by
  funext a b
  unfold rI rP
  by_cases c : a = a0
  · subst c
    by_cases d : b ∈ td ∧ b ≠ a
    · rw [if_pos ⟨rfl, d⟩, if_pos ⟨by simp, d⟩]
    · rw [if_neg (fun z => d z.2), if_neg (fun z => ha z.1), if_neg (fun z => d z.2)]
  · rw [if_neg (fun z => c z.1)]
    by_cases d : a ∈ P ∧ b ∈ td ∧ b ≠ a
    · rw [if_pos d, if_pos ⟨by simp [d.1], d.2⟩]
    · rw [if_neg d, if_neg fun z => d ⟨by
        have := z.1
        simp [c] at this
        exact this, z.2⟩]
theorem rP_row {b : Nat} (h : k ∉ P) : rP k s r td P k b = r k b := if_neg fun z => h z.1
theorem rI_row {a0 b : Nat} {Z : List Nat} (h : k ∉ P) (h0 : k ≠ a0) : rI k s r td P a0 Z k b = r k b := by
  unfold rI
  rw [if_neg fun z => h0 z.1]
  exact rP_row h
end
theorem mul_over {a b s : Rat} : a * (b / s) = a * b / s := by grind
/-- after both loops: one ware is struck -/
theorem Rel.struck {n k : Nat} {s : Nat → Rat} {r : Nat → Nat → Rat} {T : Tb} {lf lf' td : List Nat} (h : Rel s r T lf) (ok : StOk n k T) (hk : k ∈ lf) (h1 : ∀ x, x ∈ lf' ↔ x ∈ lf ∧ x ≠ k) (h2 : ∀ x, x ∈ td ↔ x ∈ lf' ∧ 0 < r k x) :
    Rel (sP k s r td) (rP k s r td td) (strikeT k T) lf' := by
  have zero : ∀ x ∈ lf', x ∉ td → T.r k x = 0 := fun x hx hn => by
    have e := h.r k hk x ((h1 x).mp hx).1
    have nn := ok.nn k x
    have np : ¬ 0 < T.r k x := fun z => hn ((h2 x).mpr ⟨hx, by rw [e]; exact z⟩)
    grind
  have es := h.s k hk
  constructor
  · intro j hj
    obtain ⟨jl, jk⟩ := (h1 j).mp hj
    have e := h.r k hk j jl
    show (if j ∈ td then s j - r k j * (r k j / s k) else s j) = if j = k then T.s k else T.s j - T.r k j * T.r k j / T.s k
    rw [if_neg jk, h.s j jl, e, es]
    by_cases c : j ∈ td
    · rw [if_pos c, mul_over]
    · rw [if_neg c, zero j hj c]; grind
  · intro i hi j hj
    obtain ⟨il, ik⟩ := (h1 i).mp hi
    obtain ⟨jl, jk⟩ := (h1 j).mp hj
    show (if i ∈ td ∧ j ∈ td ∧ j ≠ i then r i j + r k j * (r k i / s k) else r i j) = if i = k ∨ j = k then 0 else if i = j then T.r i j else T.r i j + T.r k i * T.r k j / T.s k
    refine Eq.trans ?_ (if_neg (fun z : i = k ∨ j = k => z.elim ik jk)).symm
    rw [h.r i il j jl, h.r k hk i il, h.r k hk j jl, es]
    by_cases c : i = j
    · rw [if_pos c]
      exact if_neg fun z => z.2.2 c.symm
    · refine Eq.trans ?_ (if_neg c).symm
      by_cases d : i ∈ td ∧ j ∈ td
      · rw [if_pos ⟨d.1, d.2, fun z => c z.symm⟩]; grind
      · rw [if_neg fun z => d ⟨z.1, z.2.1⟩]
        by_cases e : i ∈ td
        · rw [zero j hj fun z => d ⟨e, z⟩]; grind
        · rw [zero i hi e]; grind
theorem nodup_others (n w : Nat) : (othersN n w).Nodup := List.nodup_range.filter _
theorem mem_others {n w j : Nat} : j ∈ othersN n w ↔ j < n ∧ j ≠ w := by
  unfold othersN
  rw [List.mem_filter, List.mem_range, decide_eq_true_iff]
end Fair

set_option Elab.async false
set_option linter.all false
set_option maxRecDepth 100000
set_option maxHeartbeats 4000000
namespace Fair
open PySem PySem.Spec PyProof.Rows L2
/-! ### LStruck -/
theorem ok_LStruck {P : Program} {w : World} {K : PySem.W.Frag} {mg : Str → Option Value} {base : Heap} (T : TX K mg) (D : Dx K mg "_law_struck" sLStruck)
    (c_LOver : C8.Cal P w K mg base 3 "_law_over" (spLOver K) [])
    (c_LTimes : C8.Cal P w K mg base 3 "_law_times" (spTimes K) [])
    (c_LMinus : C8.Cal P w K mg base 3 "_law_minus" (spMinus K) [])
    (c_LPlus : C8.Cal P w K mg base 3 "_law_plus" (spPlus K) []) : C8.Cal P w K mg base 4 "_law_struck" (spLStruck K) [] := by
  refine D.cal scLStruck (fun _ _ _ _ _ _ us hl => match us, hl with | [_, _, _], _ => rfl) (fun vs H Q E h => ?_) (fun f cdv A outer s H vs Q E hr h => ?_)
  · obtain ⟨a, b, o, ds, n, w1, T0, rfl, ht, ho, noa, nod, n8, wn, run, k⟩ := h
    rfl
  · obtain ⟨a, b, o, ds, n, w1, T0, rfl, ht, ho, noa, nod, n8, wn, run, k⟩ := h
    refine ⟨_, (pss_cons (ps_set (i := 3) scLStruck.nd rfl (by first | exact Or.inl rfl | exact Or.inr rfl) (pe_listRg rfl (by rfl) T.f_list (prg_1 (by rfl) T.f_range (pe_callB call_len_seq (by rfl) T.f_len (by decide +kernel) (pa_cons (pv 0) pa_nil)))))
        (pss_cons (ps_for PassesOwn.never rfl (pi_list (pv 2)) (pg_name (i := 4) scLStruck.nd rfl (by first | exact Or.inl rfl | exact Or.inr rfl))
        (pss_cons (ps_expr (pe_bm PySem.F.plainAttrs_list PySem.F.slot_list_remove PySem.F.type_list_remove mt_remove (pv 3) (pa_cons (pv 4) pa_nil)))
        (pss_cons (ps_set (i := 5) scLStruck.nd rfl (by first | exact Or.inl rfl | exact Or.inr rfl) (pe_ix ix_list (pv 0) (pv 4) (fun _ _ => rfl)))
        (pss_cons (ps_set (i := 6) scLStruck.nd rfl (by first | exact Or.inl rfl | exact Or.inr rfl) (pe_ix ix_list (pv 1) (pv 4) (fun _ _ => rfl)))
        (pss_cons (ps_setLc (i := 7) (own := [("_law_other", 8)]) (by rfl) scLStruck.nd rfl rfl (sw_true rfl rfl rfl (by decide +kernel)) (pi_list (pv 3)) (blkOk_by (N := ["_law_slants", "_law_roots", "_law_order", "_law_left", "_law_ware", "_law_slant", "_law_row", "_law_tied", "_law_other", "_law_one", "_law_share", "_law_beside"]) (sc := defScope sLStruck) (by decide +kernel)) (fun _ _ _ _ _ => pg_name (i := 8) scLStruck.nd rfl (Or.inl rfl)) (fun _ _ _ _ _ => pts_one (pt_cmpR op_gt (pe_ix (ixTK (K := K) rfl) (pe_ix (ixLK (K := K) rfl) (pv 6) (pv 8) (fun _ _ => rfl)) pe_int (fun _ _ => rfl)) pe_int (nomark _))) (fun _ _ _ _ _ => (pv 8)))
        (pss_cons (ps_if (PW.pt (pw_or (pt_cmpR op_lt (pe_ix ix_tup (pv 5) pe_int (fun _ _ => rfl)) pe_int (nomark _)) (pw_or1 (PW.pt (pw_and (pt_cmpR op_eq (pe_ix ix_tup (pv 5) pe_int (fun _ _ => rfl)) pe_int (nomark _)) (pw_and1 (pt_cmpR op_gt (pe_callB call_len_seq (by rfl) T.f_len (by decide +kernel) (pa_cons (pv 7) pa_nil)) pe_int (nomark _)))))))) (pss_one (ps_ret pe_bl))
        pss_nil)
        (pss_one (ps_for PassesOwn.never rfl (pi_list (pv 7)) (pg_name (i := 9) scLStruck.nd rfl (by first | exact Or.inl rfl | exact Or.inr rfl))
        (pss_cons (ps_set (i := 10) scLStruck.nd rfl (by first | exact Or.inl rfl | exact Or.inr rfl) (C8.pe_c c_LOver hr (by decide) (by rfl) (pa_cons (pe_ix ix_list (pv 6) (pv 9) (fun _ _ => rfl)) (pa_cons (pv 5) pa_nil))))
        (pss_cons (ps_asg (C8.pe_c c_LMinus hr (by decide) (by rfl) (pa_cons (pe_ix ix_list (pv 0) (pv 9) (fun _ _ => rfl)) (pa_cons (C8.pe_c c_LTimes hr (by decide) (by rfl) (pa_cons (pe_ix ix_list (pv 6) (pv 9) (fun _ _ => rfl)) (pa_cons (pv 10) pa_nil))) pa_nil))) (pg_sub (pv 0) (pv 9) set_list))
        (pss_cons (ps_set (i := 11) scLStruck.nd rfl (by first | exact Or.inl rfl | exact Or.inr rfl) (pe_ix ix_list (pv 1) (pv 9) (fun _ _ => rfl)))
        (pss_one (ps_for PassesOwn.never rfl (pi_list (pv 7)) (pg_name (i := 8) scLStruck.nd rfl (by first | exact Or.inl rfl | exact Or.inr rfl))
        (pss_one (ps_if (pt_cmpR op_ne (pv 8) (pv 9) (nomark _)) (pss_one (ps_asg (C8.pe_c c_LPlus hr (by decide) (by rfl) (pa_cons (pe_ix ix_list (pv 11) (pv 8) (fun _ _ => rfl)) (pa_cons (C8.pe_c c_LTimes hr (by decide) (by rfl) (pa_cons (pe_ix ix_list (pv 6) (pv 8) (fun _ _ => rfl)) (pa_cons (pv 10) pa_nil))) pa_nil))) (pg_sub (pv 11) (pv 8) set_list)))
        pss_nil)))))))))))))))
        (pss_one (ps_ret pe_bl)))), ?_⟩
    obtain ⟨as0, a01, a02, a03⟩ := id ht.sl
    have eLn : (as0.map V.ref).length = n := by rw [List.length_map]; exact a02
    generalize hws : othersN n w1 = ws at ho run k
    have wnd : ws.Nodup := by rw [← hws]; exact nodup_others n w1
    have wlen : ws.length ≤ n := nodup_len wnd fun j hj => by rw [← hws] at hj; exact (mem_others.mp hj).1
    refine ⟨_, rfl, a, _, rfl, .inl (SqL.of a01), _, rfl, RgOk.of_le (by omega) (by rw [eLn]; omega) (by omega) (by omega), fun ll nll => ?_⟩
    have er : rgV 0 ((as0.map V.ref).length : Nat) = NatL (List.range n) := by
      unfold rgV NatL
      rw [eLn, show ((n : Int) - 0).toNat = n by omega]
      exact List.map_congr_left fun i _ => by rw [Int.zero_add]
    rw [er]
    have s1 : Same H (upd H ll (.lst (NatL (List.range n)))) := same_upd1 nll
    have e1 : upd H ll (.lst (NatL (List.range n))) ll = some (.lst (NatL (List.range n))) := upd_same
    generalize upd H ll (.lst (NatL (List.range n))) = H1 at s1 e1
    have nla : a ≠ ll := ne_of_none a01 nll
    have nlb : b ≠ ll := ne_of_none ht.hb nll
    have nld : ll ∉ ds := fun z => by
      obtain ⟨xs, e⟩ := ht.rowL z
      rw [nll] at e; cases e
    have t1 := ht.same s1
    refine ⟨_, rfl, o, rfl, ⟨_, SqL.of (s1 _ _ ho)⟩, for_list (K := K) (a := o) (xs := NatL ws) (fun i σ H' => ∃ (lf : List Nat) (s : Nat → Rat) (r : Nat → Nat → Rat) (v4 v5 v6 v7 v8 v9 v10 v11 : Option V), σ = [some (.ref a), some (.ref b), some (.ref o), some (.ref ll), v4, v5, v6, v7, v8, v9, v10, v11] ∧ H' ll = some (.lst (NatL lf)) ∧ TF K H' a b ds n s r ∧ Kt a ds H H' ∧
        lf.Nodup ∧ (∀ j, j ∈ lf ↔ j < n ∧ j ∉ ws.take i) ∧ Rel s r (strikeAll T0 (ws.take i)) lf ∧ RunOk n (strikeAll T0 (ws.take i)) (ws.drop i))
      ⟨List.range n, T0.s, T0.r, _, _, _, _, _, _, _, _, rfl, e1, t1, Kt.of s1, List.nodup_range, fun j => ⟨fun h => ⟨List.mem_range.mp h, by simp⟩, fun h => List.mem_range.mpr h.1⟩, ⟨fun _ _ => rfl, fun _ _ _ _ => rfl⟩, run⟩
      (fun i σ H' _ ⟨_, _, _, _, _, _, _, _, _, _, _, _, _, _, z, _⟩ => SqL.of (z _ _ ho noa nod)) ?_ ?_⟩
    · rintro i y σ H2 hi ⟨lf, s2, r2, v4, v5, v6, v7, v8, v9, v10, v11, rfl, e2, t2, k2, lnd, lm, rel, run2⟩
      obtain ⟨m, rfl, hm⟩ := natl_get hi
      have hi2 : i < ws.length := (List.getElem?_eq_some_iff.mp hm).1
      have em : ws[i] = m := (List.getElem?_eq_some_iff.mp hm).2
      rw [List.drop_eq_getElem_cons hi2, em] at run2
      obtain ⟨mn, ok, run3⟩ := run2
      generalize hT : strikeAll T0 (ws.take i) = T1 at rel ok run3
      have mt : m ∉ ws.take i := fun z => by
        obtain ⟨x, hx, e⟩ := List.mem_iff_getElem.mp z
        rw [List.length_take] at hx
        rw [List.getElem_take] at e
        have := nd_ix wnd (show ws[x]? = some m by rw [List.getElem?_eq_getElem (by omega), e]) hm
        omega
      have ml : m ∈ lf := (lm m).mpr ⟨mn, mt⟩
      obtain ⟨j, hj, ej⟩ := List.mem_iff_getElem.mp ml
      have hj1 : lf[j]? = some m := by rw [List.getElem?_eq_getElem hj, ej]
      have eI : NatL lf = (lf.map fun (x : Nat) => (x : Int)).map V.int := by rw [List.map_map]; rfl
      rw [eI] at e2
      refine ⟨_, rfl, .inl ⟨rfl, _, SqL.of e2⟩, _, rfl, ll, _, (m : Int), j, rfl, rfl, e2, by rw [List.getElem?_map, hj1]; rfl, fun x hx hx2 => ?_, ?_⟩
      · rw [List.getElem?_map] at hx2
        cases e : lf[x]? with
        | none => rw [e] at hx2; cases hx2
        | some z =>
          rw [e] at hx2
          have : (z : Int) = m := Option.some.inj hx2
          have : z = m := by omega
          subst this
          have := nd_ix lnd e hj1
          omega
      have eE : ((lf.map fun (x : Nat) => (x : Int)).eraseIdx j).map V.int = NatL (lf.eraseIdx j) := by rw [erase_map, List.map_map]; rfl
      rw [eE]
      have lm' : ∀ x, x ∈ lf.eraseIdx j ↔ x ∈ lf ∧ x ≠ m := fun x => erase_mem lnd hj1
      have lnd' : (lf.eraseIdx j).Nodup := (List.nodup_cons.mp ((erase_perm hj1).nodup_iff.mpr lnd)).2
      generalize lf.eraseIdx j = lf' at lm' lnd'
      have t3 := t2.lst (o := .lst (NatL lf')) e2 nla nlb nld
      have k3 : Kt a ds H (upd H2 ll (.lst (NatL lf'))) := fun c u e n1 n2 => by rw [upd_ne (ne_of_none e nll)]; exact k2 c u e n1 n2
      have e3 : upd H2 ll (.lst (NatL lf')) ll = some (.lst (NatL lf')) := upd_same
      generalize upd H2 ll (.lst (NatL lf')) = H3 at t3 k3 e3
      obtain ⟨as, q0, b1, b2, b3, b4, b5⟩ := t3.sl.get mn
      obtain ⟨dk, hdk, vk⟩ := t3.row mn
      refine ⟨_, rfl, _, rfl, a, _, _, _, rfl, rfl, SqL.of b1, atI_nat b4, ?_⟩
      refine ⟨_, rfl, _, rfl, b, _, _, _, rfl, rfl, SqL.of t3.hb, atI_nat (refs_at hdk), ?_⟩
      have l8 : lf'.length ≤ n := nodup_len lnd' fun x hx => ((lm x).mp ((lm' x).mp hx).1).1
      have es : s2 m = T1.s m := rel.s m ml
      refine ⟨_, rfl, ll, rfl, ⟨_, SqL.of e3⟩, fun D hD => lc_list (K := K) (a := ll) (xs := NatL lf') (fun x H' => H' D = some (.lst (NatL ((lf'.take x).filter fun y => decide (0 < r2 m y)))) ∧ Same H3 H') ⟨upd_same, same_upd1 hD⟩ (fun x H' _ ⟨_, z⟩ => SqL.of (z _ _ e3)) ?_ ?_⟩
      · rintro x y H4 hx ⟨g1, g2⟩
        obtain ⟨z, rfl, hz⟩ := natl_get hx
        have zl := ((lm' z).mp (List.mem_of_getElem? hz)).1
        have zn := ((lm z).mp zl).1
        obtain ⟨ks, p1, c1, c2, c3, c4, c5⟩ := (vk.same frR g2).get zn
        have xl := (List.getElem?_eq_some_iff.mp hz).1
        refine ⟨rfl, _, rfl, _, rfl, dk, _, _, _, rfl, rfl, SqL.of c1, atI_nat c4, p1, _, _, _, rfl, rfl, c5, atI_nat (j := 0) rfl, _, _, rfl, rfl, _, rfl, ?_⟩
        rw [take_snoc hz, List.filter_append]
        have ed : decide ((0 : Int) < (r2 m z).num) = decide (0 < r2 m z) := by
          by_cases w : 0 < r2 m z
          · rw [decide_eq_true w, decide_eq_true (num_pos_iff.mpr w)]
          · rw [decide_eq_false w, decide_eq_false fun q => w (num_pos_iff.mp q)]
        rw [ed]
        by_cases w : 0 < r2 m z
        · rw [decide_eq_true w]
          have e5 : List.filter (fun y => decide (0 < r2 m y)) [z] = [z] := by simp [w]
          refine iteT ⟨_, rfl, _, g1, small1000 ?_, ?_, same_new g2 hD⟩
          · rw [List.length_map]
            have := List.length_filter_le (fun y => decide (0 < r2 m y)) (lf'.take x)
            rw [List.length_take] at this
            omega
          · rw [upd_same, e5]
            unfold NatL
            rw [List.map_append]
            rfl
        · rw [decide_eq_false w]
          have e5 : List.filter (fun y => decide (0 < r2 m y)) [z] = [] := by simp [w]
          rw [e5, List.append_nil]
          exact iteF ⟨g1, g2⟩
      rintro H4 ⟨g1, g2⟩
      have eT : lf'.take (NatL lf').length = lf' := List.take_of_length_le (by rw [List.length_map]; exact Nat.le_refl _)
      rw [eT] at g1
      have tm : ∀ x, x ∈ lf'.filter (fun y => decide (0 < r2 m y)) ↔ x ∈ lf' ∧ 0 < r2 m x := fun x => by rw [List.mem_filter, decide_eq_true_iff]
      have tnd : (lf'.filter fun y => decide (0 < r2 m y)).Nodup := lnd'.filter _
      generalize lf'.filter (fun y => decide (0 < r2 m y)) = td at g1 tm tnd
      have t4 := t3.same g2
      have k4 := k3.trans (Kt.of g2)
      have e4 := g2 _ _ e3
      have q4 : FrAt K H4 q0 (s2 m) := b5.same g2
      have nDH : H D = none := by
        cases e : H D with
        | none => rfl
        | some u =>
          by_cases z1 : D = a
          · obtain ⟨xs, e5⟩ := t3.sl.isL
            rw [← z1, hD] at e5; cases e5
          · by_cases z2 : D ∈ ds
            · obtain ⟨xs, e5⟩ := t3.rowL z2
              rw [hD] at e5; cases e5
            · have := k3 D u e z1 z2
              rw [hD] at this; cases this
      have nDa : D ≠ a := fun z => by rw [z, a01] at nDH; cases nDH
      have nDd : D ∉ ds := fun z => by
        obtain ⟨xs, e5⟩ := ht.rowL z
        rw [nDH] at e5; cases e5
      have rm : ∀ x ∈ lf, r2 m x = T1.r m x := fun x hx => rel.r m ml x hx
      have tl : ∀ x ∈ td, x ∈ lf ∧ x ≠ m ∧ x < n ∧ 0 < T1.r m x := fun x hx => by
        obtain ⟨h1, h2⟩ := (tm x).mp hx
        obtain ⟨h3, h4⟩ := (lm' x).mp h1
        exact ⟨h3, h4, ((lm x).mp h3).1, by rw [← rm x h3]; exact h2⟩
      -- the test: nothing is wrong
      dsimp only [gName]
      refine join (a := tIfS _ _ _) (fun σ1 H5 => σ1 = [some (.ref a), some (.ref b), some (.ref o), some (.ref ll), some (.int m), some (.ref q0), some (.ref dk), some (.ref D), v8, v9, v10, v11] ∧ H5 = H4) (fun R hR => ?_) ?_
      · have fine : R [some (.ref a), some (.ref b), some (.ref o), some (.ref ll), some (.int m), some (.ref q0), some (.ref dk), some (.ref D), v8, v9, v10, v11] H4 := hR _ _ ⟨rfl, rfl⟩
        rw [es] at q4
        rcases ok.wr with w | ⟨w, wz⟩
        · have np := num_pos' w
          refine ⟨_, rfl, q0, _, _, _, rfl, rfl, q4, atI_nat (j := 0) rfl, _, _, rfl, rfl, _, rfl, iteDN (by omega) ?_⟩
          refine ⟨_, rfl, q0, _, _, _, rfl, rfl, q4, atI_nat (j := 0) rfl, rfl, _, rfl, iteDN (fun z => by have := V.int.inj z; omega) ?_⟩
          exact iteF fine
        · rw [w] at q4
          have tz : td = [] := List.eq_nil_iff_forall_not_mem.mpr fun x hx => by
            have := (tl x hx).2.2.2
            rw [wz x] at this
            exact absurd this (by decide)
          subst tz
          refine ⟨_, rfl, q0, _, _, _, rfl, rfl, q4, atI_nat (j := 0) rfl, _, _, rfl, rfl, _, rfl, iteDN (by decide) ?_⟩
          refine ⟨_, rfl, q0, _, _, _, rfl, rfl, q4, atI_nat (j := 0) rfl, rfl, _, rfl, iteD (by rfl) ?_⟩
          refine ⟨_, rfl, D, _, rfl, .inl (SqL.of g1), _, _, rfl, rfl, _, rfl, iteF fine⟩
      rintro σ1 H5 ⟨rfl, e45⟩
      obtain rfl : H4 = H5 := e45.symm
      have mtd : m ∉ td := fun z => (tl m z).2.1 rfl
      have td8 : td.length ≤ n := nodup_len tnd fun x hx => (tl x hx).2.2.1
      refine ⟨_, rfl, D, rfl, ⟨_, SqL.of g1⟩, for_list (K := K) (a := D) (xs := NatL td) (fun x σ H' => ∃ v8 v9 v10 v11 : Option V, σ = [some (.ref a), some (.ref b), some (.ref o), some (.ref ll), some (.int m), some (.ref q0), some (.ref dk), some (.ref D), v8, v9, v10, v11] ∧ TF K H' a b ds n (sP m s2 r2 (td.take x)) (rP m s2 r2 td (td.take x)) ∧ Kt a ds H4 H')
        ⟨_, _, _, _, rfl, by rw [List.take_zero, sP_nil, rP_nil]; exact t4, Kt.refl⟩ (fun x σ H' _ ⟨_, _, _, _, _, _, z⟩ => SqL.of (z _ _ g1 nDa nDd)) ?_ ?_⟩
      · rintro x y σ H5 hx ⟨v8, v9, v10, v11, rfl, t5, k5⟩
        obtain ⟨c, rfl, hc⟩ := natl_get hx
        obtain ⟨cl, cm, cn, cp⟩ := tl c (List.mem_of_getElem? hc)
        have ct : c ∉ td.take x := fun z => by
          obtain ⟨x', hx', e⟩ := List.mem_iff_getElem.mp z
          rw [List.length_take] at hx'
          rw [List.getElem_take] at e
          have := nd_ix tnd (show td[x']? = some c by rw [List.getElem?_eq_getElem (by omega), e]) hc
          omega
        have mtk : m ∉ td.take x := fun z => mtd (List.mem_of_mem_take z)
        have ec := rm c cl
        have sp : 0 < T1.s m := by
          rcases ok.wr with w | ⟨_, w⟩
          · exact w
          · rw [w c] at cp; exact absurd cp (by decide)
        have im5 := t4.imm k5
        have vk5 : VecF K H5 dk n (r2 m) := by
          have := t5.ro m dk hdk
          exact this.congr fun j _ => rP_row mtk
        obtain ⟨ks, p1, c1, c2, c3, c4, c5⟩ := vk5.get cn
        have q5 := q4.imm im5
        have o1 : Ok (r2 m c) := by rw [ec]; exact ok.or _ _
        have o2 : Ok (s2 m) := by rw [es]; exact ok.os _
        have o3 : Ok (r2 m c / s2 m) := by rw [ec, es]; exact ok.oh _
        have o4 : Ok (r2 m c * (r2 m c / s2 m)) := by rw [ec, es, mul_over]; exact ok.oq _ _
        have sp' : 0 < s2 m := by rw [es]; exact sp
        refine ⟨_, rfl, _, rfl, dk, _, _, _, rfl, rfl, SqL.of c1, atI_nat c4, _, rfl, p1, q0, _, _, rfl, c5, q5, o1, o2, sp', fun p6 H6 s6 n6 f6 => ?_⟩
        have t6 := t5.same s6
        obtain ⟨us, p2, d1, d2, d3, d4, d5⟩ := t6.sl.get cn
        have esc : sP m s2 r2 (td.take x) c = s2 c := if_neg ct
        have o5 : Ok (sP m s2 r2 (td.take x) c) := by rw [esc, rel.s c cl]; exact ok.os _
        refine ⟨_, rfl, _, rfl, a, _, _, _, rfl, rfl, SqL.of d1, atI_nat d4, _, rfl, _, rfl, dk, _, _, _, rfl, rfl, SqL.of (s6 _ _ c1), atI_nat c4, _, rfl, p1, p6, _, _, rfl, c5.same s6, f6, o1, o3, trivial, fun p7 H7 s7 n7 f7 => ?_⟩
        refine ⟨p2, p7, _, _, rfl, d5.same s7, f7, o5, o4, trivial, fun p8 H8 s8 n8' f8 => ?_⟩
        have s78 := s7.trans s8
        have t8 := t6.same s78
        refine ⟨_, rfl, _, rfl, a, _, _, c, rfl, rfl, s78 _ _ d1, ixN_nat (by rw [List.length_map, d2]; exact cn), ?_⟩
        obtain ⟨t9, k9⟩ := t8.putS (j := c) (s78 _ _ d1) f8
        have k49 := (k5.trans (Kt.of (s6.trans s78))).trans k9
        have e9 := sP_snoc (k := m) (s := s2) (r := r2) ct
        dsimp only at t9
        rw [e9] at t9
        have f9 : FrAt K (upd H8 a (.lst ((us.map V.ref).set c (.ref p8)))) p6 (r2 m c / s2 m) := (f6.same s78).imm (Imm.lst (s78 _ _ d1))
        generalize upd H8 a (.lst ((us.map V.ref).set c (.ref p8))) = H9 at t9 k49 f9
        obtain ⟨dc, hdc, vc⟩ := t9.row cn
        refine ⟨_, rfl, _, rfl, b, _, _, _, rfl, rfl, SqL.of t9.hb, atI_nat (refs_at hdc), ?_⟩
        refine ⟨_, rfl, D, rfl, ⟨_, SqL.of (k49 _ _ g1 nDa nDd)⟩, for_list (K := K) (a := D) (xs := NatL td) (fun z σ H' => ∃ v8 : Option V, σ = [some (.ref a), some (.ref b), some (.ref o), some (.ref ll), some (.int m), some (.ref q0), some (.ref dk), some (.ref D), v8, some (.int c), some (.ref p6), some (.ref dc)] ∧ TF K H' a b ds n (sP m s2 r2 (td.take x ++ [c])) (rI m s2 r2 td (td.take x) c (td.take z)) ∧ Kt a ds H4 H' ∧ FrAt K H' p6 (r2 m c / s2 m))
          ⟨_, rfl, by rw [List.take_zero, rI_nil]; exact t9, k49, f9⟩ (fun x σ H' _ ⟨_, _, _, z, _⟩ => SqL.of (z _ _ g1 nDa nDd)) ?_ ?_⟩
        · rintro z y σ H10 hz ⟨v8, rfl, t10, k10, f10⟩
          obtain ⟨g, rfl, hg⟩ := natl_get hz
          obtain ⟨gl, gm, gn, gp⟩ := tl g (List.mem_of_getElem? hg)
          have eg := rm g gl
          have gt : g ∉ td.take z := fun w => by
            obtain ⟨x', hx', e⟩ := List.mem_iff_getElem.mp w
            rw [List.length_take] at hx'
            rw [List.getElem_take] at e
            have := nd_ix tnd (show td[x']? = some g by rw [List.getElem?_eq_getElem (by omega), e]) hg
            omega
          refine ⟨_, rfl, _, rfl, rfl, _, rfl, ite2 (fun w => ?_) (fun w => ?_)⟩
          · have gc : g ≠ c := fun q => by subst q; simp at w
            have vc10 := t10.ro c dc hdc
            obtain ⟨hs, p3, h1, h2, h3, h4, h5⟩ := vc10.get gn
            have vk10 : VecF K H10 dk n (r2 m) := (t10.ro m dk hdk).congr fun j _ => rI_row mtk (fun q => cm q.symm)
            obtain ⟨ks', p4, i1, i2, i3, i4, i5⟩ := vk10.get gn
            have o6 : Ok (r2 m g) := by rw [eg]; exact ok.or _ _
            have o7 : Ok (r2 m g * (r2 m c / s2 m)) := by rw [eg, ec, es, mul_over]; exact ok.oq _ _
            have erc : rI m s2 r2 td (td.take x) c (td.take z) c g = r2 c g := by
              unfold rI
              rw [if_neg (fun q => gt q.2.1)]
              exact if_neg fun q => ct q.1
            have o8 : Ok (rI m s2 r2 td (td.take x) c (td.take z) c g) := by rw [erc, rel.r c cl g gl]; exact ok.or _ _
            refine ⟨_, rfl, _, rfl, dc, _, _, _, rfl, rfl, SqL.of h1, atI_nat h4, _, rfl, _, rfl, dk, _, _, _, rfl, rfl, SqL.of i1, atI_nat i4, _, rfl, p4, p6, _, _, rfl, i5, f10, o6, o3, trivial, fun p7 H11 s11 n11 f11 => ?_⟩
            refine ⟨p3, p7, _, _, rfl, h5.same s11, f11, o8, o7, trivial, fun p8 H12 s12 n12 f12 => ?_⟩
            have s112 := s11.trans s12
            refine ⟨_, rfl, _, rfl, dc, _, _, g, rfl, rfl, s112 _ _ h1, ixN_nat (by rw [List.length_map, h2]; exact gn), ?_⟩
            obtain ⟨t13, k13⟩ := (t10.same s112).putR (j := g) hdc (s112 _ _ h1) f12
            refine ⟨_, rfl, ?_, (k10.trans (Kt.of s112)).trans k13, (f10.same s112).imm (Imm.lst (s112 _ _ h1))⟩
            rw [take_snoc hg, ← rI_snoc gc gt ct]
            exact t13
          · have gc : g = c := Classical.byContradiction fun q => w (by
              show (!decide (V.int (g : Int) = V.int (c : Int))) = true
              rw [decide_eq_false fun q2 => q (by have := V.int.inj q2; omega)]; rfl)
            refine ⟨_, rfl, ?_, k10, f10⟩
            rw [take_snoc hg, rI_same gc]
            exact t10
        · rintro σ H10 ⟨v8, rfl, t10, k10, f10⟩
          have eD : td.take (NatL td).length = td := List.take_of_length_le (by rw [List.length_map]; exact Nat.le_refl _)
          rw [eD, rI_end ct] at t10
          refine ⟨_, _, _, _, rfl, ?_, k10⟩
          rw [take_snoc hc]
          exact t10
      · rintro σ H5 ⟨v8, v9, v10, v11, rfl, t5, k5⟩
        have eD : td.take (NatL td).length = td := List.take_of_length_le (by rw [List.length_map]; exact Nat.le_refl _)
        rw [eD] at t5
        have nll4 : ll ≠ a := nla.symm
        refine ⟨lf', _, _, _, _, _, _, _, _, _, _, rfl, k5 _ _ e4 nll4 nld, t5, k4.trans k5, lnd', fun x => ?_, ?_, ?_⟩
        · rw [lm' x, lm x, take_snoc hm, List.mem_append, List.mem_singleton]
          constructor
          · rintro ⟨⟨h1, h2⟩, h3⟩
            exact ⟨h1, fun z => z.elim h2 h3⟩
          · rintro ⟨h1, h2⟩
            exact ⟨⟨h1, fun z => h2 (.inl z)⟩, fun z => h2 (.inr z)⟩
        · rw [take_snoc hm]
          unfold strikeAll at hT ⊢
          rw [List.foldl_append, hT]
          exact rel.struck ok ml lm' tm
        · rw [take_snoc hm]
          unfold strikeAll at hT ⊢
          rw [List.foldl_append, hT]
          exact run3
    rintro σ H2 ⟨lf, s2, r2, v4, v5, v6, v7, v8, v9, v10, v11, rfl, e2, t2, k2, lnd, lm, rel, run2⟩
    have eW : ws.take (NatL ws).length = ws := List.take_of_length_le (by rw [List.length_map]; exact Nat.le_refl _)
    rw [eW] at lm rel
    have wl : w1 ∈ lf := (lm w1).mpr ⟨wn, by rw [← hws]; exact fun z => (mem_others.mp z).2 rfl⟩
    exact k H2 s2 r2 k2 t2 (rel.s w1 wl)

end Fair

set_option Elab.async false
set_option linter.all false
set_option maxRecDepth 100000
set_option maxHeartbeats 4000000
namespace Fair
open PySem PySem.Spec PyProof.Rows L2
/-! ### LBrim -/
theorem ok_LBrim {P : Program} {w : World} {K : PySem.W.Frag} {mg : Str → Option Value} {base : Heap} (T : TX K mg) (D : Dx K mg "_law_brim" sLBrim)
    (c_LNone : C8.Cal P w K mg base 1 "_law_none" (spNone K) [])
    (c_LTable : C8.Cal P w K mg base 4 "_law_table" (spLTable K) [])
    (c_LStruck : C8.Cal P w K mg base 4 "_law_struck" (spLStruck K) []) : C8.Cal P w K mg base 5 "_law_brim" (spLBrim K) [] := by
  refine D.cal scLBrim (fun _ _ _ _ _ _ us hl => match us, hl with | [_, _, _, _], _ => rfl) (fun vs H Q E h => ?_) (fun f cdv A outer s H vs Q E hr h => ?_)
  · obtain ⟨l, pu, n, w1, ss, rfl, hl, ok, hpu, wn, run, k⟩ := h
    rfl
  · obtain ⟨l, pu, n, w1, ss, rfl, hl, ok, hpu, wn, run, k⟩ := h
    refine ⟨_, (pss_cons (ps_asg (C8.pe_c c_LTable hr (by decide) (by rfl) (pa_cons (pv 0) (pa_cons (pv 1) (pa_cons (pv 2) (pa_cons (C8.pe_c c_LNone hr (by decide) (by rfl) (pa_cons (pv 1) pa_nil)) pa_nil))))) (pg_tup rfl (pgs_cons (pg_name (i := 4) scLBrim.nd rfl (by first | exact Or.inl rfl | exact Or.inr rfl)) (pgs_cons (pg_name (i := 5) scLBrim.nd rfl (by first | exact Or.inl rfl | exact Or.inr rfl)) pgs_nil))))
        (pss_cons (ps_expr (C8.pe_c c_LStruck hr (by decide) (by rfl) (pa_cons (pv 4) (pa_cons (pv 5) (pa_cons (pe_lc (own := [("_law_other", 6)]) (by rfl) scLBrim.nd (pi_range1 rfl T.f_range (pa_cons (pv 1) pa_nil)) (blkOk_by (N := ["_law_stalls_here", "_law_wares", "_law_purse", "_law_ware", "_law_slants", "_law_roots", "_law_other"]) (sc := defScope sLBrim) (by decide +kernel)) (fun _ _ _ _ _ => pg_name (i := 6) scLBrim.nd rfl (Or.inl rfl)) (fun _ _ _ _ _ => pts_one (pt_cmpR op_ne (pv 6) (pv 3) (nomark _))) (fun _ _ _ _ _ => (pv 6))) pa_nil)))))
        (pss_one (ps_ret (pe_ix ix_list (pv 4) (pv 3) (fun _ _ => rfl)))))), ?_⟩
    have n8 := ok.n8
    have n1 := ok.n1
    refine ⟨_, rfl, _, rfl, _, rfl, _, rfl, n, rfl, n1, n8, fun z H1 s1 nz fz => ?_⟩
    refine ⟨l, pu, z, n, ss, rfl, hl.same s1, ok, ?_, fz, fun t a b ds H2 s2 tt t2 na nb nd => ?_⟩
    · obtain ⟨ps, u1, u2⟩ := hpu
      exact ⟨ps, same_tup s1 u1, u2.mono fun _ _ h => h.same s1⟩
    refine ⟨t, _, rfl, tt, rfl, _, _, rfl, _, _, rfl, rfl, ?_⟩
    have s12 := s1.trans s2
    have naH : H a = none := s1.free na
    have ndH : ∀ d ∈ ds, H d = none := fun d hd => s1.free (nd d hd)
    have deq : ∀ i j : Nat, (!decide (V.int (i : Int) = V.int (j : Int))) = decide (i ≠ j) := fun i j => by
      by_cases c : i = j
      · subst c; simp
      · rw [decide_eq_false (show ¬ V.int (i : Int) = V.int (j : Int) from fun z => c (by have := V.int.inj z; omega)), decide_eq_true c]; rfl
    refine ⟨_, rfl, _, rfl, _, rfl, (n : Int), rfl, by omega, by omega, fun D hD => lc_range (lo := 0) (n := ((n : Int)).toNat) (fun i H' => H' D = some (.lst (NatL ((List.range i).filter fun j => decide (j ≠ w1)))) ∧ Same H2 H') ⟨upd_same, same_upd1 hD⟩ ?_ ?_⟩
    · rintro i H3 hi ⟨g1, g4⟩
      refine ⟨rfl, ?_⟩
      have e0 : (0 : Int) + i = i := by omega
      rw [e0]
      refine ⟨_, rfl, _, rfl, rfl, _, rfl, ?_⟩
      show (if (!decide (V.int (i : Int) = V.int (w1 : Int))) = true then _ else _)
      rw [deq]
      by_cases c : i = w1
      · have e1 : List.filter (fun j => decide (j ≠ w1)) [i] = [] := by simp [c]
        rw [decide_eq_false (fun z => z c), List.range_succ, List.filter_append, e1, List.append_nil]
        exact iteF ⟨g1, g4⟩
      · have e1 : List.filter (fun j => decide (j ≠ w1)) [i] = [i] := by simp [c]
        rw [decide_eq_true c]
        refine iteT ⟨_, rfl, _, g1, small1000 ?_, ?_, same_new g4 hD⟩
        · rw [List.length_map]
          have := List.length_filter_le (fun j => decide (j ≠ w1)) (List.range i)
          rw [List.length_range] at this
          omega
        · rw [upd_same, List.range_succ, List.filter_append, e1]
          unfold NatL
          rw [List.map_append]
          rfl
    · rintro H3 ⟨g1, g4⟩
      have t3 := t2.same g4
      have nDa : D ≠ a := fun z => by
        obtain ⟨xs, e⟩ := t2.sl.isL
        rw [← z, hD] at e; cases e
      have nDd : D ∉ ds := fun z => by
        obtain ⟨xs, e⟩ := t2.rowL z
        rw [hD] at e; cases e
      refine ⟨a, b, D, ds, n, w1, tab0 ss, rfl, t3, g1, nDa, nDd, n8, wn, run, fun H4 s r k4 t4 es => ?_⟩
      obtain ⟨as, q0, b1, b2, b3, b4, b5⟩ := t4.sl.get wn
      refine ⟨_, rfl, _, rfl, a, _, _, _, rfl, rfl, SqL.of b1, atI_nat b4, ?_⟩
      rw [es] at b5
      have sH4 : Same H H4 := fun c o e => k4 c o (g4 _ _ (s12 _ _ e)) (fun z => by rw [z, naH] at e; cases e) (fun z => by rw [ndH c z] at e; cases e)
      exact k q0 H4 sH4 b5

end Fair

set_option Elab.async false
set_option linter.all false
set_option maxRecDepth 100000
set_option maxHeartbeats 1000000
namespace Fair
open PySem PySem.Spec PyProof.Rows L2
/-! ### sums over lists of wares -/
def sm (l : List Nat) (f : Nat → Rat) : Rat := l.foldr (fun i a => f i + a) 0
theorem sm_nil (f : Nat → Rat) : sm [] f = 0 := rfl
theorem sm_cons (i : Nat) (l : List Nat) (f : Nat → Rat) : sm (i :: l) f = f i + sm l f := rfl
theorem sm_congr {f g : Nat → Rat} : ∀ {l : List Nat}, (∀ i ∈ l, f i = g i) → sm l f = sm l g
  | [], _ => rfl
  | i :: l, h => by rw [sm_cons, sm_cons, h i List.mem_cons_self, sm_congr fun j hj => h j (List.mem_cons_of_mem _ hj)]
theorem sm_add {f g : Nat → Rat} : ∀ l : List Nat, sm l (fun i => f i + g i) = sm l f + sm l g
  | [] => by rw [sm_nil, sm_nil, sm_nil, Rat.add_zero]
  | i :: l => by rw [sm_cons, sm_cons, sm_cons, sm_add l]; grind
theorem sm_mul {c : Rat} {f : Nat → Rat} : ∀ l : List Nat, sm l (fun i => c * f i) = c * sm l f
  | [] => by rw [sm_nil, sm_nil, Rat.mul_zero]
  | i :: l => by rw [sm_cons, sm_cons, sm_mul l]; grind
theorem sm_zero : ∀ l : List Nat, sm l (fun _ => 0) = 0
  | [] => rfl
  | i :: l => by rw [sm_cons, sm_zero l, Rat.add_zero]
theorem sm_one {v : Nat} {c : Rat} : ∀ {l : List Nat}, l.Nodup → sm l (fun i => if i = v then c else 0) = if v ∈ l then c else 0
  | [], _ => by rw [sm_nil, if_neg (by simp)]
  | i :: l, h => by
    rw [List.nodup_cons] at h
    rw [sm_cons, sm_one h.2]
    by_cases e : i = v
    · subst e
      rw [if_pos rfl, if_neg h.1, if_pos List.mem_cons_self, Rat.add_zero]
    · rw [if_neg e, Rat.zero_add]
      by_cases m : v ∈ l
      · rw [if_pos m, if_pos (List.mem_cons_of_mem _ m)]
      · rw [if_neg m, if_neg fun z => (List.mem_cons.mp z).elim (fun q => e q.symm) m]
/-! ### the form of a table -/
def ent (T : Tb) (i j : Nat) : Rat := if i = j then T.s i else - T.r i j
def form (T : Tb) (l : List Nat) (x : Nat → Rat) : Rat := sm l fun i => x i * sm l fun j => ent T i j * x j
theorem ent_sym {T : Tb} (h : ∀ i j, T.r i j = T.r j i) (i j : Nat) : ent T i j = ent T j i := by
  unfold ent
  by_cases c : i = j
  · subst c; rfl
  · rw [if_neg c, if_neg fun z => c z.symm, h]
theorem form_congr {T : Tb} {l : List Nat} {x y : Nat → Rat} (h : ∀ i ∈ l, x i = y i) : form T l x = form T l y := by
  unfold form
  refine sm_congr fun i hi => ?_
  rw [h i hi]
  congr 1
  exact sm_congr fun j hj => by rw [h j hj]
theorem form_cons {T : Tb} (sy : ∀ i j, T.r i j = T.r j i) (k : Nat) (r : List Nat) (x : Nat → Rat) :
    form T (k :: r) x = T.s k * x k * x k + 2 * x k * sm r (fun j => ent T k j * x j) + form T r x := by
  unfold form
  rw [sm_cons, sm_cons]
  have e1 : sm r (fun i => x i * sm (k :: r) fun j => ent T i j * x j) = sm r (fun i => x k * (ent T k i * x i) + x i * sm r fun j => ent T i j * x j) := sm_congr fun i _ => by
    rw [sm_cons, ent_sym sy i k]; grind
  rw [e1, sm_add, sm_mul]
  have e2 : ent T k k = T.s k := if_pos rfl
  rw [e2]
  grind
/-- the struck table's form -/
theorem form_strike {T : Tb} {k : Nat} {r : List Nat} (hk : k ∉ r) (x : Nat → Rat) :
    form (strikeT k T) r x = form T r x - sm r (fun j => ent T k j * x j) * sm r (fun j => ent T k j * x j) / T.s k := by
  have ee : ∀ i ∈ r, ∀ j ∈ r, ent (strikeT k T) i j = ent T i j + - (ent T k i / T.s k) * ent T k j := fun i hi j hj => by
    have ik : i ≠ k := fun z => hk (z ▸ hi)
    have jk : j ≠ k := fun z => hk (z ▸ hj)
    have ki : ent T k i = - T.r k i := if_neg fun z => ik z.symm
    have kj : ent T k j = - T.r k j := if_neg fun z => jk z.symm
    rw [ki, kj]
    unfold ent
    by_cases c : i = j
    · subst c
      rw [if_pos rfl, if_pos rfl]
      show (if i = k then T.s k else T.s i - T.r k i * T.r k i / T.s k) = _
      rw [if_neg ik]
      grind
    · rw [if_neg c, if_neg c]
      show - (if i = k ∨ j = k then 0 else if i = j then T.r i j else T.r i j + T.r k i * T.r k j / T.s k) = _
      rw [if_neg (fun z => z.elim ik jk), if_neg c]
      grind
  unfold form
  have e1 : sm r (fun i => x i * sm r fun j => ent (strikeT k T) i j * x j) = sm r (fun i => (x i * sm r fun j => ent T i j * x j) + - (sm r (fun j => ent T k j * x j) / T.s k) * (ent T k i * x i)) := sm_congr fun i hi => by
    have e2 : (sm r fun j => ent (strikeT k T) i j * x j) = (sm r fun j => ent T i j * x j + - (ent T k i / T.s k) * (ent T k j * x j)) := sm_congr fun j hj => by
      rw [ee i hi j hj]; grind
    rw [e2, sm_add, sm_mul]
    grind
  rw [e1, sm_add, sm_mul]
  grind
/-! ### what striking tells -/
structure Tab (T : Tb) (l : List Nat) : Prop where
  sy : ∀ i j, T.r i j = T.r j i
  di : ∀ i, T.r i i = 0
  nn : ∀ i j, 0 ≤ T.r i j
  su : ∀ i j, T.r i j ≠ 0 → i ∈ l ∧ j ∈ l
  ps : ∀ x, 0 ≤ form T l x
theorem sq_nn (a : Rat) : 0 ≤ a * a := by
  rcases Rat.le_total (a := 0) (b := a) with h | h
  · exact Rat.mul_nonneg h h
  · have : 0 ≤ -a := by grind
    have := Rat.mul_nonneg this this
    grind
theorem Tab.s0 {T : Tb} {k : Nat} {r : List Nat} (h : Tab T (k :: r)) (nd : (k :: r).Nodup) : 0 ≤ T.s k := by
  have hk := (List.nodup_cons.mp nd).1
  have := h.ps fun i => if i = k then 1 else 0
  rw [form_cons h.sy] at this
  have e1 : sm r (fun j => ent T k j * (if j = k then 1 else 0)) = 0 := by
    rw [sm_congr (g := fun _ => 0) fun j hj => by rw [if_neg (show ¬ j = k from fun z => hk (z ▸ hj)), Rat.mul_zero], sm_zero]
  have e2 : form T r (fun i => if i = k then 1 else 0) = 0 := by
    rw [form_congr (y := fun _ => 0) fun j hj => if_neg (show ¬ j = k from fun z => hk (z ▸ hj))]
    unfold form
    rw [sm_congr (g := fun _ => 0) fun j hj => by rw [Rat.zero_mul], sm_zero]
  rw [e1, e2, if_pos rfl] at this
  grind
/-- 0 on the diagonal: the row is 0 -/
theorem Tab.row0 {T : Tb} {k : Nat} {r : List Nat} (h : Tab T (k :: r)) (nd : (k :: r).Nodup) (z : T.s k = 0) (j : Nat) : T.r k j = 0 := by
  have hk := (List.nodup_cons.mp nd).1
  refine Classical.byContradiction fun nz => ?_
  have hj := (h.su k j nz).2
  have jk : j ≠ k := fun e => nz (by rw [e]; exact h.di k)
  have hjr : j ∈ r := (List.mem_cons.mp hj).resolve_left jk
  have nn := h.nn k j
  have rp : 0 < T.r k j := Rat.lt_of_le_of_ne nn fun e => nz e.symm
  have key : ∀ t : Rat, 0 ≤ - 2 * t * T.r k j + T.s j := fun t => by
    have q := h.ps fun i => if i = k then t else if i = j then 1 else 0
    rw [form_cons h.sy] at q
    have e1 : sm r (fun i => ent T k i * (if i = k then t else if i = j then 1 else 0)) = - T.r k j := by
      rw [sm_congr (g := fun i => if i = j then - T.r k j else 0) fun i hi => by
        rw [if_neg (show ¬ i = k from fun e => hk (e ▸ hi))]
        by_cases e : i = j
        · rw [if_pos e, if_pos e, e]
          unfold ent
          rw [if_neg fun z => jk z.symm, Rat.mul_one]
        · rw [if_neg e, if_neg e, Rat.mul_zero], sm_one (List.nodup_cons.mp nd).2, if_pos hjr]
    have e2 : form T r (fun i => if i = k then t else if i = j then 1 else 0) = T.s j := by
      rw [form_congr (y := fun i => if i = j then 1 else 0) fun i hi => if_neg (show ¬ i = k from fun e => hk (e ▸ hi))]
      unfold form
      rw [sm_congr (g := fun i => if i = j then T.s j else 0) fun i hi => by
        dsimp only
        by_cases e : i = j
        · rw [if_pos e, if_pos e, Rat.one_mul, sm_congr (g := fun m => if m = j then T.s j else 0) fun m hm => by
            by_cases f : m = j
            · rw [if_pos f, if_pos f, e, f]
              unfold ent
              rw [if_pos rfl, Rat.mul_one]
            · rw [if_neg f, if_neg f, Rat.mul_zero], sm_one (List.nodup_cons.mp nd).2, if_pos hjr]
        · rw [if_neg e, if_neg e, Rat.zero_mul], sm_one (List.nodup_cons.mp nd).2, if_pos hjr]
    rw [e1, e2, if_pos rfl, z] at q
    grind
  have q := key ((T.s j + 1) / T.r k j)
  have : (T.s j + 1) / T.r k j * T.r k j = T.s j + 1 := by grind
  have s0 := key 0
  grind
end Fair

set_option Elab.async false
set_option linter.all false
set_option maxRecDepth 100000
set_option maxHeartbeats 1000000
namespace Fair
open PySem PySem.Spec PyProof.Rows L2
theorem inv_nn {a : Rat} (h : 0 ≤ a) : 0 ≤ a⁻¹ := by
  by_cases z : a = 0
  · rw [z, Rat.inv_zero]; exact Rat.le_refl
  · exact Rat.le_of_lt (Rat.inv_pos.mpr (Rat.lt_of_le_of_ne h fun e => z e.symm))
/-- x, but for k -/
def putX (x : Nat → Rat) (k : Nat) (t : Rat) : Nat → Rat := fun i => if i = k then t else x i
theorem form_at {T : Tb} {k : Nat} {r : List Nat} (sy : ∀ i j, T.r i j = T.r j i) (hk : k ∉ r) (x : Nat → Rat) :
    form T (k :: r) (putX x k (- (sm r (fun j => ent T k j * x j) / T.s k))) = form (strikeT k T) r x := by
  have out : ∀ t, ∀ j ∈ r, putX x k t j = x j := fun t j hj => if_neg (show ¬ j = k from fun z => hk (z ▸ hj))
  have es : ∀ t, sm r (fun j => ent T k j * putX x k t j) = sm r (fun j => ent T k j * x j) := fun t => sm_congr fun j hj => by rw [out t j hj]
  rw [form_cons sy, es, form_congr (out _), form_strike hk]
  have e : ∀ t, putX x k t k = t := fun t => if_pos rfl
  rw [e]
  generalize sm r (fun j => ent T k j * x j) = c
  by_cases z : T.s k = 0
  · rw [z]
    have : c / 0 = 0 := by grind
    grind
  · grind
theorem form_ge {T : Tb} {k : Nat} {r : List Nat} (h : Tab T (k :: r)) (nd : (k :: r).Nodup) (x : Nat → Rat) : form (strikeT k T) r x ≤ form T (k :: r) x := by
  have hk := (List.nodup_cons.mp nd).1
  rw [form_cons h.sy, form_strike hk]
  by_cases z : T.s k = 0
  · have c0 : sm r (fun j => ent T k j * x j) = 0 := by
      rw [sm_congr (g := fun _ => 0) fun j hj => by
        have jk : ¬ k = j := fun e => hk (e ▸ hj)
        unfold ent
        rw [if_neg jk, h.row0 nd z j]; grind, sm_zero]
    rw [c0, z]
    grind
  · have s0 := h.s0 nd
    have sp : 0 < T.s k := Rat.lt_of_le_of_ne s0 fun e => z e.symm
    generalize sm r (fun j => ent T k j * x j) = c
    have q : 0 ≤ T.s k * ((x k + c / T.s k) * (x k + c / T.s k)) := Rat.mul_nonneg s0 (sq_nn _)
    have e : T.s k * ((x k + c / T.s k) * (x k + c / T.s k)) = T.s k * x k * x k + 2 * x k * c + c * c / T.s k := by grind
    grind
theorem Tab.strike {T : Tb} {k : Nat} {r : List Nat} (h : Tab T (k :: r)) (nd : (k :: r).Nodup) : Tab (strikeT k T) r := by
  have hk := (List.nodup_cons.mp nd).1
  have s0 := h.s0 nd
  refine ⟨fun i j => ?_, fun i => ?_, fun i j => ?_, fun i j => ?_, fun x => ?_⟩
  · show (if i = k ∨ j = k then 0 else if i = j then T.r i j else T.r i j + T.r k i * T.r k j / T.s k) = if j = k ∨ i = k then 0 else if j = i then T.r j i else T.r j i + T.r k j * T.r k i / T.s k
    by_cases a : i = k ∨ j = k
    · rw [if_pos a, if_pos a.symm]
    · rw [if_neg a, if_neg (fun z : j = k ∨ i = k => a z.symm)]
      by_cases c : i = j
      · subst c; rfl
      · rw [if_neg c, if_neg (fun z : j = i => c z.symm), h.sy i j, Rat.mul_comm (T.r k i)]
  · show (if i = k ∨ i = k then (0 : Rat) else if i = i then T.r i i else T.r i i + T.r k i * T.r k i / T.s k) = 0
    split
    · rfl
    · rw [if_pos rfl]; exact h.di i
  · show 0 ≤ (if i = k ∨ j = k then (0 : Rat) else if i = j then T.r i j else T.r i j + T.r k i * T.r k j / T.s k)
    split
    · exact Rat.le_refl
    · split
      · exact h.nn i j
      · refine Rat.add_nonneg (h.nn i j) ?_
        rw [Rat.div_def]
        exact Rat.mul_nonneg (Rat.mul_nonneg (h.nn k i) (h.nn k j)) (inv_nn s0)
  · intro nz
    have nz : (if i = k ∨ j = k then (0 : Rat) else if i = j then T.r i j else T.r i j + T.r k i * T.r k j / T.s k) ≠ 0 := nz
    by_cases a : i = k ∨ j = k
    · rw [if_pos a] at nz; exact absurd rfl nz
    · have ik : i ≠ k := fun z => a (.inl z)
      have jk : j ≠ k := fun z => a (.inr z)
      have mem : i ∈ k :: r ∧ j ∈ k :: r := by
        rw [if_neg a] at nz
        by_cases c : T.r i j = 0
        · by_cases d : i = j
          · rw [if_pos d] at nz; exact absurd c nz
          · rw [if_neg d, c, Rat.zero_add] at nz
            have ki : T.r k i ≠ 0 := fun z => nz (by rw [z]; grind)
            have kj : T.r k j ≠ 0 := fun z => nz (by rw [z]; grind)
            exact ⟨(h.su k i ki).2, (h.su k j kj).2⟩
        · exact h.su i j c
      exact ⟨(List.mem_cons.mp mem.1).resolve_left ik, (List.mem_cons.mp mem.2).resolve_left jk⟩
  · rw [← form_at h.sy hk]
    exact h.ps _
theorem strike_fin {w : Nat} : ∀ (ws : List Nat) {T : Tb}, Tab T (ws ++ [w]) → (ws ++ [w]).Nodup → 0 ≤ (strikeAll T ws).s w ∧ ((strikeAll T ws).s w = 0 ↔ ∃ x : Nat → Rat, x w = 1 ∧ form T (ws ++ [w]) x = 0)
  | [], T, h, nd => by
    have ef : ∀ x, form T [w] x = T.s w * x w * x w := fun x => by
      rw [form_cons h.sy]
      have e1 : sm [] (fun j => ent T w j * x j) = 0 := rfl
      have e2 : form T [] x = 0 := rfl
      rw [e1, e2]; grind
    refine ⟨h.s0 nd, fun z => ⟨fun _ => 1, rfl, ?_⟩, fun ⟨x, x1, e⟩ => ?_⟩
    · show form T [w] _ = 0
      have z : T.s w = 0 := z
      rw [ef, z]; grind
    · have e : form T [w] x = 0 := e
      rw [ef, x1] at e
      show T.s w = 0
      grind
  | k :: ws, T, h, nd => by
    have hk : k ∉ ws ++ [w] := (List.nodup_cons.mp nd).1
    obtain ⟨a, b⟩ := strike_fin ws (h.strike nd) (List.nodup_cons.mp nd).2
    refine ⟨a, ?_⟩
    show (strikeAll (strikeT k T) ws).s w = 0 ↔ _
    rw [b]
    have wk : w ≠ k := fun z => hk (by rw [z]; simp)
    constructor
    · rintro ⟨x, x1, e⟩
      refine ⟨putX x k (- (sm (ws ++ [w]) (fun j => ent T k j * x j) / T.s k)), by unfold putX; rw [if_neg wk]; exact x1, ?_⟩
      show form T (k :: (ws ++ [w])) _ = 0
      rw [form_at h.sy hk]; exact e
    · rintro ⟨x, x1, e⟩
      refine ⟨x, x1, ?_⟩
      have g : form (strikeT k T) (ws ++ [w]) x ≤ form T (k :: (ws ++ [w])) x := form_ge h nd x
      have p : 0 ≤ form (strikeT k T) (ws ++ [w]) x := (h.strike nd).ps x
      have e : form T (k :: (ws ++ [w])) x = 0 := e
      rw [e] at g
      exact Rat.le_antisymm g p
/-! ### sizes -/
structure Hgt (b e : Nat) (T : Tb) : Prop where
  ex : ∃ E : Int, 0 < E ∧ E.natAbs < 2 ^ e ∧ (∀ i, ∃ A : Int, T.s i = (A : Rat) / (E : Rat) ∧ A.natAbs < 2 ^ b) ∧ ∀ i j, ∃ A : Int, T.r i j = (A : Rat) / (E : Rat) ∧ A.natAbs < 2 ^ b
theorem sm_frac {x : Rat} {A E : Int} {m : Nat} (e : x = (A : Rat) / (E : Rat)) (hE : 0 < E) (h1 : A.natAbs < 2 ^ m) (h2 : E.natAbs < 2 ^ m) : Sm m x := by
  rw [e, ← Rat.divInt_eq_div]
  exact sm_divInt hE h1 h2
theorem lt_pow {z a b : Nat} (h : z < 2 ^ a) (hab : a ≤ b) : z < 2 ^ b := Nat.lt_of_lt_of_le h (Nat.pow_le_pow_right (by decide) hab)
def Fit7 : Nat → Nat → Nat → Prop
  | 0, _, _ => True
  | m + 1, b, e => 2 * b ≤ 4400 ∧ e + b ≤ 4400 ∧ 2 * e ≤ 4400 ∧ Fit7 m (2 * b + 1) (e + b)
theorem icast_ne {E : Int} (h : 0 < E) : (E : Rat) ≠ 0 := fun z => by
  have : ((0 : Int) : Rat) = (E : Rat) := by rw [z]; rfl
  have := Rat.intCast_inj.mp this
  omega
theorem num_of {x : Rat} {C E : Int} (E0 : 0 < E) (e : x = (C : Rat) / (E : Rat)) (h : 0 < x) : 0 < C := by
  refine Int.not_le.mp fun z => ?_
  have hc : (C : Rat) ≤ 0 := by
    have := Rat.intCast_le_intCast.mpr z
    simpa using this
  have hE : (0 : Rat) ≤ (E : Rat) := by
    have := Rat.intCast_le_intCast.mpr (Int.le_of_lt E0)
    simpa using this
  have q := Rat.mul_nonneg (show 0 ≤ - (C : Rat) by grind) (inv_nn hE)
  rw [e, Rat.div_def] at h
  grind
theorem Hgt.stok {n k b e : Nat} {T : Tb} {r : List Nat} (h : Tab T (k :: r)) (nd : (k :: r).Nodup) (lt : ∀ i ∈ k :: r, i < n) (g : Hgt b e T) (f1 : 2 * b ≤ 4400) (f2 : e + b ≤ 4400) (f3 : 2 * e ≤ 4400) : StOk n k T := by
  obtain ⟨E, E0, Eb, gs, gr⟩ := g.ex
  have En := icast_ne E0
  have os : ∀ i, Ok (T.s i) := fun i => let ⟨A, e1, e2⟩ := gs i; sm_frac e1 E0 (lt_pow e2 (by omega)) (lt_pow Eb (by omega))
  have or : ∀ i j, Ok (T.r i j) := fun i j => let ⟨A, e1, e2⟩ := gr i j; sm_frac e1 E0 (lt_pow e2 (by omega)) (lt_pow Eb (by omega))
  have ok0 : Ok 0 := ⟨by show (0 : Int).natAbs < _; exact Nat.pow_pos (by decide), by show 1 < _; exact Nat.lt_of_lt_of_le (show 1 < 2 ^ 1 by decide) (Nat.pow_le_pow_right (by decide) (by decide))⟩
  have pos_of : 0 < T.s k → ∃ C : Int, 0 < C ∧ T.s k = (C : Rat) / (E : Rat) ∧ C.natAbs < 2 ^ b := fun w => by
    obtain ⟨C, c1, c2⟩ := gs k
    exact ⟨C, num_of E0 c1 w, c1, c2⟩
  have wr : 0 < T.s k ∨ (T.s k = 0 ∧ ∀ j, T.r k j = 0) := by
    by_cases z : T.s k = 0
    · exact .inr ⟨z, h.row0 nd z⟩
    · exact .inl (Rat.lt_of_le_of_ne (h.s0 nd) fun e => z e.symm)
  refine ⟨h.sy, h.di, h.nn, fun i j nz => let ⟨a, b⟩ := h.su i j nz; ⟨lt i a, lt j b⟩, wr, os, or, fun i j => ?_, fun i j => ?_, fun i => ?_⟩
  · obtain ⟨A, a1, a2⟩ := gr k i
    obtain ⟨B, b1, b2⟩ := gr k j
    refine sm_frac (A := A * B) (E := E * E) ?_ (Int.mul_pos E0 E0) (lt_pow (natabs_mul_lt a2 b2) (by omega)) (lt_pow (natabs_mul_lt Eb Eb) (by omega))
    rw [a1, b1, Rat.intCast_mul, Rat.intCast_mul]; grind
  · rcases wr with w | ⟨_, w⟩
    · obtain ⟨A, a1, a2⟩ := gr k i
      obtain ⟨B, b1, b2⟩ := gr k j
      obtain ⟨C, C0, c1, c2⟩ := pos_of w
      have Cn := icast_ne C0
      refine sm_frac (A := A * B) (E := E * C) ?_ (Int.mul_pos E0 C0) (lt_pow (natabs_mul_lt a2 b2) (by omega)) (lt_pow (natabs_mul_lt Eb c2) (by omega))
      rw [a1, b1, c1, Rat.intCast_mul, Rat.intCast_mul]; grind
    · rw [w i]
      have : (0 : Rat) * T.r k j / T.s k = 0 := by grind
      rw [this]; exact ok0
  · rcases wr with w | ⟨_, w⟩
    · obtain ⟨A, a1, a2⟩ := gr k i
      obtain ⟨C, C0, c1, c2⟩ := pos_of w
      have Cn := icast_ne C0
      refine sm_frac (A := A) (E := C) ?_ C0 (lt_pow a2 (by omega)) (lt_pow c2 (by omega))
      rw [a1, c1]; grind
    · rw [w i]
      have : (0 : Rat) / T.s k = 0 := by grind
      rw [this]; exact ok0
theorem add_lt {x y : Int} {a : Nat} (h1 : x.natAbs < 2 ^ a) (h2 : y.natAbs < 2 ^ a) : (x + y).natAbs < 2 ^ (a + 1) := by
  have : (x + y).natAbs ≤ x.natAbs + y.natAbs := Int.natAbs_add_le x y
  rw [Nat.pow_succ]
  omega
theorem sub_lt {x y : Int} {a : Nat} (h1 : x.natAbs < 2 ^ a) (h2 : y.natAbs < 2 ^ a) : (x - y).natAbs < 2 ^ (a + 1) := by
  have := add_lt h1 (show (-y).natAbs < 2 ^ a by rw [Int.natAbs_neg]; exact h2)
  rwa [← Int.sub_eq_add_neg] at this
theorem Hgt.strike {k b e : Nat} {T : Tb} {r : List Nat} (h : Tab T (k :: r)) (nd : (k :: r).Nodup) (g : Hgt b e T) : Hgt (2 * b + 1) (e + b) (strikeT k T) := by
  obtain ⟨E, E0, Eb, gs, gr⟩ := g.ex
  have En := icast_ne E0
  by_cases z : T.s k = 0
  · have w := h.row0 nd z
    refine ⟨E, E0, lt_pow Eb (by omega), fun i => ?_, fun i j => ?_⟩
    · obtain ⟨A, a1, a2⟩ := gs i
      refine ⟨A, ?_, lt_pow a2 (by omega)⟩
      show (if i = k then T.s k else T.s i - T.r k i * T.r k i / T.s k) = _
      by_cases c : i = k
      · rw [if_pos c, ← c]; exact a1
      · rw [if_neg c, w i, ← a1]; grind
    · show ∃ A : Int, (if i = k ∨ j = k then 0 else if i = j then T.r i j else T.r i j + T.r k i * T.r k j / T.s k) = (A : Rat) / (E : Rat) ∧ _
      by_cases c : i = k ∨ j = k
      · refine ⟨0, ?_, by show 0 < _; exact Nat.pow_pos (by decide)⟩
        rw [if_pos c]
        show (0 : Rat) = 0 / (E : Rat)
        grind
      · obtain ⟨A, a1, a2⟩ := gr i j
        refine ⟨A, ?_, lt_pow a2 (by omega)⟩
        rw [if_neg c]
        by_cases d : i = j
        · rw [if_pos d]; exact a1
        · rw [if_neg d, w i, ← a1]; grind
  · have sp : 0 < T.s k := Rat.lt_of_le_of_ne (h.s0 nd) fun e => z e.symm
    obtain ⟨C, c1, c2⟩ := gs k
    have C0 := num_of E0 c1 sp
    have Cn := icast_ne C0
    have b2 : ∀ {x y : Int}, x.natAbs < 2 ^ b → y.natAbs < 2 ^ b → (x * y).natAbs < 2 ^ (2 * b) := fun h1 h2 => by
      have := natabs_mul_lt h1 h2
      rwa [show b + b = 2 * b by omega] at this
    refine ⟨E * C, Int.mul_pos E0 C0, natabs_mul_lt Eb c2, fun i => ?_, fun i j => ?_⟩
    · show ∃ A : Int, (if i = k then T.s k else T.s i - T.r k i * T.r k i / T.s k) = (A : Rat) / ((E * C : Int) : Rat) ∧ _
      by_cases c : i = k
      · refine ⟨C * C, ?_, lt_pow (b2 c2 c2) (by omega)⟩
        rw [if_pos c, c1, Rat.intCast_mul, Rat.intCast_mul]; grind
      · obtain ⟨A, a1, a2⟩ := gs i
        obtain ⟨B, b1, b3⟩ := gr k i
        refine ⟨A * C - B * B, ?_, sub_lt (b2 a2 c2) (b2 b3 b3)⟩
        rw [if_neg c, c1, a1, b1, Rat.intCast_sub, Rat.intCast_mul, Rat.intCast_mul, Rat.intCast_mul]; grind
    · show ∃ A : Int, (if i = k ∨ j = k then 0 else if i = j then T.r i j else T.r i j + T.r k i * T.r k j / T.s k) = (A : Rat) / ((E * C : Int) : Rat) ∧ _
      obtain ⟨A, a1, a2⟩ := gr i j
      by_cases c : i = k ∨ j = k
      · refine ⟨0, ?_, by show 0 < _; exact Nat.pow_pos (by decide)⟩
        rw [if_pos c]
        show (0 : Rat) = 0 / ((E * C : Int) : Rat)
        grind
      · rw [if_neg c]
        by_cases d : i = j
        · refine ⟨A * C, ?_, lt_pow (b2 a2 c2) (by omega)⟩
          rw [if_pos d, a1, Rat.intCast_mul, Rat.intCast_mul]; grind
        · obtain ⟨B, b1, b3⟩ := gr k i
          obtain ⟨B', b1', b3'⟩ := gr k j
          refine ⟨A * C + B * B', ?_, add_lt (b2 a2 c2) (b2 b3 b3')⟩
          rw [if_neg d, c1, a1, b1, b1', Rat.intCast_add, Rat.intCast_mul, Rat.intCast_mul, Rat.intCast_mul]; grind
theorem run_ok {n w : Nat} : ∀ (ws : List Nat) {T : Tb} {b e : Nat}, Tab T (ws ++ [w]) → (ws ++ [w]).Nodup → (∀ i ∈ ws ++ [w], i < n) → Hgt b e T → Fit7 ws.length b e → RunOk n T ws
  | [], _, _, _, _, _, _, _, _ => trivial
  | k :: ws, T, b, e, h, nd, lt, g, ⟨f1, f2, f3, f4⟩ =>
    ⟨lt k List.mem_cons_self, g.stok h nd lt f1 f2 f3, run_ok ws (h.strike nd) (List.nodup_cons.mp nd).2 (fun i hi => lt i (List.mem_cons_of_mem _ hi)) (g.strike h nd) f4⟩
theorem Fit7.mono : ∀ {m k b e : Nat}, m ≤ k → Fit7 k b e → Fit7 m b e
  | 0, _, _, _, _, _ => trivial
  | m + 1, 0, _, _, h, _ => absurd h (by omega)
  | m + 1, k + 1, b, e, h, ⟨f1, f2, f3, f4⟩ => ⟨f1, f2, f3, Fit7.mono (by omega) f4⟩
theorem fit7_start : Fit7 7 33 19 := by
  unfold Fit7; refine ⟨by decide, by decide, by decide, ?_⟩
  unfold Fit7; refine ⟨by decide, by decide, by decide, ?_⟩
  unfold Fit7; refine ⟨by decide, by decide, by decide, ?_⟩
  unfold Fit7; refine ⟨by decide, by decide, by decide, ?_⟩
  unfold Fit7; refine ⟨by decide, by decide, by decide, ?_⟩
  unfold Fit7; refine ⟨by decide, by decide, by decide, ?_⟩
  unfold Fit7; refine ⟨by decide, by decide, by decide, trivial⟩
end Fair

set_option Elab.async false
set_option linter.all false
set_option maxRecDepth 100000
set_option maxHeartbeats 1000000
namespace Fair
open PySem PySem.Spec PyProof.Rows L2
/-! ### the table of a web at its start -/
def term (s : Stl) (x : Nat → Rat) : Rat := s.h * x s.u * x s.u + s.g * x s.v * x s.v - 2 * s.r * x s.u * x s.v
theorem form_add {T : Tb} {s : Stl} {l : List Nat} (nd : l.Nodup) (hu : s.u ∈ l) (hv : s.v ∈ l) (ne : s.u ≠ s.v) (x : Nat → Rat) : form (addS T s) l x = form T l x + term s x := by
  let al : Nat → Rat := fun i => if i = s.u then s.h else if i = s.v then - s.r else 0
  let be : Nat → Rat := fun i => if i = s.v then s.g else if i = s.u then - s.r else 0
  have ed : ∀ i j, ent (addS T s) i j * x j = ent T i j * x j + ((if j = s.u then al i * x s.u else 0) + (if j = s.v then be i * x s.v else 0)) := fun i j => by
    have e1 : ent (addS T s) i j = if i = j then T.s i + (if i = s.u then s.h else 0) + (if i = s.v then s.g else 0) else - (T.r i j + (if (i = s.u ∧ j = s.v) ∨ (i = s.v ∧ j = s.u) then s.r else 0)) := rfl
    have e2 : ent T i j = if i = j then T.s i else - T.r i j := rfl
    rw [e1, e2]
    show _ = _ + ((if j = s.u then (if i = s.u then s.h else if i = s.v then - s.r else 0) * x s.u else 0) + (if j = s.v then (if i = s.v then s.g else if i = s.u then - s.r else 0) * x s.v else 0))
    by_cases ij : i = j
    · subst ij
      rw [if_pos rfl, if_pos rfl]
      by_cases a : i = s.u
      · have b : ¬ i = s.v := fun z => ne (a.symm.trans z)
        rw [if_pos a, if_pos a, if_neg b, if_neg b, if_pos a, a]
        grind
      · by_cases b : i = s.v
        · rw [if_neg a, if_neg a, if_pos b, if_pos b, if_pos b, b]
          grind
        · rw [if_neg a, if_neg a, if_neg b, if_neg b]
          grind
    · rw [if_neg ij, if_neg ij]
      by_cases a : i = s.u
      · have b : ¬ i = s.v := fun z => ne (a.symm.trans z)
        have ju : ¬ j = s.u := fun z => ij (a.trans z.symm)
        rw [if_neg ju]
        by_cases c : j = s.v
        · rw [if_pos (.inl ⟨a, c⟩), if_pos c, if_neg b, if_pos a, c]
          grind
        · rw [if_neg (fun z => z.elim (fun q => c q.2) fun q => ju q.2), if_neg c]
          grind
      · by_cases b : i = s.v
        · have jv : ¬ j = s.v := fun z => ij (b.trans z.symm)
          rw [if_neg jv]
          by_cases c : j = s.u
          · rw [if_pos (.inr ⟨b, c⟩), if_pos c, if_neg a, if_pos b, c]
            grind
          · rw [if_neg (fun z => z.elim (fun q => a q.1) fun q => c q.2), if_neg c]
            grind
        · rw [if_neg (fun z => z.elim (fun q => a q.1) fun q => b q.1), if_neg a, if_neg b, if_neg b, if_neg a]
          split <;> split <;> grind
  have es : ∀ i, sm l (fun j => ent (addS T s) i j * x j) = sm l (fun j => ent T i j * x j) + (al i * x s.u + be i * x s.v) := fun i => by
    rw [sm_congr (fun j _ => ed i j), sm_add, sm_add, sm_one nd, sm_one nd, if_pos hu, if_pos hv]
  have et : ∀ i, x i * (al i * x s.u + be i * x s.v) = (if i = s.u then s.h * x s.u * x s.u - s.r * x s.u * x s.v else 0) + (if i = s.v then s.g * x s.v * x s.v - s.r * x s.u * x s.v else 0) := fun i => by
    show x i * ((if i = s.u then s.h else if i = s.v then - s.r else 0) * x s.u + (if i = s.v then s.g else if i = s.u then - s.r else 0) * x s.v) = _
    by_cases a : i = s.u
    · have b : ¬ i = s.v := fun z => ne (a.symm.trans z)
      rw [if_pos a, if_neg b, if_pos a, if_pos a, if_neg b, a]
      grind
    · by_cases b : i = s.v
      · rw [if_neg a, if_pos b, if_pos b, if_neg a, if_pos b, b]
        grind
      · rw [if_neg a, if_neg b, if_neg b, if_neg a, if_neg a, if_neg b]
        grind
  unfold form
  have e3 : sm l (fun i => x i * sm l fun j => ent (addS T s) i j * x j) = sm l (fun i => (x i * sm l fun j => ent T i j * x j) + ((if i = s.u then s.h * x s.u * x s.u - s.r * x s.u * x s.v else 0) + (if i = s.v then s.g * x s.v * x s.v - s.r * x s.u * x s.v else 0))) := sm_congr fun i _ => by
    rw [es i, ← et i]; grind
  rw [e3, sm_add, sm_add, sm_one nd, sm_one nd, if_pos hu, if_pos hv]
  unfold term
  grind
theorem term_ok {n : Nat} {s : Stl} (ok : StlOk n s) (x : Nat → Rat) : 0 ≤ term s x ∧ (term s x = 0 ↔ s.h * x s.u = s.r * x s.v) := by
  have h0 := ok.h0
  have hn : s.h ≠ 0 := fun z => by rw [z] at h0; exact absurd h0 (by decide)
  have rt := ok.rt
  have e : s.h * term s x = (s.h * x s.u - s.r * x s.v) * (s.h * x s.u - s.r * x s.v) := by
    unfold term; grind
  have q := sq_nn (s.h * x s.u - s.r * x s.v)
  rw [← e] at q
  constructor
  · refine Rat.not_lt.mp fun z => ?_
    have : 0 < s.h * (- term s x) := Rat.mul_pos h0 (by grind)
    grind
  · constructor
    · intro z
      rw [z, Rat.mul_zero] at e
      have : s.h * x s.u - s.r * x s.v = 0 := by
        rcases Rat.mul_eq_zero.mp e.symm with q | q <;> exact q
      grind
    · intro z
      rw [z] at e
      have : s.h * term s x = 0 := by rw [e]; grind
      exact (Rat.mul_eq_zero.mp this).resolve_left hn
theorem form_tab0 {n : Nat} {l : List Nat} (nd : l.Nodup) (hl : ∀ i, i < n → i ∈ l) (x : Nat → Rat) (ss : List Stl) : (∀ s ∈ ss, StlOk n s) → 0 ≤ form (tab0 ss) l x ∧ (form (tab0 ss) l x = 0 ↔ Fits ss x) := by
  refine list_snoc (fun ss => (∀ s ∈ ss, StlOk n s) → 0 ≤ form (tab0 ss) l x ∧ (form (tab0 ss) l x = 0 ↔ Fits ss x)) ?_ ?_ ss
  · intro _
    have e : form (tab0 []) l x = 0 := by
      show form Tb.zero l x = 0
      unfold form
      have e0 : ∀ i j, ent Tb.zero i j = 0 := fun i j => by
        show (if i = j then (0 : Rat) else - 0) = 0
        split
        · rfl
        · grind
      rw [sm_congr (g := fun _ => 0) fun i _ => by
        rw [sm_congr (g := fun _ => 0) fun j _ => by rw [e0, Rat.zero_mul], sm_zero, Rat.mul_zero], sm_zero]
    rw [e]
    exact ⟨Rat.le_refl, fun _ s hs => (by cases hs), fun _ => rfl⟩
  · intro ss s ih ok
    obtain ⟨a, b⟩ := ih fun t ht => ok t (List.mem_append_left _ ht)
    have sok := ok s (by simp)
    obtain ⟨c, d⟩ := term_ok sok x
    rw [tab0_snoc, form_add nd (hl _ sok.un) (hl _ sok.vn) sok.ne]
    refine ⟨Rat.add_nonneg a c, fun z => ?_, fun z => ?_⟩
    · have f1 : form (tab0 ss) l x = 0 := by grind
      have f2 : term s x = 0 := by grind
      intro t ht
      rcases List.mem_append.mp ht with ht | ht
      · exact b.mp f1 t ht
      · simp at ht; subst ht; exact d.mp f2
    · rw [b.mpr fun t ht => z t (List.mem_append_left _ ht), d.mpr (z s (by simp)), Rat.add_zero]
theorem due_ok {n : Nat} {ss : List Stl} (ok : WebOk n ss) {w : Nat} (hw : w < n) : RunOk n (tab0 ss) (othersN n w) ∧ 0 ≤ due n ss w ∧ (due n ss w = 0 ↔ Evn ss w) := by
  have oks := ok.ok
  have n8 := ok.n8
  have wo : w ∉ othersN n w := fun z => (mem_others.mp z).2 rfl
  have nd : (othersN n w ++ [w]).Nodup := List.nodup_append.mpr ⟨nodup_others n w, by simp, fun a ha b hb => by simp at hb; subst hb; intro z; subst z; exact wo ha⟩
  have all : ∀ i, i < n → i ∈ othersN n w ++ [w] := fun i hi => by
    by_cases c : i = w
    · rw [c]; simp
    · exact List.mem_append_left _ (mem_others.mpr ⟨hi, c⟩)
  have lt : ∀ i ∈ othersN n w ++ [w], i < n := fun i hi => by
    rcases List.mem_append.mp hi with hi | hi
    · exact (mem_others.mp hi).1
    · simp at hi; subst hi; exact hw
  obtain ⟨t1, t2⟩ := tab0_ok n ss oks
  have tab : Tab (tab0 ss) (othersN n w ++ [w]) := ⟨fun i j => (t2 i j).2.2.1, fun i => Classical.byContradiction fun z => ((t2 i i).2.2.2 z).2.2 rfl, fun i j => (t2 i j).2.1, fun i j nz => ⟨all i ((t2 i j).2.2.2 nz).1, all j ((t2 i j).2.2.2 nz).2.1⟩, fun x => (form_tab0 nd all x ss oks).1⟩
  have nqb : ∀ x, Nq ss.length x → ∃ A : Int, x = (A : Rat) / ((518400 : Int) : Rat) ∧ A.natAbs < 2 ^ 33 := fun x h => by
    obtain ⟨z, e, hz⟩ := h.mono ok.len
    exact ⟨z, e, by omega⟩
  have hg : Hgt 33 19 (tab0 ss) := ⟨518400, by decide, by decide, fun i => nqb _ (t1 i), fun i j => nqb _ (t2 i j).1⟩
  have len : (othersN n w).length ≤ 7 := by
    have := nodup_len nd lt
    rw [List.length_append] at this
    have : (othersN n w).length + 1 ≤ n := this
    omega
  refine ⟨run_ok _ tab nd lt hg (fit7_start.mono len), ?_⟩
  obtain ⟨a, b⟩ := strike_fin (othersN n w) tab nd
  refine ⟨a, b.trans ?_⟩
  constructor
  · rintro ⟨x, x1, e⟩
    exact ⟨x, x1, (form_tab0 nd all x ss oks).2.mp e⟩
  · rintro ⟨x, x1, f⟩
    exact ⟨x, x1, (form_tab0 nd all x ss oks).2.mpr f⟩
end Fair

set_option Elab.async false
set_option linter.all false
set_option maxRecDepth 100000
set_option maxHeartbeats 1000000
namespace Fair
open PySem PySem.Spec PyProof.Rows L2
def spLIsRight (K : PySem.W.Frag) : Sp := fun vs H Q _ => ∃ (p l : Addr) (n : Nat) (ss : List Stl), vs = [.ref p, .ref l, .int n] ∧ WebAt K H p n ss ∧ LstS K H l ss ∧ WebOk n ss ∧ ∀ H' : Hp, Same H H' → Q (.bl true) H'
/-! ### data of pairs, of pieces -/
def frD (r : Rat) : PyData := .tuple [.int r.num, .int r.den]
theorem dp_fr {K : PySem.W.Frag} {H : Hp} {a : Addr} {r : Rat} (h : FrAt K H a r) : Dp K H (.ref a) (frD r) := .tup h (.cons (.int _) (.cons (.int _) .nil))
theorem eqv_fr (r : Rat) : PyData.eqv (frD r) (frD r) = true := by
  show (PyData.eqv (.int r.num) (.int r.num) && (PyData.eqv (.int r.den) (.int r.den) && true)) = true
  simp [PyData.eqv]
theorem shaped_fr (r : Rat) : SeqAt.shaped (frD r) = true := by
  unfold SeqAt.shaped
  refine Bool.and_eq_true_iff.mpr ⟨rfl, decide_eq_true ?_⟩
  show max (PyData.depth (.int r.num)) (max (PyData.depth (.int r.den)) 0) + 1 ≤ 64
  simp [PyData.depth]
def pcD (c : List Nat) : PyData := .tuple (c.map fun (j : Nat) => PyData.int j)
def pcsD (cs : List (List Nat)) : PyData := .list (cs.map pcD)
theorem dp_pc {K : PySem.W.Frag} {H : Hp} {a : Addr} {c : List Nat} (h : TupN K H a c) : Dp K H (.ref a) (pcD c) := .tup h (dpAll_nat c)
theorem dpAll_pcs {K : PySem.W.Frag} {H : Hp} : ∀ (as : List Addr) (cs : List (List Nat)), Each (TupN K H) as cs → DpAll K H (as.map V.ref) (cs.map pcD)
  | [], [], _ => .nil
  | [], _ :: _, h => by have := h.1; cases this
  | _ :: _, [], h => by have := h.1; cases this
  | a :: as, c :: cs, h => .cons (dp_pc (h.2 0 a c rfl rfl)) (dpAll_pcs as cs ⟨Nat.succ.inj h.1, fun i x y h1 h2 => h.2 (i + 1) x y h1 h2⟩)
theorem dp_pcs {K : PySem.W.Frag} {H : Hp} {q : Addr} {cs : List (List Nat)} (h : LstN K H q cs) : Dp K H (.ref q) (pcsD cs) := let ⟨as, h1, h2⟩ := h; .lst (SqL.of h1) (dpAll_pcs as cs h2)
/-! ### the text of pieces is short -/
theorem shown_nat {j : Nat} (h : j < 8) : (PyData.shown (.int (j : Int))).length = 1 := by
  match j, h with
  | 0, _ => decide +kernel
  | 1, _ => decide +kernel
  | 2, _ => decide +kernel
  | 3, _ => decide +kernel
  | 4, _ => decide +kernel
  | 5, _ => decide +kernel
  | 6, _ => decide +kernel
  | 7, _ => decide +kernel
theorem piled_nat : ∀ c : List Nat, (∀ j ∈ c, j < 8) → piled (PyData.shownAll (c.map fun (j : Nat) => PyData.int j)) = 3 * c.length
  | [], _ => rfl
  | j :: r, h => by
    show piled (PyData.shown (.int (j : Int)) :: PyData.shownAll (r.map fun (j : Nat) => PyData.int j)) = _
    rw [piled_cons, shown_nat (h j List.mem_cons_self), piled_nat r fun x hx => h x (List.mem_cons_of_mem _ hx), List.length_cons]
    omega
theorem tupleText_len (ts : List Str) : (tupleText ts).length ≤ 3 + piled ts := by
  unfold tupleText
  rw [strLen_append, strLen_append]
  have h1 : (("(" : String) : Str).length = 1 := rfl
  have h2 : ((if ts.length == 1 then ",)" else ")" : String) : Str).length ≤ 2 := by split <;> decide +kernel
  by_cases h : ts = []
  · subst h
    have h3 : (Str.join ", " []).length = 0 := rfl
    have h4 : piled [] = 0 := rfl
    omega
  · have h3 := join_length_add ts h
    omega
theorem listText_len (ts : List Str) : (listText ts).length ≤ 2 + piled ts := by
  unfold listText
  rw [strLen_append]
  have h1 : (("]" : String) : Str).length = 1 := rfl
  cases ts with
  | nil =>
    have h2 : (textFrom 0 "[" []).length = 1 := rfl
    omega
  | cons t r =>
    have e : textFrom 0 "[" (t :: r) = textFrom 1 (("[" : String) ++ ("" : String) ++ t) r := rfl
    rw [e, textFrom_length_pos r 1 _ (by decide), strLen_append, strLen_append, piled_cons]
    have h2 : (("[" : String) : Str).length = 1 := rfl
    have h3 : (("" : String) : Str).length = 0 := rfl
    omega
theorem piled_pcs : ∀ cs : List (List Nat), (∀ c ∈ cs, c.length ≤ 8 ∧ ∀ j ∈ c, j < 8) → piled (PyData.shownAll (cs.map pcD)) ≤ 29 * cs.length
  | [], _ => Nat.le_refl _
  | c :: r, h => by
    show piled (PyData.shown (pcD c) :: PyData.shownAll (r.map pcD)) ≤ _
    obtain ⟨h1, h2⟩ := h c List.mem_cons_self
    have ih := piled_pcs r fun x hx => h x (List.mem_cons_of_mem _ hx)
    have t := tupleText_len (PyData.shownAll (c.map fun (j : Nat) => PyData.int j))
    rw [piled_nat c h2] at t
    have e : (PyData.shown (pcD c)).length = (tupleText (PyData.shownAll (c.map fun (j : Nat) => PyData.int j))).length := by
      unfold pcD; simp only [PyData.shown]
    rw [piled_cons, e, List.length_cons]
    omega
theorem showable_nat : ∀ c : List Nat, (∀ j ∈ c, j < 8) → PyData.showableAll (c.map fun (j : Nat) => PyData.int j) = true
  | [], _ => rfl
  | j :: r, h => by
    have hj := h j List.mem_cons_self
    have ih := showable_nat r fun x hx => h x (List.mem_cons_of_mem _ hx)
    have e : PyData.showable (.int (j : Int)) = true := by
      simp only [PyData.showable]
      refine decide_eq_true ?_
      match j, hj with
      | 0, _ => decide +kernel
      | 1, _ => decide +kernel
      | 2, _ => decide +kernel
      | 3, _ => decide +kernel
      | 4, _ => decide +kernel
      | 5, _ => decide +kernel
      | 6, _ => decide +kernel
      | 7, _ => decide +kernel
    show (PyData.showable (.int (j : Int)) && PyData.showableAll (r.map fun (j : Nat) => PyData.int j)) = true
    rw [e, ih]; rfl
theorem showable_pcs : ∀ cs : List (List Nat), (∀ c ∈ cs, c.length ≤ 8 ∧ ∀ j ∈ c, j < 8) → PyData.showableAll (cs.map pcD) = true
  | [], _ => rfl
  | c :: r, h => by
    have ih := showable_pcs r fun x hx => h x (List.mem_cons_of_mem _ hx)
    have e : PyData.showable (pcD c) = true := by
      unfold pcD
      simp only [PyData.showable]
      exact showable_nat c (h c List.mem_cons_self).2
    show (PyData.showable (pcD c) && PyData.showableAll (r.map pcD)) = true
    rw [e, ih]; rfl
theorem lay_pcs : ∀ cs : List (List Nat), PyData.canLayAll0 (cs.map pcD) = true ∧ PyData.depthAll (cs.map pcD) ≤ 2
  | [] => ⟨rfl, by show (0 : Nat) ≤ 2; decide⟩
  | c :: r => by
    obtain ⟨a, b⟩ := lay_pcs r
    obtain ⟨c1, c2⟩ := lay_nat c
    refine ⟨?_, ?_⟩
    · show (PyData.canLayAll0 (c.map fun (j : Nat) => PyData.int j) && PyData.canLayAll0 (r.map pcD)) = true
      rw [c1, a]; rfl
    · show max (PyData.depthAll (c.map fun (j : Nat) => PyData.int j) + 1) (PyData.depthAll (r.map pcD)) ≤ 2
      omega
theorem shaped_pcs (cs : List (List Nat)) : SeqAt.shaped (pcsD cs) = true := by
  obtain ⟨a, b⟩ := lay_pcs cs
  unfold SeqAt.shaped
  refine Bool.and_eq_true_iff.mpr ⟨a, decide_eq_true ?_⟩
  show PyData.depthAll (cs.map pcD) + 1 ≤ 64
  omega
theorem repr_pcs {K : PySem.W.Frag} {H : Hp} {q : Addr} {cs : List (List Nat)} {Q : VK} (h : LstN K H q cs) (hc : ∀ c ∈ cs, c.length ≤ 8 ∧ ∀ j ∈ c, j < 8) (hl : cs.length ≤ 8) (k : Q (.str (PyData.shown (pcsD cs))) H) : rRepr K [.ref q] H Q := by
  obtain ⟨a, b⟩ := lay_pcs cs
  refine ⟨q, pcsD cs, rfl, dp_pcs h, ?_, PyData.hasDict_of_canLay _ a, ?_, ?_, k⟩
  · unfold pcsD
    simp only [PyData.showable]
    exact showable_pcs cs hc
  · show PyData.depthAll (cs.map pcD) + 1 ≤ 20
    omega
  · have e : (PyData.shown (pcsD cs)).length = (listText (PyData.shownAll (cs.map pcD))).length := by
      unfold pcsD; simp only [PyData.shown]
    have t := listText_len (PyData.shownAll (cs.map pcD))
    have p := piled_pcs cs hc
    rw [e]
    exact Nat.le_trans (show _ ≤ 1000 by omega) (by decide)
theorem comp_small {n : Nat} {ss : List Stl} (n8 : n ≤ 8) (w : Nat) : (comp n ss w).length ≤ 8 ∧ ∀ j ∈ comp n ss w, j < 8 := ⟨Nat.le_trans (comp_len n ss w) n8, fun j hj => by have := (mem_comp.mp hj).1; omega⟩
open Classical in
theorem unev_small {n : Nat} {ss : List Stl} (n8 : n ≤ 8) : (∀ c ∈ unev n ss, c.length ≤ 8 ∧ ∀ j ∈ c, j < 8) ∧ (unev n ss).length ≤ 8 := by
  constructor
  · intro c hc
    obtain ⟨w, _, rfl⟩ := List.mem_map.mp hc
    exact comp_small n8 w
  · unfold unev
    rw [List.length_map]
    exact Nat.le_trans (List.length_filter_le _ _) (Nat.le_trans (firsts_len n ss) n8)
/-! ### even along what hangs together -/
theorem evn_conn {n : Nat} {ss : List Stl} (ok : ∀ s ∈ ss, StlOk n s) {a b : Nat} (c : Conn ss a b) (h : Evn ss a) : Evn ss b := by
  obtain ⟨x, x1, fx⟩ := h
  have key : ∀ b, Conn ss a b → x b ≠ 0 := fun b q => by
    induction q with
    | refl => rw [x1]; decide
    | step _ adj ih =>
      obtain ⟨s, hs, e⟩ := adj
      have f := fx s hs
      have h0 := (ok s hs).h0
      have r0 := (ok s hs).r0
      have h1 : s.h ≠ 0 := fun z => by rw [z] at h0; exact absurd h0 (by decide)
      have r1 : s.r ≠ 0 := fun z => by rw [z] at r0; exact absurd r0 (by decide)
      rcases e with ⟨e1, e2⟩ | ⟨e1, e2⟩
      · intro z
        rw [e1, e2, z, Rat.mul_zero] at f
        rcases Rat.mul_eq_zero.mp f with q | q
        · exact h1 q
        · exact ih q
      · intro z
        rw [e1, e2, z, Rat.mul_zero] at f
        rcases Rat.mul_eq_zero.mp f.symm with q | q
        · exact r1 q
        · exact ih q
  refine ⟨fun j => x j / x b, ?_, fun s hs => ?_⟩
  · dsimp only
    rw [Rat.div_def]
    exact Rat.mul_inv_cancel _ (key b c)
  · have f := fx s hs
    show s.h * (x s.u / x b) = s.r * (x s.v / x b)
    rw [mul_over, mul_over, f]
theorem due_pos {n : Nat} {ss : List Stl} (ok : WebOk n ss) {w : Nat} (hw : w < n) : 0 < due n ss w ↔ ¬ Evn ss w := by
  obtain ⟨_, h1, h2⟩ := due_ok ok hw
  rw [← h2]
  constructor
  · intro a b; rw [b] at a; exact absurd a (by decide)
  · intro a; exact Rat.lt_of_le_of_ne h1 fun z => a z.symm
open Classical in
theorem unev_nil {n : Nat} {ss : List Stl} (ok : ∀ s ∈ ss, StlOk n s) : unev n ss = [] ↔ AllE n ss := by
  unfold unev
  rw [List.map_eq_nil_iff, List.filter_eq_nil_iff]
  constructor
  · intro h w hw
    obtain ⟨r, rw', rf, rc⟩ := first_of ss w
    have := h r (mem_firsts.mpr ⟨by omega, rf⟩)
    have e : Evn ss r := Classical.byContradiction fun z => this (decide_eq_true z)
    exact evn_conn ok rc e
  · intro h w hw z
    exact of_decide_eq_true z (h w (mem_firsts.mp hw).1)
theorem filter_due {n : Nat} {ss : List Stl} (ok : WebOk n ss) {w : Nat} (hw : w < n) : (Evn ss w → (comp n ss w).filter (fun j => decide (0 < due n ss j)) = []) ∧ (¬ Evn ss w → (comp n ss w).filter (fun j => decide (0 < due n ss j)) = comp n ss w) := by
  constructor
  · intro e
    rw [List.filter_eq_nil_iff]
    intro j hj z
    obtain ⟨jn, jc⟩ := mem_comp.mp hj
    exact (due_pos ok jn).mp (of_decide_eq_true z) (evn_conn ok.ok jc e)
  · intro e
    rw [List.filter_eq_self]
    intro j hj
    obtain ⟨jn, jc⟩ := mem_comp.mp hj
    exact decide_eq_true ((due_pos ok jn).mpr fun z => e (evn_conn ok.ok jc.symm z))
end Fair

set_option Elab.async false
set_option linter.all false
set_option maxRecDepth 100000
set_option maxHeartbeats 4000000
namespace Fair
open PySem PySem.Spec PyProof.Rows L2
/-! ### LIsRight -/
theorem ok_LIsRight {P : Program} {w : World} {K : PySem.W.Frag} {mg : Str → Option Value} {base : Heap} (T : TX K mg) (D : Dx K mg "_law_is_right" sLIsRight)
    (c_LNone : C8.Cal P w K mg base 1 "_law_none" (spNone K) [])
    (c_LBrim : C8.Cal P w K mg base 5 "_law_brim" (spLBrim K) [])
    (c_ForNothing : C8.Cal P w K mg base 9 "for_nothing" (spForNothing K) [])
    (c_LIsAmount : C8.Cal P w K mg base 2 "_law_is_amount" (spLIsAmount K) [])
    (c_Brim : C8.Cal P w K mg base 9 "brim" (spBrim K) [])
    (c_LPieces : C8.Cal P w K mg base 1 "_law_pieces" (spLPieces K) [])
    (c_UnevenPieces : C8.Cal P w K mg base 9 "uneven_pieces" (spUnevenPieces K) [])
    (c_Fit : C8.Cal P w K mg base 10 "fit" (spFit K) []) : CalG P w K mg base 11 "_law_is_right" (spLIsRight K) := by
  refine D.calG scLIsRight (fun _ _ _ _ _ _ us hl => match us, hl with | [_, _, _], _ => rfl) (fun vs H Q E h => ?_) (fun f cdv A outer s H vs Q E hg hr h => ?_)
  · obtain ⟨p, l, n, ss, rfl, hp, hl, ok, k⟩ := h
    rfl
  · obtain ⟨p, l, n, ss, rfl, hp, hl, ok, k⟩ := h
    refine ⟨_, (pss_cons (ps_set (i := 3) scLIsRight.nd rfl (by first | exact Or.inl rfl | exact Or.inr rfl) (pe_lc (own := [("_law_ware", 4)]) (by rfl) scLIsRight.nd (pi_range1 rfl T.f_range (pa_cons (pv 2) pa_nil)) (blkOk_by (N := ["_law_web", "_law_stalls_here", "_law_wares", "_law_dues", "_law_ware", "_law_told", "_law_uneven", "_law_piece", "_law_some_here"]) (sc := defScope sLIsRight) (by decide +kernel)) (fun _ _ _ _ _ => pg_name (i := 4) scLIsRight.nd rfl (Or.inl rfl)) (fun _ _ _ _ _ => pts_nil) (fun _ _ _ _ _ => (C8.pe_c c_LBrim hr (by decide) (by rfl) (pa_cons (pv 1) (pa_cons (pv 2) (pa_cons (C8.pe_c c_LNone hr (by decide) (by rfl) (pa_cons (pv 2) pa_nil)) (pa_cons (pv 4) pa_nil))))))))
        (pss_cons (ps_for PassesOwn.never rfl (pi_range1 rfl T.f_range (pa_cons (pv 2) pa_nil)) (pg_name (i := 4) scLIsRight.nd rfl (by first | exact Or.inl rfl | exact Or.inr rfl))
        (pss_cons (ps_set (i := 5) scLIsRight.nd rfl (by first | exact Or.inl rfl | exact Or.inr rfl) (C8.pe_c c_ForNothing hr (by decide) (by rfl) (pa_cons (pv 0) (pa_cons (pv 4) pa_nil))))
        (pss_one (ps_if (PW.pt (pw_or (pt_not (pt_val (C8.pe_c c_LIsAmount hr (by decide) (by rfl) (pa_cons (pv 5) pa_nil)))) (pw_or (pt_cmpR (op_neD hr.units) (pv 5) (pe_ix ix_list (pv 3) (pv 4) (fun _ _ => rfl)) (nomark _)) (pw_or1 (pt_cmpR (op_neD hr.units) (C8.pe_c c_Brim hr (by decide) (by rfl) (pa_cons (pv 0) (pa_cons (C8.pe_c c_LNone hr (by decide) (by rfl) (pa_cons (pv 2) pa_nil)) (pa_cons (pv 4) pa_nil)))) (pv 5) (nomark _)))))) (pss_one (ps_ret pe_bl))
        pss_nil))))
        (pss_cons (ps_set (i := 6) scLIsRight.nd rfl (by first | exact Or.inl rfl | exact Or.inr rfl) (pe_lst pa_nil))
        (pss_cons (ps_for PassesOwn.never rfl (pi_list (C8.pe_c c_LPieces hr (by decide) (by rfl) (pa_cons (pv 1) (pa_cons (pv 2) pa_nil)))) (pg_name (i := 7) scLIsRight.nd rfl (by first | exact Or.inl rfl | exact Or.inr rfl))
        (pss_cons (ps_setLc (i := 8) (own := [("_law_ware", 4)]) (by rfl) scLIsRight.nd rfl rfl (sw_true rfl rfl rfl (by decide +kernel)) (pi_tup (pv 7)) (blkOk_by (N := ["_law_web", "_law_stalls_here", "_law_wares", "_law_dues", "_law_ware", "_law_told", "_law_uneven", "_law_piece", "_law_some_here"]) (sc := defScope sLIsRight) (by decide +kernel)) (fun _ _ _ _ _ => pg_name (i := 4) scLIsRight.nd rfl (Or.inl rfl)) (fun _ _ _ _ _ => pts_one (pt_cmpR op_gt (pe_ix (ixTK (K := K) rfl) (pe_ix (ixLK (K := K) rfl) (pv 3) (pv 4) (fun _ _ => rfl)) pe_int (fun _ _ => rfl)) pe_int (nomark _))) (fun _ _ _ _ _ => (pv 4)))
        (pss_cons (ps_if (pt_cmpR op_notIn_seq (pe_callB call_len_seq (by rfl) T.f_len (by decide +kernel) (pa_cons (pv 8) pa_nil)) (pe_tup (pa_cons pe_int (pa_cons (pe_callB call_len_seq (by rfl) T.f_len (by decide +kernel) (pa_cons (pv 7) pa_nil)) pa_nil))) (by rfl)) (pss_one (ps_ret pe_bl))
        pss_nil)
        (pss_one (ps_if (pt_cmpR op_gt (pe_callB call_len_seq (by rfl) T.f_len (by decide +kernel) (pa_cons (pv 8) pa_nil)) pe_int (nomark _)) (pss_one (ps_expr (pe_bm PySem.F.plainAttrs_list PySem.F.slot_list_append PySem.F.type_list_append mt_append (pv 6) (pa_cons (pv 7) pa_nil))))
        pss_nil)))))
        (pss_cons (ps_if (pt_cmpR op_ne (pe_callB (call_reprD hg hr) (by rfl) T.f_repr (by decide +kernel) (pa_cons (C8.pe_c c_UnevenPieces hr (by decide) (by rfl) (pa_cons (pv 0) pa_nil)) pa_nil)) (pe_callB (call_reprD hg hr) (by rfl) T.f_repr (by decide +kernel) (pa_cons (pv 6) pa_nil)) (nomark _)) (pss_one (ps_ret pe_bl))
        pss_nil)
        (pss_one (ps_ret (pe_cmpR op_eq (pe_cmp (pc_notN (C8.pe_c c_Fit hr (by decide) (by rfl) (pa_cons (pv 0) pa_nil)))) (pe_cmpR op_eq (pe_callB call_len_seq (by rfl) T.f_len (by decide +kernel) (pa_cons (pv 6) pa_nil)) pe_int (nomark _)) (nomark _))))))))), ?_⟩
    have n8 := ok.n8
    have n1 := ok.n1
    have oks := ok.ok
    have run : ∀ {w : Nat}, w < n → RunOk n (tab0 ss) (othersN n w) := fun hw => (due_ok ok hw).1
    refine ⟨_, rfl, (n : Int), rfl, by omega, by omega, fun D hD => lc_range (lo := 0) (n := ((n : Int)).toNat) (fun i H' => VecF K H' D i (due n ss) ∧ Same H H') ⟨VecR.nil, same_upd1 hD⟩ ?_ ?_⟩
    · rintro i H1 hi ⟨g1, g2⟩
      have hi2 : i < n := by omega
      have e0 : (0 : Int) + i = i := by omega
      rw [e0]
      refine ⟨rfl, _, rfl, _, rfl, _, rfl, n, rfl, n1, n8, fun z H2 s2 nz fz => ?_⟩
      refine ⟨_, rfl, l, z, n, i, ss, rfl, hl.same (g2.trans s2), ok, fz, hi2, run hi2, fun p1 H3 s3 f3 => ?_⟩
      obtain ⟨acc, ha, hlen, hv⟩ := g1.push frR (s2.trans s3) (q := p1) f3
      exact ⟨acc, ha, small1000 (by omega), hv, same_new (g2.trans (s2.trans s3)) hD⟩
    rintro H1 ⟨g1, g2⟩
    have g1 : VecF K H1 D n (due n ss) := g1
    refine ⟨_, rfl, (n : Int), rfl, by omega, by omega, ?_⟩
    refine for_range (lo := 0) (n := ((n : Int)).toNat) (fun i σ H' => ∃ v4 v5 : Option V, σ = [some (.ref p), some (.ref l), some (.int n), some (.ref D), v4, v5, none, none, none] ∧ Same H1 H') ⟨_, _, rfl, Same.refl H1⟩ ?_ ?_
    · rintro i σ H2 hi ⟨v4, v5, rfl, s2⟩
      have hi2 : i < n := by omega
      have e0 : (0 : Int) + i = i := by omega
      rw [e0]
      have sH2 := g2.trans s2
      refine ⟨_, rfl, _, rfl, p, n, i, ss, rfl, hp.same sH2, ok, hi2, run hi2, fun q H3 s3 f3 => ?_⟩
      refine ⟨_, rfl, q, _, rfl, f3, (due_ok ok hi2).2.1, _, rfl, iteF ?_⟩
      obtain ⟨as, q0, b1, b2, b3, b4, b5⟩ := (g1.same frR (s2.trans s3)).get hi2
      have ene : (!PyData.eqv (frD (due n ss i)) (frD (due n ss i))) = false := by rw [eqv_fr]; rfl
      refine ⟨_, rfl, _, rfl, _, rfl, D, _, _, _, rfl, rfl, SqL.of b1, atI_nat b4, frD (due n ss i), frD (due n ss i), dp_fr f3, dp_fr b5, shaped_fr _, shaped_fr _, _, rfl, iteBN ene ?_⟩
      refine ⟨_, rfl, _, rfl, n, rfl, n1, n8, fun z H4 s4 nz fz => ?_⟩
      have sH4 := sH2.trans (s3.trans s4)
      refine ⟨_, rfl, p, z, n, i, ss, rfl, hp.same sH4, ok, fz, hi2, run hi2, fun q5 H5 s5 f5 => ?_⟩
      refine ⟨_, rfl, frD (due n ss i), frD (due n ss i), dp_fr f5, dp_fr (f3.same (s4.trans s5)), shaped_fr _, shaped_fr _, _, rfl, iteBN ene ?_⟩
      exact ⟨_, _, rfl, s2.trans (s3.trans (s4.trans s5))⟩
    rintro σ H2 ⟨v4, v5, rfl, s2⟩
    refine ⟨(by show 0 ≤ sizeLine; decide), fun fl nfl => ?_⟩
    have s3 : Same H2 (upd H2 fl (.lst [])) := same_upd1 nfl
    have efl : upd H2 fl (.lst []) fl = some (.lst []) := upd_same
    have nf1 : H1 fl = none := s2.free nfl
    have nfH : H fl = none := g2.free nf1
    generalize upd H2 fl (.lst []) = H3 at s3 efl
    have s13 := s2.trans s3
    refine ⟨_, rfl, _, rfl, l, n, ss, rfl, hl.same (g2.trans s13), n8, fun s hs => ⟨(oks s hs).un, (oks s hs).vn⟩, fun q H4 s4 nq ⟨as, q1, q2⟩ => ?_⟩
    have nfq : fl ≠ q := ne_of_none efl nq
    refine ⟨q, rfl, ⟨_, SqL.of q1⟩, for_list (K := K) (a := q) (xs := as.map V.ref) (fun i σ H' => ∃ (v4 v5 v7 v8 : Option V), σ = [some (.ref p), some (.ref l), some (.int n), some (.ref D), v4, v5, some (.ref fl), v7, v8] ∧ Same H1 H' ∧ LstN K H' fl (unevTo n ss i) ∧ H' q = some (.lst (as.map V.ref)) ∧ Each (TupN K H') as (pcs n ss))
      ⟨_, _, _, _, rfl, s13.trans s4, ⟨[], s4 _ _ efl, Each.nil⟩, q1, q2⟩ (fun i σ H' _ ⟨_, _, _, _, _, _, _, z, _⟩ => SqL.of z) ?_ ?_⟩
    · rintro i y σ H5 hi ⟨v4, v5, v7, v8, rfl, s5, l5, q5, e5⟩
      obtain ⟨a, c, rfl, ha, hc, ta⟩ := e5.get hi
      unfold pcs at hc
      rw [List.getElem?_map] at hc
      obtain ⟨w0, hw0, rfl⟩ : ∃ w0, (firsts n ss)[i]? = some w0 ∧ c = comp n ss w0 := by
        cases e : (firsts n ss)[i]? with
        | none => rw [e] at hc; cases hc
        | some j => rw [e] at hc; exact ⟨j, rfl, (Option.some.inj hc).symm⟩
      obtain ⟨wn, wf⟩ := mem_firsts.mp (List.mem_of_getElem? hw0)
      obtain ⟨rest, ecomp⟩ := comp_head wn wf
      have cl := comp_len n ss w0
      refine ⟨_, rfl, a, rfl, ⟨_, ta⟩, fun B hB => lc_tup (K := K) (a := a) (xs := NatL (comp n ss w0)) (fun x H' => H' B = some (.lst (NatL (((comp n ss w0).take x).filter fun j => decide (0 < due n ss j)))) ∧ Same H5 H') ⟨upd_same, same_upd1 hB⟩ (fun x H' _ ⟨_, z⟩ => same_tup z ta) ?_ ?_⟩
      · rintro x y H6 hx ⟨b1, b2⟩
        obtain ⟨j, rfl, hj⟩ := natl_get hx
        have jn := (mem_comp.mp (List.mem_of_getElem? hj)).1
        have xl := (List.getElem?_eq_some_iff.mp hj).1
        obtain ⟨ds, p0, d1, d2, d3, d4, d5⟩ := (g1.same frR (s5.trans b2)).get jn
        refine ⟨rfl, _, rfl, _, rfl, D, _, _, _, rfl, rfl, SqL.of d1, atI_nat d4, p0, _, _, _, rfl, rfl, d5, atI_nat (j := 0) rfl, _, _, rfl, rfl, _, rfl, ?_⟩
        rw [take_snoc hj, List.filter_append]
        have ed : decide ((0 : Int) < (due n ss j).num) = decide (0 < due n ss j) := by
          by_cases w : 0 < due n ss j
          · rw [decide_eq_true w, decide_eq_true (num_pos_iff.mpr w)]
          · rw [decide_eq_false w, decide_eq_false fun q => w (num_pos_iff.mp q)]
        rw [ed]
        by_cases w : 0 < due n ss j
        · rw [decide_eq_true w]
          have e6 : List.filter (fun y => decide (0 < due n ss y)) [j] = [j] := by simp [w]
          refine iteT ⟨_, rfl, _, b1, small1000 ?_, ?_, same_new b2 hB⟩
          · rw [List.length_map]
            have := List.length_filter_le (fun y => decide (0 < due n ss y)) ((comp n ss w0).take x)
            rw [List.length_take] at this
            omega
          · rw [upd_same, e6]
            unfold NatL
            rw [List.map_append]
            rfl
        · rw [decide_eq_false w]
          have e6 : List.filter (fun y => decide (0 < due n ss y)) [j] = [] := by simp [w]
          rw [e6, List.append_nil]
          exact iteF ⟨b1, b2⟩
      rintro H6 ⟨b1, b2⟩
      have eT : (comp n ss w0).take (NatL (comp n ss w0)).length = comp n ss w0 := List.take_of_length_le (by rw [List.length_map]; exact Nat.le_refl _)
      rw [eT] at b1
      obtain ⟨fe, fn⟩ := filter_due ok wn
      have ta6 := same_tup b2 ta
      have s16 := s5.trans b2
      have l6 := l5.same b2
      have q6 := b2 _ _ q5
      have e6 := e5.mono fun _ _ z => z.imm (Imm.of b2)
      have lenC : (NatL (comp n ss w0)).length = (comp n ss w0).length := List.length_map _
      refine ⟨_, rfl, B, _, rfl, .inl (SqL.of b1), _, rfl, a, _, rfl, .inr ta6, (by show 2 ≤ sizeLine; decide), fun u nu => ?_⟩
      have s7 := same_upd1 (o := .tup [.int 0, .int ((NatL (comp n ss w0)).length : Nat)]) nu
      refine ⟨u, _, rfl, .inr (SqT.of upd_same), rfl, rfl, ?_⟩
      have e7 : inV (V.int ((NatL ((comp n ss w0).filter fun j => decide (0 < due n ss j))).length : Nat)) [.int 0, .int ((NatL (comp n ss w0)).length : Nat)] = true := by
        by_cases ev : Evn ss w0
        · rw [fe ev]; rfl
        · rw [fn ev]
          have := inV2 0 (NatL (comp n ss w0)).length (NatL (comp n ss w0)).length
          rw [decide_eq_true (.inr rfl)] at this
          exact this
      refine ⟨false, by rw [e7]; rfl, iteF ?_⟩
      have b17 := s7 _ _ b1
      have l7 := l6.same s7
      have ta7 : TupN K _ a (comp n ss w0) := same_tup s7 ta6
      have s17 := s16.trans s7
      have q7 := s7 _ _ q6
      have e77 := e6.mono fun _ _ z => z.imm (Imm.of s7)
      generalize upd H6 u (.tup [.int 0, .int ((NatL (comp n ss w0)).length : Nat)]) = H7 at b17 l7 ta7 s17 q7 e77
      refine ⟨_, rfl, B, _, rfl, .inl (SqL.of b17), _, _, rfl, rfl, _, rfl, ?_⟩
      by_cases ev : Evn ss w0
      · rw [fe ev]
        refine iteF ⟨_, _, _, _, rfl, s17, ?_, q7, e77⟩
        rw [(unevTo_succ hw0).1 ev]
        exact l7
      · rw [fn ev]
        refine iteD (by rw [lenC, ecomp]; simp) ?_
        obtain ⟨acc, a1, a2, a3⟩ := l7.push (Same.refl H7) ta7
        have ul := unevTo_len (n := n) (ss := ss) (i := i)
        have fl2 := firsts_len n ss
        have hi3 := (List.getElem?_eq_some_iff.mp hw0).1
        refine ⟨_, rfl, .inl ⟨rfl, _, SqL.of a1⟩, _, rfl, fl, acc, _, rfl, rfl, a1, small1000 (by omega), ?_⟩
        refine ⟨_, _, _, _, rfl, same_new s17 nf1, ?_, by rw [upd_ne nfq.symm]; exact q7, e77.mono fun _ _ z => z.imm (Imm.lst a1)⟩
        rw [(unevTo_succ hw0).2 ev]
        exact a3
    rintro σ H5 ⟨v4, v5, v7, v8, rfl, s5, l5, q5, e5⟩
    have el : (as.map V.ref).length = (firsts n ss).length := by
      have := q2.1
      unfold pcs at this
      rw [List.length_map] at this ⊢
      exact this
    rw [el, unevTo_all] at l5
    have sH5 := g2.trans s5
    obtain ⟨sm1, sm2⟩ := unev_small (ss := ss) n8
    refine ⟨_, rfl, p, n, ss, rfl, hp.same sH5, ok, fun q6 H6 s6 nq6 l6 => ?_⟩
    dsimp only [tNil]
    refine repr_pcs (K := K) l6 sm1 sm2 ?_
    refine ⟨_, rfl, ?_⟩
    dsimp only [tNil]
    refine repr_pcs (K := K) (l5.same s6) sm1 sm2 ?_
    refine ⟨rfl, _, rfl, ?_⟩
    have estr : (!decide (V.str (PyData.shown (pcsD (unev n ss))) = V.str (PyData.shown (pcsD (unev n ss))))) = false := by rw [decide_eq_true rfl]; rfl
    refine iteBN estr ?_
    have sH6 := sH5.trans s6
    have un := unev_nil oks
    refine ⟨_, rfl, p, n, ss, rfl, hp.same sH6, ok, fun H7 s7 ne => ?_, fun q7 H7 s7 e => ?_⟩
    · obtain ⟨bs, l7, l8⟩ := (l5.same s6).same s7
      refine ⟨_, rfl, fl, _, rfl, .inl (SqL.of l7), rfl, rfl, ?_⟩
      have hl : bs.length ≠ 0 := fun z => ne (un.mp (List.eq_nil_of_length_eq_zero (by rw [← l8.1]; exact z)))
      have e1 : decide (V.int ((bs.map V.ref).length : Nat) = V.int 0) = false := decide_eq_false fun z => by
        have := V.int.inj z
        rw [List.length_map] at this
        omega
      have e2 : decide (V.bl (!decide (V.non = V.non)) = V.bl (decide (V.int ((bs.map V.ref).length : Nat) = V.int 0))) = true := by
        rw [e1]; rfl
      show Q (.bl (decide (V.bl (!decide (V.non = V.non)) = V.bl (decide (V.int ((bs.map V.ref).length : Nat) = V.int 0))))) H7
      rw [e2]
      exact k H7 (sH6.trans s7)
    · obtain ⟨bs, l7, l8⟩ := (l5.same s6).same s7
      refine ⟨_, rfl, fl, _, rfl, .inl (SqL.of l7), rfl, rfl, ?_⟩
      have hl : bs.length = 0 := by rw [l8.1, un.mpr e]; rfl
      have e1 : decide (V.int ((bs.map V.ref).length : Nat) = V.int 0) = true := decide_eq_true (by rw [List.length_map, hl]; rfl)
      have e2 : decide (V.bl (!decide (V.ref q7 = V.non)) = V.bl (decide (V.int ((bs.map V.ref).length : Nat) = V.int 0))) = true := by
        rw [e1, decide_eq_false (show ¬ V.ref q7 = V.non from fun z => by cases z)]; rfl
      show Q (.bl (decide (V.bl (!decide (V.ref q7 = V.non)) = V.bl (decide (V.int ((bs.map V.ref).length : Nat) = V.int 0))))) H7
      rw [e2]
      exact k H7 (sH6.trans s7)

end Fair

set_option Elab.async false
set_option linter.all false
set_option maxRecDepth 100000
set_option maxHeartbeats 1000000
namespace Fair
open PySem PySem.Spec PyProof.Rows L2
def spLaw (K : PySem.W.Frag) : Sp := fun vs H Q _ => ∃ (a : Addr) (ns : List Int), vs = [.ref a] ∧ SqL K H a (ns.map V.int) ∧ ∀ H' : Hp, Q (.bl true) H'
/-! ### one stall is led to another amount -/
theorem conn_of {ss ss' : List Stl} (h : ∀ a b, Adj ss a b → Adj ss' a b) {a b : Nat} (c : Conn ss a b) : Conn ss' a b := by
  induction c with
  | refl => exact .refl
  | step _ q ih => exact .step ih (h _ _ q)
theorem comp_conn {n : Nat} {ss : List Stl} {a b : Nat} (c : Conn ss a b) : comp n ss a = comp n ss b :=
  rise_eq (comp_rise n ss a) (comp_rise n ss b) fun j => by
    rw [mem_comp, mem_comp]
    exact and_congr_right fun _ => ⟨fun q => c.symm.trans q, fun q => c.trans q⟩
theorem fits_ne {n : Nat} {ss : List Stl} (ok : ∀ s ∈ ss, StlOk n s) {x : Nat → Rat} (fx : Fits ss x) {a b : Nat} (ha : x a ≠ 0) (c : Conn ss a b) : x b ≠ 0 := by
  induction c with
  | refl => exact ha
  | step _ adj ih =>
    obtain ⟨s, hs, e⟩ := adj
    have f := fx s hs
    have h0 := (ok s hs).h0
    have r0 := (ok s hs).r0
    have h1 : s.h ≠ 0 := fun z => by rw [z] at h0; exact absurd h0 (by decide)
    have r1 : s.r ≠ 0 := fun z => by rw [z] at r0; exact absurd r0 (by decide)
    rcases e with ⟨e1, e2⟩ | ⟨e1, e2⟩
    · intro z
      rw [e1, e2, z, Rat.mul_zero] at f
      exact (Rat.mul_eq_zero.mp f).elim h1 ih
    · intro z
      rw [e1, e2, z, Rat.mul_zero] at f
      exact (Rat.mul_eq_zero.mp f.symm).elim r1 ih
/-- two fitting scales are alike along what hangs together -/
theorem fits_like {n : Nat} {ss : List Stl} (ok : ∀ s ∈ ss, StlOk n s) {x y : Nat → Rat} (fx : Fits ss x) (fy : Fits ss y) {a b : Nat} (c : Conn ss a b) : y b * x a = x b * y a := by
  induction c with
  | refl => exact Rat.mul_comm _ _
  | step _ adj ih =>
    obtain ⟨s, hs, e⟩ := adj
    have f := fx s hs
    have g := fy s hs
    have h0 := (ok s hs).h0
    have r0 := (ok s hs).r0
    have h1 : s.h ≠ 0 := fun z => by rw [z] at h0; exact absurd h0 (by decide)
    have r1 : s.r ≠ 0 := fun z => by rw [z] at r0; exact absurd r0 (by decide)
    rcases e with ⟨e1, e2⟩ | ⟨e1, e2⟩
    · rw [e1, e2] at f g
      grind
    · rw [e1, e2] at f g
      grind
structure Ledd (n : Nat) (ss : List Stl) (i : Nat) (s : Stl) (k : Rat) (ss' rest : List Stl) : Prop where
  mem : ∀ t, t ∈ ss ↔ t = s ∨ t ∈ rest
  mem' : ∀ t, t ∈ ss' ↔ t = s.led (s.h * k) ∨ t ∈ rest
  ok : ∀ t ∈ ss, StlOk n t
  ok' : ∀ t ∈ ss', StlOk n t
theorem ledd {n : Nat} {ss : List Stl} {i : Nat} {s : Stl} {k : Rat} (h : ss[i]? = some s) (ok : ∀ t ∈ ss, StlOk n t) (ok' : ∀ t ∈ ss.set i (s.led (s.h * k)), StlOk n t) : Ledd n ss i s k (ss.set i (s.led (s.h * k))) (ss.take i ++ ss.drop (i + 1)) := by
  have hi := (List.getElem?_eq_some_iff.mp h).1
  have es := (List.getElem?_eq_some_iff.mp h).2
  refine ⟨fun t => ?_, fun t => ?_, ok, ok'⟩
  · have e : ss = ss.take i ++ s :: ss.drop (i + 1) := by rw [← es, List.getElem_cons_drop, List.take_append_drop]
    constructor
    · intro q
      rw [e] at q
      simp at q ⊢
      exact q.elim (fun z => .inr (.inl z)) fun z => z.elim (fun y => .inl y) fun y => .inr (.inr y)
    · intro q
      rw [e]
      simp at q ⊢
      exact q.elim (fun z => .inr (.inl z)) fun z => z.elim (fun y => .inl y) fun y => .inr (.inr y)
  · rw [List.set_eq_take_append_cons_drop, if_pos hi]
    simp
    exact ⟨fun q => q.elim (fun z => .inr (.inl z)) fun z => z.elim (fun y => .inl y) fun y => .inr (.inr y), fun q => q.elim (fun z => .inr (.inl z)) fun z => z.elim (fun y => .inl y) fun y => .inr (.inr y)⟩
section
variable {n i : Nat} {ss ss' rest : List Stl} {s : Stl} {k : Rat}
theorem Ledd.adj (h : Ledd n ss i s k ss' rest) (a b : Nat) : Adj ss' a b ↔ Adj ss a b := by
  constructor
  · rintro ⟨t, ht, e⟩
    rcases (h.mem' t).mp ht with rfl | ht
    · exact ⟨s, (h.mem s).mpr (.inl rfl), e⟩
    · exact ⟨t, (h.mem t).mpr (.inr ht), e⟩
  · rintro ⟨t, ht, e⟩
    rcases (h.mem t).mp ht with rfl | ht
    · exact ⟨_, (h.mem' _).mpr (.inl rfl), e⟩
    · exact ⟨t, (h.mem' t).mpr (.inr ht), e⟩
theorem Ledd.conn (h : Ledd n ss i s k ss' rest) (a b : Nat) : Conn ss' a b ↔ Conn ss a b := ⟨conn_of fun a b => (h.adj a b).mp, conn_of fun a b => (h.adj a b).mpr⟩
theorem Ledd.first (h : Ledd n ss i s k ss' rest) (w : Nat) : First ss' w ↔ First ss w := ⟨fun q j hj c => q j hj ((h.conn j w).mpr c), fun q j hj c => q j hj ((h.conn j w).mp c)⟩
theorem Ledd.comp (h : Ledd n ss i s k ss' rest) (w : Nat) : comp n ss' w = comp n ss w := rise_eq (comp_rise n ss' w) (comp_rise n ss w) fun j => by
  rw [mem_comp, mem_comp, h.conn]
theorem div_fits {ss : List Stl} {y : Nat → Rat} (f : Fits ss y) {w : Nat} (hw : y w ≠ 0) : Evn ss w := by
  refine ⟨fun j => y j / y w, ?_, fun t ht => ?_⟩
  · dsimp only
    rw [Rat.div_def]; exact Rat.mul_inv_cancel _ hw
  · show t.h * (y t.u / y w) = t.r * (y t.v / y w)
    rw [mul_over, mul_over, f t ht]
open Classical in
theorem Ledd.evn (h : Ledd n ss i s k ss' rest) {x : Nat → Rat} (fx : Fits ss x) (px : ∀ j, j < n → 0 < x j) (k2 : 2 ≤ k) {w : Nat} (hw : w < n) : Evn ss' w ↔ ¬ (Conn ss w s.u ∧ Conn rest s.u s.v) := by
  have hs : s ∈ ss := (h.mem s).mpr (.inl rfl)
  have sok := h.ok s hs
  have xu := px _ sok.un
  have xw := px _ hw
  have fs := fx s hs
  have h0 := sok.h0
  have r0 := sok.r0
  have rsub : ∀ t ∈ rest, t ∈ ss := fun t ht => (h.mem t).mpr (.inr ht)
  have rok : ∀ t ∈ rest, StlOk n t := fun t ht => h.ok t (rsub t ht)
  have fr : Fits rest x := fun t ht => fx t (rsub t ht)
  constructor
  · rintro ⟨y, y1, fy⟩ ⟨c1, c2⟩
    have fyr : Fits rest y := fun t ht => fy t ((h.mem' t).mpr (.inr ht))
    have like := fits_like rok fr fyr c2
    have fl : s.h * k * y s.u = s.r * y s.v := fy _ ((h.mem' _).mpr (.inl rfl))
    have yu : y s.u ≠ 0 := fits_ne h.ok' fy (by rw [y1]; decide) ((h.conn w s.u).mpr c1)
    have xu0 : x s.u ≠ 0 := fun z => by rw [z] at xu; exact absurd xu (by decide)
    have h1 : s.h ≠ 0 := fun z => by rw [z] at h0; exact absurd h0 (by decide)
    -- h k yu xu = r yv xu = r xv yu = h xu yu
    have e1 : s.h * (y s.u * x s.u) * k = s.h * (y s.u * x s.u) * 1 := by
      have a1 : s.h * k * y s.u * x s.u = s.r * y s.v * x s.u := by rw [fl]
      have a2 : s.r * (y s.v * x s.u) = s.r * (x s.v * y s.u) := by rw [like]
      have a3 : s.h * x s.u * y s.u = s.r * x s.v * y s.u := by rw [fs]
      grind
    have ne : s.h * (y s.u * x s.u) ≠ 0 := fun z => by
      rcases Rat.mul_eq_zero.mp z with q | q
      · exact h1 q
      · exact (Rat.mul_eq_zero.mp q).elim yu xu0
    have : k = 1 := by grind
    rw [this] at k2
    exact absurd k2 (by decide)
  · intro no
    by_cases c1 : Conn ss w s.u
    · have c2 : ¬ Conn rest s.u s.v := fun z => no ⟨c1, z⟩
      have kp : (0 : Rat) < k := by grind
      have fy : Fits ss' (fun j => if Conn rest s.u j then x j else k * x j) := fun t ht => by
        rcases (h.mem' t).mp ht with rfl | ht
        · show s.h * k * (if Conn rest s.u s.u then x s.u else k * x s.u) = s.r * (if Conn rest s.u s.v then x s.v else k * x s.v)
          rw [if_pos .refl, if_neg c2]
          grind
        · have ft := fr t ht
          dsimp only
          by_cases c : Conn rest s.u t.u
          · rw [if_pos c, if_pos (c.trans (Conn.stl ht))]; exact ft
          · rw [if_neg c, if_neg fun z => c (z.trans (Conn.stl ht).symm)]
            grind
      refine div_fits fy ?_
      split
      · intro z; rw [z] at xw; exact absurd xw (by decide)
      · have := Rat.mul_pos kp xw
        intro z; rw [z] at this; exact absurd this (by decide)
    · have fy : Fits ss' (fun j => if Conn ss w j then x j else 0) := fun t ht => by
        rcases (h.mem' t).mp ht with rfl | ht
        · show s.h * k * (if Conn ss w s.u then x s.u else 0) = s.r * (if Conn ss w s.v then x s.v else 0)
          rw [if_neg c1, if_neg fun z => c1 (z.trans (Conn.stl hs).symm), Rat.mul_zero, Rat.mul_zero]
        · have ft := fr t ht
          dsimp only
          by_cases c : Conn ss w t.u
          · rw [if_pos c, if_pos (c.trans (Conn.stl (rsub t ht)))]; exact ft
          · rw [if_neg c, if_neg fun z => c (z.trans (Conn.stl (rsub t ht)).symm), Rat.mul_zero, Rat.mul_zero]
      refine div_fits fy ?_
      rw [if_pos .refl]
      intro z; rw [z] at xw; exact absurd xw (by decide)
theorem firsts_rise (n : Nat) (ss : List Stl) : (firsts n ss).Pairwise (· < ·) := (rise_range n).filter _
open Classical in
theorem Ledd.unev (h : Ledd n ss i s k ss' rest) {x : Nat → Rat} (fx : Fits ss x) (px : ∀ j, j < n → 0 < x j) (k2 : 2 ≤ k) : (Conn rest s.u s.v → unev n ss' = [Fair.comp n ss s.u]) ∧ (¬ Conn rest s.u s.v → unev n ss' = []) := by
  have hs : s ∈ ss := (h.mem s).mpr (.inl rfl)
  have un := (h.ok s hs).un
  constructor
  · intro c
    obtain ⟨r, r1, r2, r3⟩ := first_of ss s.u
    have e : ((firsts n ss').filter fun w => decide (¬ Evn ss' w)) = [r] := by
      refine rise_eq ((firsts_rise n ss').filter _) (List.pairwise_singleton _ _) fun j => ?_
      rw [List.mem_filter, mem_firsts, h.first, List.mem_singleton]
      constructor
      · rintro ⟨⟨jn, jf⟩, je⟩
        have je := of_decide_eq_true je
        have : Conn ss j s.u := Classical.byContradiction fun z => je ((h.evn fx px k2 jn).mpr fun q => z q.1)
        exact jf.eq r2 (this.trans r3.symm)
      · rintro rfl
        have jn : j < n := by omega
        exact ⟨⟨jn, r2⟩, decide_eq_true fun z => (h.evn fx px k2 jn).mp z ⟨r3, c⟩⟩
    unfold Fair.unev
    rw [e]
    show [Fair.comp n ss' r] = _
    rw [h.comp, comp_conn r3]
  · intro c
    refine (unev_nil h.ok').mpr fun w hw => ?_
    exact (h.evn fx px k2 hw).mpr fun z => c z.2
end
open Classical in
theorem pcs_find {n : Nat} {ss : List Stl} {u : Nat} (hu : u < n) : (pcs n ss).filter (fun c => decide (u ∈ c)) = [comp n ss u] := by
  obtain ⟨r, r1, r2, r3⟩ := first_of ss u
  unfold pcs
  rw [List.filter_map]
  have e : (firsts n ss).filter ((fun c => decide (u ∈ c)) ∘ comp n ss) = [r] := by
    refine rise_eq ((firsts_rise n ss).filter _) (List.pairwise_singleton _ _) fun j => ?_
    rw [List.mem_filter, mem_firsts, List.mem_singleton]
    constructor
    · rintro ⟨⟨jn, jf⟩, je⟩
      have je : u ∈ comp n ss j := of_decide_eq_true je
      exact jf.eq r2 ((mem_comp.mp je).2.trans r3.symm)
    · rintro rfl
      exact ⟨⟨by omega, r2⟩, decide_eq_true (mem_comp.mpr ⟨hu, r3⟩)⟩
  rw [e]
  show [comp n ss r] = _
  rw [comp_conn r3]
theorem pcs_ring {n : Nat} {ss : List Stl} {u v : Nat} (hu : u < n) (hv : v < n) : ((pcs n ss).map fun c => decide (u ∈ c) && decide (v ∈ c)).any id = true ↔ Conn ss u v := by
  rw [List.any_eq_true]
  constructor
  · rintro ⟨b, hb, eb⟩
    obtain ⟨c, hc, rfl⟩ := List.mem_map.mp hb
    obtain ⟨w, _, rfl⟩ := List.mem_map.mp hc
    obtain ⟨q1, q2⟩ := Bool.and_eq_true_iff.mp eb
    exact (mem_comp.mp (of_decide_eq_true q1)).2.symm.trans (mem_comp.mp (of_decide_eq_true q2)).2
  · intro c
    obtain ⟨r, r1, r2, r3⟩ := first_of ss u
    refine ⟨true, List.mem_map.mpr ⟨comp n ss r, List.mem_map.mpr ⟨r, mem_firsts.mpr ⟨by omega, r2⟩, rfl⟩, ?_⟩, rfl⟩
    rw [decide_eq_true (mem_comp.mpr ⟨hu, r3⟩), decide_eq_true (mem_comp.mpr ⟨hv, r3.trans c⟩)]
    rfl
theorem eqv_nat : ∀ c : List Nat, PyData.eqvAll (c.map fun (j : Nat) => PyData.int j) (c.map fun (j : Nat) => PyData.int j) = true
  | [] => rfl
  | j :: r => by
    show (PyData.eqv (.int (j : Int)) (.int (j : Int)) && PyData.eqvAll (r.map fun (j : Nat) => PyData.int j) (r.map fun (j : Nat) => PyData.int j)) = true
    rw [eqv_nat r]
    simp [PyData.eqv]
theorem eqv_pcs : ∀ cs : List (List Nat), PyData.eqvAll (cs.map pcD) (cs.map pcD) = true
  | [] => rfl
  | c :: r => by
    show (PyData.eqv (pcD c) (pcD c) && PyData.eqvAll (r.map pcD) (r.map pcD)) = true
    rw [eqv_pcs r]
    have : PyData.eqv (pcD c) (pcD c) = true := by
      unfold pcD; simp only [PyData.eqv]; exact eqv_nat c
    rw [this]; rfl
theorem eqv_pcsD (cs : List (List Nat)) : PyData.eqv (pcsD cs) (pcsD cs) = true := by
  unfold pcsD; simp only [PyData.eqv]; exact eqv_pcs cs
end Fair

set_option Elab.async false
set_option linter.all false
set_option maxRecDepth 100000
set_option maxHeartbeats 4000000
namespace Fair
open PySem PySem.Spec PyProof.Rows L2
/-! ### Law -/
theorem ok_Law {P : Program} {w : World} {K : PySem.W.Frag} {mg : Str → Option Value} {base : Heap} (T : TX K mg) {f : Addr} {fd : FuncData} (F : FunD K "law" "law" (defArgs sLaw) (defBody sLaw) (defScope sLaw) [] [] f fd)
    (c_LHand : C8.Cal P w K mg base 1 "_law_hand" (spHand K) [])
    (c_LDraw : C8.Cal P w K mg base 1 "_law_draw" (spDraw) [])
    (c_LSizes : C8.Cal P w K mg base 2 "_law_sizes" (spSizes K) [])
    (c_LStalls : C8.Cal P w K mg base 5 "_law_stalls" (spLStalls K) [])
    (c_WebInit : C8.Mak P w K mg base 6 "Web" (cW K) (spWebInit K) [])
    (c_LIsRight : CalG P w K mg base 11 "_law_is_right" (spLIsRight K))
    (c_UnevenPieces : C8.Cal P w K mg base 9 "uneven_pieces" (spUnevenPieces K) [])
    (c_LShuffled : C8.Cal P w K mg base 2 "_law_shuffled" (spShuffled K) [])
    (c_LTimes : C8.Cal P w K mg base 3 "_law_times" (spTimes K) [])
    (c_Led : C8.Cal P w K mg base 9 "led" (spLed K) [])
    (c_LPieces : C8.Cal P w K mg base 1 "_law_pieces" (spLPieces K) []) : FnG P w K mg base 12 f fd ["_law_script"] (spLaw K) := by
  refine fnG F scLaw (fun vs H Q E h => ?_) (fun f cdv A outer s H vs Q E hg hr h => ?_)
  · obtain ⟨a, ns, rfl, sq, k⟩ := h
    rfl
  · obtain ⟨a, ns, rfl, sq, k⟩ := h
    refine ⟨_, (pss_cons (ps_set (i := 1) scLaw.nd rfl (by first | exact Or.inl rfl | exact Or.inr rfl) (C8.pe_c c_LHand hr (by decide) (by rfl) (pa_cons (pv 0) pa_nil)))
        (pss_cons (ps_set (i := 2) scLaw.nd rfl (by first | exact Or.inl rfl | exact Or.inr rfl) (C8.pe_c c_LDraw hr (by decide) (by rfl) (pa_cons (pv 1) (pa_cons pe_int pa_nil))))
        (pss_cons (ps_asg (C8.pe_c c_LSizes hr (by decide) (by rfl) (pa_cons (pv 1) pa_nil)) (pg_tup rfl (pgs_cons (pg_name (i := 3) scLaw.nd rfl (by first | exact Or.inl rfl | exact Or.inr rfl)) (pgs_cons (pg_name (i := 4) scLaw.nd rfl (by first | exact Or.inl rfl | exact Or.inr rfl)) pgs_nil))))
        (pss_cons (ps_set (i := 5) scLaw.nd rfl (by first | exact Or.inl rfl | exact Or.inr rfl) (C8.pe_c c_LStalls hr (by decide) (by rfl) (pa_cons (pv 1) (pa_cons (pv 3) (pa_cons (pv 4) (pa_cons (pv 2) pa_nil))))))
        (pss_cons (ps_set (i := 6) scLaw.nd rfl (by first | exact Or.inl rfl | exact Or.inr rfl) (C8.pe_mk c_WebInit hr (by decide) (by rfl) (pa_cons (pv 3) (pa_cons (pv 5) pa_nil))))
        (pss_cons (ps_if (pt_not (pt_val (pe_cG c_LIsRight hg hr (by decide) (by rfl) (pa_cons (pv 6) (pa_cons (pv 5) (pa_cons (pv 3) pa_nil)))))) (pss_one (ps_ret pe_bl))
        pss_nil)
        (pss_cons (ps_set (i := 7) scLaw.nd rfl (by first | exact Or.inl rfl | exact Or.inr rfl) (C8.pe_c c_UnevenPieces hr (by decide) (by rfl) (pa_cons (pv 6) pa_nil)))
        (pss_cons (ps_expr (pe_bm0 PySem.F.plainAttrs_list PySem.F.slot_list_clear PySem.F.type_list_clear mt_clear (pv 7)))
        (pss_cons (ps_set (i := 8) scLaw.nd rfl (by first | exact Or.inl rfl | exact Or.inr rfl) (C8.pe_c c_LShuffled hr (by decide) (by rfl) (pa_cons (pv 1) (pa_cons (pv 5) pa_nil))))
        (pss_cons (ps_if (pt_not (pt_val (pe_cG c_LIsRight hg hr (by decide) (by rfl) (pa_cons (C8.pe_mk c_WebInit hr (by decide) (by rfl) (pa_cons (pv 3) (pa_cons (pv 8) pa_nil))) (pa_cons (pv 8) (pa_cons (pv 3) pa_nil)))))) (pss_one (ps_ret pe_bl))
        pss_nil)
        (pss_cons (ps_if (PW.pt (pw_or (pt_cmpR op_ne (pv 2) pe_int (nomark _)) (pw_or1 (pt_cmpR op_eq (pe_callB call_len_seq (by rfl) T.f_len (by decide +kernel) (pa_cons (pv 5) pa_nil)) pe_int (nomark _))))) (pss_one (ps_ret (pe_cG c_LIsRight hg hr (by decide) (by rfl) (pa_cons (pv 6) (pa_cons (pv 5) (pa_cons (pv 3) pa_nil))))))
        pss_nil)
        (pss_cons (ps_set (i := 9) scLaw.nd rfl (by first | exact Or.inl rfl | exact Or.inr rfl) (C8.pe_c c_LDraw hr (by decide) (by rfl) (pa_cons (pv 1) (pa_cons (pe_callB call_len_seq (by rfl) T.f_len (by decide +kernel) (pa_cons (pv 5) pa_nil)) pa_nil))))
        (pss_cons (ps_set (i := 10) scLaw.nd rfl (by first | exact Or.inl rfl | exact Or.inr rfl) (C8.pe_c c_Led hr (by decide) (by rfl) (pa_cons (pv 6) (pa_cons (pv 9) (pa_cons (C8.pe_c c_LTimes hr (by decide) (by rfl) (pa_cons (pe_ix ix_tup (pe_ix ix_list (pv 5) (pv 9) (fun _ _ => rfl)) pe_int (fun _ _ => rfl)) (pa_cons (pe_tup (pa_cons (pe_op op_add pe_int (C8.pe_c c_LDraw hr (by decide) (by rfl) (pa_cons (pv 1) (pa_cons pe_int pa_nil)))) (pa_cons pe_int pa_nil))) pa_nil))) pa_nil)))))
        (pss_cons (ps_set (i := 11) scLaw.nd rfl (by first | exact Or.inl rfl | exact Or.inr rfl) (pe_ix ix_list (pe_lc (own := [("_law_one", 12)]) (by rfl) scLaw.nd (pi_list (C8.pe_c c_LPieces hr (by decide) (by rfl) (pa_cons (pv 5) (pa_cons (pv 3) pa_nil)))) (blkOk_by (N := ["_law_script", "_law_hand_here", "_law_way", "_law_wares", "_law_many", "_law_stalls_here", "_law_web", "_law_pieces_here", "_law_mixed", "_law_at", "_law_later", "_law_piece", "_law_one", "_law_rest", "_law_ringed"]) (sc := defScope sLaw) (by decide +kernel)) (fun _ _ _ _ _ => pg_name (i := 12) scLaw.nd rfl (Or.inl rfl)) (fun _ _ _ _ _ => pts_one (pt_cmpR (opInK (K := K) rfl) (pe_ix (ixTK (K := K) rfl) (pe_ix (ixLK (K := K) rfl) (pv 5) (pv 9) (fun _ _ => rfl)) pe_int (fun _ _ => rfl)) (pv 12) (by rfl))) (fun _ _ _ _ _ => (pv 12))) pe_int (fun _ _ => rfl)))
        (pss_cons (ps_if (pt_not (pt_val (pe_cG c_LIsRight hg hr (by decide) (by rfl) (pa_cons (pv 10) (pa_cons (pe_callTy call_list_of (by rfl) T.f_list (by decide +kernel) (pa_cons (pe_fld (pv 10) rfl) pa_nil)) (pa_cons (pv 3) pa_nil)))))) (pss_one (ps_ret pe_bl))
        pss_nil)
        (pss_cons (ps_set (i := 13) scLaw.nd rfl (by first | exact Or.inl rfl | exact Or.inr rfl) (C8.pe_c c_LPieces hr (by decide) (by rfl) (pa_cons (pe_op op_cat (pe_slice sl_list (pv 5) po_none (po_some (pv 9))) (pe_slice sl_list (pv 5) (po_some (pe_op op_add (pv 9) pe_int)) po_none)) (pa_cons (pv 3) pa_nil))))
        (pss_cons (ps_set (i := 14) scLaw.nd rfl (by first | exact Or.inl rfl | exact Or.inr rfl) (pe_callB (cr_any rfl) (by rfl) T.f_any (by decide +kernel) (pa_cons (pe_lc (own := [("_law_one", 12)]) (by rfl) scLaw.nd (pi_list (pv 13)) (blkOk_by (N := ["_law_script", "_law_hand_here", "_law_way", "_law_wares", "_law_many", "_law_stalls_here", "_law_web", "_law_pieces_here", "_law_mixed", "_law_at", "_law_later", "_law_piece", "_law_one", "_law_rest", "_law_ringed"]) (sc := defScope sLaw) (by decide +kernel)) (fun _ _ _ _ _ => pg_name (i := 12) scLaw.nd rfl (Or.inl rfl)) (fun _ _ _ _ _ => pts_nil) (fun _ _ _ _ _ => (pe_and (pe_cmpR (opInK (K := K) rfl) (pe_ix (ixTK (K := K) rfl) (pe_ix (ixLK (K := K) rfl) (pv 5) (pv 9) (fun _ _ => rfl)) pe_int (fun _ _ => rfl)) (pv 12) (by rfl)) (pe_one (pe_cmpR (opInK (K := K) rfl) (pe_ix (ixTK (K := K) rfl) (pe_ix (ixLK (K := K) rfl) (pv 5) (pv 9) (fun _ _ => rfl)) pe_int (fun _ _ => rfl)) (pv 12) (by rfl)))))) pa_nil)))
        (pss_one (ps_ret (pe_cmpR (op_eqD hr.units) (C8.pe_c c_UnevenPieces hr (by decide) (by rfl) (pa_cons (pv 10) pa_nil)) (pe_ix ix_list (pe_lst (pa_cons (pe_lst pa_nil) (pa_cons (pe_lst (pa_cons (pv 11) pa_nil)) pa_nil))) (pe_callTy call_int1 (by rfl) T.f_int (by decide +kernel) (pa_cons (pv 14) pa_nil)) (fun _ _ => rfl)) (nomark _))))))))))))))))))))), ?_⟩
    refine ⟨_, rfl, a, ns, rfl, sq, fun q cl H1 s1 nq ncl h1 => ?_⟩
    refine ⟨_, rfl, q, cl, 3, 0, rfl, h1, by omega, by decide, by decide, fun way H2 hw k2 h2 => ?_⟩
    obtain ⟨xs2, e2⟩ := h2.isL
    refine ⟨_, rfl, q, cl, _, rfl, h2, by omega, fun t H3 n m k3 nt h3 tt n1 n8 m16 => ?_⟩
    refine ⟨t, _, rfl, tt, rfl, _, _, rfl, _, _, rfl, rfl, ?_⟩
    obtain ⟨xs3, e3⟩ := h3.isL
    obtain ⟨xc3, ec3⟩ := h3.isC
    refine ⟨_, rfl, _, rfl, _, rfl, _, rfl, q, cl, n, m, way, _, rfl, h3, by omega, n1, n8, m16, fun l H4 ss k4 nl h4 ls len law fit => ?_⟩
    have ok : WebOk n ss := ⟨n1, n8, len, fun s hs => (law s hs).ok⟩
    have nql : q ≠ l := ne_of_none e3 nl
    have ncll : cl ≠ l := ne_of_none ec3 nl
    refine ⟨_, rfl, _, rfl, ?_⟩
    intro x dx nx ndx nex
    have s5a := Same.made (C := cW K) nx ndx (H1 := upd (upd H4 dx (.own x)) x (.ins (cW K) dx [])) (fun c o e w => e)
    refine ⟨x, dx, l, n, ss, rfl, upd_same, .inl (ls.same s5a), ok, fun H5 w5 k5 => ⟨rfl, ?_⟩⟩
    have s5 : Same H4 H5 := Same.made nx ndx k5
    refine ⟨_, rfl, _, rfl, _, rfl, x, l, n, ss, rfl, w5, ls.same s5, ok, fun H6 s6 => ⟨_, rfl, iteF ?_⟩⟩
    have s46 := s5.trans s6
    refine ⟨_, rfl, x, n, ss, rfl, w5.same s6, ok, fun q7 H7 s7 n7 l7 => ?_⟩
    obtain ⟨as7, e7, _⟩ := l7
    refine ⟨_, rfl, .inl ⟨rfl, _, SqL.of e7⟩, q7, _, rfl, rfl, e7, ?_⟩
    have s68 : Same H6 (upd H7 q7 (.lst [])) := same_new s7 n7
    generalize upd H7 q7 (.lst []) = H8 at s68
    clear e7
    have s48 := s46.trans s68
    have h8 := h4.same s48
    have w8 := (w5.same s6).same s68
    have l8 := ls.same s48
    refine ⟨_, rfl, _, rfl, q, cl, l, _, ss, rfl, h8, by omega, l8, len, nql, ncll, fun p9 H9 ss' k9 n9 h9 l9 perm => ?_⟩
    have im9 := h8.imm k9
    have w9 := w8.imm im9
    have l89 : LstS K H9 l ss := by
      obtain ⟨bs, b1, _⟩ := id l8
      exact l8.imm im9 (by rw [b1]; exact k9 _ _ b1 nql.symm)
    have ok' : WebOk n ss' := ⟨n1, n8, by rw [perm.length_eq]; exact len, fun s hs => (law s (perm.mem_iff.mp hs)).ok⟩
    refine ⟨_, rfl, _, rfl, ?_⟩
    intro y dy ny ndy ney
    have s10a := Same.made (C := cW K) ny ndy (H1 := upd (upd H9 dy (.own y)) y (.ins (cW K) dy [])) (fun c o e w => e)
    refine ⟨y, dy, p9, n, ss', rfl, upd_same, .inl (l9.same s10a), ok', fun H10 w10 k10 => ⟨rfl, ?_⟩⟩
    have s10 : Same H9 H10 := Same.made ny ndy k10
    refine ⟨_, rfl, _, rfl, y, p9, n, ss', rfl, w10, l9.same s10, ok', fun H11 s11 => ⟨_, rfl, iteF ?_⟩⟩
    have s911 := s10.trans s11
    have w11 := w9.same s911
    have l11 := l89.same s911
    have h11 := h9.same s911
    obtain ⟨as, a1, a2⟩ := id l11
    have la : (as.map V.ref).length = ss.length := by rw [List.length_map]; exact a2.1
    by_cases hway : way = 1 ∧ ss ≠ []
    · obtain ⟨hway, hne⟩ := hway
      have e1 : (!decide (V.int (way : Int) = V.int 1)) = false := by rw [hway]; rfl
      have pos : 0 < ss.length := List.length_pos_iff.mpr hne
      refine ⟨_, rfl, rfl, _, rfl, ?_⟩
      show if (!decide (V.int (way : Int) = V.int 1)) = true then _ else _
      rw [e1]
      refine iteF ⟨_, rfl, l, _, rfl, .inl (SqL.of a1), rfl, _, rfl, iteDN (fun z => by have := V.int.inj z; omega) ?_⟩
      refine ⟨_, rfl, _, rfl, l, _, rfl, .inl (SqL.of a1), q, cl, ss.length, _, congrArg (fun z => [V.ref q, V.int z]) (by rw [la]), h11, by omega, pos, by omega, fun at1 H12 hat k12 h12 => ?_⟩
      have im12 := h11.imm k12
      have w12 := w11.imm im12
      have l12 : LstS K H12 l ss := l11.imm im12 (by rw [a1]; exact k12 _ _ a1 nql.symm)
      obtain ⟨s, hs⟩ : ∃ s, ss[at1]? = some s := ⟨_, List.getElem?_eq_getElem hat⟩
      have sm := List.mem_of_getElem? hs
      have slaw := law s sm
      have sok := slaw.ok
      obtain ⟨bs, b1, b2⟩ := id l12
      obtain ⟨b, hb, hst⟩ := b2.of hs
      obtain ⟨th, tg, tr, g0, g1, g2, g3⟩ := id hst
      refine ⟨_, rfl, _, rfl, _, rfl, _, rfl, l, _, _, _, rfl, rfl, SqL.of b1, atI_nat (refs_at hb), b, _, _, _, rfl, rfl, g0, atI_nat (j := 2) rfl, ?_⟩
      refine ⟨_, rfl, q, cl, 5, _, rfl, h12, by omega, by decide, by decide, fun d H13 hd k13 h13 => ⟨_, _, rfl, rfl, (by show 2 ≤ sizeLine; decide), fun u nu => ?_⟩⟩
      have im13 := h12.imm k13
      have w13 := w12.imm im13
      have l13 : LstS K H13 l ss := l12.imm im13 (by rw [b1]; exact k13 _ _ b1 nql.symm)
      have s14 : Same H13 (upd H13 u (.tup [.int (2 + (d : Int)), .int 1])) := same_upd1 nu
      have fu : FrAt K (upd H13 u (.tup [.int (2 + (d : Int)), .int 1])) u ((2 + d : Nat) : Rat) := by
        unfold FrAt
        rw [Rat.num_natCast, Rat.den_natCast]
        exact SqT.of upd_same
      have hk1 : 1 ≤ 2 + d := by omega
      have hk6 : 2 + d ≤ 6 := by omega
      have okk : Ok ((2 + d : Nat) : Rat) := by
        refine ⟨?_, ?_⟩
        · rw [Rat.num_natCast]
          exact Nat.lt_of_le_of_lt (show _ ≤ 6 by omega) (Nat.lt_of_lt_of_le (show 6 < 2 ^ 3 by decide) (Nat.pow_le_pow_right (by decide) (by decide)))
        · rw [Rat.den_natCast]
          exact Nat.lt_of_lt_of_le (show 1 < 2 ^ 3 by decide) (Nat.pow_le_pow_right (by decide) (by decide))
      generalize upd H13 u (.tup [.int (2 + (d : Int)), .int 1]) = H14 at s14 fu
      refine ⟨th, u, _, _, rfl, (g1.imm im13).same s14, fu, sok.oh, okk, trivial, fun pr H15 s15 n15 f15 => ?_⟩
      have s1315 := s14.trans s15
      have w15 := w13.same s1315
      have l15 := l13.same s1315
      have h15 := h13.same s1315
      have sled := slaw.led hk1 hk6
      have okl : ∀ t ∈ ss.set at1 (s.led (s.h * ((2 + d : Nat) : Rat))), StlOk n t := fun t ht => by
        rcases List.mem_or_eq_of_mem_set ht with z | z
        · exact (law t z).ok
        · rw [z]; exact sled
      have okL : WebOk n (ss.set at1 (s.led (s.h * ((2 + d : Nat) : Rat)))) := ⟨n1, n8, by rw [List.length_set]; exact len, okl⟩
      have LD := ledd (k := ((2 + d : Nat) : Rat)) hs (fun t ht => (law t ht).ok) okl
      obtain ⟨fx, px, fits⟩ := fit hway
      have k2 : (2 : Rat) ≤ ((2 + d : Nat) : Rat) := by
        have : ((2 : Nat) : Rat) ≤ ((2 + d : Nat) : Rat) := Rat.natCast_le_natCast.mpr (by omega)
        exact this
      obtain ⟨un1, un2⟩ := LD.unev fits px k2
      generalize hS : ss.set at1 (s.led (s.h * ((2 + d : Nat) : Rat))) = sl at okL un1 un2
      refine ⟨x, pr, n, at1, ss, s, _, rfl, w15, hs, len, f15, sled.h0, sled.oh, sok.or, ((sok.rq.sm (by decide)).mul (sok.rq.sm (by decide))).mono (by decide), by rw [hS]; exact okL, fun z H16 s16 w16 => ?_⟩
      rw [hS] at w16
      dsimp only [gName]
      change tSeq _ _ _ [some (.ref a), some (.ref q), some (.int way), some (.int n), some (.int m), some (.ref l), some (.ref x), some (.ref q7), some (.ref p9), some (.int at1), some (.ref z), none, none, none, none] H16
      have l16 := l15.same s16
      obtain ⟨cs, c1, c2⟩ := id l16
      obtain ⟨b', hb', hst'⟩ := c2.of hs
      have lt16 : ∀ t ∈ ss, t.u < n ∧ t.v < n := fun t ht => ⟨(law t ht).un, (law t ht).vn⟩
      refine ⟨_, rfl, _, rfl, l, n, ss, rfl, l16, n8, lt16, fun qp H17 s17 nqp ⟨as17, q1, q2⟩ => ?_⟩
      refine ⟨qp, rfl, ⟨_, SqL.of q1⟩, fun D hD => lc_list (K := K) (a := qp) (xs := as17.map V.ref) (fun i H' => LstN K H' D (((pcs n ss).take i).filter fun c => decide (s.u ∈ c)) ∧ Same H17 H') ⟨⟨[], upd_same, Each.nil⟩, same_upd1 hD⟩ (fun i H' _ ⟨_, z⟩ => SqL.of (z _ _ q1)) ?_ ?_⟩
      · rintro i y H18 hi ⟨g1', g2'⟩
        obtain ⟨ca, c, rfl, hca, hc, tc⟩ := q2.get hi
        have s1618 := s17.trans g2'
        have tc' : TupN K H18 ca c := tc.imm (Imm.of g2')
        obtain ⟨th', tg', tr', m0, _⟩ := hst'.same s1618
        refine ⟨rfl, _, rfl, _, rfl, l, _, _, _, rfl, rfl, SqL.of (s1618 _ _ c1), atI_nat (refs_at hb'), b', _, _, _, rfl, rfl, m0, atI_nat (j := 0) rfl, _, rfl, ca, _, rfl, .inr tc', rfl, flat_nat _, ?_⟩
        rw [inV_nat, take_snoc hc, List.filter_append]
        have il : i < (pcs n ss).length := (List.getElem?_eq_some_iff.mp hc).1
        have pl : (pcs n ss).length ≤ n := by unfold pcs; rw [List.length_map]; exact firsts_len n ss
        by_cases w : s.u ∈ c
        · have e6 : List.filter (fun c => decide (s.u ∈ c)) [c] = [c] := by simp [w]
          refine ⟨true, by simp [w], ?_⟩
          dsimp only
          rw [if_pos rfl, e6]
          obtain ⟨acc, r1, r2, r3⟩ := g1'.push (Same.refl H18) tc'
          have fl := List.length_filter_le (fun c => decide (s.u ∈ c)) ((pcs n ss).take i)
          rw [List.length_take] at fl
          exact ⟨_, rfl, acc, r1, small1000 (by omega), r3, same_new g2' hD⟩
        · have e6 : List.filter (fun c => decide (s.u ∈ c)) [c] = [] := by simp [w]
          refine ⟨false, by simp [w], ?_⟩
          dsimp only
          rw [if_neg Bool.false_ne_true, e6, List.append_nil]
          exact ⟨g1', g2'⟩
      rintro H18 ⟨g1', g2'⟩
      have eT : (pcs n ss).take (as17.map V.ref).length = pcs n ss := List.take_of_length_le (by rw [List.length_map, q2.1]; exact Nat.le_refl _)
      rw [eT, pcs_find sok.un] at g1'
      obtain ⟨ps, r1, r2⟩ := g1'
      obtain ⟨pa, hpa, tpa⟩ := r2.of (x := comp n ss s.u) (i := 0) rfl
      refine ⟨D, _, _, _, rfl, rfl, SqL.of r1, atI_nat (j := 0) (refs_at hpa), ?_⟩
      have s1618 := s17.trans g2'
      have w18 := w16.same s1618
      obtain ⟨dz, tl, hz, tls, tl1, tl2⟩ := id w18
      refine ⟨_, rfl, _, rfl, z, _, dz, _, _, rfl, hz, T.clW, T.nStalls, wbF_s n tl, tl, _, rfl, .inr tl1, fun ll nll => ?_⟩
      have s19 : Same H18 (upd H18 ll (.lst (tls.map V.ref))) := same_upd1 nll
      have lL : LstS K (upd H18 ll (.lst (tls.map V.ref))) ll sl := ⟨tls, upd_same, tl2.mono fun _ _ h => h.same s19⟩
      generalize upd H18 ll (.lst (tls.map V.ref)) = H19 at s19 lL
      refine ⟨_, rfl, z, ll, n, sl, rfl, w18.same s19, lL, okL, fun H20 s20 => ⟨_, rfl, iteF ?_⟩⟩
      have s1820 := s19.trans s20
      have s1620 := s1618.trans s1820
      -- the rest
      have e20 := s1620 _ _ c1
      refine ⟨_, rfl, _, rfl, _, rfl, l, _, rfl, SqL.of e20, fun f1 nf1 => ?_⟩
      have atl : at1 ≤ (cs.map V.ref).length := by rw [List.length_map, c2.1]; omega
      rw [cut_take atl]
      have s21 := same_upd1 (o := .lst ((cs.map V.ref).take at1)) nf1
      have ef1 : upd H20 f1 (.lst ((cs.map V.ref).take at1)) f1 = some (.lst ((cs.map V.ref).take at1)) := upd_same
      generalize upd H20 f1 (.lst ((cs.map V.ref).take at1)) = H21 at s21 ef1
      refine ⟨_, rfl, _, rfl, _, _, rfl, rfl, _, rfl, ?_⟩
      dsimp only [tNoPart]
      refine ⟨l, _, rfl, SqL.of (s21 _ _ e20), fun f2 nf2 => ?_⟩
      have ec2 : cutV (cs.map V.ref) (some ((at1 : Int) + 1)) none = (cs.map V.ref).drop (at1 + 1) := cut_from (i := at1 + 1) (by rw [List.length_map, c2.1]; omega)
      rw [ec2]
      have s22 := same_upd1 (o := .lst ((cs.map V.ref).drop (at1 + 1))) nf2
      have ef2 : upd H21 f2 (.lst ((cs.map V.ref).drop (at1 + 1))) f2 = some (.lst ((cs.map V.ref).drop (at1 + 1))) := upd_same
      generalize upd H21 f2 (.lst ((cs.map V.ref).drop (at1 + 1))) = H22 at s22 ef2
      have cl16 : cs.length ≤ 16 := by rw [c2.1]; exact len
      refine ⟨f1, f2, _, _, rfl, rfl, s22 _ _ ef1, ef2, Nat.le_trans (show _ ≤ 100 by rw [List.length_take, List.length_drop, List.length_map]; omega) (by decide), fun f3 nf3 => ?_⟩
      have s23 := same_upd1 (o := .lst ((cs.map V.ref).take at1 ++ (cs.map V.ref).drop (at1 + 1))) nf3
      have s1623 := s1620.trans ((s21.trans s22).trans s23)
      have lr : LstS K (upd H22 f3 (.lst ((cs.map V.ref).take at1 ++ (cs.map V.ref).drop (at1 + 1)))) f3 (ss.take at1 ++ ss.drop (at1 + 1)) := by
        refine ⟨cs.take at1 ++ cs.drop (at1 + 1), by rw [upd_same, List.map_append, List.map_take, List.map_drop], ?_⟩
        have e1 : cs.take at1 ++ cs.drop (at1 + 1) = cs.eraseIdx at1 := (List.eraseIdx_eq_take_drop_succ cs at1).symm
        have e2 : ss.take at1 ++ ss.drop (at1 + 1) = ss.eraseIdx at1 := (List.eraseIdx_eq_take_drop_succ ss at1).symm
        rw [e1, e2]
        exact (c2.erase at1).mono fun _ _ h => h.same s1623
      generalize upd H22 f3 (.lst ((cs.map V.ref).take at1 ++ (cs.map V.ref).drop (at1 + 1))) = H23 at s23 s1623 lr
      generalize hR : ss.take at1 ++ ss.drop (at1 + 1) = rs at lr LD un1 un2
      have rlt : ∀ t ∈ rs, t.u < n ∧ t.v < n := fun t ht => lt16 t ((LD.mem t).mpr (.inr ht))
      refine ⟨_, rfl, f3, n, rs, rfl, lr, n8, rlt, fun qr H24 s24 nqr ⟨as24, v1, v2⟩ => ?_⟩
      have s1624 := s1623.trans s24
      refine ⟨_, rfl, qr, rfl, ⟨_, SqL.of v1⟩, fun E1 hE1 => lc_list (K := K) (a := qr) (xs := as24.map V.ref) (fun i H' => H' E1 = some (.lst ((((pcs n rs).take i).map fun c => decide (s.u ∈ c) && decide (s.v ∈ c)).map V.bl)) ∧ Same H24 H') ⟨upd_same, same_upd1 hE1⟩ (fun i H' _ ⟨_, z⟩ => SqL.of (z _ _ v1)) ?_ ?_⟩
      · rintro i y H25 hi ⟨m1, m2⟩
        obtain ⟨ca, c, rfl, hca, hc, tc⟩ := v2.get hi
        have s1625 := s1624.trans m2
        have tc' : TupN K H25 ca c := tc.imm (Imm.of m2)
        obtain ⟨th', tg', tr', m0, _⟩ := hst'.same s1625
        have il : i < (pcs n rs).length := (List.getElem?_eq_some_iff.mp hc).1
        have pl : (pcs n rs).length ≤ n := by unfold pcs; rw [List.length_map]; exact firsts_len n rs
        have fin : ∀ b : Bool, b = (decide (s.u ∈ c) && decide (s.v ∈ c)) → ∃ acc, H25 E1 = some (.lst acc) ∧ acc.length < sizeLine ∧ upd H25 E1 (.lst (acc ++ [V.bl b])) E1 = some (.lst ((((pcs n rs).take (i + 1)).map fun c => decide (s.u ∈ c) && decide (s.v ∈ c)).map V.bl)) ∧ Same H24 (upd H25 E1 (.lst (acc ++ [V.bl b]))) := fun b hb => by
          refine ⟨_, m1, small1000 ?_, ?_, same_new m2 hE1⟩
          · rw [List.length_map, List.length_map, List.length_take]; omega
          · rw [upd_same, take_snoc hc, List.map_append, List.map_append, hb]; rfl
        refine ⟨rfl, _, rfl, _, rfl, l, _, _, _, rfl, rfl, SqL.of (s1625 _ _ c1), atI_nat (refs_at hb'), b', _, _, _, rfl, rfl, m0, atI_nat (j := 0) rfl, _, rfl, ca, _, rfl, .inr tc', rfl, flat_nat _, ?_⟩
        have e8 : inV (V.int (s.u : Int)) (NatL c) = decide (s.u ∈ c) := inV_nat s.u c
        have e9 : inV (V.int (s.v : Int)) (NatL c) = decide (s.v ∈ c) := inV_nat s.v c
        by_cases w : s.u ∈ c
        · refine ⟨true, by rw [e8, decide_eq_true w]; rfl, iteT ?_⟩
          refine ⟨_, rfl, _, rfl, l, _, _, _, rfl, rfl, SqL.of (s1625 _ _ c1), atI_nat (refs_at hb'), b', _, _, _, rfl, rfl, m0, atI_nat (j := 1) rfl, _, rfl, ca, _, rfl, .inr tc', rfl, flat_nat _, ?_⟩
          exact fin _ (by rw [decide_eq_true w, Bool.true_and]; exact e9)
        · refine ⟨false, by rw [e8, decide_eq_false w]; rfl, iteF ?_⟩
          exact fin _ (by rw [decide_eq_false w]; rfl)
      rintro H25 ⟨m1, m2⟩
      have eT2 : (pcs n rs).take (as24.map V.ref).length = pcs n rs := List.take_of_length_le (by rw [List.length_map, v2.1]; exact Nat.le_refl _)
      rw [eT2] at m1
      refine ⟨E1, _, rfl, SqL.of m1, ?_⟩
      have ring := pcs_ring (ss := rs) sok.un sok.vn
      generalize ((pcs n rs).map fun c => decide (s.u ∈ c) && decide (s.v ∈ c)).any id = rb at ring ⊢
      dsimp only [gName]
      change tRet _ _ [some (.ref a), some (.ref q), some (.int way), some (.int n), some (.int m), some (.ref l), some (.ref x), some (.ref q7), some (.ref p9), some (.int at1), some (.ref z), some (.ref pa), none, some (.ref qr), some (.bl rb)] H25
      have s1625 := s1624.trans m2
      refine ⟨_, rfl, z, n, sl, rfl, w16.same s1625, okL, fun qu H26 s26 nqu lu => ?_⟩
      refine ⟨(by show 0 ≤ sizeLine; decide), fun x1 nx1 => ?_⟩
      have s27 := same_upd1 (o := .lst []) nx1
      refine ⟨_, rfl, (by show 1 ≤ sizeLine; decide), fun x2 nx2 => ?_⟩
      have s28 := same_upd1 (o := .lst [.ref pa]) nx2
      refine ⟨(by show 2 ≤ sizeLine; decide), fun x3 nx3 => ?_⟩
      have s29 := same_upd1 (o := .lst [.ref x1, .ref x2]) nx3
      have s2629 := (s27.trans s28).trans s29
      have s1829 := (s1820.trans (((s21.trans s22).trans s23).trans (s24.trans m2))).trans (s26.trans s2629)
      have lu' := lu.same s2629
      have L1 : LstN K (upd (upd (upd H26 x1 (.lst [])) x2 (.lst [.ref pa])) x3 (.lst [.ref x1, .ref x2])) x1 [] := ⟨[], (s28.trans s29) _ _ upd_same, Each.nil⟩
      have L2' : LstN K (upd (upd (upd H26 x1 (.lst [])) x2 (.lst [.ref pa])) x3 (.lst [.ref x1, .ref x2])) x2 [comp n ss s.u] := ⟨[pa], s29 _ _ upd_same, ⟨rfl, fun i y c h1 h2 => by
        cases i with
        | zero => cases h1; cases h2; exact tpa.imm (Imm.of s1829)
        | succ m => simp at h1⟩⟩
      have L3 : upd (upd (upd H26 x1 (.lst [])) x2 (.lst [.ref pa])) x3 (.lst [.ref x1, .ref x2]) x3 = some (.lst [.ref x1, .ref x2]) := upd_same
      generalize upd (upd (upd H26 x1 (.lst [])) x2 (.lst [.ref pa])) x3 (.lst [.ref x1, .ref x2]) = H29 at lu' L1 L2' L3
      refine ⟨_, rfl, .inr ⟨_, rfl, ?_⟩⟩
      cases rb with
      | true =>
        rw [un1 (ring.mp rfl)] at lu'
        refine ⟨x3, _, _, _, rfl, rfl, SqL.of L3, atI_nat (j := 1) rfl, _, _, dp_pcs lu', dp_pcs L2', shaped_pcs _, shaped_pcs _, ?_⟩
        rw [eqv_pcsD]
        exact k _
      | false =>
        rw [un2 (fun c => by have := ring.mpr c; cases this)] at lu'
        refine ⟨x3, _, _, _, rfl, rfl, SqL.of L3, atI_nat (j := 0) rfl, _, _, dp_pcs lu', dp_pcs L1, shaped_pcs _, shaped_pcs _, ?_⟩
        rw [eqv_pcsD]
        exact k _
    · have w := w11
      by_cases c : way = 1
      · have e1 : (!decide (V.int (way : Int) = V.int 1)) = false := by rw [c]; rfl
        have ne : ss = [] := Classical.byContradiction fun z => hway ⟨c, z⟩
        refine ⟨_, rfl, rfl, _, rfl, ?_⟩
        show if (!decide (V.int (way : Int) = V.int 1)) = true then _ else _
        rw [e1]
        refine iteF ⟨_, rfl, l, _, rfl, .inl (SqL.of a1), rfl, _, rfl, iteD (by rw [la, ne]; rfl) ?_⟩
        exact ⟨_, rfl, _, rfl, _, rfl, x, l, n, ss, rfl, w11, l11, ok, fun H12 _ => k H12⟩
      · have e1 : (!decide (V.int (way : Int) = V.int 1)) = true := by
          rw [decide_eq_false (show ¬ V.int (way : Int) = V.int 1 from fun z => c (by have := V.int.inj z; omega))]; rfl
        refine ⟨_, rfl, rfl, _, rfl, ?_⟩
        show if (!decide (V.int (way : Int) = V.int 1)) = true then _ else _
        rw [e1]
        refine iteT ?_
        exact ⟨_, rfl, _, rfl, _, rfl, x, l, n, ss, rfl, w11, l11, ok, fun H12 _ => k H12⟩

end Fair

set_option Elab.async false
set_option linter.all false
set_option maxRecDepth 100000
set_option maxHeartbeats 4000000
namespace Fair
open PySem PySem.Spec PyProof.Rows L2
/-! ### the end: the head's facts, the chain of promises -/
section
variable {K : PySem.W.Frag} {h : Heap} {mg : Str → Option Value}
theorem dx_of {x : Str} {st : Stmt} (F : ∃ fd, FunD K x x (defArgs st) (defBody st) (defScope st) [] [] (He.ga K x) fd) (e : mg x = some (.ref (He.ga K x))) : Dx K mg x st := let ⟨fd, q⟩ := F; ⟨_, fd, e, q⟩
theorem mx_of {y : Str} {m qual : Str} {st : Stmt} (F : ∃ fd, FunD K m qual (defArgs st) (defBody st) (defScope st) [] [] (He.ma K (He.ga K y) m) fd) (a : Cls K (He.ga K y)) (b : Meth K (He.ga K y) m (He.ma K (He.ga K y) m)) : Mx K (He.ga K y) m qual st := let ⟨fd, q⟩ := F; ⟨_, fd, a, b, q⟩
theorem kx_of {y : Str} {qual : Str} {st : Stmt} (F : ∃ fd, FunD K "__init__" qual (defArgs st) (defBody st) (defScope st) [] [] (He.ma K (He.ga K y) "__init__") fd) (e : mg y = some (.ref (He.ga K y))) (b : Mk K (He.ga K y) (He.ma K (He.ga K y) "__init__")) : Kx K mg y (He.ga K y) qual st := let ⟨fd, q⟩ := F; ⟨_, fd, e, b, q⟩
theorem tx_of (X : K.In h) (G : h.Ns mainGlobals mg) (c : He.SaysD fa fn K) (e : exB K = true) : TX K mg := by
  unfold exB at e
  obtain ⟨e1, e⟩ := He.ba e
  obtain ⟨e2, e⟩ := He.ba e
  obtain ⟨e3, e⟩ := He.ba e
  obtain ⟨e4, e⟩ := He.ba e
  obtain ⟨e5, e⟩ := He.ba e
  obtain ⟨e6, e⟩ := He.ba e
  obtain ⟨e7, e8⟩ := He.ba e
  have cl := He.cls_ok (c.fact 77 (f := .cls "Exact") rfl)
  obtain ⟨t1, w1⟩ := He.int_ok X G (c.fact 75 (f := .int "MOST_WARES" 8) rfl)
  obtain ⟨t2, w2⟩ := He.int_ok X G (c.fact 76 (f := .int "MOST_STALLS" 16) rfl)
  exact ⟨He.glo_ok X G (c.fact 2 (f := .glo "Exact") rfl), cl, He.noat_ok (c.fact 83 (f := .noat "Exact" "top") rfl), He.noat_ok (c.fact 84 (f := .noat "Exact" "bottom") rfl),
    e1, He.eqO_ok e2, of_decide_eq_true e3, ⟨cl, He.eqO_ok e4, He.eqO_ok e5, of_decide_eq_true e6, of_decide_eq_true e7, of_decide_eq_true e8⟩,
    He.cls_ok (c.fact 79 (f := .cls "Web") rfl), He.noat_ok (c.fact 85 (f := .noat "Web" "wares") rfl), He.noat_ok (c.fact 86 (f := .noat "Web" "stalls") rfl),
    He.cls_ok (c.fact 81 (f := .cls "Table") rfl), He.noat_ok (c.fact 87 (f := .noat "Table" "slants") rfl), He.noat_ok (c.fact 88 (f := .noat "Table" "beside") rfl), He.noat_ok (c.fact 89 (f := .noat "Table" "gone") rfl),
    He.free_ok X G (c.fact 59 (f := .free "isinstance") rfl),
    He.free_ok X G (c.fact 60 (f := .free "abs") rfl),
    He.free_ok X G (c.fact 61 (f := .free "len") rfl),
    He.free_ok X G (c.fact 62 (f := .free "all") rfl),
    He.free_ok X G (c.fact 63 (f := .free "any") rfl),
    He.free_ok X G (c.fact 64 (f := .free "range") rfl),
    He.free_ok X G (c.fact 65 (f := .free "list") rfl),
    He.free_ok X G (c.fact 66 (f := .free "tuple") rfl),
    He.free_ok X G (c.fact 67 (f := .free "dict") rfl),
    He.free_ok X G (c.fact 68 (f := .free "sorted") rfl),
    He.free_ok X G (c.fact 69 (f := .free "enumerate") rfl),
    He.free_ok X G (c.fact 70 (f := .free "zip") rfl),
    He.free_ok X G (c.fact 71 (f := .free "int") rfl),
    He.free_ok X G (c.fact 72 (f := .free "min") rfl),
    He.free_ok X G (c.fact 73 (f := .free "repr") rfl),
    He.free_ok X G (c.fact 74 (f := .free "bool") rfl),
    ⟨_, w1, t1, rfl⟩, ⟨_, w2, t2, rfl⟩⟩
theorem facts {P : Program} {w : World} {f : Addr} (X : K.In h) (G : h.Ns mainGlobals mg) (hf : mg ("law" : Str) = some (.ref f)) (c : He.SaysD fa fn K) (e : exB K = true) :
    ∃ fd : FuncData, (∀ (s : Shared) (v : Value), BindsTo s fd ⟨[v], []⟩ [("_law_script", v)]) ∧ ∀ base : Heap, K.In base → base.Ns mainGlobals mg → FnG P w K mg base 12 f fd ["_law_script"] (spLaw K) := by
  have T := tx_of X G c e
  obtain ⟨fd, F⟩ := c.def_ 70 (d := dLaw) rfl
  obtain rfl := V_ref (hf.symm.trans (He.glo_ok X G (c.fact 58 (f := .glo "law") rfl)))
  have b := FunD.bindsA (ps := ["_law_script"]) F fun _ _ _ _ _ _ us hl => match us, hl with | [_], _ => rfl
  refine ⟨fd, fun s v => b s [v] rfl, fun base _ _ => ?_⟩
  have D_IsInteger : Dx K mg "is_integer" sIsInteger := dx_of (c.def_ 0 (d := dIsInteger) rfl) (He.glo_ok X G (c.fact 0 (f := .glo "is_integer") rfl))
  have D_Common : Dx K mg "common" sCommon := dx_of (c.def_ 1 (d := dCommon) rfl) (He.glo_ok X G (c.fact 1 (f := .glo "common") rfl))
  have D_ExactEq : Mx K (cE K) "__eq__" "Exact.__eq__" sExactEq := mx_of (c.def_ 6 (d := dExactEq) rfl) (He.cls_ok (c.fact 77 (f := .cls "Exact") rfl)) (He.meth_ok (c.fact 93 (f := .meth "Exact" "__eq__") rfl))
  have D_ExactSign : Mx K (cE K) "sign" "Exact.sign" sExactSign := mx_of (c.def_ 8 (d := dExactSign) rfl) (He.cls_ok (c.fact 77 (f := .cls "Exact") rfl)) (He.meth_ok (c.fact 95 (f := .meth "Exact" "sign") rfl))
  have D_ExactPair : Mx K (cE K) "pair" "Exact.pair" sExactPair := mx_of (c.def_ 10 (d := dExactPair) rfl) (He.cls_ok (c.fact 77 (f := .cls "Exact") rfl)) (He.meth_ok (c.fact 97 (f := .meth "Exact" "pair") rfl))
  have D_OtherWare : Dx K mg "other_ware" sOtherWare := dx_of (c.def_ 24 (d := dOtherWare) rfl) (He.glo_ok X G (c.fact 16 (f := .glo "other_ware") rfl))
  have D_TableInit : Kx K mg "Table" (cT K) "Table.__init__" sTableInit := kx_of (c.def_ 29 (d := dTableInit) rfl) (He.glo_ok X G (c.fact 21 (f := .glo "Table") rfl)) (He.mkr_ok (c.fact 82 (f := .mkr "Table") rfl))
  have D_Others : Dx K mg "others" sOthers := dx_of (c.def_ 39 (d := dOthers) rfl) (He.glo_ok X G (c.fact 27 (f := .glo "others") rfl))
  have D_LHand : Dx K mg "_law_hand" sLHand := dx_of (c.def_ 49 (d := dLHand) rfl) (He.glo_ok X G (c.fact 37 (f := .glo "_law_hand") rfl))
  have D_LDraw : Dx K mg "_law_draw" sLDraw := dx_of (c.def_ 50 (d := dLDraw) rfl) (He.glo_ok X G (c.fact 38 (f := .glo "_law_draw") rfl))
  have D_LGcd : Dx K mg "_law_gcd" sLGcd := dx_of (c.def_ 51 (d := dLGcd) rfl) (He.glo_ok X G (c.fact 39 (f := .glo "_law_gcd") rfl))
  have D_LWhole : Dx K mg "_law_whole" sLWhole := dx_of (c.def_ 62 (d := dLWhole) rfl) (He.glo_ok X G (c.fact 50 (f := .glo "_law_whole") rfl))
  have D_LPieces : Dx K mg "_law_pieces" sLPieces := dx_of (c.def_ 64 (d := dLPieces) rfl) (He.glo_ok X G (c.fact 52 (f := .glo "_law_pieces") rfl))
  have D_LNone : Dx K mg "_law_none" sLNone := dx_of (c.def_ 67 (d := dLNone) rfl) (He.glo_ok X G (c.fact 55 (f := .glo "_law_none") rfl))
  have D_ExactInit : Kx K mg "Exact" (cE K) "Exact.__init__" sExactInit := kx_of (c.def_ 2 (d := dExactInit) rfl) (He.glo_ok X G (c.fact 2 (f := .glo "Exact") rfl)) (He.mkr_ok (c.fact 78 (f := .mkr "Exact") rfl))
  have D_IsFraction : Dx K mg "is_fraction" sIsFraction := dx_of (c.def_ 12 (d := dIsFraction) rfl) (He.glo_ok X G (c.fact 4 (f := .glo "is_fraction") rfl))
  have D_IsWareBelow : Dx K mg "is_ware_below" sIsWareBelow := dx_of (c.def_ 15 (d := dIsWareBelow) rfl) (He.glo_ok X G (c.fact 7 (f := .glo "is_ware_below") rfl))
  have D_TableIsWrong : Mx K (cT K) "is_wrong" "Table.is_wrong" sTableIsWrong := mx_of (c.def_ 30 (d := dTableIsWrong) rfl) (He.cls_ok (c.fact 81 (f := .cls "Table") rfl)) (He.meth_ok (c.fact 98 (f := .meth "Table" "is_wrong") rfl))
  have D_IsIndex : Dx K mg "is_index" sIsIndex := dx_of (c.def_ 35 (d := dIsIndex) rfl) (He.glo_ok X G (c.fact 23 (f := .glo "is_index") rfl))
  have D_LFrac : Dx K mg "_law_frac" sLFrac := dx_of (c.def_ 52 (d := dLFrac) rfl) (He.glo_ok X G (c.fact 40 (f := .glo "_law_frac") rfl))
  have D_LShuffled : Dx K mg "_law_shuffled" sLShuffled := dx_of (c.def_ 58 (d := dLShuffled) rfl) (He.glo_ok X G (c.fact 46 (f := .glo "_law_shuffled") rfl))
  have D_LSizes : Dx K mg "_law_sizes" sLSizes := dx_of (c.def_ 61 (d := dLSizes) rfl) (He.glo_ok X G (c.fact 49 (f := .glo "_law_sizes") rfl))
  have D_LIsAmount : Dx K mg "_law_is_amount" sLIsAmount := dx_of (c.def_ 63 (d := dLIsAmount) rfl) (He.glo_ok X G (c.fact 51 (f := .glo "_law_is_amount") rfl))
  have D_IsAmount : Dx K mg "is_amount" sIsAmount := dx_of (c.def_ 13 (d := dIsAmount) rfl) (He.glo_ok X G (c.fact 5 (f := .glo "is_amount") rfl))
  have D_IsSome : Dx K mg "is_some" sIsSome := dx_of (c.def_ 14 (d := dIsSome) rfl) (He.glo_ok X G (c.fact 6 (f := .glo "is_some") rfl))
  have D_CheckWare : Dx K mg "check_ware" sCheckWare := dx_of (c.def_ 18 (d := dCheckWare) rfl) (He.glo_ok X G (c.fact 10 (f := .glo "check_ware") rfl))
  have D_LPlus : Dx K mg "_law_plus" sLPlus := dx_of (c.def_ 53 (d := dLPlus) rfl) (He.glo_ok X G (c.fact 41 (f := .glo "_law_plus") rfl))
  have D_LMinus : Dx K mg "_law_minus" sLMinus := dx_of (c.def_ 54 (d := dLMinus) rfl) (He.glo_ok X G (c.fact 42 (f := .glo "_law_minus") rfl))
  have D_LTimes : Dx K mg "_law_times" sLTimes := dx_of (c.def_ 55 (d := dLTimes) rfl) (He.glo_ok X G (c.fact 43 (f := .glo "_law_times") rfl))
  have D_LOver : Dx K mg "_law_over" sLOver := dx_of (c.def_ 56 (d := dLOver) rfl) (He.glo_ok X G (c.fact 44 (f := .glo "_law_over") rfl))
  have D_LSome : Dx K mg "_law_some" sLSome := dx_of (c.def_ 57 (d := dLSome) rfl) (He.glo_ok X G (c.fact 45 (f := .glo "_law_some") rfl))
  have D_ExactAdd : Mx K (cE K) "__add__" "Exact.__add__" sExactAdd := mx_of (c.def_ 3 (d := dExactAdd) rfl) (He.cls_ok (c.fact 77 (f := .cls "Exact") rfl)) (He.meth_ok (c.fact 90 (f := .meth "Exact" "__add__") rfl))
  have D_ExactSub : Mx K (cE K) "__sub__" "Exact.__sub__" sExactSub := mx_of (c.def_ 4 (d := dExactSub) rfl) (He.cls_ok (c.fact 77 (f := .cls "Exact") rfl)) (He.meth_ok (c.fact 91 (f := .meth "Exact" "__sub__") rfl))
  have D_ExactMul : Mx K (cE K) "__mul__" "Exact.__mul__" sExactMul := mx_of (c.def_ 5 (d := dExactMul) rfl) (He.cls_ok (c.fact 77 (f := .cls "Exact") rfl)) (He.meth_ok (c.fact 92 (f := .meth "Exact" "__mul__") rfl))
  have D_ExactOver : Mx K (cE K) "over" "Exact.over" sExactOver := mx_of (c.def_ 7 (d := dExactOver) rfl) (He.cls_ok (c.fact 77 (f := .cls "Exact") rfl)) (He.meth_ok (c.fact 94 (f := .meth "Exact" "over") rfl))
  have D_ExactSquare : Mx K (cE K) "square" "Exact.square" sExactSquare := mx_of (c.def_ 9 (d := dExactSquare) rfl) (He.cls_ok (c.fact 77 (f := .cls "Exact") rfl)) (He.meth_ok (c.fact 96 (f := .meth "Exact" "square") rfl))
  have D_Exact : Dx K mg "exact" sExact := dx_of (c.def_ 11 (d := dExact) rfl) (He.glo_ok X G (c.fact 3 (f := .glo "exact") rfl))
  have D_IsAmounts : Dx K mg "is_amounts" sIsAmounts := dx_of (c.def_ 19 (d := dIsAmounts) rfl) (He.glo_ok X G (c.fact 11 (f := .glo "is_amounts") rfl))
  have D_Empty : Dx K mg "empty" sEmpty := dx_of (c.def_ 21 (d := dEmpty) rfl) (He.glo_ok X G (c.fact 13 (f := .glo "empty") rfl))
  have D_LStall : Dx K mg "_law_stall" sLStall := dx_of (c.def_ 59 (d := dLStall) rfl) (He.glo_ok X G (c.fact 47 (f := .glo "_law_stall") rfl))
  have D_LTable : Dx K mg "_law_table" sLTable := dx_of (c.def_ 65 (d := dLTable) rfl) (He.glo_ok X G (c.fact 53 (f := .glo "_law_table") rfl))
  have D_LStruck : Dx K mg "_law_struck" sLStruck := dx_of (c.def_ 66 (d := dLStruck) rfl) (He.glo_ok X G (c.fact 54 (f := .glo "_law_struck") rfl))
  have D_IsStall : Dx K mg "is_stall" sIsStall := dx_of (c.def_ 16 (d := dIsStall) rfl) (He.glo_ok X G (c.fact 8 (f := .glo "is_stall") rfl))
  have D_CheckPurse : Dx K mg "check_purse" sCheckPurse := dx_of (c.def_ 20 (d := dCheckPurse) rfl) (He.glo_ok X G (c.fact 12 (f := .glo "check_purse") rfl))
  have D_HeldExact : Dx K mg "held_exact" sHeldExact := dx_of (c.def_ 22 (d := dHeldExact) rfl) (He.glo_ok X G (c.fact 14 (f := .glo "held_exact") rfl))
  have D_RootsExact : Dx K mg "roots_exact" sRootsExact := dx_of (c.def_ 23 (d := dRootsExact) rfl) (He.glo_ok X G (c.fact 15 (f := .glo "roots_exact") rfl))
  have D_HeldOf : Dx K mg "held_of" sHeldOf := dx_of (c.def_ 25 (d := dHeldOf) rfl) (He.glo_ok X G (c.fact 17 (f := .glo "held_of") rfl))
  have D_RootExact : Dx K mg "root_exact" sRootExact := dx_of (c.def_ 26 (d := dRootExact) rfl) (He.glo_ok X G (c.fact 18 (f := .glo "root_exact") rfl))
  have D_TableRaiseRoot : Mx K (cT K) "raise_root" "Table.raise_root" sTableRaiseRoot := mx_of (c.def_ 31 (d := dTableRaiseRoot) rfl) (He.cls_ok (c.fact 81 (f := .cls "Table") rfl)) (He.meth_ok (c.fact 99 (f := .meth "Table" "raise_root") rfl))
  have D_LStalls : Dx K mg "_law_stalls" sLStalls := dx_of (c.def_ 60 (d := dLStalls) rfl) (He.glo_ok X G (c.fact 48 (f := .glo "_law_stalls") rfl))
  have D_LBrim : Dx K mg "_law_brim" sLBrim := dx_of (c.def_ 68 (d := dLBrim) rfl) (He.glo_ok X G (c.fact 56 (f := .glo "_law_brim") rfl))
  have D_WebInit : Kx K mg "Web" (cW K) "Web.__init__" sWebInit := kx_of (c.def_ 17 (d := dWebInit) rfl) (He.glo_ok X G (c.fact 9 (f := .glo "Web") rfl)) (He.mkr_ok (c.fact 80 (f := .mkr "Web") rfl))
  have D_PieceOf : Dx K mg "piece_of" sPieceOf := dx_of (c.def_ 27 (d := dPieceOf) rfl) (He.glo_ok X G (c.fact 19 (f := .glo "piece_of") rfl))
  have D_TableStrike : Mx K (cT K) "strike" "Table.strike" sTableStrike := mx_of (c.def_ 32 (d := dTableStrike) rfl) (He.cls_ok (c.fact 81 (f := .cls "Table") rfl)) (He.meth_ok (c.fact 100 (f := .meth "Table" "strike") rfl))
  have D_TableOf : Dx K mg "table_of" sTableOf := dx_of (c.def_ 34 (d := dTableOf) rfl) (He.glo_ok X G (c.fact 22 (f := .glo "table_of") rfl))
  have D_WithHeld : Dx K mg "with_held" sWithHeld := dx_of (c.def_ 36 (d := dWithHeld) rfl) (He.glo_ok X G (c.fact 24 (f := .glo "with_held") rfl))
  have D_NextScale : Dx K mg "next_scale" sNextScale := dx_of (c.def_ 42 (d := dNextScale) rfl) (He.glo_ok X G (c.fact 30 (f := .glo "next_scale") rfl))
  have D_Pieces : Dx K mg "pieces" sPieces := dx_of (c.def_ 28 (d := dPieces) rfl) (He.glo_ok X G (c.fact 20 (f := .glo "pieces") rfl))
  have D_TableStrikeAll : Mx K (cT K) "strike_all" "Table.strike_all" sTableStrikeAll := mx_of (c.def_ 33 (d := dTableStrikeAll) rfl) (He.cls_ok (c.fact 81 (f := .cls "Table") rfl)) (He.meth_ok (c.fact 101 (f := .meth "Table" "strike_all") rfl))
  have D_UnevenStall : Dx K mg "uneven_stall" sUnevenStall := dx_of (c.def_ 44 (d := dUnevenStall) rfl) (He.glo_ok X G (c.fact 32 (f := .glo "uneven_stall") rfl))
  have D_WithStall : Dx K mg "with_stall" sWithStall := dx_of (c.def_ 37 (d := dWithStall) rfl) (He.glo_ok X G (c.fact 25 (f := .glo "with_stall") rfl))
  have D_BrimOf : Dx K mg "brim_of" sBrimOf := dx_of (c.def_ 40 (d := dBrimOf) rfl) (He.glo_ok X G (c.fact 28 (f := .glo "brim_of") rfl))
  have D_ScalesAndWays : Dx K mg "scales_and_ways" sScalesAndWays := dx_of (c.def_ 43 (d := dScalesAndWays) rfl) (He.glo_ok X G (c.fact 31 (f := .glo "scales_and_ways") rfl))
  have D_Led : Dx K mg "led" sLed := dx_of (c.def_ 38 (d := dLed) rfl) (He.glo_ok X G (c.fact 26 (f := .glo "led") rfl))
  have D_Brim : Dx K mg "brim" sBrim := dx_of (c.def_ 41 (d := dBrim) rfl) (He.glo_ok X G (c.fact 29 (f := .glo "brim") rfl))
  have D_FitExact : Dx K mg "fit_exact" sFitExact := dx_of (c.def_ 45 (d := dFitExact) rfl) (He.glo_ok X G (c.fact 33 (f := .glo "fit_exact") rfl))
  have D_ForNothing : Dx K mg "for_nothing" sForNothing := dx_of (c.def_ 47 (d := dForNothing) rfl) (He.glo_ok X G (c.fact 35 (f := .glo "for_nothing") rfl))
  have D_UnevenPieces : Dx K mg "uneven_pieces" sUnevenPieces := dx_of (c.def_ 48 (d := dUnevenPieces) rfl) (He.glo_ok X G (c.fact 36 (f := .glo "uneven_pieces") rfl))
  have D_Fit : Dx K mg "fit" sFit := dx_of (c.def_ 46 (d := dFit) rfl) (He.glo_ok X G (c.fact 34 (f := .glo "fit") rfl))
  have D_LIsRight : Dx K mg "_law_is_right" sLIsRight := dx_of (c.def_ 69 (d := dLIsRight) rfl) (He.glo_ok X G (c.fact 57 (f := .glo "_law_is_right") rfl))
  have c_IsInteger := ok_IsInteger (P := P) (w := w) (base := base) T D_IsInteger 
  have c_Common := ok_Common (P := P) (w := w) (base := base) T D_Common 
  have c_ExactEq := ok_ExactEq (P := P) (w := w) (base := base) T D_ExactEq 
  have c_ExactSign := ok_ExactSign (P := P) (w := w) (base := base) T D_ExactSign 
  have c_ExactPair := ok_ExactPair (P := P) (w := w) (base := base) T D_ExactPair 
  have c_OtherWare := ok_OtherWare (P := P) (w := w) (base := base) T D_OtherWare 
  have c_TableInit := ok_TableInit (P := P) (w := w) (base := base) T D_TableInit 
  have c_Others := ok_Others (P := P) (w := w) (base := base) T D_Others 
  have c_LHand := ok_LHand (P := P) (w := w) (base := base) T D_LHand 
  have c_LDraw := ok_LDraw (P := P) (w := w) (base := base) T D_LDraw 
  have c_LGcd := ok_LGcd (P := P) (w := w) (base := base) T D_LGcd 
  have c_LWhole := ok_LWhole (P := P) (w := w) (base := base) T D_LWhole 
  have c_LPieces := ok_LPieces (P := P) (w := w) (base := base) T D_LPieces 
  have c_LNone := ok_LNone (P := P) (w := w) (base := base) T D_LNone 
  have c_ExactInit := ok_ExactInit (P := P) (w := w) (base := base) T D_ExactInit c_Common
  have c_IsFraction := ok_IsFraction (P := P) (w := w) (base := base) T D_IsFraction c_IsInteger c_Common
  have c_IsWareBelow := ok_IsWareBelow (P := P) (w := w) (base := base) T D_IsWareBelow c_IsInteger
  have c_TableIsWrong := ok_TableIsWrong (P := P) (w := w) (base := base) T D_TableIsWrong c_ExactSign
  have c_IsIndex := ok_IsIndex (P := P) (w := w) (base := base) T D_IsIndex c_IsInteger
  have c_LFrac := ok_LFrac (P := P) (w := w) (base := base) T D_LFrac c_LGcd
  have c_LShuffled := ok_LShuffled (P := P) (w := w) (base := base) T D_LShuffled c_LDraw
  have c_LSizes := ok_LSizes (P := P) (w := w) (base := base) T D_LSizes c_LDraw
  have c_LIsAmount := ok_LIsAmount (P := P) (w := w) (base := base) T D_LIsAmount c_LWhole c_LGcd
  have c_IsAmount := ok_IsAmount (P := P) (w := w) (base := base) T D_IsAmount c_IsFraction
  have c_IsSome := ok_IsSome (P := P) (w := w) (base := base) T D_IsSome c_IsFraction
  have c_CheckWare := ok_CheckWare (P := P) (w := w) (base := base) T D_CheckWare c_IsWareBelow
  have c_LPlus := ok_LPlus (P := P) (w := w) (base := base) T D_LPlus c_LFrac
  have c_LMinus := ok_LMinus (P := P) (w := w) (base := base) T D_LMinus c_LFrac
  have c_LTimes := ok_LTimes (P := P) (w := w) (base := base) T D_LTimes c_LFrac
  have c_LOver := ok_LOver (P := P) (w := w) (base := base) T D_LOver c_LFrac
  have c_LSome := ok_LSome (P := P) (w := w) (base := base) T D_LSome c_LDraw c_LFrac
  have c_ExactAdd := ok_ExactAdd (P := P) (w := w) (base := base) T D_ExactAdd c_ExactInit
  have c_ExactSub := ok_ExactSub (P := P) (w := w) (base := base) T D_ExactSub c_ExactInit
  have c_ExactMul := ok_ExactMul (P := P) (w := w) (base := base) T D_ExactMul c_ExactInit
  have c_ExactOver := ok_ExactOver (P := P) (w := w) (base := base) T D_ExactOver c_ExactInit
  have c_ExactSquare := ok_ExactSquare (P := P) (w := w) (base := base) T D_ExactSquare c_ExactInit
  have c_Exact := ok_Exact (P := P) (w := w) (base := base) T D_Exact c_ExactInit
  have c_IsAmounts := ok_IsAmounts (P := P) (w := w) (base := base) T D_IsAmounts c_IsAmount
  have c_Empty := ok_Empty (P := P) (w := w) (base := base) T D_Empty c_ExactInit
  have c_LStall := ok_LStall (P := P) (w := w) (base := base) T D_LStall c_LSome c_LOver c_LTimes
  have c_LTable := ok_LTable (P := P) (w := w) (base := base) T D_LTable c_LMinus c_LPlus
  have c_LStruck := ok_LStruck (P := P) (w := w) (base := base) T D_LStruck c_LOver c_LTimes c_LMinus c_LPlus
  have c_IsStall := ok_IsStall (P := P) (w := w) (base := base) T D_IsStall c_IsWareBelow c_IsSome c_Exact c_ExactMul c_ExactSquare c_ExactEq
  have c_CheckPurse := ok_CheckPurse (P := P) (w := w) (base := base) T D_CheckPurse c_IsAmounts c_Exact
  have c_HeldExact := ok_HeldExact (P := P) (w := w) (base := base) T D_HeldExact c_Empty c_Exact c_ExactAdd
  have c_RootsExact := ok_RootsExact (P := P) (w := w) (base := base) T D_RootsExact c_ExactInit c_Exact c_ExactAdd
  have c_HeldOf := ok_HeldOf (P := P) (w := w) (base := base) T D_HeldOf c_Exact
  have c_RootExact := ok_RootExact (P := P) (w := w) (base := base) T D_RootExact c_Exact
  have c_TableRaiseRoot := ok_TableRaiseRoot (P := P) (w := w) (base := base) T D_TableRaiseRoot c_ExactInit c_ExactAdd
  have c_LStalls := ok_LStalls (P := P) (w := w) (base := base) T D_LStalls c_LSome c_LDraw c_LOver c_LStall c_LShuffled
  have c_LBrim := ok_LBrim (P := P) (w := w) (base := base) T D_LBrim c_LNone c_LTable c_LStruck
  have c_WebInit := ok_WebInit (P := P) (w := w) (base := base) T D_WebInit c_IsInteger c_IsStall
  have c_PieceOf := ok_PieceOf (P := P) (w := w) (base := base) T D_PieceOf c_RootsExact
  have c_TableStrike := ok_TableStrike (P := P) (w := w) (base := base) T D_TableStrike c_ExactSquare c_ExactOver c_ExactSub c_TableRaiseRoot c_ExactMul
  have c_TableOf := ok_TableOf (P := P) (w := w) (base := base) T D_TableOf c_HeldExact c_ExactAdd c_ExactSub c_RootsExact c_TableInit
  have c_WithHeld := ok_WithHeld (P := P) (w := w) (base := base) T D_WithHeld c_RootExact c_ExactSquare c_ExactOver c_ExactPair
  have c_NextScale := ok_NextScale (P := P) (w := w) (base := base) T D_NextScale c_HeldOf c_ExactMul c_ExactOver c_RootExact
  have c_Pieces := ok_Pieces (P := P) (w := w) (base := base) T D_Pieces c_PieceOf
  have c_TableStrikeAll := ok_TableStrikeAll (P := P) (w := w) (base := base) T D_TableStrikeAll c_TableIsWrong c_TableStrike
  have c_UnevenStall := ok_UnevenStall (P := P) (w := w) (base := base) T D_UnevenStall c_NextScale c_ExactEq
  have c_WithStall := ok_WithStall (P := P) (w := w) (base := base) T D_WithStall c_WebInit
  have c_BrimOf := ok_BrimOf (P := P) (w := w) (base := base) T D_BrimOf c_Empty c_TableOf c_TableStrikeAll c_Others
  have c_ScalesAndWays := ok_ScalesAndWays (P := P) (w := w) (base := base) T D_ScalesAndWays c_Pieces c_ExactInit c_OtherWare c_NextScale
  have c_Led := ok_Led (P := P) (w := w) (base := base) T D_Led c_IsIndex c_IsSome c_Exact c_WithHeld c_WithStall
  have c_Brim := ok_Brim (P := P) (w := w) (base := base) T D_Brim c_CheckPurse c_CheckWare c_BrimOf c_ExactPair
  have c_FitExact := ok_FitExact (P := P) (w := w) (base := base) T D_FitExact c_ScalesAndWays c_UnevenStall
  have c_ForNothing := ok_ForNothing (P := P) (w := w) (base := base) T D_ForNothing c_CheckWare c_Empty c_BrimOf c_ExactPair
  have c_UnevenPieces := ok_UnevenPieces (P := P) (w := w) (base := base) T D_UnevenPieces c_ScalesAndWays c_Pieces c_NextScale c_ExactEq
  have c_Fit := ok_Fit (P := P) (w := w) (base := base) T D_Fit c_FitExact c_ExactPair
  have c_LIsRight := ok_LIsRight (P := P) (w := w) (base := base) T D_LIsRight c_LNone c_LBrim c_ForNothing c_LIsAmount c_Brim c_LPieces c_UnevenPieces c_Fit
  exact ok_Law T F c_LHand c_LDraw c_LSizes c_LStalls c_WebInit c_LIsRight c_UnevenPieces c_LShuffled c_LTimes c_Led c_LPieces
where V_ref {a b : Addr} (q : some (Value.ref a) = some (Value.ref b)) : a = b := Value.ref.inj (Option.some.inj q)
end
end Fair
open PySem PySem.W PySem.Calls PyProof.Rows
theorem PySem.Challenge.cw_rootstalls_k30_whole_for_nothing_by_own_holds : PySem.Challenge.rw_rootstalls_k30_whole_for_nothing_by_own.Holds := by
  w_on; o_law
  refine HandSHeadRun.head_any (r := OpenLaw.row PySem.Challenge.rw_rootstalls_k30_whole_for_nothing_by_own) (q := view (OpenLaw.row PySem.Challenge.rw_rootstalls_k30_whole_for_nothing_by_own).prog [78]) (H := Fair.hk) (ob := Fair.ob) (M := 8000) (loose := Fair.loose)
    (d := HandSHeadRun.topDef (OpenLaw.row PySem.Challenge.rw_rootstalls_k30_whole_for_nothing_by_own).prog 78) (kwd := []) Fair.ob_eq
    (by kernel_rfl) (fun s => by kernel_rfl) Fair.run (by kernel_rfl) (by kernel_rfl) (by kernel_rfl) (by rfl) (by first | assumption | decide +kernel) (by decide +kernel) ⟨rfl, rfl, rfl, rfl, rfl, by decide +kernel⟩ ?hw ?hc
  case hw => w_witness2
  case hc =>
    refine Fair.walkG (l := PySem.Challenge.rw_rootstalls_k30_whole_for_nothing_by_own) (n := 63) (k := 12) (x := "_law_script") rfl (by decide) (by kernel_rfl) ⟨rfl, by decide, by decide⟩ ?F
    intro w mg f h Y G hmg0
    obtain ⟨K, X, c, e⟩ := Y
    have hmg : mg ("law" : PySem.Str) = some (.ref f) := by
      have en : (HandSHeadRun.topDef (OpenLaw.row PySem.Challenge.rw_rootstalls_k30_whole_for_nothing_by_own).prog 78).name = ("law" : PySem.Str) := by kernel_rfl
      rw [← en]
      exact hmg0
    obtain ⟨fd, hb, hF⟩ := Fair.facts (P := (PySem.Challenge.rw_rootstalls_k30_whole_for_nothing_by_own).prog) (w := w) X G hmg c e
    exact ⟨K, fd, Fair.spLaw K, X, hb, fun H a ns hl _ hS => ⟨a, ns, rfl, hS, fun _ => rfl⟩, hF⟩

